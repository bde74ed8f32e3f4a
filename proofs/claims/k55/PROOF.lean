import PyProof.Rows.All
import Wide.All
import OpenK.AllK
import Wide.FinOn
import HandS.ForMost
import HandS.Exc
import HandS.ExcOwn
import HandS.Wide
import HandS.Deep
import HandS.Walk
import KE.GoesMore
import KE.GoesEnum
import KE.GoesZip
import HandS.Defaults
import HandS.SortInts
import HandS.ReplaceLit
import HandS.RaiseMore
import HandS.ExcInit
import HandS.ExcIs
import HandS.ExcField
import HandS.IsInst
import KE.KStateDown
import HandS.Ends
import HandS.Head0
import HandS.Head1
import HandS.Head2
import HandS.HeadEnd
import HandS.HeadHook1
import HandS.HeadHook2
import PySem.Challenge.RW_owedafresh_k55_bills_that_are_none
set_option Elab.async false
set_option linter.all false
set_option maxRecDepth 100000
set_option maxHeartbeats 0
/-! Ow: values as trees, slots, a small memory; combinators; what a heap must say of them. -/
namespace Ow
open PySem L2

/-! ### trees -/
inductive D where
  | non | bl (b : Bool) | int (i : Int) | str (s : Str)
  | lst (xs : List D) | tup (xs : List D) | dic (ks vs : List D) | ins (c : Nat) (xs : List D)
  | ref (n : Nat) | scr (ns : List Int)
  /-- a caught exception: where it stands, its class's number, its dict, its value -/
  | exc (a : Addr) (c : Nat) (dd : Addr) (d : D)
  deriving Inhabited

/-- a slot: nothing; a value that stays; a list (dict, instance) that this slot alone owns -/
inductive Sl where
  | un | val (d : D) | own (d : D)
  deriving Inhabited

/-- a thing of the small memory -/
inductive MO where
  | lst (xs : List D) | ins (c : Nat) (xs : List D)

abbrev En := List Sl
abbrev Mem := List MO

/-- what an expression gives: a value; what a slot holds; a new list; a new tuple whose j-th place is a new list -/
inductive W where
  | v (d : D) | s (i : Nat) | o (d : D) | t (j : Nat) (xs : List D)

inductive Res (α : Type) where
  | ok (a : α) (e : En) (m : Mem) | exc (c : Nat) (d : D) (e : En) (m : Mem) | no

def Res.bind {α β : Type} (r : Res α) (k : α → En → Mem → Res β) : Res β := match r with
  | .ok a e m => k a e m
  | .exc c d e m => .exc c d e m
  | .no => .no
@[simp] theorem Res.bind_ok {α β : Type} (a : α) (e : En) (m : Mem) (k : α → En → Mem → Res β) : (Res.ok a e m).bind k = k a e m := rfl
@[simp] theorem Res.bind_exc {α β : Type} (c : Nat) (d : D) (e : En) (m : Mem) (k : α → En → Mem → Res β) : (Res.exc c d e m : Res α).bind k = .exc c d e m := rfl
@[simp] theorem Res.bind_no {α β : Type} (k : α → En → Mem → Res β) : (Res.no : Res α).bind k = .no := rfl

/-- the value stays, or nothing is told -/
def W.st : W → W
  | .v d => .v d
  | .s i => .s i
  | .o d => .v d
  | .t _ xs => .v (.tup xs)
/-- the tree behind -/
def W.get (e : En) : W → Option D
  | .v d => some d
  | .s i => (match e[i]? with
    | some (.val d) => some d
    | some (.own d) => some d
    | _ => none)
  | .o d => some d
  | .t _ xs => some (.tup xs)
/-- a list of the small memory read -/
def deref (m : Mem) : D → D
  | .ref n => (match m[n]? with
    | some (.lst xs) => .lst xs
    | _ => .ref n)
  | d => d

/-! ### the static things: the written part, where the classes stand, their fields -/
structure Sg where
  P : Program
  w : World
  K : PySem.W.Frag
  mg : Str → Option Value
  base : Heap
  /-- the program's classes by number: their addresses, their fields in order -/
  cl : Nat → Addr
  fl : Nat → List Str

section
variable (S : Sg)
mutual
/-- v stands for the tree d by the objects of G, which stay -/
inductive Rep (rho : List Addr) (G : Hp) : D → V → Prop
  | non : Rep rho G .non .non
  | bl (b : Bool) : Rep rho G (.bl b) (.bl b)
  | int (i : Int) : Rep rho G (.int i) (.int i)
  | str (s : Str) : Rep rho G (.str s) (.str s)
  | lst {a : Addr} {xs : List D} {vs : List V} : G a = some (.lst vs) → xs.length ≤ sizeLine → Reps rho G xs vs → Rep rho G (.lst xs) (.ref a)
  | tup {a : Addr} {xs : List D} {vs : List V} : G a = some (.tup vs) → xs.length ≤ sizeLine → Reps rho G xs vs → Rep rho G (.tup xs) (.ref a)
  | ins {a dx : Addr} {c : Nat} {xs : List D} {vs : List V} : G a = some (.ins (S.cl c) dx ((S.fl c).zip vs)) → xs.length = (S.fl c).length → Reps rho G xs vs → Rep rho G (.ins c xs) (.ref a)
  | ref {n : Nat} {a : Addr} : rho[n]? = some a → Rep rho G (.ref n) (.ref a)
  | scr {a : Addr} {ns : List Int} : SqL S.K G a (ns.map V.int) → ns.length ≤ 63 → Rep rho G (.scr ns) (.ref a)
  | exc {a dd : Addr} {c : Nat} {d : D} {v : V} : G dd = some (.xd [("value", v)]) → Rep rho G d v → Rep rho G (.exc a c dd d) (.ref a)
inductive Reps (rho : List Addr) (G : Hp) : List D → List V → Prop
  | nil : Reps rho G [] []
  | cons {x : D} {xs : List D} {v : V} {vs : List V} : Rep rho G x v → Reps rho G xs vs → Reps rho G (x :: xs) (v :: vs)
end
end

section
variable {S : Sg} {rho rho' : List Addr} {G G' H H' : Hp}
mutual
theorem Rep.mono (g : Same G G') (r : rho <+: rho') : ∀ {d : D} {v : V}, Rep S rho G d v → Rep S rho' G' d v
  | _, _, .non => .non
  | _, _, .bl b => .bl b
  | _, _, .int i => .int i
  | _, _, .str s => .str s
  | _, _, .lst h z t => .lst (g _ _ h) z (Reps.mono g r t)
  | _, _, .tup h z t => .tup (g _ _ h) z (Reps.mono g r t)
  | _, _, .ins h z t => .ins (g _ _ h) z (Reps.mono g r t)
  | _, _, .ref h => .ref (by
      obtain ⟨u, rfl⟩ := r
      rw [List.getElem?_append_left (List.getElem?_eq_some_iff.mp h).1]
      exact h)
  | _, _, .scr h z => .scr (Same.seq g h) z
  | _, _, .exc h t => .exc (g _ _ h) (Rep.mono g r t)
theorem Reps.mono (g : Same G G') (r : rho <+: rho') : ∀ {d : List D} {v : List V}, Reps S rho G d v → Reps S rho' G' d v
  | _, _, .nil => .nil
  | _, _, .cons h t => .cons (Rep.mono g r h) (Reps.mono g r t)
end
theorem Reps.length : ∀ {xs : List D} {vs : List V}, Reps S rho G xs vs → xs.length = vs.length
  | _, _, .nil => rfl
  | _, _, .cons _ t => congrArg (· + 1) t.length
theorem Reps.get : ∀ {xs : List D} {vs : List V} {i : Nat} {x : D}, Reps S rho G xs vs → xs[i]? = some x → ∃ v, vs[i]? = some v ∧ Rep S rho G x v
  | _, _, _, _, .nil, e => by simp at e
  | _, _, 0, _, .cons h _, e => by simp at e; subst e; exact ⟨_, rfl, h⟩
  | _, _, i + 1, x, .cons _ t, e => by
    obtain ⟨v, h1, h2⟩ := Reps.get (i := i) (x := x) t (by simpa using e)
    exact ⟨v, by simpa using h1, h2⟩
theorem Reps.getV : ∀ {xs : List D} {vs : List V} {i : Nat} {v : V}, Reps S rho G xs vs → vs[i]? = some v → ∃ x, xs[i]? = some x ∧ Rep S rho G x v
  | _, _, _, _, .nil, e => by simp at e
  | _, _, 0, _, .cons h _, e => by simp at e; subst e; exact ⟨_, rfl, h⟩
  | _, _, i + 1, v, .cons _ t, e => by
    obtain ⟨x, h1, h2⟩ := Reps.getV (i := i) (v := v) t (by simpa using e)
    exact ⟨x, by simpa using h1, h2⟩
theorem Reps.append : ∀ {xs ys : List D} {vs us : List V}, Reps S rho G xs vs → Reps S rho G ys us → Reps S rho G (xs ++ ys) (vs ++ us)
  | _, _, _, _, .nil, s => s
  | _, _, _, _, .cons h t, s => .cons h (t.append s)
theorem Reps.set {x : D} {v : V} (h : Rep S rho G x v) : ∀ {xs : List D} {vs : List V} (i : Nat), Reps S rho G xs vs → Reps S rho G (xs.set i x) (vs.set i v)
  | _, _, _, .nil => .nil
  | _, _, 0, .cons _ t => .cons h t
  | _, _, i + 1, .cons q t => .cons q (t.set h i)
theorem Reps.take : ∀ {xs : List D} {vs : List V} (n : Nat), Reps S rho G xs vs → Reps S rho G (xs.take n) (vs.take n)
  | _, _, 0, _ => .nil
  | _, _, _ + 1, .nil => .nil
  | _, _, n + 1, .cons r t => .cons r (t.take n)
theorem Reps.drop : ∀ {xs : List D} {vs : List V} (n : Nat), Reps S rho G xs vs → Reps S rho G (xs.drop n) (vs.drop n)
  | _, _, 0, r => r
  | _, _, _ + 1, .nil => .nil
  | _, _, n + 1, .cons _ t => t.drop n
theorem Reps.reverse : ∀ {xs : List D} {vs : List V}, Reps S rho G xs vs → Reps S rho G xs.reverse vs.reverse
  | _, _, .nil => .nil
  | _, _, .cons r t => by rw [List.reverse_cons, List.reverse_cons]; exact t.reverse.append (.cons r .nil)
theorem Reps.ints : ∀ (ns : List Int), Reps S rho G (ns.map D.int) (ns.map V.int)
  | [] => .nil
  | n :: r => .cons (.int n) (Reps.ints r)

/-- what a thing of the memory is on the heap -/
def MOk (S : Sg) (rho : List Addr) (G H : Hp) (a : Addr) : MO → Prop
  | .lst xs => xs.length ≤ sizeLine ∧ ∃ vs, H a = some (.lst vs) ∧ Reps S rho G xs vs
  | .ins c xs => ∃ dx vs, H a = some (.ins (S.cl c) dx ((S.fl c).zip vs)) ∧ xs.length = (S.fl c).length ∧ Reps S rho G xs vs
/-- what an owned list is on the heap -/
def OOk (S : Sg) (rho : List Addr) (G H : Hp) (a : Addr) : D → Prop
  | .lst xs => xs.length ≤ sizeLine ∧ ∃ vs, H a = some (.lst vs) ∧ Reps S rho G xs vs
  | .ins c xs => xs.length ≤ (S.fl c).length ∧ ∃ dx vs, H a = some (.ins (S.cl c) dx (((S.fl c).take xs.length).zip vs)) ∧ Reps S rho G xs vs
  | _ => False

/-- the memory and the heap: G stays, Fr is others' -/
structure MR (S : Sg) (G Fr : Hp) (M : Mem) (rho : List Addr) (H : Hp) : Prop where
  gs : Same G H
  fs : Same Fr H
  gf : ∀ a o, Fr a = some o → G a = none
  ml : M.length = rho.length
  nd : rho.Nodup
  out : ∀ a ∈ rho, G a = none ∧ Fr a = none
  mem : ∀ (n : Nat) (a : Addr) (mo : MO), rho[n]? = some a → M[n]? = some mo → MOk S rho G H a mo

/-- .. and the slots -/
structure R (S : Sg) (G Fr : Hp) (env : En) (M : Mem) (rho : List Addr) (σ : St) (H : Hp) : Prop extends MR S G Fr M rho H where
  len : env.length = σ.length
  vals : ∀ (i : Nat) (d : D), env[i]? = some (.val d) → ∃ v, σ[i]? = some (some v) ∧ Rep S rho G d v
  owns : ∀ (i : Nat) (d : D), env[i]? = some (.own d) → ∃ a, σ[i]? = some (some (.ref a)) ∧ OOk S rho G H a d ∧ G a = none ∧ Fr a = none ∧ a ∉ rho
  dist : ∀ (i j : Nat) (d e : D) (a : Addr), env[i]? = some (.own d) → env[j]? = some (.own e) → σ[i]? = some (some (.ref a)) → σ[j]? = some (some (.ref a)) → i = j

/-- a is free of all that is known -/
structure Free (G Fr : Hp) (env : En) (rho : List Addr) (σ : St) (a : Addr) : Prop where
  g : G a = none
  f : Fr a = none
  r : a ∉ rho
  s : ∀ (i : Nat) (d : D), env[i]? = some (.own d) → σ[i]? ≠ some (some (.ref a))

theorem OOk.there {a : Addr} {d : D} (h : OOk S rho G H a d) : ∃ o, H a = some o := by
  cases d <;> first | exact h.elim | (obtain ⟨_, _, e, _⟩ := h; exact ⟨_, e⟩) | (obtain ⟨_, _, _, e, _⟩ := h; exact ⟨_, e⟩)
theorem MOk.there {a : Addr} {d : MO} (h : MOk S rho G H a d) : ∃ o, H a = some o := by
  cases d with
  | lst xs => obtain ⟨_, _, e, _⟩ := h; exact ⟨_, e⟩
  | ins c xs => obtain ⟨_, _, e, _⟩ := h; exact ⟨_, e⟩
theorem OOk.mono {a : Addr} {d : D} (h : OOk S rho G H a d) (g : Same G G') (r : rho <+: rho') (e : H' a = H a) : OOk S rho' G' H' a d := by
  cases d with
  | lst xs => obtain ⟨z, vs, q, t⟩ := h; exact ⟨z, vs, e.trans q, t.mono g r⟩
  | ins c xs => obtain ⟨z, dx, vs, q, t⟩ := h; exact ⟨z, dx, vs, e.trans q, t.mono g r⟩
  | _ => exact h.elim
theorem MOk.mono {a : Addr} {d : MO} (h : MOk S rho G H a d) (g : Same G G') (r : rho <+: rho') (e : H' a = H a) : MOk S rho' G' H' a d := by
  cases d with
  | lst xs => obtain ⟨z, vs, q, t⟩ := h; exact ⟨z, vs, e.trans q, t.mono g r⟩
  | ins c xs => obtain ⟨dx, vs, q, z, t⟩ := h; exact ⟨dx, vs, e.trans q, z, t.mono g r⟩

variable {Fr : Hp} {env : En} {M : Mem} {σ : St}
theorem MR.addr (I : MR S G Fr M rho H) {n : Nat} {mo : MO} (h : M[n]? = some mo) : ∃ a, rho[n]? = some a ∧ a ∈ rho ∧ MOk S rho G H a mo := by
  have hn : n < rho.length := by rw [← I.ml]; exact (List.getElem?_eq_some_iff.mp h).1
  exact ⟨rho[n], List.getElem?_eq_getElem hn, List.getElem_mem hn, I.mem n _ mo (List.getElem?_eq_getElem hn) h⟩
theorem MR.mo (I : MR S G Fr M rho H) {n : Nat} {a : Addr} (h : rho[n]? = some a) : ∃ mo, M[n]? = some mo := by
  have hn : n < M.length := by rw [I.ml]; exact (List.getElem?_eq_some_iff.mp h).1
  exact ⟨M[n], List.getElem?_eq_getElem hn⟩
theorem MR.thereR (I : MR S G Fr M rho H) {a : Addr} (h : a ∈ rho) : ∃ o, H a = some o := by
  obtain ⟨n, hn, e⟩ := List.mem_iff_getElem.mp h
  have e' : rho[n]? = some a := by rw [← e]; exact List.getElem?_eq_getElem hn
  obtain ⟨mo, hm⟩ := I.mo e'
  exact (I.mem n a mo e' hm).there

theorem free_new (I : R S G Fr env M rho σ H) {p : Addr} (hp : H p = none) : Free G Fr env rho σ p where
  g := by
    cases e : G p with
    | none => rfl
    | some o => rw [I.gs _ _ e] at hp; cases hp
  f := by
    cases e : Fr p with
    | none => rfl
    | some o => rw [I.fs _ _ e] at hp; cases hp
  r := fun hm => by
    obtain ⟨o, e⟩ := I.thereR hm
    rw [e] at hp; cases hp
  s := fun i d he hs => by
    obtain ⟨a, h1, h2, _⟩ := I.owns i d he
    rw [h1] at hs
    cases hs
    obtain ⟨o, e⟩ := h2.there
    rw [e] at hp; cases hp

/-- the heap is changed at a free place -/
theorem MR.put (I : MR S G Fr M rho H) {p : Addr} {o : HO} (hg : G p = none) (hf : Fr p = none) (hr : p ∉ rho) : MR S G Fr M rho (upd H p o) where
  gs := fun b u e => by rw [upd_ne (ne_of_none e hg)]; exact I.gs b u e
  fs := fun b u e => by rw [upd_ne (ne_of_none e hf)]; exact I.fs b u e
  gf := I.gf
  ml := I.ml
  nd := I.nd
  out := I.out
  mem := fun n a mo h1 h2 => by
    have hm : a ∈ rho := List.mem_of_getElem? h1
    exact (I.mem n a mo h1 h2).mono (Same.refl _) (List.prefix_refl _) (upd_ne fun z => hr (by rw [← z]; exact hm))
theorem R.put (I : R S G Fr env M rho σ H) {p : Addr} {o : HO} (f : Free G Fr env rho σ p) : R S G Fr env M rho σ (upd H p o) where
  toMR := I.toMR.put f.g f.f f.r
  len := I.len
  vals := I.vals
  owns := fun i d e => by
    obtain ⟨a, h1, h2, h3⟩ := I.owns i d e
    exact ⟨a, h1, h2.mono (Same.refl _) (List.prefix_refl _) (upd_ne fun z => f.s i d e (by rw [← z]; exact h1)), h3⟩
  dist := I.dist
theorem R.alloc (I : R S G Fr env M rho σ H) {p : Addr} {o : HO} (hp : H p = none) : R S G Fr env M rho σ (upd H p o) := I.put (free_new I hp)

/-- what stands at a free place stays from now on -/
theorem MR.keep (I : MR S G Fr M rho H) {p : Addr} {o : HO} (hg : G p = none) (hf : Fr p = none) (hr : p ∉ rho) (h : H p = some o) : MR S (upd G p o) Fr M rho H := by
  have hsub : Same G (upd G p o) := fun b u e => by rw [upd_ne (ne_of_none e hg)]; exact e
  refine ⟨fun b u e => ?_, I.fs, fun b u e => ?_, I.ml, I.nd, fun a ha => ⟨?_, (I.out a ha).2⟩, fun n a mo h1 h2 => (I.mem n a mo h1 h2).mono hsub (List.prefix_refl _) rfl⟩
  · by_cases hb : b = p
    · subst hb; rw [upd_same] at e; cases e; exact h
    · rw [upd_ne hb] at e; exact I.gs b u e
  · rw [upd_ne (ne_of_none e hf)]; exact I.gf b u e
  · rw [upd_ne fun z => hr (by rw [← z]; exact ha)]; exact (I.out a ha).1
theorem same_upd {p : Addr} {o : HO} (hg : G p = none) : Same G (upd G p o) := fun b u e => by rw [upd_ne (ne_of_none e hg)]; exact e
theorem R.keep (I : R S G Fr env M rho σ H) {p : Addr} {o : HO} (f : Free G Fr env rho σ p) (h : H p = some o) : R S (upd G p o) Fr env M rho σ H where
  toMR := I.toMR.keep f.g f.f f.r h
  len := I.len
  vals := fun i d e => by
    obtain ⟨v, h1, h2⟩ := I.vals i d e
    exact ⟨v, h1, h2.mono (same_upd f.g) (List.prefix_refl _)⟩
  owns := fun i d e => by
    obtain ⟨a, h1, h2, h3, h4⟩ := I.owns i d e
    exact ⟨a, h1, h2.mono (same_upd f.g) (List.prefix_refl _) rfl, by rw [upd_ne fun z => f.s i d e (by rw [← z]; exact h1)]; exact h3, h4⟩
  dist := I.dist

/-- a slot's own list becomes a value -/
def ripe : D → Bool
  | .lst _ => true
  | _ => false
theorem R.freeze (I : R S G Fr env M rho σ H) {i : Nat} {xs : List D} (e : env[i]? = some (.own (.lst xs))) :
    ∃ G' a, σ[i]? = some (some (.ref a)) ∧ Same G G' ∧ Rep S rho G' (.lst xs) (.ref a) ∧ R S G' Fr (env.set i (.val (.lst xs))) M rho σ H := by
  obtain ⟨a, h1, ⟨z, vs, q, t⟩, hg, hf, hr⟩ := I.owns i _ e
  have hs : Same G (upd G a (.lst vs)) := same_upd hg
  have hrep : Rep S rho (upd G a (.lst vs)) (.lst xs) (.ref a) := .lst upd_same z (t.mono hs (List.prefix_refl _))
  refine ⟨upd G a (.lst vs), a, h1, hs, hrep, ?_⟩
  have hm := I.toMR.keep hg hf hr q
  have hi : i < env.length := (List.getElem?_eq_some_iff.mp e).1
  refine ⟨hm, by rw [List.length_set]; exact I.len, fun j d hj => ?_, fun j d hj => ?_, fun j k d f b hj hk => ?_⟩
  · by_cases hij : i = j
    · subst hij
      rw [List.getElem?_set_self hi] at hj
      cases hj
      exact ⟨_, h1, hrep⟩
    · rw [List.getElem?_set_ne hij] at hj
      obtain ⟨v, w1, w2⟩ := I.vals j d hj
      exact ⟨v, w1, w2.mono hs (List.prefix_refl _)⟩
  · by_cases hij : i = j
    · subst hij
      rw [List.getElem?_set_self hi] at hj
      cases hj
    · rw [List.getElem?_set_ne hij] at hj
      obtain ⟨b, w1, w2, w3, w4⟩ := I.owns j d hj
      refine ⟨b, w1, w2.mono hs (List.prefix_refl _) rfl, ?_, w4⟩
      rw [upd_ne]
      · exact w3
      · rintro rfl
        exact hij (I.dist i j _ _ b e hj h1 w1)
  · have nj : j ≠ i := fun z => by
      subst z
      rw [List.getElem?_set_self hi] at hj
      cases hj
    have nk : k ≠ i := fun z => by
      subst z
      rw [List.getElem?_set_self hi] at hk
      cases hk
    rw [List.getElem?_set_ne nj.symm] at hj
    rw [List.getElem?_set_ne nk.symm] at hk
    exact I.dist j k d f b hj hk
end
end Ow
namespace Ow
open PySem L2

/-- a value that does not move any more -/
inductive U where
  | v (d : D) | s (i : Nat)
def W.use : W → U
  | .v d => .v d
  | .s i => .s i
  | .o d => .v d
  | .t _ xs => .v (.tup xs)
def U.get (e : En) : U → Option D
  | .v d => some d
  | .s i => (match e[i]? with
    | some (.val d) => some d
    | some (.own d) => some d
    | _ => none)

/-! ### what a result says of a value -/
section
variable (S : Sg)
/-- by the value, on the heap as it stands now -/
def Cur (rho : List Addr) (G H : Hp) : D → V → Prop
  | .non, v => v = .non
  | .bl b, v => v = .bl b
  | .int i, v => v = .int i
  | .str s, v => v = .str s
  | .lst xs, v => ∃ a vs, v = .ref a ∧ H a = some (.lst vs) ∧ xs.length ≤ sizeLine ∧ Reps S rho G xs vs
  | .tup xs, v => ∃ a vs, v = .ref a ∧ H a = some (.tup vs) ∧ xs.length ≤ sizeLine ∧ Reps S rho G xs vs
  | .ins c xs, v => ∃ a dx vs, v = .ref a ∧ H a = some (.ins (S.cl c) dx (((S.fl c).take xs.length).zip vs)) ∧ xs.length ≤ (S.fl c).length ∧ Reps S rho G xs vs
  | .ref n, v => ∃ a, v = .ref a ∧ rho[n]? = some a
  | .scr ns, v => ∃ a, v = .ref a ∧ SqL S.K H a (ns.map V.int) ∧ ns.length ≤ 63
  | .dic _ _, _ => False
  | .exc a c dd d, v => v = .ref a ∧ ∃ u, H dd = some (.xd [("value", u)]) ∧ Rep S rho G d u

def WR (Fr : Hp) (σ : St) (G : Hp) (e : En) (rho : List Addr) (H : Hp) : W → V → Prop
  | .v d, b => Rep S rho G d b
  | .s i, b => σ[i]? = some (some b)
  | .o d, b => ∃ a xs, d = .lst xs ∧ b = .ref a ∧ OOk S rho G H a d ∧ Free G Fr e rho σ a
  | .t j xs, b => ∃ a vs c ys, b = .ref a ∧ H a = some (.tup vs) ∧ xs.length ≤ sizeLine ∧ xs.length = vs.length ∧ xs[j]? = some (.lst ys) ∧ vs[j]? = some (.ref c) ∧
      (∀ (i : Nat) (x : D), i ≠ j → xs[i]? = some x → ∃ v, vs[i]? = some v ∧ Rep S rho G x v) ∧ OOk S rho G H c (.lst ys) ∧ Free G Fr e rho σ a ∧ Free G Fr e rho σ c ∧ a ≠ c
def UR (Fr : Hp) (σ : St) (G : Hp) (e : En) (rho : List Addr) (H : Hp) : U → V → Prop
  | .v d, b => Rep S rho G d b
  | .s i, b => σ[i]? = some (some b)
def DR (Fr : Hp) (σ : St) (G : Hp) (e : En) (rho : List Addr) (H : Hp) (d : D) (b : V) : Prop := Rep S rho G d b
def BR (Fr : Hp) (σ : St) (G : Hp) (e : En) (rho : List Addr) (H : Hp) (d : Bool) (b : Bool) : Prop := d = b
inductive URs (Fr : Hp) (σ : St) (G : Hp) (e : En) (rho : List Addr) (H : Hp) : List U → List V → Prop
  | nil : URs Fr σ G e rho H [] []
  | cons {u : U} {us : List U} {v : V} {vs : List V} : UR S Fr σ G e rho H u v → URs Fr σ G e rho H us vs → URs Fr σ G e rho H (u :: us) (v :: vs)
def DRs (Fr : Hp) (σ : St) (G : Hp) (e : En) (rho : List Addr) (H : Hp) (d : List D) (b : List V) : Prop := Reps S rho G d b

/-- an exception's own dict holds d -/
def Thrown (rho : List Addr) (G H : Hp) (dd : Addr) (d : D) : Prop := ∃ v, G dd = some (.xd [("value", v)]) ∧ Rep S rho G d v
def PostX (Wx : WX) (Fr : Hp) (σ : St) (G : Hp) (rho : List Addr) (c : Nat) (d : D) (e : En) (m : Mem) : Prop :=
  ∀ (dd : Addr) (G' : Hp) (rho' : List Addr) (H' : Hp), Same G G' → rho <+: rho' → R S G' Fr e m rho' σ H' → Thrown S rho' G' H' dd d → Wx (.ref (S.cl c)) (some dd) σ H'
abbrev VRel (α β : Type) := Hp → St → Hp → En → List Addr → Hp → α → β → Prop
def Post {α β : Type} (Wx : WX) (Fr : Hp) (σ : St) (G : Hp) (rho : List Addr) (r : Res α) (VR : VRel α β) (Q : β → Hp → Prop) : Prop := match r with
  | .ok a e m => ∀ (G' : Hp) (rho' : List Addr) (H' : Hp) (b : β), Same G G' → rho <+: rho' → R S G' Fr e m rho' σ H' → VR Fr σ G' e rho' H' a b → Q b H'
  | .exc c d e m => PostX S Wx Fr σ G rho c d e m
  | .no => False
abbrev Rd' (β : Type) := St → Hp → (β → Hp → Prop) → Prop
def Sem {α β : Type} (f : En → Mem → Res α) (VR : VRel α β) (t : WX → Rd' β) : Prop :=
  ∀ (Wx : WX) (Fr G : Hp) (rho : List Addr) (env : En) (M : Mem) (σ : St) (H : Hp) (Q : β → Hp → Prop), R S G Fr env M rho σ H → Post S Wx Fr σ G rho (f env M) VR Q → t Wx σ H Q
end

section
variable {S : Sg} {Wx : WX} {Fr : Hp} {σ : St} {G G1 : Hp} {rho rho1 : List Addr}
theorem PostX.later {c : Nat} {d : D} {e : En} {m : Mem} (h : PostX S Wx Fr σ G rho c d e m) (g : Same G G1) (r : rho <+: rho1) : PostX S Wx Fr σ G1 rho1 c d e m :=
  fun dd G' rho' H' g' r' I t => h dd G' rho' H' (g.trans g') (r.trans r') I t
theorem Post.later {α β : Type} {r : Res α} {VR : VRel α β} {Q : β → Hp → Prop} (h : Post S Wx Fr σ G rho r VR Q) (g : Same G G1) (p : rho <+: rho1) : Post S Wx Fr σ G1 rho1 r VR Q := by
  cases r with
  | ok a e m => exact fun G' rho' H' b g' r' I v => h G' rho' H' b (g.trans g') (p.trans r') I v
  | exc c d e m => exact PostX.later h g p
  | no => exact h
theorem Post.step {α β γ δ : Type} {r : Res α} {k : α → En → Mem → Res γ} {VR : VRel α β} {VR' : VRel γ δ} {Q : δ → Hp → Prop} {P : β → Hp → Prop} (h : Post S Wx Fr σ G rho (r.bind k) VR' Q)
    (st : ∀ a e m G' rho' H' b, r = .ok a e m → Same G G' → rho <+: rho' → R S G' Fr e m rho' σ H' → VR Fr σ G' e rho' H' a b → Post S Wx Fr σ G' rho' (k a e m) VR' Q → P b H') : Post S Wx Fr σ G rho r VR P := by
  cases r with
  | ok a e m => exact fun G' rho' H' b g' r' I v => st a e m G' rho' H' b rfl g' r' I v (Post.later h g' r')
  | exc c d e m => exact h
  | no => exact h
theorem UR.later {G' G2 : Hp} {e e' : En} {H H' : Hp} {u : U} {b : V} (h : UR S Fr σ G e rho H u b) (g : Same G G1) (p : rho <+: rho1) : UR S Fr σ G1 e' rho1 H' u b := by
  cases u with
  | v d => exact Rep.mono g p h
  | s i => exact h
theorem URs.later {e e' : En} {H H' : Hp} : ∀ {us : List U} {vs : List V}, URs S Fr σ G e rho H us vs → Same G G1 → rho <+: rho1 → URs S Fr σ G1 e' rho1 H' us vs
  | _, _, .nil, _, _ => .nil
  | _, _, .cons h t, g, p => .cons (UR.later (G' := G) (G2 := G) h g p) (t.later g p)
end

section
variable {S : Sg} {Fr : Hp} {σ : St} {G : Hp} {rho : List Addr} {env : En} {M : Mem} {H : Hp}
theorem Rep.cur {d : D} {v : V} (h : Rep S rho G d v) (g : Same G H) : Cur S rho G H d v := by
  cases h with
  | non => rfl
  | bl b => rfl
  | int i => rfl
  | str s => rfl
  | lst e z t => exact ⟨_, _, rfl, g _ _ e, z, t⟩
  | tup e z t => exact ⟨_, _, rfl, g _ _ e, z, t⟩
  | @ins a dx c xs vs e z t => exact ⟨_, dx, vs, rfl, by rw [z, List.take_length]; exact g _ _ e, Nat.le_of_eq z, t⟩
  | ref e => exact ⟨_, rfl, e⟩
  | scr e z => exact ⟨_, rfl, Same.seq g e, z⟩
  | exc e t => exact ⟨rfl, _, g _ _ e, t⟩
theorem OOk.cur {a : Addr} {d : D} (h : OOk S rho G H a d) : Cur S rho G H d (.ref a) := by
  cases d with
  | lst xs => obtain ⟨z, vs, e, t⟩ := h; exact ⟨a, vs, rfl, e, z, t⟩
  | ins c xs => obtain ⟨z, dx, vs, e, t⟩ := h; exact ⟨a, dx, vs, rfl, e, z, t⟩
  | _ => exact h.elim
theorem UR.cur (I : R S G Fr env M rho σ H) {u : U} {v : V} {d : D} (h : UR S Fr σ G env rho H u v) (e : u.get env = some d) : Cur S rho G H d v := by
  cases u with
  | v d' =>
    have : d' = d := Option.some.inj e
    subst this
    exact Rep.cur h I.gs
  | s i =>
    have h : σ[i]? = some (some v) := h
    have e : (match env[i]? with
      | some (.val d) => some d
      | some (.own d) => some d
      | _ => none) = some d := e
    cases q : env[i]? with
    | none => rw [q] at e; cases e
    | some sl =>
      rw [q] at e
      cases sl with
      | un => cases e
      | val d' =>
        cases e
        obtain ⟨v', h1, h2⟩ := I.vals i d q
        rw [h] at h1; cases h1
        exact h2.cur I.gs
      | own d' =>
        cases e
        obtain ⟨a, h1, h2, _⟩ := I.owns i d q
        rw [h] at h1; cases h1
        exact h2.cur
/-- .. a list of the memory is its list -/
theorem Cur.deref (I : MR S G Fr M rho H) {v : V} {d : D} (h : Cur S rho G H d v) : Cur S rho G H (deref M d) v := by
  cases d with
  | ref n =>
    obtain ⟨a, rfl, e⟩ := h
    show Cur S rho G H (match M[n]? with
      | some (.lst xs) => .lst xs
      | _ => .ref n) (.ref a)
    cases q : M[n]? with
    | none => exact ⟨a, rfl, e⟩
    | some mo =>
      cases mo with
      | lst xs =>
        obtain ⟨z, vs, e1, t⟩ := I.mem n a _ e q
        exact ⟨a, vs, rfl, e1, z, t⟩
      | ins c xs => exact ⟨a, rfl, e⟩
  | _ => exact h

/-- a new list is laid by: it stays from now on -/
theorem WR.use (I : R S G Fr env M rho σ H) {w : W} {v : V} (h : WR S Fr σ G env rho H w v) : ∃ G', Same G G' ∧ R S G' Fr env M rho σ H ∧ UR S Fr σ G' env rho H w.use v := by
  cases w with
  | v d => exact ⟨G, Same.refl _, I, h⟩
  | s i => exact ⟨G, Same.refl _, I, h⟩
  | o d =>
    obtain ⟨a, xs, rfl, rfl, ⟨z, vs, e, t⟩, f⟩ := h
    exact ⟨_, same_upd f.g, I.keep f e, .lst upd_same z (t.mono (same_upd f.g) (List.prefix_refl _))⟩
  | t j xs =>
    obtain ⟨a, vs, c, ys, rfl, e, z, hl, hx, hv, rest, ⟨z2, us, e2, t2⟩, fa, fc, ac⟩ := h
    have s1 : Same G (upd G c (.lst us)) := same_upd fc.g
    have I1 := I.keep fc e2
    have fa1 : Free (upd G c (.lst us)) Fr env rho σ a := ⟨by rw [upd_ne ac]; exact fa.g, fa.f, fa.r, fa.s⟩
    have s2 : Same (upd G c (.lst us)) (upd (upd G c (.lst us)) a (.tup vs)) := same_upd fa1.g
    refine ⟨_, s1.trans s2, I1.keep fa1 e, ?_⟩
    have hc : Rep S rho (upd (upd G c (.lst us)) a (.tup vs)) (.lst ys) (.ref c) := .lst (s2 _ _ upd_same) z2 (t2.mono (s1.trans s2) (List.prefix_refl _))
    have all : ∀ (i : Nat) (x : D), xs[i]? = some x → ∃ v, vs[i]? = some v ∧ Rep S rho (upd (upd G c (.lst us)) a (.tup vs)) x v := fun i x hi => by
      by_cases hij : i = j
      · subst hij
        rw [hx] at hi; cases hi
        exact ⟨_, hv, hc⟩
      · obtain ⟨v, h1, h2⟩ := rest i x hij hi
        exact ⟨v, h1, h2.mono (s1.trans s2) (List.prefix_refl _)⟩
    refine .tup upd_same z ?_
    have build : ∀ (xs : List D) (vs : List V), xs.length = vs.length → (∀ (i : Nat) (x : D), xs[i]? = some x → ∃ v, vs[i]? = some v ∧ Rep S rho (upd (upd G c (.lst us)) a (.tup vs)) x v) → True := fun _ _ _ _ => trivial
    clear build
    generalize upd (upd G c (.lst us)) a (.tup vs) = GG at all ⊢
    clear hc rest s2 hx hv z e fa1 fa I1
    have gen : ∀ (xs : List D) (vs : List V), (∀ (i : Nat) (x : D), xs[i]? = some x → ∃ v, vs[i]? = some v ∧ Rep S rho GG x v) → xs.length = vs.length → Reps S rho GG xs vs := by
      intro xs
      induction xs with
      | nil => intro vs _ hl; cases vs with
        | nil => exact .nil
        | cons _ _ => cases hl
      | cons x xs ih =>
        intro vs ha hl
        cases vs with
        | nil => cases hl
        | cons v vs =>
          obtain ⟨v', h1, h2⟩ := ha 0 x rfl
          cases h1
          exact .cons h2 (ih vs (fun i y hy => ha (i + 1) y hy) (Nat.succ.inj hl))
    exact gen xs vs all hl
end

/-! ### the judgements -/
/-- sm k: nothing is being handled, and there is room for k calls; ex: an exception is handled -/
inductive Kk where
  | sm (k : Nat) | ex (a : Addr) (c : Nat) (dd : Addr)
/-- a place in a def's code -/
structure Good (S : Sg) (N : List Str) (sc : Scope) (kk : Kk) (X : Cx) : Prop where
  p : X.prog = S.P
  w : X.w = S.w
  K : X.K = S.K
  mg : X.mg = S.mg
  base : X.base = S.base
  nN : X.N = N
  nd : N.Nodup
  sco : X.env.scope = sc
  kind : sc.kind = .function
  room : ∀ k, kk = .sm k → Room k X.A ∧ X.calm = true
  un : X.A.units + 64 < cLine
  exn : ∀ a c dd, kk = .ex a c dd → ∃ (X0 : Cx) (oe : Obj) (pn : List (Addr × Obj)), X = X0.suite a ((a, oe) :: pn) ∧ Zc (.ref (S.cl c)) (some dd) oe ∧ ∃ vs, oe.data = .fields vs
def SE (S : Sg) (N : List Str) (sc : Scope) (kk : Kk) (e : Expr) (f : En → Mem → Res W) : Prop :=
  ∃ t : WX → TE, (∀ X Wx, Good S N sc kk X → Takes X Wx → PE X e (t Wx)) ∧ Sem S f (WR S) t
def SU (S : Sg) (N : List Str) (sc : Scope) (kk : Kk) (e : Expr) (f : En → Mem → Res U) : Prop :=
  ∃ t : WX → TE, (∀ X Wx, Good S N sc kk X → Takes X Wx → PE X e (t Wx)) ∧ Sem S f (UR S) t
def SD (S : Sg) (N : List Str) (sc : Scope) (kk : Kk) (e : Expr) (f : En → Mem → Res D) : Prop :=
  ∃ t : WX → TE, (∀ X Wx, Good S N sc kk X → Takes X Wx → PE X e (t Wx)) ∧ Sem S f (DR S) t
def SB (S : Sg) (N : List Str) (sc : Scope) (kk : Kk) (e : Expr) (f : En → Mem → Res Bool) : Prop :=
  ∃ t : WX → TT, (∀ X Wx, Good S N sc kk X → Takes X Wx → PT X e (t Wx)) ∧ Sem S f BR t
def SUs (S : Sg) (N : List Str) (sc : Scope) (kk : Kk) (es : List Expr) (f : En → Mem → Res (List U)) : Prop :=
  ∃ t : WX → TA, (∀ X Wx, Good S N sc kk X → Takes X Wx → PA X es (t Wx)) ∧ Sem S f (URs S) t
def SDs (S : Sg) (N : List Str) (sc : Scope) (kk : Kk) (es : List Expr) (f : En → Mem → Res (List D)) : Prop :=
  ∃ t : WX → TA, (∀ X Wx, Good S N sc kk X → Takes X Wx → PA X es (t Wx)) ∧ Sem S f (DRs S) t

/-- the value is used at once -/
def use (f : En → Mem → Res W) : En → Mem → Res U := fun env M => (f env M).bind fun w e m => .ok w.use e m
/-- the value is kept elsewhere: a slot's own list stays from now on -/
def kept (w : W) (e : En) (m : Mem) : Res D := match w with
  | .v d => .ok d e m
  | .s i => (match e[i]? with
    | some (.val d) => .ok d e m
    | some (.own (.lst xs)) => .ok (.lst xs) (e.set i (.val (.lst xs))) m
    | _ => .no)
  | .o d => .ok d e m
  | .t _ xs => .ok (.tup xs) e m
def esc (f : En → Mem → Res W) : En → Mem → Res D := fun env M => (f env M).bind kept

section
variable {S : Sg} {N : List Str} {sc : Scope} {kk : Kk} {e : Expr} {f : En → Mem → Res W}
theorem SE.use (h : SE S N sc kk e f) : SU S N sc kk e (use f) := by
  obtain ⟨t, h1, h2⟩ := h
  refine ⟨t, h1, fun Wx Fr G rho env M σ H Q I p => h2 Wx Fr G rho env M σ H Q I (Post.step (VR := WR S) p fun w e m G1 rho1 H1 b _ g r I1 v q => ?_)⟩
  obtain ⟨G2, g2, I2, v2⟩ := v.use I1
  exact q G2 rho1 H1 b g2 (List.prefix_refl _) I2 v2
theorem kept_ok {Wx : WX} {Fr : Hp} {σ : St} {G : Hp} {rho : List Addr} {env : En} {M : Mem} {H : Hp} (I : R S G Fr env M rho σ H) {w : W} {b : V} {Q : V → Hp → Prop} (v : WR S Fr σ G env rho H w b) (q : Post S Wx Fr σ G rho (kept w env M) (DR S) Q) : Q b H := by
  cases w with
  | v d => exact q G rho H b (Same.refl _) (List.prefix_refl _) I v
  | s i =>
    have v : σ[i]? = some (some b) := v
    unfold kept at q
    simp only at q
    cases he : env[i]? with
    | none => rw [he] at q; exact q.elim
    | some sl =>
      rw [he] at q
      cases sl with
      | un => exact q.elim
      | val d =>
        obtain ⟨v', h1, h2⟩ := I.vals i d he
        rw [v] at h1; cases h1
        exact q G rho H b (Same.refl _) (List.prefix_refl _) I h2
      | own d =>
        cases d with
        | lst xs =>
          obtain ⟨G', a, h1, g, h2, I2⟩ := I.freeze he
          rw [v] at h1; cases h1
          exact q G' rho H _ g (List.prefix_refl _) I2 h2
        | _ => exact q.elim
  | o d =>
    obtain ⟨G2, g2, I2, v2⟩ := WR.use I v
    exact q G2 rho H b g2 (List.prefix_refl _) I2 v2
  | t j xs =>
    obtain ⟨G2, g2, I2, v2⟩ := WR.use I v
    exact q G2 rho H b g2 (List.prefix_refl _) I2 v2
theorem SE.esc (h : SE S N sc kk e f) : SD S N sc kk e (esc f) := by
  obtain ⟨t, h1, h2⟩ := h
  refine ⟨t, h1, fun Wx Fr G rho env M σ H Q I p => h2 Wx Fr G rho env M σ H Q I (Post.step (VR := WR S) p fun w e m G1 rho1 H1 b _ g r I1 v q => ?_)⟩
  exact kept_ok I1 v q

/-! ### arguments -/
def uNil : En → Mem → Res (List U) := fun env M => .ok [] env M
def uCons (f : En → Mem → Res W) (fs : En → Mem → Res (List U)) : En → Mem → Res (List U) := fun env M => (Ow.use f env M).bind fun u e m => (fs e m).bind fun us e m => .ok (u :: us) e m
def dNil : En → Mem → Res (List D) := fun env M => .ok [] env M
def dCons (f : En → Mem → Res W) (fs : En → Mem → Res (List D)) : En → Mem → Res (List D) := fun env M => (Ow.esc f env M).bind fun u e m => (fs e m).bind fun us e m => .ok (u :: us) e m
theorem sus_nil : SUs S N sc kk [] uNil := ⟨fun _ => tNil, fun X Wx _ _ => pa_nil, fun Wx Fr G rho env M σ H Q I p => p G rho H [] (Same.refl _) (List.prefix_refl _) I .nil⟩
theorem sds_nil : SDs S N sc kk [] dNil := ⟨fun _ => tNil, fun X Wx _ _ => pa_nil, fun Wx Fr G rho env M σ H Q I p => p G rho H [] (Same.refl _) (List.prefix_refl _) I .nil⟩
theorem sus_cons {es : List Expr} {fs : En → Mem → Res (List U)} (h : SE S N sc kk e f) (hs : SUs S N sc kk es fs) (hst : ∀ env : Env, starEach (e :: es) env = (false, eval e env) :: starEach es env := by intro _; rfl) : SUs S N sc kk (e :: es) (uCons f fs) := by
  obtain ⟨t, h1, h2⟩ := h.use
  obtain ⟨ts, hs1, hs2⟩ := hs
  refine ⟨fun Wx => tCons (t Wx) (ts Wx), fun X Wx g tk => pa_cons (h1 X Wx g tk) (hs1 X Wx g tk) (hst _), fun Wx Fr G rho env M σ H Q I p => ?_⟩
  refine h2 Wx Fr G rho env M σ H _ I (Post.step (VR := UR S) p fun u e m G1 rho1 H1 b _ g r I1 v q => ?_)
  refine hs2 Wx Fr G1 rho1 e m σ H1 _ I1 (Post.step (VR := URs S) q fun us e2 m2 G2 rho2 H2 bs _ g2 r2 I2 vs q2 => ?_)
  exact q2 G2 rho2 H2 (b :: bs) (Same.refl _) (List.prefix_refl _) I2 (.cons (UR.later (G' := G) (G2 := G) v g2 r2) vs)
theorem sds_cons {es : List Expr} {fs : En → Mem → Res (List D)} (h : SE S N sc kk e f) (hs : SDs S N sc kk es fs) (hst : ∀ env : Env, starEach (e :: es) env = (false, eval e env) :: starEach es env := by intro _; rfl) : SDs S N sc kk (e :: es) (dCons f fs) := by
  obtain ⟨t, h1, h2⟩ := h.esc
  obtain ⟨ts, hs1, hs2⟩ := hs
  refine ⟨fun Wx => tCons (t Wx) (ts Wx), fun X Wx g tk => pa_cons (h1 X Wx g tk) (hs1 X Wx g tk) (hst _), fun Wx Fr G rho env M σ H Q I p => ?_⟩
  refine h2 Wx Fr G rho env M σ H _ I (Post.step (VR := DR S) p fun u e m G1 rho1 H1 b _ g r I1 v q => ?_)
  refine hs2 Wx Fr G1 rho1 e m σ H1 _ I1 (Post.step (VR := DRs S) q fun us e2 m2 G2 rho2 H2 bs _ g2 r2 I2 vs q2 => ?_)
  exact q2 G2 rho2 H2 (b :: bs) (Same.refl _) (List.prefix_refl _) I2 (.cons (Rep.mono g2 r2 v) vs)
end

/-! ### names, constants -/
def eVar (i : Nat) : En → Mem → Res W := fun env M => match env[i]? with
  | some (.val d) => .ok (.v d) env M
  | some (.own _) => .ok (.s i) env M
  | _ => .no
def eC (d : D) : En → Mem → Res W := fun env M => .ok (.v d) env M
section
variable {S : Sg} {N : List Str} {sc : Scope} {kk : Kk}
/-- which names the code sees -/
def SeeB (N : List Str) (sc : Scope) : Bool := N.all fun x => (x == ("__debug__" : Str)) == false && (x == ("__classdict__" : Str)) == false
theorem se_var {i : Nat} {x : Str} {pos : Pos} (hN : N[i]? = some x := by rfl) (hv : Vis sc x := by first | exact Or.inl rfl | exact Or.inr (Or.inl rfl) | exact Or.inr (Or.inr rfl)) (hb : SeeB N sc = true := by decide +kernel) :
    SE S N sc kk (.Name x pos) (eVar i) := by
  have hm := List.all_eq_true.mp hb x (List.mem_of_getElem? hN)
  have h1 : (x == ("__debug__" : Str)) = false := by
    cases q : (x == ("__debug__" : Str)) with
    | false => rfl
    | true => rw [q] at hm; cases hm
  have h2 : (x == ("__classdict__" : Str)) = false := by
    cases q : (x == ("__classdict__" : Str)) with
    | false => rfl
    | true => rw [q, h1] at hm; cases hm
  refine ⟨fun _ => tVar i, fun X Wx g _ => pe_var (by rw [g.nN]; exact hN) (by rw [g.sco]; exact hv) h1 h2, fun Wx Fr G rho env M σ H Q I p => ?_⟩
  unfold eVar at p
  cases he : env[i]? with
  | none => rw [he] at p; exact p.elim
  | some sl =>
    rw [he] at p
    cases sl with
    | un => exact p.elim
    | val d =>
      obtain ⟨v, q1, q2⟩ := I.vals i d he
      exact ⟨v, q1, p G rho H v (Same.refl _) (List.prefix_refl _) I q2⟩
    | own d =>
      obtain ⟨a, q1, _⟩ := I.owns i d he
      exact ⟨_, q1, p G rho H _ (Same.refl _) (List.prefix_refl _) I q1⟩
theorem se_int {i : Int} {j pos} : SE S N sc kk (.Constant (.int i) j pos) (eC (.int i)) := ⟨fun _ => tC (.int i), fun X Wx g _ => pe_int, fun Wx Fr G rho env M σ H Q I p => p G rho H _ (Same.refl _) (List.prefix_refl _) I (.int i)⟩
theorem se_str {i : Str} {j pos} : SE S N sc kk (.Constant (.str i) j pos) (eC (.str i)) := ⟨fun _ => tC (.str i), fun X Wx g _ => pe_str, fun Wx Fr G rho env M σ H Q I p => p G rho H _ (Same.refl _) (List.prefix_refl _) I (.str i)⟩
theorem se_bl {i : Bool} {j pos} : SE S N sc kk (.Constant (.bool i) j pos) (eC (.bl i)) := ⟨fun _ => tC (.bl i), fun X Wx g _ => pe_bl, fun Wx Fr G rho env M σ H Q I p => p G rho H _ (Same.refl _) (List.prefix_refl _) I (.bl i)⟩
theorem se_non {j pos} : SE S N sc kk (.Constant .none j pos) (eC .non) := ⟨fun _ => tC .non, fun X Wx g _ => pe_non, fun Wx Fr G rho env M σ H Q I p => p G rho H _ (Same.refl _) (List.prefix_refl _) I .non⟩
/-- a module's constant -/
theorem se_gint {x : Str} {i : Int} {pos : Pos} (hg : sc.names.lookup x = some .globalImplicit) (hm : ∃ t, S.mg x = some (.int i t)) (hd : (x == ("__debug__" : Str)) = false := by decide +kernel) : SE S N sc kk (.Name x pos) (eC (.int i)) :=
  ⟨fun _ => tC (.int i), fun X Wx g _ => pe_glob (u := .int i hm.choose) (by rw [Gl, Env.kindOf, g.sco]; exact hg) (by rw [g.mg]; exact hm.choose_spec) ⟨_, rfl⟩ hd, fun Wx Fr G rho env M σ H Q I p => p G rho H _ (Same.refl _) (List.prefix_refl _) I (.int i)⟩
theorem se_gstr {x : Str} {i : Str} {pos : Pos} (hg : sc.names.lookup x = some .globalImplicit) (hm : ∃ t, S.mg x = some (.str i t)) (hd : (x == ("__debug__" : Str)) = false := by decide +kernel) : SE S N sc kk (.Name x pos) (eC (.str i)) :=
  ⟨fun _ => tC (.str i), fun X Wx g _ => pe_glob (u := .str i hm.choose) (by rw [Gl, Env.kindOf, g.sco]; exact hg) (by rw [g.mg]; exact hm.choose_spec) ⟨_, rfl⟩ hd, fun Wx Fr G rho env M σ H Q I p => p G rho H _ (Same.refl _) (List.prefix_refl _) I (.str i)⟩
end
end Ow
namespace Ow
open PySem L2

abbrev G2 := Mem → D → D → Option W
def OpSem (S : Sg) (r : R2) (g : G2) : Prop := ∀ (Fr G : Hp) (rho : List Addr) (env : En) (M : Mem) (σ : St) (H : Hp) (x y : D) (vx vy : V) (w : W) (Q : VK), R S G Fr env M rho σ H → Cur S rho G H x vx → Cur S rho G H y vy → g M x y = some w →
  (∀ (G' H' : Hp) (b : V), Same G G' → R S G' Fr env M rho σ H' → WR S Fr σ G' env rho H' w b → Q b H') → r vx vy H Q
def e2 (g : G2) (f1 f2 : En → Mem → Res W) : En → Mem → Res W := fun env M => (use f1 env M).bind fun u e m => (use f2 e m).bind fun u' e' m' =>
  match u.get e', u'.get e' with
  | some x, some y => (match g m' x y with
    | some w => .ok w e' m'
    | none => .no)
  | _, _ => .no
section
variable {S : Sg} {N : List Str} {sc : Scope} {kk : Kk} {a b : Expr} {f1 f2 : En → Mem → Res W} {pos : Pos}
/-- the reading of two expressions and an operation -/
theorem sem2 {r : R2} {g : G2} {ta tb : WX → TE} (o : OpSem S r g) (ha : Sem S (use f1) (UR S) ta) (hb : Sem S (use f2) (UR S) tb) : Sem S (e2 g f1 f2) (WR S) (fun Wx => tOp r (ta Wx) (tb Wx)) := by
  intro Wx Fr G rho env M σ H Q I p
  refine ha Wx Fr G rho env M σ H _ I (Post.step (VR := UR S) p fun u e m G1 rho1 H1 vx _ g1 r1 I1 v1 q => ?_)
  refine hb Wx Fr G1 rho1 e m σ H1 _ I1 (Post.step (VR := UR S) q fun u' e' m' G2 rho2 H2 vy _ g2 r2 I2 v2 q2 => ?_)
  have v1' : UR S Fr σ G2 e' rho2 H2 u vx := UR.later (G' := G) (G2 := G) v1 g2 r2
  cases hx : u.get e' with
  | none => rw [hx] at q2; exact q2.elim
  | some x =>
    cases hy : u'.get e' with
    | none => rw [hx, hy] at q2; exact q2.elim
    | some y =>
      rw [hx, hy] at q2
      simp only at q2
      cases hg : g m' x y with
      | none => rw [hg] at q2; exact q2.elim
      | some w =>
        rw [hg] at q2
        exact o Fr G2 rho2 e' m' σ H2 x y vx vy w Q I2 (UR.cur I2 v1' hx) (UR.cur I2 v2 hy) hg fun G3 H3 z g3 I3 wr => q2 G3 rho2 H3 z g3 (List.prefix_refl _) I3 wr
theorem se_bin {op : Operator} {r : R2} {g : G2} (ho : ∀ X : Cx, Good S N sc kk X → OpR X (binaryOp op) r) (o : OpSem S r g) (ha : SE S N sc kk a f1) (hb : SE S N sc kk b f2) : SE S N sc kk (.BinOp a op b pos) (e2 g f1 f2) := by
  obtain ⟨ta, a1, a2⟩ := ha.use
  obtain ⟨tb, b1, b2⟩ := hb.use
  exact ⟨_, fun X Wx gd tk => pe_op (ho X gd) (a1 X Wx gd tk) (b1 X Wx gd tk), sem2 o a2 b2⟩
/-- a comparison: as a value, as a test -/
def SC (S : Sg) (N : List Str) (sc : Scope) (kk : Kk) (e : Expr) (f : En → Mem → Res W) : Prop :=
  ∃ t : WX → TE, (∀ X Wx, Good S N sc kk X → Takes X Wx → PE X e (t Wx) ∧ PT X e (tTest (t Wx))) ∧ Sem S f (WR S) t
theorem SC.se {e : Expr} {f : En → Mem → Res W} (h : SC S N sc kk e f) : SE S N sc kk e f := by
  obtain ⟨t, h1, h2⟩ := h
  exact ⟨t, fun X Wx g tk => (h1 X Wx g tk).1, h2⟩
theorem sc_cmp {op : CmpOp} {r : R2} {g : G2} (ho : ∀ X : Cx, Good S N sc kk X → OpR X (compareOp op) r) (o : OpSem S r g) (hm : behindInMarks op b = false) (ha : SE S N sc kk a f1) (hb : SE S N sc kk b f2) : SC S N sc kk (.Compare a [op] [b] pos) (e2 g f1 f2) := by
  obtain ⟨ta, a1, a2⟩ := ha.use
  obtain ⟨tb, b1, b2⟩ := hb.use
  exact ⟨_, fun X Wx gd tk => ⟨pe_cmpR (ho X gd) (a1 X Wx gd tk) (b1 X Wx gd tk) hm, pt_cmpR (ho X gd) (a1 X Wx gd tk) (b1 X Wx gd tk) hm⟩, sem2 o a2 b2⟩
theorem OpSem.or {r r' : R2} {g g' : G2} (h : OpSem S r g) (h' : OpSem S r' g') : OpSem S (fun x y H Q => r x y H Q ∨ r' x y H Q) (fun m x y => (g m x y).or (g' m x y)) := by
  intro Fr G rho env M σ H x y vx vy w Q I cx cy e k
  cases hg : g M x y with
  | some w' =>
    simp only [hg, Option.some_or] at e
    exact .inl (h Fr G rho env M σ H x y vx vy w Q I cx cy (by rw [hg]; exact e) k)
  | none =>
    simp only [hg, Option.none_or] at e
    exact .inr (h' Fr G rho env M σ H x y vx vy w Q I cx cy e k)

/-! ### ints -/
def gI (c : Int → Int → Bool) (f : Int → Int → D) : G2 := fun _ x y => match x, y with
  | .int i, .int j => if c i j then some (.v (f i j)) else none
  | _, _ => none
/-- a scalar's value -/
def scV : D → Option V
  | .non => some .non
  | .bl b => some (.bl b)
  | .int i => some (.int i)
  | .str s => some (.str s)
  | _ => none
theorem rep_sc {rho : List Addr} {G : Hp} {d : D} {v : V} (h : scV d = some v) : Rep S rho G d v := by
  cases d <;> cases h <;> constructor
theorem cur_sc {rho : List Addr} {G H : Hp} {d : D} {v u : V} (h : scV d = some v) (c : Cur S rho G H d u) : u = v := by
  cases d <;> cases h <;> exact c
theorem os_int {r : R2} {C : Int → Int → Prop} {g : Int → Int → V} {c : Int → Int → Bool} {f : Int → Int → D} (hr : ∀ i j H Q, C i j → Q (g i j) H → r (.int i) (.int j) H Q) (hc : ∀ i j, c i j = true → C i j) (hf : ∀ i j, scV (f i j) = some (g i j)) :
    OpSem S r (gI c f) := by
  intro Fr G rho env M σ H x y vx vy w Q I cx cy e k
  cases x with
  | int i =>
    cases y with
    | int j =>
      cases cx; cases cy
      unfold gI at e
      simp only at e
      cases hcc : c i j with
      | false => rw [hcc] at e; cases e
      | true =>
        rw [hcc] at e
        cases e
        exact hr i j H Q (hc i j hcc) (k G H _ (Same.refl _) I (rep_sc (hf i j)))
    | _ => cases e
  | _ => cases e
def yes2 : Int → Int → Bool := fun _ _ => true
theorem rI_in {C : Int → Int → Prop} {g : Int → Int → V} : ∀ i j H Q, C i j → Q (g i j) H → rI C g (.int i) (.int j) H Q := fun i j H Q c q => ⟨i, j, rfl, rfl, c, q⟩
theorem rI0_in {g : Int → Int → V} : ∀ i j H Q, True → Q (g i j) H → rI0 g (.int i) (.int j) H Q := fun i j H Q _ q => ⟨i, j, rfl, rfl, q⟩
/-- |i| below 2^64 -/
def sm (i : Int) : Bool := decide (-(2 ^ 64) < i) && decide (i < 2 ^ 64)
def smul (i j : Int) : Bool := sm i || sm j
theorem smul_ok {i j : Int} (h : smul i j = true) : CMul i j := by
  unfold smul sm at h
  unfold CMul
  simp only [Bool.or_eq_true, Bool.and_eq_true, decide_eq_true_eq] at h
  exact h
def cdiv (_ j : Int) : Bool := decide (0 < j) && decide (j.natAbs.log2 < 9000)
def cmod (_ j : Int) : Bool := decide (0 < j)
def cpow (i j : Int) : Bool := decide (0 ≤ j) && (decide (j ≤ 1000) && decide (i.natAbs < 2 ^ 1000))
def csh (i j : Int) : Bool := decide (0 ≤ j) && (decide (j ≤ 1000000) && decide (i.natAbs < 2 ^ 64))
theorem op_powW {X : Cx} : OpR X (binaryOp .Pow) (rI (fun i j => 0 ≤ j ∧ j ≤ 1000 ∧ i.natAbs < 2 ^ 1000) fun i j => .int (i ^ j.toNat)) := opI fun i j _ _ _ _ _ hc q => by
  obtain ⟨h1, h2, h3⟩ := hc
  refine PyProof.Rows.pow_int h1 ?_ q
  have hb : Builtin.Int.intBits i ≤ 1000 := PyProof.Rows.intBits_le h3
  have h1 : (Builtin.Int.intBits i : Int) * j ≤ 1000 * j := Int.mul_le_mul_of_nonneg_right (by omega) h1
  omega
def gBool (f : Int → Int → Bool) : Int → Int → D := fun i j => .bl (f i j)
def gLt : G2 := gI yes2 fun i j => .bl (decide (i < j))
def gLe : G2 := gI yes2 fun i j => .bl (decide (i ≤ j))
def gGt : G2 := gI yes2 fun i j => .bl (decide (j < i))
def gGe : G2 := gI yes2 fun i j => .bl (decide (j ≤ i))
def gSub : G2 := gI yes2 fun i j => .int (i - j)
def gDiv : G2 := gI cdiv fun i j => .int (i / j)
def gMod : G2 := gI cmod fun i j => .int (i % j)
def gPow : G2 := gI cpow fun i j => .int (i ^ j.toNat)
def gShl : G2 := gI csh fun i j => .int (i * 2 ^ j.toNat)
def gShr : G2 := gI (fun _ j => decide (0 ≤ j)) fun i j => .int (i / 2 ^ j.toNat)
def gAnd : G2 := gI yes2 fun i j => .int (Builtin.bitAnd i j)
theorem sc_lt (ha : SE S N sc kk a f1) (hb : SE S N sc kk b f2) : SC S N sc kk (.Compare a [.Lt] [b] pos) (e2 gLt f1 f2) := sc_cmp (fun X _ => op_lt) (os_int rI0_in (fun _ _ _ => trivial) fun _ _ => rfl) (nomark _) ha hb
theorem sc_le (ha : SE S N sc kk a f1) (hb : SE S N sc kk b f2) : SC S N sc kk (.Compare a [.LtE] [b] pos) (e2 gLe f1 f2) := sc_cmp (fun X _ => op_le) (os_int rI0_in (fun _ _ _ => trivial) fun _ _ => rfl) (nomark _) ha hb
theorem sc_gt (ha : SE S N sc kk a f1) (hb : SE S N sc kk b f2) : SC S N sc kk (.Compare a [.Gt] [b] pos) (e2 gGt f1 f2) := sc_cmp (fun X _ => op_gt) (os_int rI0_in (fun _ _ _ => trivial) fun _ _ => rfl) (nomark _) ha hb
theorem sc_ge (ha : SE S N sc kk a f1) (hb : SE S N sc kk b f2) : SC S N sc kk (.Compare a [.GtE] [b] pos) (e2 gGe f1 f2) := sc_cmp (fun X _ => op_ge) (os_int rI0_in (fun _ _ _ => trivial) fun _ _ => rfl) (nomark _) ha hb
theorem se_sub (ha : SE S N sc kk a f1) (hb : SE S N sc kk b f2) : SE S N sc kk (.BinOp a .Sub b pos) (e2 gSub f1 f2) := se_bin (fun X _ => op_sub) (os_int rI0_in (fun _ _ _ => trivial) fun _ _ => rfl) ha hb
theorem se_div (ha : SE S N sc kk a f1) (hb : SE S N sc kk b f2) : SE S N sc kk (.BinOp a .FloorDiv b pos) (e2 gDiv f1 f2) := se_bin (fun X _ => op_fdivW) (os_int rI_in (fun i j h => by
  unfold cdiv at h
  rw [Bool.and_eq_true, decide_eq_true_eq, decide_eq_true_eq] at h
  exact h) fun _ _ => rfl) ha hb
theorem se_mod (ha : SE S N sc kk a f1) (hb : SE S N sc kk b f2) : SE S N sc kk (.BinOp a .Mod b pos) (e2 gMod f1 f2) := se_bin (fun X _ => op_mod) (os_int rI_in (fun i j h => of_decide_eq_true h) fun _ _ => rfl) ha hb
theorem se_pow (ha : SE S N sc kk a f1) (hb : SE S N sc kk b f2) : SE S N sc kk (.BinOp a .Pow b pos) (e2 gPow f1 f2) := se_bin (fun X _ => op_powW) (os_int rI_in (fun i j h => by
  unfold cpow at h
  rw [Bool.and_eq_true, Bool.and_eq_true, decide_eq_true_eq, decide_eq_true_eq, decide_eq_true_eq] at h
  exact h) fun _ _ => rfl) ha hb
theorem se_shl (ha : SE S N sc kk a f1) (hb : SE S N sc kk b f2) : SE S N sc kk (.BinOp a .LShift b pos) (e2 gShl f1 f2) := se_bin (fun X _ => op_shl) (os_int rI_in (fun i j h => by
  unfold csh at h
  rw [Bool.and_eq_true, Bool.and_eq_true, decide_eq_true_eq, decide_eq_true_eq, decide_eq_true_eq] at h
  exact h) fun _ _ => rfl) ha hb
theorem se_shr (ha : SE S N sc kk a f1) (hb : SE S N sc kk b f2) : SE S N sc kk (.BinOp a .RShift b pos) (e2 gShr f1 f2) := se_bin (fun X _ => op_shr) (os_int rI_in (fun i j h => of_decide_eq_true h) fun _ _ => rfl) ha hb
theorem se_and2 (ha : SE S N sc kk a f1) (hb : SE S N sc kk b f2) : SE S N sc kk (.BinOp a .BitAnd b pos) (e2 gAnd f1 f2) := se_bin (fun X _ => op_and) (os_int rI0_in (fun _ _ _ => trivial) fun _ _ => rfl) ha hb

/-! ### + of ints, texts, lists -/
def gAddI : G2 := gI yes2 fun i j => .int (i + j)
def gAddS : G2 := fun _ x y => match x, y with
  | .str i, .str j => if i.length + j.length ≤ sizeLine then some (.v (.str (i ++ j))) else none
  | _, _ => none
def gAddL : G2 := fun m x y => match deref m x, deref m y with
  | .lst xs, .lst ys => if xs.length + ys.length ≤ sizeLine then some (.o (.lst (xs ++ ys))) else none
  | _, _ => none
def gAdd : G2 := fun m x y => (gAddI m x y).or ((gAddS m x y).or (gAddL m x y))
/-- a new list of values that stay -/
theorem new_list {Fr G : Hp} {rho : List Addr} {env : En} {M : Mem} {σ : St} {H : Hp} {xs : List D} {vs : List V} {Q : VK} (I : R S G Fr env M rho σ H) (t : Reps S rho G xs vs) (z : xs.length ≤ sizeLine)
    (k : ∀ (G' H' : Hp) (b : V), Same G G' → R S G' Fr env M rho σ H' → WR S Fr σ G' env rho H' (.o (.lst xs)) b → Q b H') : ∀ p, H p = none → Q (.ref p) (upd H p (.lst vs)) := fun p hp =>
  k G _ _ (Same.refl _) (I.alloc hp) ⟨p, xs, rfl, rfl, ⟨z, vs, upd_same, t⟩, free_new I hp⟩
/-- a new tuple of values that stay -/
theorem new_tup {Fr G : Hp} {rho : List Addr} {env : En} {M : Mem} {σ : St} {H : Hp} {xs : List D} {vs : List V} {Q : VK} (I : R S G Fr env M rho σ H) (t : Reps S rho G xs vs) (z : xs.length ≤ sizeLine)
    (k : ∀ (G' H' : Hp) (b : V), Same G G' → R S G' Fr env M rho σ H' → WR S Fr σ G' env rho H' (.v (.tup xs)) b → Q b H') : ∀ p, H p = none → Q (.ref p) (upd H p (.tup vs)) := fun p hp => by
  have f := free_new I hp
  exact k (upd G p (.tup vs)) _ _ (same_upd f.g) ((I.alloc hp).keep f upd_same) (.tup upd_same z (t.mono (same_upd f.g) (List.prefix_refl _)))
theorem se_add (ha : SE S N sc kk a f1) (hb : SE S N sc kk b f2) : SE S N sc kk (.BinOp a .Add b pos) (e2 gAdd f1 f2) := by
  refine se_bin (r := fun x y H Q => _ ∨ _) (fun X _ => OpR.or op_add (OpR.or op_add_str op_cat)) (OpSem.or (os_int rI0_in (fun _ _ _ => trivial) fun _ _ => rfl) (OpSem.or ?_ ?_)) ha hb
  · intro Fr G rho env M σ H x y vx vy w Q I cx cy e k
    unfold gAddS at e
    split at e
    · next i j =>
      cases cx; cases cy
      split at e
      · next h =>
        cases e
        exact ⟨i, j, rfl, rfl, h, k G H _ (Same.refl _) I (.str _)⟩
      · cases e
    · cases e
  · intro Fr G rho env M σ H x y vx vy w Q I cx cy e k
    have cx := cx.deref I.toMR
    have cy := cy.deref I.toMR
    unfold gAddL at e
    split at e
    · next xs ys h1 h2 =>
      rw [h1] at cx
      rw [h2] at cy
      split at e
      · next h =>
        cases e
        obtain ⟨p, vs, rfl, hp, z1, t1⟩ := cx
        obtain ⟨q, us, rfl, hq, z2, t2⟩ := cy
        exact ⟨p, q, vs, us, rfl, rfl, hp, hq, by rw [← t1.length, ← t2.length]; exact h, new_list I (t1.append t2) (by rw [List.length_append]; exact h) k⟩
      · cases e
    · cases e

/-! ### * of ints, a list times an int -/
def gMulI : G2 := gI smul fun i j => .int (i * j)
def gMulL : G2 := fun m x y => match deref m x, y with
  | .lst xs, .int k => if k < 2 ^ 63 ∧ -(2 ^ 63) ≤ k ∧ xs.length * k.toNat ≤ sizeLine then some (.o (.lst (List.replicate k.toNat xs).flatten)) else none
  | _, _ => none
def gMul : G2 := fun m x y => (gMulI m x y).or (gMulL m x y)
theorem reps_rep {rho : List Addr} {G : Hp} {xs : List D} {vs : List V} (t : Reps S rho G xs vs) : ∀ n : Nat, Reps S rho G (List.replicate n xs).flatten (List.replicate n vs).flatten
  | 0 => .nil
  | n + 1 => by
    rw [List.replicate_succ, List.replicate_succ, List.flatten_cons, List.flatten_cons]
    exact t.append (reps_rep t n)
theorem se_mul (ha : SE S N sc kk a f1) (hb : SE S N sc kk b f2) : SE S N sc kk (.BinOp a .Mult b pos) (e2 gMul f1 f2) := by
  refine se_bin (r := fun x y H Q => _ ∨ _) (fun X _ => OpR.or op_mul op_rep) (OpSem.or (os_int rI_in (fun _ _ h => smul_ok h) fun _ _ => rfl) ?_) ha hb
  intro Fr G rho env M σ H x y vx vy w Q I cx cy e k
  have cx := cx.deref I.toMR
  unfold gMulL at e
  split at e
  · next xs n h1 =>
    rw [h1] at cx
    cases cy
    split at e
    · next h =>
      cases e
      obtain ⟨p, vs, rfl, hp, z1, t1⟩ := cx
      obtain ⟨h1, h2, h3⟩ := h
      refine ⟨p, n, vs, rfl, rfl, hp, h2, h1, by rw [← t1.length]; exact h3, new_list I (reps_rep t1 _) ?_ k⟩
      rw [List.length_flatten, List.map_replicate, List.sum_replicate_nat, Nat.mul_comm]
      exact h3
    · cases e
  · cases e

/-! ### == and != -/
mutual
def toPD : D → Option PyData
  | .non => some .none
  | .bl b => some (.bool b)
  | .int i => some (.int i)
  | .str s => some (.str s)
  | .lst xs => (match toPDs xs with
    | some ys => some (.list ys)
    | none => none)
  | .tup xs => (match toPDs xs with
    | some ys => some (.tuple ys)
    | none => none)
  | _ => none
def toPDs : List D → Option (List PyData)
  | [] => some []
  | x :: xs => (match toPD x, toPDs xs with
    | some y, some ys => some (y :: ys)
    | _, _ => none)
end
mutual
theorem dp_of {K : PySem.W.Frag} {rho : List Addr} {G H : Hp} (g : Same G H) : ∀ (d : D) (v : V) (p : PyData), Rep S rho G d v → toPD d = some p → Dp K H v p
  | .non, _, _, h, e => by cases h; cases e; exact .non
  | .bl b, _, _, h, e => by cases h; cases e; exact .bl b
  | .int i, _, _, h, e => by cases h; cases e; exact .int i
  | .str i, _, _, h, e => by cases h; cases e; exact .str i
  | .lst xs, _, _, h, e => by
    cases h with
    | lst ha z t =>
      unfold toPD at e
      cases q : toPDs xs with
      | none => rw [q] at e; cases e
      | some ys =>
        rw [q] at e
        cases e
        exact .lst (SqL.of (g _ _ ha)) (dps_of g xs _ ys t q)
  | .tup xs, _, _, h, e => by
    cases h with
    | tup ha z t =>
      unfold toPD at e
      cases q : toPDs xs with
      | none => rw [q] at e; cases e
      | some ys =>
        rw [q] at e
        cases e
        exact .tup (SqT.of (g _ _ ha)) (dps_of g xs _ ys t q)
  | .dic _ _, _, _, _, e => by unfold toPD at e; cases e
  | .ins _ _, _, _, _, e => by unfold toPD at e; cases e
  | .ref _, _, _, _, e => by unfold toPD at e; cases e
  | .scr _, _, _, _, e => by unfold toPD at e; cases e
theorem dps_of {K : PySem.W.Frag} {rho : List Addr} {G H : Hp} (g : Same G H) : ∀ (d : List D) (v : List V) (p : List PyData), Reps S rho G d v → toPDs d = some p → DpAll K H v p
  | [], _, _, h, e => by cases h; cases e; exact .nil
  | x :: xs, _, _, h, e => by
    cases h with
    | cons h t =>
      unfold toPDs at e
      cases q1 : toPD x with
      | none => rw [q1] at e; cases e
      | some y =>
        cases q2 : toPDs xs with
        | none => rw [q1, q2] at e; cases e
        | some ys =>
          rw [q1, q2] at e
          cases e
          exact .cons (dp_of g x _ y h q1) (dps_of g xs _ ys t q2)
end
theorem dp_cur {K : PySem.W.Frag} {rho : List Addr} {G H : Hp} (g : Same G H) {d : D} {v : V} {p : PyData} (h : Cur S rho G H d v) (e : toPD d = some p) : Dp K H v p := by
  cases d with
  | non => cases h; cases e; exact .non
  | bl b => cases h; cases e; exact .bl b
  | int b => cases h; cases e; exact .int b
  | str b => cases h; cases e; exact .str b
  | lst xs =>
    obtain ⟨a, vs, rfl, ha, z, t⟩ := h
    unfold toPD at e
    cases q : toPDs xs with
    | none => rw [q] at e; cases e
    | some ys =>
      rw [q] at e
      cases e
      exact .lst (SqL.of ha) (dps_of g xs _ ys t q)
  | tup xs =>
    obtain ⟨a, vs, rfl, ha, z, t⟩ := h
    unfold toPD at e
    cases q : toPDs xs with
    | none => rw [q] at e; cases e
    | some ys =>
      rw [q] at e
      cases e
      exact .tup (SqT.of ha) (dps_of g xs _ ys t q)
  | _ => unfold toPD at e; cases e
/-- == of data, where it is told -/
def deq (x y : D) : Option Bool := match scV x, scV y with
  | some u, some v => if scal u v then some (decide (u = v)) else none
  | _, _ => (match toPD x, toPD y with
    | some p, some q => if SeqAt.shaped p && SeqAt.shaped q then some (PyData.eqv p q) else none
    | _, _ => none)
def gEq : G2 := fun m x y => (deq (deref m x) (deref m y)).map fun b => .v (.bl b)
def gNe : G2 := fun m x y => (deq (deref m x) (deref m y)).map fun b => .v (.bl (!b))
theorem deq_or {rho : List Addr} {G H : Hp} {x y : D} {vx vy : V} {b : Bool} {K : PySem.W.Frag} (g : Same G H) (cx : Cur S rho G H x vx) (cy : Cur S rho G H y vy) (e : deq x y = some b) :
    (scal vx vy = true ∧ b = decide (vx = vy)) ∨ ∃ p q, Dp K H vx p ∧ Dp K H vy q ∧ SeqAt.shaped p = true ∧ SeqAt.shaped q = true ∧ b = PyData.eqv p q := by
  have dat : ∀ {o : Option Bool}, o = (match toPD x, toPD y with
    | some p, some q => if SeqAt.shaped p && SeqAt.shaped q then some (PyData.eqv p q) else none
    | _, _ => none) → o = some b → ∃ p q, Dp K H vx p ∧ Dp K H vy q ∧ SeqAt.shaped p = true ∧ SeqAt.shaped q = true ∧ b = PyData.eqv p q := fun {o} h1 h2 => by
    rw [h1] at h2
    split at h2
    · next p q e1 e2 =>
      split at h2
      · next h3 =>
        rw [Bool.and_eq_true] at h3
        exact ⟨p, q, dp_cur g cx e1, dp_cur g cy e2, h3.1, h3.2, (Option.some.inj h2).symm⟩
      · cases h2
    · cases h2
  unfold deq at e
  cases hx : scV x with
  | none => rw [hx] at e; exact .inr (dat rfl e)
  | some u =>
    cases hy : scV y with
    | none => rw [hx, hy] at e; exact .inr (dat rfl e)
    | some v =>
      rw [hx, hy] at e
      simp only at e
      have := cur_sc hx cx
      subst this
      have := cur_sc hy cy
      subst this
      split at e
      · next h => exact .inl ⟨h, (Option.some.inj e).symm⟩
      · cases e
theorem good_units {X : Cx} {k : Kk} (g : Good S N sc k X) : X.A.units + 64 < cLine := g.un
theorem sc_eq {k : Kk} (ha : SE S N sc k a f1) (hb : SE S N sc k b f2) : SC S N sc k (.Compare a [.Eq] [b] pos) (e2 gEq f1 f2) := by
  refine sc_cmp (r := fun x y H Q => rEq x y H Q ∨ rEqD S.K x y H Q) (fun X g => OpR.or op_eq (by have := op_eqD (good_units g); rw [g.K] at this; exact this)) ?_ (nomark _) ha hb
  intro Fr G rho env M σ H x y vx vy w Q I cx cy e k
  have cx := cx.deref I.toMR
  have cy := cy.deref I.toMR
  unfold gEq at e
  obtain ⟨b, e1, rfl⟩ := Option.map_eq_some_iff.mp e
  have fin : Q (.bl b) H := k G H _ (Same.refl _) I (.bl b)
  rcases deq_or (K := S.K) I.gs cx cy e1 with ⟨h1, rfl⟩ | ⟨p, q, h1, h2, h3, h4, rfl⟩
  · exact .inl ⟨h1, fin⟩
  · exact .inr ⟨p, q, h1, h2, h3, h4, fin⟩
theorem sc_ne {k : Kk} (ha : SE S N sc k a f1) (hb : SE S N sc k b f2) : SC S N sc k (.Compare a [.NotEq] [b] pos) (e2 gNe f1 f2) := by
  refine sc_cmp (r := fun x y H Q => rNe x y H Q ∨ rNeD S.K x y H Q) (fun X g => OpR.or op_ne (by have := op_neD (good_units g); rw [g.K] at this; exact this)) ?_ (nomark _) ha hb
  intro Fr G rho env M σ H x y vx vy w Q I cx cy e k
  have cx := cx.deref I.toMR
  have cy := cy.deref I.toMR
  unfold gNe at e
  obtain ⟨b, e1, rfl⟩ := Option.map_eq_some_iff.mp e
  have fin : Q (.bl !b) H := k G H _ (Same.refl _) I (.bl !b)
  rcases deq_or (K := S.K) I.gs cx cy e1 with ⟨h1, rfl⟩ | ⟨p, q, h1, h2, h3, h4, rfl⟩
  · exact .inl ⟨h1, fin⟩
  · exact .inr ⟨p, q, h1, h2, h3, h4, fin⟩
/-- is None, is not None -/
def isNon : D → Bool
  | .non => true
  | _ => false
def gIs : G2 := fun _ x y => match y with
  | .non => some (.v (.bl (isNon x)))
  | _ => none
def gIsNot : G2 := fun _ x y => match y with
  | .non => some (.v (.bl (!isNon x)))
  | _ => none
theorem cur_non {rho : List Addr} {G H : Hp} {x : D} {v : V} (c : Cur S rho G H x v) : decide (v = .non) = isNon x := by
  cases x <;> first | (cases c; rfl) | (obtain ⟨a, vs, rfl, _⟩ := c; rfl) | (obtain ⟨a, dx, vs, rfl, _⟩ := c; rfl) | (obtain ⟨a, rfl, _⟩ := c; rfl) | (obtain ⟨rfl, _⟩ := c; rfl) | exact c.elim
theorem sc_is (ha : SE S N sc kk a f1) (hb : SE S N sc kk b f2) : SC S N sc kk (.Compare a [.Is] [b] pos) (e2 gIs f1 f2) := by
  refine sc_cmp (fun X _ => op_isN) ?_ (nomark _) ha hb
  intro Fr G rho env M σ H x y vx vy w Q I cx cy e k
  cases y with
  | non =>
    cases cy
    cases e
    refine ⟨rfl, ?_⟩
    rw [cur_non cx]
    exact k G H _ (Same.refl _) I (.bl _)
  | _ => cases e
theorem sc_isnot (ha : SE S N sc kk a f1) (hb : SE S N sc kk b f2) : SC S N sc kk (.Compare a [.IsNot] [b] pos) (e2 gIsNot f1 f2) := by
  refine sc_cmp (fun X _ => op_notN) ?_ (nomark _) ha hb
  intro Fr G rho env M σ H x y vx vy w Q I cx cy e k
  cases y with
  | non =>
    cases cy
    cases e
    refine ⟨rfl, ?_⟩
    rw [cur_non cx]
    exact k G H _ (Same.refl _) I (.bl _)
  | _ => cases e

/-! ### in, not in: scalars in lists and tuples; texts -/
def flD : D → Bool
  | .non => true
  | .bl _ => true
  | .int _ => true
  | .str _ => true
  | _ => false
def eqS : D → D → Bool
  | .non, .non => true
  | .bl a, .bl b => a == b
  | .bl a, .int b => (if a then 1 else 0) == b
  | .int a, .bl b => a == (if b then 1 else 0)
  | .int a, .int b => a == b
  | .str a, .str b => a == b
  | _, _ => false
def din (x : D) (xs : List D) : Bool := xs.any fun y => eqS y x
theorem fl_rep {rho : List Addr} {G : Hp} {d : D} {v : V} (h : Rep S rho G d v) (f : flD d = true) : flatV v = true := by
  cases h <;> first | rfl | cases f
theorem fl_reps {rho : List Addr} {G : Hp} : ∀ {d : List D} {v : List V}, Reps S rho G d v → d.all flD = true → v.all flatV = true
  | _, _, .nil, _ => rfl
  | _, _, .cons h t, f => by
    rw [List.all_cons, Bool.and_eq_true] at f ⊢
    exact ⟨fl_rep h f.1, fl_reps t f.2⟩
theorem eqS_rep {rho : List Addr} {G : Hp} {d e : D} {v u : V} (h : Rep S rho G d v) (h' : Rep S rho G e u) (f : flD d = true) (f' : flD e = true) : eqV v u = eqS d e := by
  cases h <;> first | (cases f; done) | (cases h' <;> first | rfl | cases f')
theorem din_rep {rho : List Addr} {G : Hp} {x : D} {v : V} (h : Rep S rho G x v) (f : flD x = true) : ∀ {d : List D} {vs : List V}, Reps S rho G d vs → d.all flD = true → inV v vs = din x d
  | _, _, .nil, _ => rfl
  | _, _, .cons q t, g => by
    rw [List.all_cons, Bool.and_eq_true] at g
    have ih := din_rep h f t g.2
    unfold inV din at *
    rw [List.any_cons, List.any_cons, ih, eqS_rep q h g.1 f]
def gIn (neg : Bool) : G2 := fun m x y => match x, deref m y with
  | .str i, .str j => some (.v (.bl (if neg then !(!(Builtin.Str.occurrences j i 0 j.length 1).isEmpty) else !(Builtin.Str.occurrences j i 0 j.length 1).isEmpty)))
  | x, .lst xs => if flD x && xs.all flD then some (.v (.bl (if neg then !din x xs else din x xs))) else none
  | x, .tup xs => if flD x && xs.all flD then some (.v (.bl (if neg then !din x xs else din x xs))) else none
  | _, _ => none
theorem cur_fl {rho : List Addr} {G H : Hp} {x : D} {v : V} (c : Cur S rho G H x v) (f : flD x = true) : Rep S rho G x v := by
  cases x <;> first | (cases f; done) | (cases c; constructor)
theorem os_in {neg : Bool} : OpSem S (fun x y H Q => (∃ i j, x = .str i ∧ y = .str j ∧ Q (.bl (if neg then !(!(Builtin.Str.occurrences j i 0 j.length 1).isEmpty) else !(Builtin.Str.occurrences j i 0 j.length 1).isEmpty)) H) ∨ rIn S.K neg x y H Q) (gIn neg) := by
  intro Fr G rho env M σ H x y vx vy w Q I cx cy e k
  have cy := cy.deref I.toMR
  unfold gIn at e
  split at e
  · next i j h1 =>
    rw [h1] at cy
    cases cx; cases cy; cases e
    exact .inl ⟨i, j, rfl, rfl, k G H _ (Same.refl _) I (.bl _)⟩
  · next x' xs hd h1 =>
    rw [h1] at cy
    split at e
    · next h =>
      rw [Bool.and_eq_true] at h
      obtain ⟨a, vs, rfl, ha, z, t⟩ := cy
      have rx := cur_fl cx h.1
      cases e
      refine .inr ⟨a, vs, rfl, .inl (SqL.of ha), fl_rep rx h.1, fl_reps t h.2, ?_⟩
      rw [din_rep rx h.1 t h.2]
      exact k G H _ (Same.refl _) I (.bl _)
    · cases e
  · next x' xs hd h1 =>
    rw [h1] at cy
    split at e
    · next h =>
      rw [Bool.and_eq_true] at h
      obtain ⟨a, vs, rfl, ha, z, t⟩ := cy
      have rx := cur_fl cx h.1
      cases e
      refine .inr ⟨a, vs, rfl, .inr (SqT.of ha), fl_rep rx h.1, fl_reps t h.2, ?_⟩
      rw [din_rep rx h.1 t h.2]
      exact k G H _ (Same.refl _) I (.bl _)
    · cases e
  · cases e
theorem sc_in (hm : behindInMarks .In b = false) (ha : SE S N sc kk a f1) (hb : SE S N sc kk b f2) : SC S N sc kk (.Compare a [.In] [b] pos) (e2 (gIn false) f1 f2) :=
  sc_cmp (fun X g => OpR.or op_in_str (by have := @op_in_seq X; rw [g.K] at this; exact this)) (os_in (neg := false)) hm ha hb
theorem sc_notin (hm : behindInMarks .NotIn b = false) (ha : SE S N sc kk a f1) (hb : SE S N sc kk b f2) : SC S N sc kk (.Compare a [.NotIn] [b] pos) (e2 (gIn true) f1 f2) :=
  sc_cmp (fun X g => OpR.or op_notin_str (by have := @op_notIn_seq X; rw [g.K] at this; exact this)) (os_in (neg := true)) hm ha hb

/-! ### an item -/
def gIx : G2 := fun m x y => match deref m x, y with
  | .lst xs, .int i => (atI xs i).map .v
  | .tup xs, .int i => (atI xs i).map .v
  | .scr ns, .int i => (atI ns i).map fun n => .v (.int n)
  | .str z, .int i => if z.length ≤ sizeLine then (atI z.cps.toList i).map fun c => .v (.str ⟨#[c]⟩) else none
  | _, _ => none
theorem atI_len {α β : Type} {xs : List α} {ys : List β} {i : Int} {x : α} (hl : xs.length = ys.length) (h : atI xs i = some x) : ∃ (j : Nat) (y : β), xs[j]? = some x ∧ ys[j]? = some y ∧ atI ys i = some y := by
  unfold atI at h ⊢
  cases q : ixN xs.length i with
  | none => rw [q] at h; cases h
  | some j =>
    rw [q] at h
    have h : xs[j]? = some x := h
    have hj : j < ys.length := by rw [← hl]; exact (List.getElem?_eq_some_iff.mp h).1
    refine ⟨j, ys[j], h, List.getElem?_eq_getElem hj, ?_⟩
    rw [← hl, q]
    exact List.getElem?_eq_getElem hj
theorem atI_map {α β : Type} (f : α → β) (xs : List α) (i : Int) : atI (xs.map f) i = (atI xs i).map f := by
  unfold atI
  rw [List.length_map]
  cases ixN xs.length i with
  | none => rfl
  | some j => show (xs.map f)[j]? = _; rw [List.getElem?_map]; rfl
theorem os_ix : OpSem S (rIx S.K) gIx := by
  intro Fr G rho env M σ H x y vx vy w Q I cx cy e k
  have cx := cx.deref I.toMR
  unfold gIx at e
  split at e
  · next xs i h1 =>
    rw [h1] at cx
    cases cy
    obtain ⟨d, e1, rfl⟩ := Option.map_eq_some_iff.mp e
    obtain ⟨a, vs, rfl, ha, z, t⟩ := cx
    obtain ⟨j, v, q1, q2, q3⟩ := atI_len t.length e1
    obtain ⟨v', q4, q5⟩ := t.get q1
    rw [q2] at q4; cases q4
    exact .inl ⟨a, vs, i, v, rfl, rfl, SqL.of ha, q3, k G H _ (Same.refl _) I q5⟩
  · next xs i h1 =>
    rw [h1] at cx
    cases cy
    obtain ⟨d, e1, rfl⟩ := Option.map_eq_some_iff.mp e
    obtain ⟨a, vs, rfl, ha, z, t⟩ := cx
    obtain ⟨j, v, q1, q2, q3⟩ := atI_len t.length e1
    obtain ⟨v', q4, q5⟩ := t.get q1
    rw [q2] at q4; cases q4
    exact .inr (.inl ⟨a, vs, i, v, rfl, rfl, SqT.of ha, q3, k G H _ (Same.refl _) I q5⟩)
  · next ns i h1 =>
    rw [h1] at cx
    cases cy
    obtain ⟨n, e1, rfl⟩ := Option.map_eq_some_iff.mp e
    obtain ⟨a, rfl, ha, z⟩ := cx
    exact .inl ⟨a, _, i, .int n, rfl, rfl, ha, by rw [atI_map, e1]; rfl, k G H _ (Same.refl _) I (.int n)⟩
  · next z i h1 =>
    rw [h1] at cx
    cases cx; cases cy
    split at e
    · next h =>
      obtain ⟨c, e1, rfl⟩ := Option.map_eq_some_iff.mp e
      exact .inr (.inr ⟨z, i, c, rfl, rfl, h, e1, k G H _ (Same.refl _) I (.str _)⟩)
    · cases e
  · cases e
theorem se_ix (hs : ∀ X : Cx, Good S N sc kk X → PlainIx b) (ha : SE S N sc kk a f1) (hb : SE S N sc kk b f2) : SE S N sc kk (.Subscript a b pos) (e2 gIx f1 f2) := by
  obtain ⟨ta, a1, a2⟩ := ha.use
  obtain ⟨tb, b1, b2⟩ := hb.use
  refine ⟨_, fun X Wx gd tk => pe_ix (r := rIx S.K) ?_ (a1 X Wx gd tk) (b1 X Wx gd tk) (hs X gd), sem2 os_ix a2 b2⟩
  have := IxR.or (@ix_list X) (IxR.or (@ix_tup X) (@ix_str X))
  rw [gd.K] at this
  exact this
end
end Ow
namespace Ow
open PySem L2

/-! ### tests -/
def asB (f : En → Mem → Res W) : En → Mem → Res Bool := fun env M => (use f env M).bind fun u e m => match u.get e with
  | some (.bl b) => .ok b e m
  | _ => .no
def truD : D → Option Bool
  | .non => some false
  | .bl b => some b
  | .int i => some (i != 0)
  | .lst xs => some (!xs.isEmpty)
  | .tup xs => some (!xs.isEmpty)
  | _ => none
def asT (f : En → Mem → Res W) : En → Mem → Res Bool := fun env M => (use f env M).bind fun u e m => match (u.get e).bind fun d => truD (deref m d) with
  | some b => .ok b e m
  | none => .no
def bNot (f : En → Mem → Res Bool) : En → Mem → Res Bool := fun env M => (f env M).bind fun b e m => .ok (!b) e m
def bAnd (f g : En → Mem → Res Bool) : En → Mem → Res Bool := fun env M => (f env M).bind fun b e m => if b then g e m else .ok false e m
def bOr (f g : En → Mem → Res Bool) : En → Mem → Res Bool := fun env M => (f env M).bind fun b e m => if b then .ok true e m else g e m
section
variable {S : Sg} {N : List Str} {sc : Scope} {kk : Kk} {a b c : Expr} {f f1 f2 f3 : En → Mem → Res W} {pos : Pos}
theorem here {α β : Type} {Wx : WX} {Fr : Hp} {σ : St} {G : Hp} {rho : List Addr} {x : α} {e : En} {m : Mem} {VR : VRel α β} {Q : β → Hp → Prop} {H : Hp} {b : β}
    (p : Post S Wx Fr σ G rho (.ok x e m) VR Q) (I : R S G Fr e m rho σ H) (v : VR Fr σ G e rho H x b) : Q b H := p G rho H b (Same.refl _) (List.prefix_refl _) I v
theorem sb_val (h : SE S N sc kk a f) (he : ∀ (env : Env) (whole : PySem.Sem Value), isTrue a env whole = (do let v ← whole; standAt a.pos; holding [v] (truthy v)) := by intro _ _; rfl) : SB S N sc kk a (asB f) := by
  obtain ⟨t, h1, h2⟩ := h.use
  refine ⟨fun Wx => tB (t Wx), fun X Wx g tk => pt_val (h1 X Wx g tk) (he _), fun Wx Fr G rho env M σ H Q I p => ?_⟩
  refine h2 Wx Fr G rho env M σ H _ I (Post.step (VR := UR S) p fun u e m G1 rho1 H1 v _ g r I1 v1 q => ?_)
  split at q
  · next b hb =>
    have cv := UR.cur I1 v1 hb
    cases cv
    exact ⟨b, rfl, here (VR := BR) q I1 rfl⟩
  · exact q.elim
theorem SC.sb (h : SC S N sc kk a f) : SB S N sc kk a (asB f) := by
  obtain ⟨t, h1, h2⟩ := h
  refine ⟨fun Wx => tTest (t Wx), fun X Wx g tk => (h1 X Wx g tk).2, fun Wx Fr G rho env M σ H Q I p => ?_⟩
  have h3 : Sem S (use f) (UR S) t := fun Wx Fr G rho env M σ H Q I p => h2 Wx Fr G rho env M σ H Q I (Post.step (VR := WR S) p fun w e m G1 rho1 H1 b _ g r I1 v q => by
    obtain ⟨G2, g2, I2, v2⟩ := v.use I1
    exact q G2 rho1 H1 b g2 (List.prefix_refl _) I2 v2)
  refine h3 Wx Fr G rho env M σ H _ I (Post.step (VR := UR S) p fun u e m G1 rho1 H1 v _ g r I1 v1 q => ?_)
  split at q
  · next b hb =>
    cases UR.cur I1 v1 hb
    exact ⟨b, rfl, here (VR := BR) q I1 rfl⟩
  · exact q.elim
theorem sb_tru (h : SE S N sc kk a f) (he : ∀ (env : Env) (whole : PySem.Sem Value), isTrue a env whole = (do let v ← whole; standAt a.pos; holding [v] (truthy v)) := by intro _ _; rfl) : SB S N sc kk a (asT f) := by
  obtain ⟨t, h1, h2⟩ := h.use
  refine ⟨fun Wx σ H Q => t Wx σ H fun x H' => ∃ k, TruV S.K x H' k ∧ Q k H', fun X Wx g tk => by have := pt_truth (h1 X Wx g tk) (he _); rw [g.K] at this; exact this, fun Wx Fr G rho env M σ H Q I p => ?_⟩
  refine h2 Wx Fr G rho env M σ H _ I (Post.step (VR := UR S) p fun u e m G1 rho1 H1 v _ g r I1 v1 q => ?_)
  split at q
  · next b hb =>
    obtain ⟨d, hd, ht⟩ := Option.bind_eq_some_iff.mp hb
    have cv := (UR.cur I1 v1 hd).deref I1.toMR
    have fin : Q b H1 := here (VR := BR) q I1 rfl
    refine ⟨b, ?_, fin⟩
    cases hdd : deref m d with
    | non => rw [hdd] at cv ht; cases cv; cases ht; rfl
    | bl k => rw [hdd] at cv ht; cases cv; cases ht; rfl
    | int k => rw [hdd] at cv ht; cases cv; cases ht; rfl
    | lst xs =>
      rw [hdd] at cv ht
      obtain ⟨p, vs, rfl, hp, z, t⟩ := cv
      cases ht
      refine .inl ⟨vs, SqL.of hp, ?_⟩
      cases t <;> rfl
    | tup xs =>
      rw [hdd] at cv ht
      obtain ⟨p, vs, rfl, hp, z, t⟩ := cv
      cases ht
      refine .inr (.inl ⟨vs, SqT.of hp, ?_⟩)
      cases t <;> rfl
    | _ => rw [hdd] at ht; cases ht
  · exact q.elim
theorem sb_not {g : En → Mem → Res Bool} (h : SB S N sc kk a g) : SB S N sc kk (.UnaryOp .Not a pos) (bNot g) := by
  obtain ⟨t, h1, h2⟩ := h
  refine ⟨fun Wx => tNot (t Wx), fun X Wx gd tk => pt_not (h1 X Wx gd tk), fun Wx Fr G rho env M σ H Q I p => ?_⟩
  refine h2 Wx Fr G rho env M σ H _ I (Post.step (VR := BR) p fun b e m G1 rho1 H1 v _ g r I1 v1 q => ?_)
  cases v1
  exact here (VR := BR) q I1 rfl
/-- a test whatever its whole is -/
def SW (S : Sg) (N : List Str) (sc : Scope) (kk : Kk) (e : Expr) (f : En → Mem → Res Bool) : Prop :=
  ∃ t : WX → TT, (∀ X Wx, Good S N sc kk X → Takes X Wx → PW X e (t Wx)) ∧ Sem S f BR t
theorem SW.sb {g : En → Mem → Res Bool} (h : SW S N sc kk a g) : SB S N sc kk a g := by
  obtain ⟨t, h1, h2⟩ := h
  exact ⟨t, fun X Wx gd tk => (h1 X Wx gd tk).pt, h2⟩
theorem sw_and1 {g : En → Mem → Res Bool} (h : SB S N sc kk a g) : SW S N sc kk (.BoolOp .And [a] pos) g := by
  obtain ⟨t, h1, h2⟩ := h
  exact ⟨t, fun X Wx gd tk => pw_and1 (h1 X Wx gd tk), h2⟩
theorem sw_or1 {g : En → Mem → Res Bool} (h : SB S N sc kk a g) : SW S N sc kk (.BoolOp .Or [a] pos) g := by
  obtain ⟨t, h1, h2⟩ := h
  exact ⟨t, fun X Wx gd tk => pw_or1 (h1 X Wx gd tk), h2⟩
theorem sem_and {g g' : En → Mem → Res Bool} {t u : WX → TT} (h2 : Sem S g BR t) (k2 : Sem S g' BR u) : Sem S (bAnd g g') BR (fun Wx => tAnd (t Wx) (u Wx)) := by
  intro Wx Fr G rho env M σ H Q I p
  refine h2 Wx Fr G rho env M σ H _ I (Post.step (VR := BR) p fun b e m G1 rho1 H1 v _ g r I1 v1 q => ?_)
  cases v1
  cases b with
  | true => exact k2 Wx Fr G1 rho1 e m σ H1 Q I1 q
  | false => exact here (VR := BR) q I1 rfl
theorem sem_or {g g' : En → Mem → Res Bool} {t u : WX → TT} (h2 : Sem S g BR t) (k2 : Sem S g' BR u) : Sem S (bOr g g') BR (fun Wx => tOr (t Wx) (u Wx)) := by
  intro Wx Fr G rho env M σ H Q I p
  refine h2 Wx Fr G rho env M σ H _ I (Post.step (VR := BR) p fun b e m G1 rho1 H1 v _ g r I1 v1 q => ?_)
  cases v1
  cases b with
  | true => exact here (VR := BR) q I1 rfl
  | false => exact k2 Wx Fr G1 rho1 e m σ H1 Q I1 q
theorem sw_and {g g' : En → Mem → Res Bool} {rest : List Expr} (h : SB S N sc kk a g) (h' : SW S N sc kk (.BoolOp .And (b :: rest) pos) g') : SW S N sc kk (.BoolOp .And (a :: b :: rest) pos) (bAnd g g') := by
  obtain ⟨t, h1, h2⟩ := h
  obtain ⟨u, k1, k2⟩ := h'
  exact ⟨_, fun X Wx gd tk => pw_and (h1 X Wx gd tk) (k1 X Wx gd tk), sem_and h2 k2⟩
theorem sw_or {g g' : En → Mem → Res Bool} {rest : List Expr} (h : SB S N sc kk a g) (h' : SW S N sc kk (.BoolOp .Or (b :: rest) pos) g') : SW S N sc kk (.BoolOp .Or (a :: b :: rest) pos) (bOr g g') := by
  obtain ⟨t, h1, h2⟩ := h
  obtain ⟨u, k1, k2⟩ := h'
  exact ⟨_, fun X Wx gd tk => pw_or (h1 X Wx gd tk) (k1 X Wx gd tk), sem_or h2 k2⟩

/-! ### and, or, not as values of truth -/
def eB (g : En → Mem → Res Bool) : En → Mem → Res W := fun env M => (g env M).bind fun b e m => .ok (.v (.bl b)) e m
def eAnd (f : En → Mem → Res W) (f2 : En → Mem → Res W) : En → Mem → Res W := fun env M => (asB f env M).bind fun b e m => if b then f2 e m else .ok (.v (.bl false)) e m
def eOr (f : En → Mem → Res W) (f2 : En → Mem → Res W) : En → Mem → Res W := fun env M => (asB f env M).bind fun b e m => if b then .ok (.v (.bl true)) e m else f2 e m
def eNot (f : En → Mem → Res W) : En → Mem → Res W := fun env M => (asB f env M).bind fun b e m => .ok (.v (.bl (!b))) e m
/-- the value of truth of an expression -/
theorem sem_asB {t : WX → TE} (h2 : Sem S (use f) (UR S) t) : Sem S (asB f) BR (fun Wx => tB (t Wx)) := by
  intro Wx Fr G rho env M σ H Q I p
  refine h2 Wx Fr G rho env M σ H _ I (Post.step (VR := UR S) p fun u e m G1 rho1 H1 v _ g r I1 v1 q => ?_)
  split at q
  · next b hb =>
    have cv := UR.cur I1 v1 hb
    cases cv
    exact ⟨b, rfl, here (VR := BR) q I1 rfl⟩
  · exact q.elim
theorem se_one {op} (h : SE S N sc kk a f) : SE S N sc kk (.BoolOp op [a] pos) f := by
  obtain ⟨t, h1, h2⟩ := h
  exact ⟨t, fun X Wx gd tk => pe_one (h1 X Wx gd tk), h2⟩
theorem se_and {rest : List Expr} (h : SE S N sc kk a f) (h' : SE S N sc kk (.BoolOp .And (b :: rest) pos) f2) : SE S N sc kk (.BoolOp .And (a :: b :: rest) pos) (eAnd f f2) := by
  obtain ⟨t, h1, h2⟩ := h.use
  obtain ⟨u, k1, k2⟩ := h'
  refine ⟨fun Wx => tAndV (t Wx) (u Wx), fun X Wx gd tk => pe_and (h1 X Wx gd tk) (k1 X Wx gd tk), fun Wx Fr G rho env M σ H Q I p => ?_⟩
  have := sem_asB h2 Wx Fr G rho env M σ H (fun c H1 => if c = true then u Wx σ H1 Q else Q (.bl false) H1) I (Post.step (VR := BR) p fun b e m G1 rho1 H1 v _ g r I1 v1 q => ?_)
  · refine (this : tB (t Wx) σ H _)
  · cases v1
    cases b with
    | true => exact k2 Wx Fr G1 rho1 e m σ H1 Q I1 q
    | false => exact here (VR := WR S) q I1 (.bl false)
theorem se_or {rest : List Expr} (h : SE S N sc kk a f) (h' : SE S N sc kk (.BoolOp .Or (b :: rest) pos) f2) : SE S N sc kk (.BoolOp .Or (a :: b :: rest) pos) (eOr f f2) := by
  obtain ⟨t, h1, h2⟩ := h.use
  obtain ⟨u, k1, k2⟩ := h'
  refine ⟨fun Wx => tOrV (t Wx) (u Wx), fun X Wx gd tk => pe_or (h1 X Wx gd tk) (k1 X Wx gd tk), fun Wx Fr G rho env M σ H Q I p => ?_⟩
  have := sem_asB h2 Wx Fr G rho env M σ H (fun c H1 => if c = true then Q (.bl true) H1 else u Wx σ H1 Q) I (Post.step (VR := BR) p fun b e m G1 rho1 H1 v _ g r I1 v1 q => ?_)
  · refine (this : tB (t Wx) σ H _)
  · cases v1
    cases b with
    | true => exact here (VR := WR S) q I1 (.bl true)
    | false => exact k2 Wx Fr G1 rho1 e m σ H1 Q I1 q
theorem se_not (h : SE S N sc kk a f) : SE S N sc kk (.UnaryOp .Not a pos) (eNot f) := by
  obtain ⟨t, h1, h2⟩ := h.use
  refine ⟨fun Wx => tNotV (t Wx), fun X Wx gd tk => pe_not (h1 X Wx gd tk), fun Wx Fr G rho env M σ H Q I p => ?_⟩
  have := sem_asB h2 Wx Fr G rho env M σ H (fun c H1 => Q (.bl (!c)) H1) I (Post.step (VR := BR) p fun b e m G1 rho1 H1 v _ g r I1 v1 q => ?_)
  · refine (this : tB (t Wx) σ H _)
  · cases v1
    exact here (VR := WR S) q I1 (.bl (!b))
/-- a if t else b -/
def eIf (g : En → Mem → Res Bool) (f1 f2 : En → Mem → Res W) : En → Mem → Res W := fun env M => (g env M).bind fun b e m => if b then f1 e m else f2 e m
theorem se_if {g : En → Mem → Res Bool} (hc : SB S N sc kk c g) (ha : SE S N sc kk a f1) (hb : SE S N sc kk b f2) : SE S N sc kk (.IfExp c a b pos) (eIf g f1 f2) := by
  obtain ⟨t, h1, h2⟩ := hc
  obtain ⟨ta, a1, a2⟩ := ha
  obtain ⟨tb, b1, b2⟩ := hb
  refine ⟨fun Wx => tIf (t Wx) (ta Wx) (tb Wx), fun X Wx gd tk => pe_ifExp (h1 X Wx gd tk) (a1 X Wx gd tk) (b1 X Wx gd tk), fun Wx Fr G rho env M σ H Q I p => ?_⟩
  refine h2 Wx Fr G rho env M σ H _ I (Post.step (VR := BR) p fun k e m G1 rho1 H1 v _ g r I1 v1 q => ?_)
  cases v1
  cases k with
  | true => exact a2 Wx Fr G1 rho1 e m σ H1 Q I1 q
  | false => exact b2 Wx Fr G1 rho1 e m σ H1 Q I1 q
/-- two comparisons, the middle asked once -/
def eChain (g g' : G2) (f1 f2 f3 : En → Mem → Res W) : En → Mem → Res W := fun env M => (use f1 env M).bind fun u1 e m => (use f2 e m).bind fun u2 e m => match u1.get e, u2.get e with
  | some x, some y => (match g m x y with
    | some (.v (.bl true)) => (use f3 e m).bind fun u3 e m => (match u2.get e, u3.get e with
      | some y, some z => (match g' m y z with
        | some w => .ok w e m
        | none => .no)
      | _, _ => .no)
    | some (.v (.bl false)) => .ok (.v (.bl false)) e m
    | _ => .no)
  | _, _ => .no
theorem sc_chain {op op' : CmpOp} {r r' : R2} {g g' : G2} (ho : ∀ X : Cx, Good S N sc kk X → OpR X (compareOp op) r) (ho' : ∀ X : Cx, Good S N sc kk X → OpR X (compareOp op') r') (o : OpSem S r g) (o' : OpSem S r' g')
    (ha : SE S N sc kk a f1) (hb : SE S N sc kk b f2) (hc : SE S N sc kk c f3) (h1 : lastMarks [op, op'] [b, c] = false) : SC S N sc kk (.Compare a [op, op'] [b, c] pos) (eChain g g' f1 f2 f3) := by
  obtain ⟨ta, a1, a2⟩ := ha.use
  obtain ⟨tb, b1, b2⟩ := hb.use
  obtain ⟨tc, c1, c2⟩ := hc.use
  refine ⟨fun Wx => tChain r r' (ta Wx) (tb Wx) (tc Wx), fun X Wx gd tk => ⟨pe_chain (ho X gd) (ho' X gd) (a1 X Wx gd tk) (b1 X Wx gd tk) (c1 X Wx gd tk) h1, pt_chain (ho X gd) (ho' X gd) (a1 X Wx gd tk) (b1 X Wx gd tk) (c1 X Wx gd tk) h1⟩, fun Wx Fr G rho env M σ H Q I p => ?_⟩
  refine a2 Wx Fr G rho env M σ H _ I (Post.step (VR := UR S) p fun u e m G1 rho1 H1 vx _ g1 r1 I1 v1 q => ?_)
  refine b2 Wx Fr G1 rho1 e m σ H1 _ I1 (Post.step (VR := UR S) q fun u' e' m' G2 rho2 H2 vy _ g2 r2 I2 v2 q2 => ?_)
  have v1' : UR S Fr σ G2 e' rho2 H2 u vx := UR.later (G' := G) (G2 := G) v1 g2 r2
  split at q2
  · next x y hx hy =>
    split at q2
    · next hg =>
      refine o Fr G2 rho2 e' m' σ H2 x y vx vy _ _ I2 (UR.cur I2 v1' hx) (UR.cur I2 v2 hy) hg fun G3 H3 z g3 I3 wr => ?_
      cases (wr : Rep S rho2 G3 (.bl true) z)
      refine ⟨true, rfl, ?_⟩
      rw [if_pos rfl]
      refine c2 Wx Fr G3 rho2 e' m' σ H3 _ I3 (Post.step (VR := UR S) (Post.later q2 g3 (List.prefix_refl _)) fun u3 e4 m4 G4 rho4 H4 vz _ g4 r4 I4 v4 q4 => ?_)
      have v2' : UR S Fr σ G4 e4 rho4 H4 u' vy := UR.later (G' := G) (G2 := G) v2 (g3.trans g4) r4
      split at q4
      · next y2 z2 hy2 hz2 =>
        split at q4
        · next w hw => exact o' Fr G4 rho4 e4 m4 σ H4 y2 z2 vy vz w Q I4 (UR.cur I4 v2' hy2) (UR.cur I4 v4 hz2) hw fun G5 H5 b5 g5 I5 w5 => q4 G5 rho4 H5 b5 g5 (List.prefix_refl _) I5 w5
        · exact q4.elim
      · exact q4.elim
    · next hg =>
      refine o Fr G2 rho2 e' m' σ H2 x y vx vy _ _ I2 (UR.cur I2 v1' hx) (UR.cur I2 v2 hy) hg fun G3 H3 z g3 I3 wr => ?_
      cases (wr : Rep S rho2 G3 (.bl false) z)
      refine ⟨false, rfl, ?_⟩
      rw [if_neg Bool.false_ne_true]
      exact here (VR := WR S) (Post.later q2 g3 (List.prefix_refl _)) I3 (.bl false)
    · exact q2.elim
  · exact q2.elim
theorem osl_lt : OpSem S (rI0 fun i j => .bl (decide (i < j))) gLt := os_int rI0_in (fun _ _ _ => trivial) fun _ _ => rfl
theorem osl_le : OpSem S (rI0 fun i j => .bl (decide (i ≤ j))) gLe := os_int rI0_in (fun _ _ _ => trivial) fun _ _ => rfl
theorem sc_le_lt (ha : SE S N sc kk a f1) (hb : SE S N sc kk b f2) (hc : SE S N sc kk c f3) (hm : lastMarks [.LtE, .Lt] [b, c] = false := by with_unfolding_all rfl) : SC S N sc kk (.Compare a [.LtE, .Lt] [b, c] pos) (eChain gLe gLt f1 f2 f3) := sc_chain (fun X _ => op_le) (fun X _ => op_lt) osl_le osl_lt ha hb hc hm
theorem sc_le_le (ha : SE S N sc kk a f1) (hb : SE S N sc kk b f2) (hc : SE S N sc kk c f3) (hm : lastMarks [.LtE, .LtE] [b, c] = false := by with_unfolding_all rfl) : SC S N sc kk (.Compare a [.LtE, .LtE] [b, c] pos) (eChain gLe gLe f1 f2 f3) := sc_chain (fun X _ => op_le) (fun X _ => op_le) osl_le osl_le ha hb hc hm
theorem sc_lt_lt (ha : SE S N sc kk a f1) (hb : SE S N sc kk b f2) (hc : SE S N sc kk c f3) (hm : lastMarks [.Lt, .Lt] [b, c] = false := by with_unfolding_all rfl) : SC S N sc kk (.Compare a [.Lt, .Lt] [b, c] pos) (eChain gLt gLt f1 f2 f3) := sc_chain (fun X _ => op_lt) (fun X _ => op_lt) osl_lt osl_lt ha hb hc hm
/-- -a -/
def eNeg (f : En → Mem → Res W) : En → Mem → Res W := fun env M => (use f env M).bind fun u e m => match u.get e with
  | some (.int i) => .ok (.v (.int (-i))) e m
  | _ => .no
theorem se_neg (ha : SE S N sc kk a f) : SE S N sc kk (.UnaryOp .USub a pos) (eNeg f) := by
  obtain ⟨t, h1, h2⟩ := ha.use
  refine ⟨_, fun X Wx gd tk => pe_un un_neg (h1 X Wx gd tk), fun Wx Fr G rho env M σ H Q I p => ?_⟩
  refine h2 Wx Fr G rho env M σ H _ I (Post.step (VR := UR S) p fun u e m G1 rho1 H1 v _ g r I1 v1 q => ?_)
  split at q
  · next i hi =>
    cases UR.cur I1 v1 hi
    exact ⟨i, rfl, here (VR := WR S) q I1 (.int _)⟩
  · exact q.elim

/-! ### displays -/
def eLst (fs : En → Mem → Res (List D)) : En → Mem → Res W := fun env M => (fs env M).bind fun ds e m => if ds.length ≤ sizeLine then .ok (.o (.lst ds)) e m else .no
def eTup (fs : En → Mem → Res (List D)) : En → Mem → Res W := fun env M => (fs env M).bind fun ds e m => if ds.length ≤ sizeLine then .ok (.v (.tup ds)) e m else .no
theorem se_lst {es : List Expr} {fs : En → Mem → Res (List D)} (h : SDs S N sc kk es fs) : SE S N sc kk (.List es pos) (eLst fs) := by
  obtain ⟨t, h1, h2⟩ := h
  refine ⟨fun Wx => tLst (t Wx), fun X Wx gd tk => pe_lst (h1 X Wx gd tk), fun Wx Fr G rho env M σ H Q I p => ?_⟩
  refine h2 Wx Fr G rho env M σ H _ I (Post.step (VR := DRs S) p fun ds e m G1 rho1 H1 vs _ g r I1 v1 q => ?_)
  split at q
  · next hz =>
    have v1 : Reps S rho1 G1 ds vs := v1
    exact ⟨by rw [← v1.length]; exact hz, new_list I1 v1 hz fun G2 H2 b g2 I2 w2 => q G2 rho1 H2 b g2 (List.prefix_refl _) I2 w2⟩
  · exact q.elim
theorem se_tup {es : List Expr} {x1} {fs : En → Mem → Res (List D)} (h : SDs S N sc kk es fs) : SE S N sc kk (.Tuple es x1 pos) (eTup fs) := by
  obtain ⟨t, h1, h2⟩ := h
  refine ⟨fun Wx => tTup (t Wx), fun X Wx gd tk => pe_tup (h1 X Wx gd tk), fun Wx Fr G rho env M σ H Q I p => ?_⟩
  refine h2 Wx Fr G rho env M σ H _ I (Post.step (VR := DRs S) p fun ds e m G1 rho1 H1 vs _ g r I1 v1 q => ?_)
  split at q
  · next hz =>
    have v1 : Reps S rho1 G1 ds vs := v1
    exact ⟨by rw [← v1.length]; exact hz, new_tup I1 v1 hz fun G2 H2 b g2 I2 w2 => q G2 rho1 H2 b g2 (List.prefix_refl _) I2 w2⟩
  · exact q.elim
end
end Ow
/-! enumerate and zip (two, three) over lists and tuples in any mix. -/
namespace Ow
open PySem PySem.Spec PyProof.Rows L2

def SqX (K : PySem.W.Frag) (t : Bool) (H : Hp) (a : Addr) (xs : List V) : Prop := match t with
  | true => SqT K H a xs
  | false => SqL K H a xs
def RawX (t : Bool) (h : Heap) (a : Addr) (its : Array Value) : Prop := match t with
  | true => h.IsTuple a its
  | false => h.IsList a its
def ItX (t : Bool) (h : Heap) (it a : Addr) (i : Nat) : Prop := match t with
  | true => h.IsTupleIter it a i
  | false => h.IsListIter it a i
def objX (t : Bool) (a : Addr) : Obj := match t with
  | true => { cls := .type "tuple_iterator", data := .fields #[.ref a, .int 0 0] }
  | false => { cls := .type "list_iterator", data := .fields #[.ref a, .int 0 0] }
section
variable {X : Cx} {pins : List (Addr × Obj)} {σ : L2.St} {H : Hp} {s : Shared} {h h' : Heap} {a b it : Addr} {xs ys : List V} {its : Array Value} {i : Nat}
theorem seqX (I : Inv X pins σ H s) : ∀ {t : Bool}, SqX X.K t H a xs → ∃ its : List Value, Vals xs its ∧ RawX t s.heap a its.toArray
  | true, q => let ⟨its, r, p, _⟩ := I.tuple q; ⟨its, r, p⟩
  | false, q => let ⟨its, r, p, _⟩ := I.list q; ⟨its, r, p.isList⟩
theorem seqX_inj (I : Inv X pins σ H s) : ∀ {t : Bool}, SqX X.K t H a xs → SqX X.K t H a ys → xs = ys
  | true, q, q' => I.tuple_inj q q'
  | false, q, q' => I.list_inj q q'
theorem rawX_ne : ∀ {t : Bool}, RawX t h a its → ItX t h it b i → a ≠ it
  | true, ⟨o, e, _, n, d⟩, ⟨o', e', _, d'⟩ => fun z => by subst z; rw [e] at e'; cases e'; rw [d] at d'; cases d'
  | false, ⟨o, e, _, n, d⟩, ⟨o', e', _, d'⟩ => fun z => by subst z; rw [e] at e'; cases e'; rw [d] at d'; cases d'
theorem itX_obj : ∀ {t : Bool}, ItX t h it a i → ∃ o, h.get? it = some o ∧ ∀ v, o.data ≠ .cell v
  | true, ⟨o, e, _, d⟩ => ⟨o, e, fun v q => by rw [d] at q; cases q⟩
  | false, ⟨o, e, _, d⟩ => ⟨o, e, fun v q => by rw [d] at q; cases q⟩
theorem itX_at : ∀ {t : Bool}, ItX t h it a i → (∀ o, h.get? it = some o → h'.get? it = some o) → ItX t h' it a i
  | true, q, k => q.at k
  | false, q, k => q.at k
theorem rawX_lt : ∀ {t : Bool}, RawX t h a its → a < h.objs.size
  | true, ⟨_, e, _⟩ => Heap.lt_size e
  | false, ⟨_, e, _⟩ => Heap.lt_size e
theorem drawsX {prog : Program} {w : World} {A : Around} (hh : A.handled = none) (it a : Addr) (hne : a ≠ it) (its : Array Value) : ∀ t : Bool, Draws prog w A it [it, a] its.size (fun i v => its[i]? = some v) (fun i h => ItX t h it a i ∧ RawX t h a its)
  | true => Draws.tuple hh it a hne its
  | false => Draws.list hh it a hne its
theorem beginsX (a : Addr) (its : Array Value) : ∀ t : Bool, Begins (.ref a) (objX t a) fun h => RawX t h a its
  | true => begins_tuple a its
  | false => begins_list a its
theorem itX_new : ∀ {t : Bool}, h.get? it = some (objX t a) → ItX t h it a 0
  | true, e => ⟨_, e, rfl, rfl⟩
  | false, e => ⟨_, e, rfl, rfl⟩
end

/-! ### enumerate -/
def IeX (K : PySem.W.Frag) (t : Bool) (a : Addr) : It :=
  ⟨fun i H => ∃ (xs : List V) (x : V), SqX K t H a xs ∧ xs[i]? = some x, fun i H v H' => ∃ T x, v = .ref T ∧ H T = none ∧ H' = upd H T (.tup [.int (i : Nat), x]) ∧ ∀ xs, SqX K t H a xs → xs[i]? = some x, fun i H => ∃ xs : List V, SqX K t H a xs ∧ xs.length = i⟩
theorem turn_enumX {P : Program} {w : World} {K : PySem.W.Frag} {elts : List Expr} {kk : Nat} {tpos : Pos} (t : Bool) (a e it : Addr) :
    Turn P w K (.Tuple elts kk tpos) (IeX K t a) [e, it] e (fun i h => (∃ old, IsEnum h e it ((i : Nat) : Int) old) ∧ ItX t h it a i ∧ e ≠ it) where
  mem := by simp
  obj := fun i h st b hb => by
    obtain ⟨⟨old, he⟩, hi, _⟩ := st
    have e' : b = e ∨ b = it := by simpa using hb
    rcases e' with z | z
    · rw [z]; exact ⟨_, he, fun v q => nomatch q⟩
    · rw [z]; exact itX_obj hi
  keep := fun i h h' st k => let ⟨⟨old, he⟩, hi, hne⟩ := st; ⟨⟨old, k e (by simp) _ he⟩, itX_at hi fun o q => k it (by simp) o q, hne⟩
  item := by
    intro X hP hw hK hc i pins s σ H E I hf st hg
    subst hP hw hK
    obtain ⟨⟨old, he⟩, hit, hne⟩ := st
    obtain ⟨xs, x, hq, hx⟩ := hg
    obtain ⟨its, rv, p⟩ := seqX I hq
    obtain ⟨u, hu, ru⟩ := rv.get hx
    have hel : e < s.heap.objs.size := Heap.lt_size he
    have hil : it < s.heap.objs.size := by obtain ⟨_, q, _⟩ := itX_obj hit; exact Heap.lt_size q
    have hai : a ≠ it := rawX_ne p hit
    have hae : e ≠ a := fun z => by
      subst z
      cases t with
      | true => obtain ⟨_, q, _, _, d⟩ := p; rw [he] at q; cases q; cases d
      | false => obtain ⟨_, q, _, _, d⟩ := p; rw [he] at q; cases q; cases d
    have hlt : i < its.toArray.size := by
      have := (List.getElem?_eq_some_iff.mp hu).1
      simpa using this
    refine wpAny_pyNext_enum_itemD (drawsX (A := X.A.in1) (I.ok.hd hc) it a hai its.toArray t) he ⟨hit, p⟩ hlt hne (by simp [hne, hae]) fun x' h' tk hx' ho st' hT hsz hk => ?_
    have ex : x' = u := by
      rw [show its.toArray[i]? = its[i]? by simp, hu] at hx'
      exact (Option.some.inj hx').symm
    subst ex
    obtain ⟨hit', _⟩ := st'
    refine ⟨_, rfl, wpAny_letOwnedTupleGo_enum (s := { s with heap := h', toks := tk + 1 }) ho fun h'' he' sb => ?_⟩
    have hT2 : h''.get? s.heap.objs.size = some { cls := .type "tuple", data := .seq #[.int i tk, x'] } := (sb.2 _ (Nat.ne_of_gt hel)).trans hT
    have new : ObjOk X.prog X.w (upd H s.heap.objs.size (.tup [.int (i : Nat), x])) h'' s.heap.objs.size (.tup [.int (i : Nat), x]) :=
      ⟨by show 2 ≤ sizeLine; decide, [.int i tk, x'], .cons ⟨_, rfl⟩ (.cons ru .nil), ⟨_, hT2, rfl, _, rfl⟩⟩
    have I1 : Inv X pins σ (upd H s.heap.objs.size (.tup [.int (i : Nat), x])) { s with heap := h'', toks := tk + 1 } :=
      I.turnedNew (ch := [e, it]) (fun b ob hb q => (sb.2 b (fun z => hb (by simp [z]))).trans (hk b ob (fun z => hb (by simp [z])) (fun z => hb (by simp [z])) q)) hf (Nat.le_refl _) new
    refine ⟨.ref s.heap.objs.size, _, I1, rfl, ⟨_, x, rfl, I.hok.fresh (Nat.le_refl _), rfl, fun ys hy => by rw [seqX_inj I hy hq]; exact hx⟩, ⟨⟨x', ?_⟩, itX_at hit' fun o q => (sb.2 it (Ne.symm hne)).trans q, hne⟩, fun b hb => ?_⟩
    · have e1 : ((i + 1 : Nat) : Int) = (i : Int) + 1 := by omega
      rw [e1]; exact he'
    · have hb' : b < s.heap.objs.size := by
        have e' : b = e ∨ b = it := by simpa using hb
        rcases e' with z | z
        · rw [z]; exact hel
        · rw [z]; exact hil
      rw [upd_ne (Nat.ne_of_lt hb')]
      exact (hf b hb).1
  done := by
    intro X hP hw hK hc i pins s σ H E I hf st hg
    subst hP hw hK
    obtain ⟨⟨old, he⟩, hit, hne⟩ := st
    obtain ⟨xs, hq, hx⟩ := hg
    obtain ⟨its, rv, p⟩ := seqX I hq
    obtain ⟨f0, f1, f2, f3, f4, f5⟩ := hf it (by simp)
    have hl : i = its.toArray.size := by rw [← hx, rv.length]; simp
    exact wpAny_pyNext_enum_endD (drawsX (A := X.A.in1) (I.ok.hd hc) it a (rawX_ne p hit) its.toArray t) he ⟨by rw [← hl]; exact hit, p⟩ fun h' eb => ⟨rfl, I.turned (t' := s.toks) (fun b o hb q => eb b o hb q) f0 f1 f3 f4 f5⟩
  self := fun A i s Q E st h => let ⟨⟨_, he⟩, _⟩ := st; wpAny_pyIter_enum he h
/-- enumerate(v), v a list or a tuple -/
theorem meets_enum1 {v : Value} {o : Obj} {Hh : Heap → Prop} (B : Begins v o Hh) :
    Meets (Builtin.«enumerate.__new__» ⟨[.type "enumerate", v], []⟩) (fun _ Rr s => Hh s.heap ∧
      Rr (.ok (.ret (.ref (s.heap.push o).objs.size))) { s with heap := (s.heap.push o).push { cls := .type "enumerate", data := .fields #[.none, .bool false, .ref s.heap.objs.size, rawInt 0, .none, .none] } }) :=
  .of_wp fun prog w A Rr s h => by
    obtain ⟨hp, g, d, tk, os⟩ := s
    obtain ⟨h1, h⟩ := h
    have hsub := sub_enumerate
    have step : ∀ {A2 : Around} {E2 : Value → Shared → Prop} {Q2 : Value → Shared → Prop}, Q2 (.ref hp.objs.size) ⟨hp.push o, g, d, tk, os⟩ → wpAny (model prog w) A2 (pyIter v) Q2 E2 ⟨hp, g, d, tk, os⟩ :=
      fun z => B.iter prog w _ _ ⟨hp, g, d, tk, os⟩ _ h1 z
    wp_walk using step
    refine wpAny_stack_any fun stk => wpAny_pure ?_
    split
    · rename_i c _ _ _ _ _
      cases (c == Value.type "enumerate")
      · wp_walk using step
        exact ⟨_, rfl, h⟩
      · wp_walk using step
        exact ⟨_, rfl, h⟩
    · wp_walk using step
      exact ⟨_, rfl, h⟩
theorem call_enum1 {prog : Program} {w : World} {A : Around} {E : Value → Shared → Prop} {s : Shared} {v : Value} {o : Obj} {Hh : Heap → Prop} {Q : Value → Shared → Prop} (B : Begins v o Hh) (h1 : Hh s.heap)
    (h : ∀ h', IsEnum h' (s.heap.objs.size + 1) s.heap.objs.size 0 .none → h'.get? s.heap.objs.size = some o → (∀ b ob, s.heap.get? b = some ob → h'.get? b = some ob) → Q (.ref (s.heap.objs.size + 1)) { s with heap := h' }) :
    wpAny (model prog w) A (call (.type "enumerate") [v]) Q E s := by
  refine callType_new F.called_enumerate (by decide) (F.typeCall_enumerate_1 _) (F.newCall_enumerate_1 _) (fun obj => F.args_object_init_2 obj _) F.entry_enumerate_new (meets_enum1 B) ⟨h1, ?_⟩
  have hz : (s.heap.push o).objs.size = s.heap.objs.size + 1 := Heap.size_push ..
  show _ ∧ _
  rw [hz]
  have he : IsEnum ((s.heap.push o).push { cls := .type "enumerate", data := .fields #[.none, .bool false, .ref s.heap.objs.size, rawInt 0, .none, .none] }) (s.heap.objs.size + 1) s.heap.objs.size 0 .none := by
    have z := Heap.get?_push_size (s.heap.push o) (o := { cls := .type "enumerate", data := .fields #[.none, .bool false, .ref s.heap.objs.size, rawInt 0, .none, .none] }) rfl
    rw [hz] at z
    exact z
  exact ⟨⟨_, he, rfl⟩, h _ he (Heap.get?_push_of_some _ (Heap.get?_push_size _ B.free)) fun b ob q => Heap.get?_push_of_some _ (Heap.get?_push_of_some _ q)⟩
def iEnX (K : PySem.W.Frag) (ta : TA) : TI := fun σ H R => ta σ H fun vs H1 => ∃ t a xs, vs = [.ref a] ∧ SqX K t H1 a xs ∧ R (IeX K t a) H1
theorem fits0 : (-(2 ^ 63) : Int) ≤ 0 ∧ (0 : Int) < 2 ^ 63 := by decide
theorem pi_enumX {X : Cx} {e : Expr} {ta : TA} {p pos tpos : Pos} {elts : List Expr} {kk : Nat} (hg : Gl X "enumerate") (hm : X.mg "enumerate" = none) (ha : PA X [e] ta) (hs : starEach [e] X.env = [(false, eval e X.env)] := by rfl) :
    PI X (.Tuple elts kk tpos) (.Call (.Name "enumerate" p) [e] [] pos) (iEnX X.K ta) := by
  refine ⟨fun pins s σ H R I h => ?_⟩
  refine Call_ (ld_blt I hg hm boot_enumerate (PyProof.Rows.callWith_type1 (thn (ha.run pos pins s σ H _ I h) fun us s1 ⟨vs, H1, I1, r1, q1⟩ => ?_) hs rfl))
  obtain ⟨t, a, xs, ex, hq, q⟩ := q1
  subst ex
  cases r1 with
  | cons r rr =>
    cases rr
    cases r
    obtain ⟨its, rv, p'⟩ := seqX I1 hq
    have fin : ∀ h', IsEnum h' (s1.heap.objs.size + 1) s1.heap.objs.size 0 .none → h'.get? s1.heap.objs.size = some (objX t a) → (∀ b o, s1.heap.get? b = some o → h'.get? b = some o) →
        wpAny (model X.prog X.w) X.A (pyIter (.ref (s1.heap.objs.size + 1))) (PIE X pins σ (.Tuple elts kk tpos) R) X.xe { s1 with heap := h' } := fun h' he hit hk => wpAny_pyIter_enum he (by
      have I2 : Inv X pins σ H1 { s1 with heap := h' } := I1.kept (t' := s1.toks) hk
      refine ⟨s1.heap.objs.size + 1, [s1.heap.objs.size + 1, s1.heap.objs.size], _, _, H1, rfl, I2, turn_enumX t a (s1.heap.objs.size + 1) s1.heap.objs.size, ⟨⟨.none, he⟩, itX_new hit, Nat.succ_ne_self _⟩, fun b hb => ?_, q⟩
      have e' : b = s1.heap.objs.size + 1 ∨ b = s1.heap.objs.size := by simpa using hb
      have hle : s1.heap.objs.size ≤ b := by
        rcases e' with z | z
        · rw [z]; exact Nat.le_add_right _ _
        · rw [z]; exact Nat.le_refl _
      exact I1.fpOk hle (I1.hok.fresh hle))
    exact call_enum1 (beginsX a its.toArray t) p' fin

theorem valsN2 {x y : V} {us : List Value} (r : Vals [x, y] us) : ∃ u v, us = [u, v] ∧ RelV x u ∧ RelV y v := by
  cases r with
  | cons r1 t => cases t with
    | cons r2 t => cases t; exact ⟨_, _, rfl, r1, r2⟩
theorem valsN3 {x y z : V} {us : List Value} (r : Vals [x, y, z] us) : ∃ u v w, us = [u, v, w] ∧ RelV x u ∧ RelV y v ∧ RelV z w := by
  cases r with
  | cons r1 t => cases t with
    | cons r2 t => cases t with
      | cons r3 t => cases t; exact ⟨_, _, _, rfl, r1, r2, r3⟩

/-! ### zip of 2 -/
def Iz2 (K : PySem.W.Frag) (t1 t2 : Bool) (a1 a2 : Addr) : It :=
  ⟨fun i H => ∃ (xs1 xs2 : List V) (y1 y2 : V), SqX K t1 H a1 xs1 ∧ SqX K t2 H a2 xs2 ∧ xs1[i]? = some y1 ∧ xs2[i]? = some y2,
    fun i H v H' => ∃ (T : Addr) (y1 y2 : V), v = .ref T ∧ H T = none ∧ H' = upd H T (.tup [y1, y2]) ∧ (∀ l, SqX K t1 H a1 l → l[i]? = some y1) ∧ (∀ l, SqX K t2 H a2 l → l[i]? = some y2),
    fun i H => ∃ (xs1 xs2 : List V), SqX K t1 H a1 xs1 ∧ SqX K t2 H a2 xs2 ∧ i = min xs1.length xs2.length⟩
theorem turn_zip2 {P : Program} {w : World} {K : PySem.W.Frag} {elts : List Expr} {kk : Nat} {tpos : Pos} (t1 t2 : Bool) {a1 a2 z TI TO i1 i2 : Addr} (D : ZipSep2 z TI TO i1 i2 [i1, a1] [i2, a2]) :
    Turn P w K (.Tuple elts kk tpos) (Iz2 K t1 t2 a1 a2) [z, TI, TO, i1, i2] z (fun i h => IsZip h z TI TO .none ∧ IsTupOf2 h TI (.ref i1) (.ref i2) ∧ (∃ b1 b2, IsTupOf2 h TO b1 b2) ∧ ItX t1 h i1 a1 i ∧ ItX t2 h i2 a2 i) where
  mem := by simp
  obj := fun i h st c hc => by
    obtain ⟨hz, hTI, ⟨b1, b2, hTO⟩, h1, h2⟩ := st
    have e' : c = z ∨ c = TI ∨ c = TO ∨ c = i1 ∨ c = i2 := by simpa using hc
    rcases e' with q | q | q | q | q
    · rw [q]; exact ⟨_, hz, fun v q => nomatch q⟩
    · rw [q]; exact ⟨_, hTI, fun v q => nomatch q⟩
    · rw [q]; exact ⟨_, hTO, fun v q => nomatch q⟩
    · rw [q]; exact itX_obj h1
    · rw [q]; exact itX_obj h2
  keep := fun i h h' st k => by
    obtain ⟨hz, hTI, ⟨b1, b2, hTO⟩, h1, h2⟩ := st
    exact ⟨k z (by simp) _ hz, k TI (by simp) _ hTI, ⟨b1, b2, k TO (by simp) _ hTO⟩, itX_at h1 fun o q => k i1 (by simp) o q, itX_at h2 fun o q => k i2 (by simp) o q⟩
  item := by
    intro X hP hw hK hc i pins s σ H E I hf st hg
    subst hP hw hK
    obtain ⟨hz, hTI, ⟨b1, b2, hTO⟩, h1, h2⟩ := st
    obtain ⟨xs1, xs2, y1, y2, hq1, hq2, hx1, hx2⟩ := hg
    obtain ⟨its1, rv1, p1⟩ := seqX I hq1
    obtain ⟨u1, hu1, ru1⟩ := rv1.get hx1
    have hl1 : i < its1.toArray.size := by have := (List.getElem?_eq_some_iff.mp hu1).1; simpa using this
    obtain ⟨its2, rv2, p2⟩ := seqX I hq2
    obtain ⟨u2, hu2, ru2⟩ := rv2.get hx2
    have hl2 : i < its2.toArray.size := by have := (List.getElem?_eq_some_iff.mp hu2).1; simpa using this
    have hzl : z < s.heap.objs.size := Heap.lt_size hz
    refine wpAny_pyNext_zipD2_item D (drawsX (A := X.A.in1) (I.ok.hd hc) i1 a1 (rawX_ne p1 h1) its1.toArray t1) (drawsX (A := X.A.in1) (I.ok.hd hc) i2 a2 (rawX_ne p2 h2) its2.toArray t2) hz hTI hTO ⟨h1, p1⟩ ⟨h2, p2⟩ hl1 hl2 fun v1 v2 h' tk hv1 hv2 z' TO' st1 st2 hT hsz hk => ?_
    have e1 : v1 = u1 := by
      rw [show its1.toArray[i]? = its1[i]? by simp, hu1] at hv1
      exact (Option.some.inj hv1).symm
    subst e1
    have e2 : v2 = u2 := by
      rw [show its2.toArray[i]? = its2[i]? by simp, hu2] at hv2
      exact (Option.some.inj hv2).symm
    subst e2
    obtain ⟨st1, _⟩ := st1
    obtain ⟨st2, _⟩ := st2
    refine ⟨_, rfl, wpAny_letOwnedTupleGo_zip (s := { s with heap := h', toks := tk }) z' fun h'' z'' sb => ?_⟩
    have hT2 : h''.get? s.heap.objs.size = some { cls := .type "tuple", data := .seq #[v1, v2] } := (sb.2 _ (Nat.ne_of_gt hzl)).trans hT
    have new : ObjOk X.prog X.w (upd H s.heap.objs.size (.tup [y1, y2])) h'' s.heap.objs.size (.tup [y1, y2]) :=
      ⟨by show 2 ≤ sizeLine; decide, [v1, v2], .cons ru1 (.cons ru2 .nil), ⟨_, hT2, rfl, _, rfl⟩⟩
    have I1 : Inv X pins σ (upd H s.heap.objs.size (.tup [y1, y2])) { s with heap := h'', toks := tk } :=
      I.turnedNew (t' := tk) (ch := [z, TI, TO, i1, i2]) (fun c o hb q => (sb.2 c (fun q' => hb (by simp [q']))).trans (hk c o (fun q' => hb (by simp [q'])) (fun q' => hb (by simp [q'])) (fun q' => hb (by simp [q'])) (fun q' => hb (by simp [q'])) q)) hf (Nat.le_refl _) new
    refine ⟨.ref s.heap.objs.size, _, I1, rfl, ⟨_, y1, y2, rfl, I.hok.fresh (Nat.le_refl _), rfl, fun l hl => by rw [seqX_inj I hl hq1]; exact hx1, fun l hl => by rw [seqX_inj I hl hq2]; exact hx2⟩, ⟨z'', ?_, ⟨v1, v2, ?_⟩, itX_at st1 fun o q => (sb.2 _ (Ne.symm D.zi1)).trans q, itX_at st2 fun o q => (sb.2 _ (Ne.symm D.zi2)).trans q⟩, fun c hcm => ?_⟩
    · exact (sb.2 _ D.TIz).trans (hk _ _ D.TIz D.TITO D.TIi1 D.TIi2 hTI)
    · exact (sb.2 _ D.TOz).trans TO'
    · have hlt : c < s.heap.objs.size := by
        have e' : c = z ∨ c = TI ∨ c = TO ∨ c = i1 ∨ c = i2 := by simpa using hcm
        rcases e' with q | q | q | q | q
        · rw [q]; exact hzl
        · rw [q]; exact Heap.lt_size hTI
        · rw [q]; exact Heap.lt_size hTO
        · rw [q]; obtain ⟨_, e1, _⟩ := itX_obj h1; exact Heap.lt_size e1
        · rw [q]; obtain ⟨_, e1, _⟩ := itX_obj h2; exact Heap.lt_size e1
      rw [upd_ne (Nat.ne_of_lt hlt)]
      exact (hf c hcm).1
  done := by
    intro X hP hw hK hc i pins s σ H E I hf st hg
    subst hP hw hK
    obtain ⟨hz, hTI, ⟨b1, b2, hTO⟩, h1, h2⟩ := st
    obtain ⟨xs1, xs2, hq1, hq2, hend⟩ := hg
    obtain ⟨its1, rv1, p1⟩ := seqX I hq1
    have l1 := rv1.length
    obtain ⟨its2, rv2, p2⟩ := seqX I hq2
    have l2 := rv2.length
    exact wpAny_pyNext_zipD2_end D (drawsX (A := X.A.in1) (I.ok.hd hc) i1 a1 (rawX_ne p1 h1) its1.toArray t1) (drawsX (A := X.A.in1) (I.ok.hd hc) i2 a2 (rawX_ne p2 h2) its2.toArray t2) hz hTI hTO ⟨h1, p1⟩ ⟨h2, p2⟩ (by simp only [List.size_toArray]; omega) (by simp only [List.size_toArray]; omega) (by simp only [List.size_toArray]; omega) fun h' tk hk => ⟨rfl, I.turnedL (t' := tk) (ch := [z, TI, TO, i1, i2]) (fun c o hb q =>
      hk c o (fun q' => hb (by simp [q'])) (fun q' => hb (by simp [q'])) (fun q' => hb (by simp [q'])) (fun q' => hb (by simp [q'])) q) hf⟩
  self := fun A i s Q E st h => wpAny_pyIter_zip st.1 h

def iZp2 (K : PySem.W.Frag) (ta : TA) : TI := fun σ H R => ta σ H fun vs H1 => ∃ (t1 t2 : Bool) (a1 a2 : Addr) (xs1 xs2 : List V), vs = [.ref a1, .ref a2] ∧ SqX K t1 H1 a1 xs1 ∧ SqX K t2 H1 a2 xs2 ∧ R (Iz2 K t1 t2 a1 a2) H1
theorem pi_zipX2 {X : Cx} {e1 e2 : Expr} {ta : TA} {p pos tpos : Pos} {elts : List Expr} {kk : Nat} (hg : Gl X "zip") (hm : X.mg "zip" = none) (ha : PA X [e1, e2] ta)
    (hs : starEach [e1, e2] X.env = (false, eval e1 X.env) :: starEach [e2] X.env := by rfl) (hpl : (backTo pos (starEach [e2] X.env)).any (·.1) = false := by rfl) :
    PI X (.Tuple elts kk tpos) (.Call (.Name "zip" p) [e1, e2] [] pos) (iZp2 X.K ta) := by
  refine ⟨fun pins s σ H R I h => ?_⟩
  refine Call_ (ld_blt I hg hm PyProof.Rows.boot_zip (PyProof.Rows.callWith_type1 (thn (ha.run pos pins s σ H _ I h) fun us s1 ⟨vs, H1, I1, r1, q1⟩ => ?_) hs hpl))
  obtain ⟨t1, t2, a1, a2, xs1, xs2, ex, hq1, hq2, q⟩ := q1
  subst ex
  obtain ⟨w1, w2, rfl, r11, r12⟩ := valsN2 r1
  cases r11
  cases r12
  have fresh5 : ∀ c, c ∈ [s1.heap.objs.size + 4, s1.heap.objs.size + 2, s1.heap.objs.size + 3, s1.heap.objs.size, s1.heap.objs.size + 1] → FpOk X pins H1 c := fun c hcm => by
    have e' : c = s1.heap.objs.size + 4 ∨ c = s1.heap.objs.size + 2 ∨ c = s1.heap.objs.size + 3 ∨ c = s1.heap.objs.size ∨ c = s1.heap.objs.size + 1 := by simpa using hcm
    have hle : s1.heap.objs.size ≤ c := by
      rcases e' with z | z | z | z | z
      · rw [z]; exact Nat.le_add_right _ _
      · rw [z]; exact Nat.le_add_right _ _
      · rw [z]; exact Nat.le_add_right _ _
      · rw [z]; exact Nat.le_refl _
      · rw [z]; exact Nat.le_add_right _ _
    exact I1.fpOk hle (I1.hok.fresh hle)
  obtain ⟨its1, rv1, p1⟩ := seqX I1 hq1
  obtain ⟨its2, rv2, p2⟩ := seqX I1 hq2
  refine zip_begins2 (beginsX a1 its1.toArray t1) (beginsX a2 its2.toArray t2) p1 p2 fun h' hz hTI hTO g1 g2 hsz hk => wpAny_pyIter_zip hz ?_
  have I2 : Inv X pins σ H1 { s1 with heap := h' } := I1.kept (t' := s1.toks) hk
  exact ⟨s1.heap.objs.size + 4, [s1.heap.objs.size + 4, s1.heap.objs.size + 2, s1.heap.objs.size + 3, s1.heap.objs.size, s1.heap.objs.size + 1], _, _, H1, rfl, I2, turn_zip2 t1 t2 (zip_sep2 (fp1 := [a1]) (by intro b hb; rw [List.mem_singleton.mp hb]; exact rawX_lt p1) (fp2 := [a2]) (by intro b hb; rw [List.mem_singleton.mp hb]; exact rawX_lt p2)), ⟨hz, hTI, ⟨_, _, hTO⟩, itX_new g1, itX_new g2⟩, fresh5, q⟩

/-! ### zip of 3 -/
def Iz3 (K : PySem.W.Frag) (t1 t2 t3 : Bool) (a1 a2 a3 : Addr) : It :=
  ⟨fun i H => ∃ (xs1 xs2 xs3 : List V) (y1 y2 y3 : V), SqX K t1 H a1 xs1 ∧ SqX K t2 H a2 xs2 ∧ SqX K t3 H a3 xs3 ∧ xs1[i]? = some y1 ∧ xs2[i]? = some y2 ∧ xs3[i]? = some y3,
    fun i H v H' => ∃ (T : Addr) (y1 y2 y3 : V), v = .ref T ∧ H T = none ∧ H' = upd H T (.tup [y1, y2, y3]) ∧ (∀ l, SqX K t1 H a1 l → l[i]? = some y1) ∧ (∀ l, SqX K t2 H a2 l → l[i]? = some y2) ∧ (∀ l, SqX K t3 H a3 l → l[i]? = some y3),
    fun i H => ∃ (xs1 xs2 xs3 : List V), SqX K t1 H a1 xs1 ∧ SqX K t2 H a2 xs2 ∧ SqX K t3 H a3 xs3 ∧ i = min (min xs1.length xs2.length) xs3.length⟩
theorem turn_zip3 {P : Program} {w : World} {K : PySem.W.Frag} {elts : List Expr} {kk : Nat} {tpos : Pos} (t1 t2 t3 : Bool) {a1 a2 a3 z TI TO i1 i2 i3 : Addr} (D : ZipSep3 z TI TO i1 i2 i3 [i1, a1] [i2, a2] [i3, a3]) :
    Turn P w K (.Tuple elts kk tpos) (Iz3 K t1 t2 t3 a1 a2 a3) [z, TI, TO, i1, i2, i3] z (fun i h => IsZip h z TI TO .none ∧ IsTupOf3 h TI (.ref i1) (.ref i2) (.ref i3) ∧ (∃ b1 b2 b3, IsTupOf3 h TO b1 b2 b3) ∧ ItX t1 h i1 a1 i ∧ ItX t2 h i2 a2 i ∧ ItX t3 h i3 a3 i) where
  mem := by simp
  obj := fun i h st c hc => by
    obtain ⟨hz, hTI, ⟨b1, b2, b3, hTO⟩, h1, h2, h3⟩ := st
    have e' : c = z ∨ c = TI ∨ c = TO ∨ c = i1 ∨ c = i2 ∨ c = i3 := by simpa using hc
    rcases e' with q | q | q | q | q | q
    · rw [q]; exact ⟨_, hz, fun v q => nomatch q⟩
    · rw [q]; exact ⟨_, hTI, fun v q => nomatch q⟩
    · rw [q]; exact ⟨_, hTO, fun v q => nomatch q⟩
    · rw [q]; exact itX_obj h1
    · rw [q]; exact itX_obj h2
    · rw [q]; exact itX_obj h3
  keep := fun i h h' st k => by
    obtain ⟨hz, hTI, ⟨b1, b2, b3, hTO⟩, h1, h2, h3⟩ := st
    exact ⟨k z (by simp) _ hz, k TI (by simp) _ hTI, ⟨b1, b2, b3, k TO (by simp) _ hTO⟩, itX_at h1 fun o q => k i1 (by simp) o q, itX_at h2 fun o q => k i2 (by simp) o q, itX_at h3 fun o q => k i3 (by simp) o q⟩
  item := by
    intro X hP hw hK hc i pins s σ H E I hf st hg
    subst hP hw hK
    obtain ⟨hz, hTI, ⟨b1, b2, b3, hTO⟩, h1, h2, h3⟩ := st
    obtain ⟨xs1, xs2, xs3, y1, y2, y3, hq1, hq2, hq3, hx1, hx2, hx3⟩ := hg
    obtain ⟨its1, rv1, p1⟩ := seqX I hq1
    obtain ⟨u1, hu1, ru1⟩ := rv1.get hx1
    have hl1 : i < its1.toArray.size := by have := (List.getElem?_eq_some_iff.mp hu1).1; simpa using this
    obtain ⟨its2, rv2, p2⟩ := seqX I hq2
    obtain ⟨u2, hu2, ru2⟩ := rv2.get hx2
    have hl2 : i < its2.toArray.size := by have := (List.getElem?_eq_some_iff.mp hu2).1; simpa using this
    obtain ⟨its3, rv3, p3⟩ := seqX I hq3
    obtain ⟨u3, hu3, ru3⟩ := rv3.get hx3
    have hl3 : i < its3.toArray.size := by have := (List.getElem?_eq_some_iff.mp hu3).1; simpa using this
    have hzl : z < s.heap.objs.size := Heap.lt_size hz
    refine wpAny_pyNext_zipD3_item D (drawsX (A := X.A.in1) (I.ok.hd hc) i1 a1 (rawX_ne p1 h1) its1.toArray t1) (drawsX (A := X.A.in1) (I.ok.hd hc) i2 a2 (rawX_ne p2 h2) its2.toArray t2) (drawsX (A := X.A.in1) (I.ok.hd hc) i3 a3 (rawX_ne p3 h3) its3.toArray t3) hz hTI hTO ⟨h1, p1⟩ ⟨h2, p2⟩ ⟨h3, p3⟩ hl1 hl2 hl3 fun v1 v2 v3 h' tk hv1 hv2 hv3 z' TO' st1 st2 st3 hT hsz hk => ?_
    have e1 : v1 = u1 := by
      rw [show its1.toArray[i]? = its1[i]? by simp, hu1] at hv1
      exact (Option.some.inj hv1).symm
    subst e1
    have e2 : v2 = u2 := by
      rw [show its2.toArray[i]? = its2[i]? by simp, hu2] at hv2
      exact (Option.some.inj hv2).symm
    subst e2
    have e3 : v3 = u3 := by
      rw [show its3.toArray[i]? = its3[i]? by simp, hu3] at hv3
      exact (Option.some.inj hv3).symm
    subst e3
    obtain ⟨st1, _⟩ := st1
    obtain ⟨st2, _⟩ := st2
    obtain ⟨st3, _⟩ := st3
    refine ⟨_, rfl, wpAny_letOwnedTupleGo_zip (s := { s with heap := h', toks := tk }) z' fun h'' z'' sb => ?_⟩
    have hT2 : h''.get? s.heap.objs.size = some { cls := .type "tuple", data := .seq #[v1, v2, v3] } := (sb.2 _ (Nat.ne_of_gt hzl)).trans hT
    have new : ObjOk X.prog X.w (upd H s.heap.objs.size (.tup [y1, y2, y3])) h'' s.heap.objs.size (.tup [y1, y2, y3]) :=
      ⟨by show 3 ≤ sizeLine; decide, [v1, v2, v3], .cons ru1 (.cons ru2 (.cons ru3 .nil)), ⟨_, hT2, rfl, _, rfl⟩⟩
    have I1 : Inv X pins σ (upd H s.heap.objs.size (.tup [y1, y2, y3])) { s with heap := h'', toks := tk } :=
      I.turnedNew (t' := tk) (ch := [z, TI, TO, i1, i2, i3]) (fun c o hb q => (sb.2 c (fun q' => hb (by simp [q']))).trans (hk c o (fun q' => hb (by simp [q'])) (fun q' => hb (by simp [q'])) (fun q' => hb (by simp [q'])) (fun q' => hb (by simp [q'])) (fun q' => hb (by simp [q'])) q)) hf (Nat.le_refl _) new
    refine ⟨.ref s.heap.objs.size, _, I1, rfl, ⟨_, y1, y2, y3, rfl, I.hok.fresh (Nat.le_refl _), rfl, fun l hl => by rw [seqX_inj I hl hq1]; exact hx1, fun l hl => by rw [seqX_inj I hl hq2]; exact hx2, fun l hl => by rw [seqX_inj I hl hq3]; exact hx3⟩, ⟨z'', ?_, ⟨v1, v2, v3, ?_⟩, itX_at st1 fun o q => (sb.2 _ (Ne.symm D.zi1)).trans q, itX_at st2 fun o q => (sb.2 _ (Ne.symm D.zi2)).trans q, itX_at st3 fun o q => (sb.2 _ (Ne.symm D.zi3)).trans q⟩, fun c hcm => ?_⟩
    · exact (sb.2 _ D.TIz).trans (hk _ _ D.TIz D.TITO D.TIi1 D.TIi2 D.TIi3 hTI)
    · exact (sb.2 _ D.TOz).trans TO'
    · have hlt : c < s.heap.objs.size := by
        have e' : c = z ∨ c = TI ∨ c = TO ∨ c = i1 ∨ c = i2 ∨ c = i3 := by simpa using hcm
        rcases e' with q | q | q | q | q | q
        · rw [q]; exact hzl
        · rw [q]; exact Heap.lt_size hTI
        · rw [q]; exact Heap.lt_size hTO
        · rw [q]; obtain ⟨_, e1, _⟩ := itX_obj h1; exact Heap.lt_size e1
        · rw [q]; obtain ⟨_, e1, _⟩ := itX_obj h2; exact Heap.lt_size e1
        · rw [q]; obtain ⟨_, e1, _⟩ := itX_obj h3; exact Heap.lt_size e1
      rw [upd_ne (Nat.ne_of_lt hlt)]
      exact (hf c hcm).1
  done := by
    intro X hP hw hK hc i pins s σ H E I hf st hg
    subst hP hw hK
    obtain ⟨hz, hTI, ⟨b1, b2, b3, hTO⟩, h1, h2, h3⟩ := st
    obtain ⟨xs1, xs2, xs3, hq1, hq2, hq3, hend⟩ := hg
    obtain ⟨its1, rv1, p1⟩ := seqX I hq1
    have l1 := rv1.length
    obtain ⟨its2, rv2, p2⟩ := seqX I hq2
    have l2 := rv2.length
    obtain ⟨its3, rv3, p3⟩ := seqX I hq3
    have l3 := rv3.length
    exact wpAny_pyNext_zipD3_end D (drawsX (A := X.A.in1) (I.ok.hd hc) i1 a1 (rawX_ne p1 h1) its1.toArray t1) (drawsX (A := X.A.in1) (I.ok.hd hc) i2 a2 (rawX_ne p2 h2) its2.toArray t2) (drawsX (A := X.A.in1) (I.ok.hd hc) i3 a3 (rawX_ne p3 h3) its3.toArray t3) hz hTI hTO ⟨h1, p1⟩ ⟨h2, p2⟩ ⟨h3, p3⟩ (by simp only [List.size_toArray]; omega) (by simp only [List.size_toArray]; omega) (by simp only [List.size_toArray]; omega) (by simp only [List.size_toArray]; omega) fun h' tk hk => ⟨rfl, I.turnedL (t' := tk) (ch := [z, TI, TO, i1, i2, i3]) (fun c o hb q =>
      hk c o (fun q' => hb (by simp [q'])) (fun q' => hb (by simp [q'])) (fun q' => hb (by simp [q'])) (fun q' => hb (by simp [q'])) (fun q' => hb (by simp [q'])) q) hf⟩
  self := fun A i s Q E st h => wpAny_pyIter_zip st.1 h

def iZp3 (K : PySem.W.Frag) (ta : TA) : TI := fun σ H R => ta σ H fun vs H1 => ∃ (t1 t2 t3 : Bool) (a1 a2 a3 : Addr) (xs1 xs2 xs3 : List V), vs = [.ref a1, .ref a2, .ref a3] ∧ SqX K t1 H1 a1 xs1 ∧ SqX K t2 H1 a2 xs2 ∧ SqX K t3 H1 a3 xs3 ∧ R (Iz3 K t1 t2 t3 a1 a2 a3) H1
theorem pi_zipX3 {X : Cx} {e1 e2 e3 : Expr} {ta : TA} {p pos tpos : Pos} {elts : List Expr} {kk : Nat} (hg : Gl X "zip") (hm : X.mg "zip" = none) (ha : PA X [e1, e2, e3] ta)
    (hs : starEach [e1, e2, e3] X.env = (false, eval e1 X.env) :: starEach [e2, e3] X.env := by rfl) (hpl : (backTo pos (starEach [e2, e3] X.env)).any (·.1) = false := by rfl) :
    PI X (.Tuple elts kk tpos) (.Call (.Name "zip" p) [e1, e2, e3] [] pos) (iZp3 X.K ta) := by
  refine ⟨fun pins s σ H R I h => ?_⟩
  refine Call_ (ld_blt I hg hm PyProof.Rows.boot_zip (PyProof.Rows.callWith_type1 (thn (ha.run pos pins s σ H _ I h) fun us s1 ⟨vs, H1, I1, r1, q1⟩ => ?_) hs hpl))
  obtain ⟨t1, t2, t3, a1, a2, a3, xs1, xs2, xs3, ex, hq1, hq2, hq3, q⟩ := q1
  subst ex
  obtain ⟨w1, w2, w3, rfl, r11, r12, r13⟩ := valsN3 r1
  cases r11
  cases r12
  cases r13
  have fresh5 : ∀ c, c ∈ [s1.heap.objs.size + 5, s1.heap.objs.size + 3, s1.heap.objs.size + 4, s1.heap.objs.size, s1.heap.objs.size + 1, s1.heap.objs.size + 2] → FpOk X pins H1 c := fun c hcm => by
    have e' : c = s1.heap.objs.size + 5 ∨ c = s1.heap.objs.size + 3 ∨ c = s1.heap.objs.size + 4 ∨ c = s1.heap.objs.size ∨ c = s1.heap.objs.size + 1 ∨ c = s1.heap.objs.size + 2 := by simpa using hcm
    have hle : s1.heap.objs.size ≤ c := by
      rcases e' with z | z | z | z | z | z
      · rw [z]; exact Nat.le_add_right _ _
      · rw [z]; exact Nat.le_add_right _ _
      · rw [z]; exact Nat.le_add_right _ _
      · rw [z]; exact Nat.le_refl _
      · rw [z]; exact Nat.le_add_right _ _
      · rw [z]; exact Nat.le_add_right _ _
    exact I1.fpOk hle (I1.hok.fresh hle)
  obtain ⟨its1, rv1, p1⟩ := seqX I1 hq1
  obtain ⟨its2, rv2, p2⟩ := seqX I1 hq2
  obtain ⟨its3, rv3, p3⟩ := seqX I1 hq3
  refine zip_begins3 (beginsX a1 its1.toArray t1) (beginsX a2 its2.toArray t2) (beginsX a3 its3.toArray t3) p1 p2 p3 fun h' hz hTI hTO g1 g2 g3 hsz hk => wpAny_pyIter_zip hz ?_
  have I2 : Inv X pins σ H1 { s1 with heap := h' } := I1.kept (t' := s1.toks) hk
  exact ⟨s1.heap.objs.size + 5, [s1.heap.objs.size + 5, s1.heap.objs.size + 3, s1.heap.objs.size + 4, s1.heap.objs.size, s1.heap.objs.size + 1, s1.heap.objs.size + 2], _, _, H1, rfl, I2, turn_zip3 t1 t2 t3 (zip_sep3 (fp1 := [a1]) (by intro b hb; rw [List.mem_singleton.mp hb]; exact rawX_lt p1) (fp2 := [a2]) (by intro b hb; rw [List.mem_singleton.mp hb]; exact rawX_lt p2) (fp3 := [a3]) (by intro b hb; rw [List.mem_singleton.mp hb]; exact rawX_lt p3)), ⟨hz, hTI, ⟨_, _, _, hTO⟩, itX_new g1, itX_new g2, itX_new g3⟩, fresh5, q⟩
end Ow
namespace Ow
open PySem L2

/-! ### statements -/
inductive Fl where
  | nx | bk | ct | rt (w : W)
section
variable (S : Sg)
def FlOk (Fr : Hp) (σ : St) (G : Hp) (e : En) (rho : List Addr) (H : Hp) (D : Ends) : Fl → Prop
  | .nx => D.nx σ H
  | .bk => D.bk σ H
  | .ct => D.ct σ H
  | .rt w => ∀ v, WR S Fr σ G e rho H w v → D.rt v H
def PostS (Wx : WX) (Fr : Hp) (G : Hp) (rho : List Addr) (r : Res Fl) (D : Ends) : Prop := match r with
  | .ok fl e m => ∀ (σ' : St) (G' : Hp) (rho' : List Addr) (H' : Hp), Same G G' → rho <+: rho' → R S G' Fr e m rho' σ' H' → FlOk S Fr σ' G' e rho' H' D fl
  | .exc c d e m => ∀ (σ' : St) (dd : Addr) (G' : Hp) (rho' : List Addr) (H' : Hp), Same G G' → rho <+: rho' → R S G' Fr e m rho' σ' H' → Thrown S rho' G' H' dd d → Wx (.ref (S.cl c)) (some dd) σ' H'
  | .no => False
def SemS (f : En → Mem → Res Fl) (t : WX → TS) : Prop :=
  ∀ (Wx : WX) (Fr G : Hp) (rho : List Addr) (env : En) (M : Mem) (σ : St) (H : Hp) (D : Ends), R S G Fr env M rho σ H → PostS S Wx Fr G rho (f env M) D → t Wx D σ H
end
/-- a place for statements: exceptions pass the frame, every name is the def's own -/
structure GoodS (S : Sg) (N : List Str) (sc : Scope) (k : Kk) (X : Cx) : Prop extends Good S N sc k X where
  hs : X.stack = X.env :: X.outer
  hf : X.env.frame = some X.env.locals
  po : ∀ j, k = .sm j → PassesOwn (model X.prog X.w) X.A X.env X.xe
  fn : ∀ x, X.fn x = true
  ex : X.ex = []
def SS (S : Sg) (N : List Str) (sc : Scope) (k : Kk) (st : Stmt) (f : En → Mem → Res Fl) : Prop :=
  ∃ t : WX → TS, (∀ X Wx, GoodS S N sc k X → Takes X Wx → PS X st (t Wx)) ∧ SemS S f t
def SSs (S : Sg) (N : List Str) (sc : Scope) (k : Kk) (st : List Stmt) (f : En → Mem → Res Fl) : Prop :=
  ∃ t : WX → TS, (∀ X Wx, GoodS S N sc k X → Takes X Wx → PSs X st (t Wx)) ∧ SemS S f t
section
variable {S : Sg} {Wx : WX} {Fr : Hp} {σ : St} {G G1 : Hp} {rho rho1 : List Addr} {D D' : Ends}
theorem PostS.later {r : Res Fl} (h : PostS S Wx Fr G rho r D) (g : Same G G1) (p : rho <+: rho1) : PostS S Wx Fr G1 rho1 r D := by
  cases r with
  | ok a e m => exact fun σ' G' rho' H' g' r' I => h σ' G' rho' H' (g.trans g') (p.trans r') I
  | exc c d e m => exact fun σ' dd G' rho' H' g' r' I => h σ' dd G' rho' H' (g.trans g') (p.trans r') I
  | no => exact h
theorem PostS.step {α β : Type} {r : Res α} {k : α → En → Mem → Res Fl} {VR : VRel α β} {P : β → Hp → Prop} (h : PostS S Wx Fr G rho (r.bind k) D)
    (st : ∀ a e m G' rho' H' b, r = .ok a e m → Same G G' → rho <+: rho' → R S G' Fr e m rho' σ H' → VR Fr σ G' e rho' H' a b → PostS S Wx Fr G' rho' (k a e m) D → P b H') : Post S Wx Fr σ G rho r VR P := by
  cases r with
  | ok a e m => exact fun G' rho' H' b g' r' I v => st a e m G' rho' H' b rfl g' r' I v (PostS.later h g' r')
  | exc c d e m => exact fun dd G' rho' H' g' r' I t => h σ dd G' rho' H' g' r' I t
  | no => exact h
theorem PostS.nx {e : En} {m : Mem} {H : Hp} (h : PostS S Wx Fr G rho (.ok .nx e m) D) (I : R S G Fr e m rho σ H) : D.nx σ H := h σ G rho H (Same.refl _) (List.prefix_refl _) I
end

def sNop : En → Mem → Res Fl := fun env M => .ok .nx env M
def sSeq (f g : En → Mem → Res Fl) : En → Mem → Res Fl := fun env M => (f env M).bind fun fl e m => match fl with
  | .nx => g e m
  | fl => .ok fl e m
def sExpr (f : En → Mem → Res W) : En → Mem → Res Fl := fun env M => (f env M).bind fun _ e m => .ok .nx e m
def sIf (c : En → Mem → Res Bool) (f g : En → Mem → Res Fl) : En → Mem → Res Fl := fun env M => (c env M).bind fun b e m => if b then f e m else g e m
/-- what a name then holds -/
def put (i : Nat) (w : W) (e : En) (m : Mem) : Res Unit := match w with
  | .o (.lst xs) => if i < e.length then .ok () (e.set i (.own (.lst xs))) m else .no
  | w => (kept w e m).bind fun d e m => if i < e.length then .ok () (e.set i (.val d)) m else .no
def sSet (i : Nat) (f : En → Mem → Res W) : En → Mem → Res Fl := fun env M => (f env M).bind fun w e m => (put i w e m).bind fun _ e m => .ok .nx e m
/-- what is handed back -/
def give (w : W) (e : En) (m : Mem) : Res Fl := match w with
  | .s i => (match e[i]? with
    | some (.own (.lst xs)) => .ok (.rt (.o (.lst xs))) (e.set i .un) m
    | some (.val d) => .ok (.rt (.v d)) e m
    | _ => .no)
  | w => .ok (.rt w) e m
def sRet (f : En → Mem → Res W) : En → Mem → Res Fl := fun env M => (f env M).bind give
def sRetN : En → Mem → Res Fl := fun env M => .ok (.rt (.v .non)) env M

section
variable {S : Sg} {G Fr : Hp} {env : En} {M : Mem} {rho : List Addr} {σ : St} {H : Hp}
theorem R.setVal (I : R S G Fr env M rho σ H) {i : Nat} {d : D} {v : V} (hi : i < env.length) (h : Rep S rho G d v) : R S G Fr (env.set i (.val d)) M rho (σ.set i (some v)) H where
  toMR := I.toMR
  len := by rw [List.length_set, List.length_set]; exact I.len
  vals := fun j e q => by
    by_cases hij : i = j
    · subst hij
      rw [List.getElem?_set_self hi] at q
      cases q
      exact ⟨v, List.getElem?_set_self (by rw [← I.len]; exact hi), h⟩
    · rw [List.getElem?_set_ne hij] at q ⊢
      exact I.vals j e q
  owns := fun j e q => by
    by_cases hij : i = j
    · subst hij
      rw [List.getElem?_set_self hi] at q
      cases q
    · rw [List.getElem?_set_ne hij] at q ⊢
      exact I.owns j e q
  dist := fun j k d f b hj hk h1 h2 => by
    have nj : i ≠ j := fun z => by subst z; rw [List.getElem?_set_self hi] at hj; cases hj
    have nk : i ≠ k := fun z => by subst z; rw [List.getElem?_set_self hi] at hk; cases hk
    rw [List.getElem?_set_ne nj] at hj h1
    rw [List.getElem?_set_ne nk] at hk h2
    exact I.dist j k d f b hj hk h1 h2
theorem R.setOwn (I : R S G Fr env M rho σ H) {i : Nat} {d : D} {a : Addr} (hi : i < env.length) (h : OOk S rho G H a d) (f : Free G Fr env rho σ a) : R S G Fr (env.set i (.own d)) M rho (σ.set i (some (.ref a))) H where
  toMR := I.toMR
  len := by rw [List.length_set, List.length_set]; exact I.len
  vals := fun j e q => by
    by_cases hij : i = j
    · subst hij
      rw [List.getElem?_set_self hi] at q
      cases q
    · rw [List.getElem?_set_ne hij] at q ⊢
      exact I.vals j e q
  owns := fun j e q => by
    by_cases hij : i = j
    · subst hij
      rw [List.getElem?_set_self hi] at q
      cases q
      exact ⟨a, List.getElem?_set_self (by rw [← I.len]; exact hi), h, f.g, f.f, f.r⟩
    · rw [List.getElem?_set_ne hij] at q ⊢
      exact I.owns j e q
  dist := fun j k x y b hj hk h1 h2 => by
    have hσ : i < σ.length := by rw [← I.len]; exact hi
    by_cases hij : i = j
    · by_cases hik : i = k
      · exact hij.symm.trans hik
      · exfalso
        subst hij
        rw [List.getElem?_set_self hσ] at h1
        cases h1
        rw [List.getElem?_set_ne hik] at hk h2
        exact f.s k y hk h2
    · by_cases hik : i = k
      · exfalso
        subst hik
        rw [List.getElem?_set_self hσ] at h2
        cases h2
        rw [List.getElem?_set_ne hij] at hj h1
        exact f.s j x hj h1
      · rw [List.getElem?_set_ne hij] at hj h1
        rw [List.getElem?_set_ne hik] at hk h2
        exact I.dist j k x y b hj hk h1 h2
/-- a slot is forgotten -/
theorem R.drop (I : R S G Fr env M rho σ H) {i : Nat} : R S G Fr (env.set i .un) M rho σ H where
  toMR := I.toMR
  len := by rw [List.length_set]; exact I.len
  vals := fun j e q => by
    by_cases hij : i = j
    · subst hij
      by_cases hi : i < env.length
      · rw [List.getElem?_set_self hi] at q; cases q
      · rw [List.getElem?_eq_none (by simpa using hi)] at q; cases q
    · rw [List.getElem?_set_ne hij] at q; exact I.vals j e q
  owns := fun j e q => by
    by_cases hij : i = j
    · subst hij
      by_cases hi : i < env.length
      · rw [List.getElem?_set_self hi] at q; cases q
      · rw [List.getElem?_eq_none (by simpa using hi)] at q; cases q
    · rw [List.getElem?_set_ne hij] at q; exact I.owns j e q
  dist := fun j k d f b hj hk h1 h2 => by
    have key : ∀ (j : Nat) (d : D), (env.set i .un)[j]? = some (.own d) → env[j]? = some (.own d) := fun j d q => by
      by_cases hij : i = j
      · subst hij
        by_cases hi : i < env.length
        · rw [List.getElem?_set_self hi] at q; cases q
        · rw [List.getElem?_eq_none (by simpa using hi)] at q; cases q
      · rw [List.getElem?_set_ne hij] at q; exact q
    exact I.dist j k d f b (key j d hj) (key k f hk) h1 h2
theorem own_drop {i j : Nat} {d : D} (q : (env.set i .un)[j]? = some (.own d)) : j ≠ i ∧ env[j]? = some (.own d) := by
  by_cases hij : i = j
  · subst hij
    by_cases hi : i < env.length
    · rw [List.getElem?_set_self hi] at q; cases q
    · rw [List.getElem?_eq_none (by simpa using hi)] at q; cases q
  · rw [List.getElem?_set_ne hij] at q; exact ⟨Ne.symm hij, q⟩
end

section
variable {S : Sg} {N : List Str} {sc : Scope} {k : Kk} {st : Stmt} {rest : List Stmt} {e : Expr} {f : En → Mem → Res W} {g g' : En → Mem → Res Fl} {pos : Pos}
theorem ss_nil : SSs S N sc k [] sNop := ⟨fun _ => tNext, fun X Wx _ _ => pss_nil, fun Wx Fr G rho env M σ H D I p => p.nx I⟩
theorem ss_pass : SS S N sc k (.Pass pos) sNop := ⟨fun _ => tNext, fun X Wx _ _ => ps_pass, fun Wx Fr G rho env M σ H D I p => p.nx I⟩
theorem sem_seq {t u : WX → TS} (h : SemS S g t) (h' : SemS S g' u) : SemS S (sSeq g g') (fun Wx => tSeq (t Wx) (u Wx)) := by
  intro Wx Fr G rho env M σ H D I p
  refine h Wx Fr G rho env M σ H _ I ?_
  unfold sSeq at p
  cases hr : g env M with
  | ok fl e m =>
    rw [hr] at p
    intro σ' G' rho' H' g1 r1 I1
    cases fl with
    | nx => exact h' Wx Fr G' rho' e m σ' H' D I1 (PostS.later p g1 r1)
    | bk => exact p σ' G' rho' H' g1 r1 I1
    | ct => exact p σ' G' rho' H' g1 r1 I1
    | rt w => exact p σ' G' rho' H' g1 r1 I1
  | exc c d e m =>
    rw [hr] at p
    exact p
  | no =>
    rw [hr] at p
    exact p
theorem ss_cons (h : SS S N sc k st g) (h' : SSs S N sc k rest g') : SSs S N sc k (st :: rest) (sSeq g g') := by
  obtain ⟨t, h1, h2⟩ := h
  obtain ⟨u, k1, k2⟩ := h'
  exact ⟨_, fun X Wx gd tk => pss_cons (h1 X Wx gd tk) (k1 X Wx gd tk), sem_seq h2 k2⟩
theorem ss_one (h : SS S N sc k st g) : SSs S N sc k [st] g := by
  obtain ⟨t, h1, h2⟩ := h
  exact ⟨t, fun X Wx gd tk => pss_one (h1 X Wx gd tk), h2⟩
theorem ss_expr (h : SE S N sc k e f) (hs : ∀ env : Env, swapsWith e none pos.line env = pure false := by intro _; rfl) : SS S N sc k (.Expr e pos) (sExpr f) := by
  obtain ⟨t, h1, h2⟩ := h
  refine ⟨fun Wx => tDrop (t Wx), fun X Wx gd tk => ps_expr (h1 X Wx gd.toGood tk) (hs _), fun Wx Fr G rho env M σ H D I p => ?_⟩
  exact h2 Wx Fr G rho env M σ H _ I (PostS.step (VR := WR S) p fun w e m G1 rho1 H1 v _ g r I1 v1 q => q.nx I1)
theorem ss_if {c : Expr} {a b : List Stmt} {gc : En → Mem → Res Bool} (hc : SB S N sc k c gc) (ha : SSs S N sc k a g) (hb : SSs S N sc k b g') : SS S N sc k (.If c a b pos) (sIf gc g g') := by
  obtain ⟨t, h1, h2⟩ := hc
  obtain ⟨u, k1, k2⟩ := ha
  obtain ⟨v, l1, l2⟩ := hb
  refine ⟨fun Wx => tIfS (t Wx) (u Wx) (v Wx), fun X Wx gd tk => ps_if (h1 X Wx gd.toGood tk) (k1 X Wx gd tk) (l1 X Wx gd tk), fun Wx Fr G rho env M σ H D I p => ?_⟩
  refine h2 Wx Fr G rho env M σ H _ I (PostS.step (VR := BR) p fun b e m G1 rho1 H1 v _ g r I1 v1 q => ?_)
  cases v1
  cases b with
  | true => exact k2 Wx Fr G1 rho1 e m σ H1 D I1 q
  | false => exact l2 Wx Fr G1 rho1 e m σ H1 D I1 q
/-- a value that is kept -/
theorem kept_spec {Fr G : Hp} {rho : List Addr} {env : En} {M : Mem} {σ : St} {H : Hp} {w : W} {v : V} (I : R S G Fr env M rho σ H) (hv : WR S Fr σ G env rho H w v) :
    kept w env M = .no ∨ ∃ d e G', kept w env M = .ok d e M ∧ Same G G' ∧ R S G' Fr e M rho σ H ∧ Rep S rho G' d v ∧ e.length = env.length := by
  cases w with
  | v d => exact .inr ⟨d, env, G, rfl, Same.refl _, I, hv, rfl⟩
  | s i =>
    have hv : σ[i]? = some (some v) := hv
    cases he : env[i]? with
    | none => exact .inl (by simp only [kept, he])
    | some sl =>
      cases sl with
      | un => exact .inl (by simp only [kept, he])
      | val d =>
        obtain ⟨v', h1, h2⟩ := I.vals i d he
        rw [hv] at h1; cases h1
        exact .inr ⟨d, env, G, by simp only [kept, he], Same.refl _, I, h2, rfl⟩
      | own d =>
        cases d with
        | lst xs =>
          obtain ⟨G', a, h1, g, h2, I2⟩ := I.freeze he
          rw [hv] at h1; cases h1
          exact .inr ⟨_, _, G', by simp only [kept, he], g, I2, h2, by rw [List.length_set]⟩
        | _ => exact .inl (by simp only [kept, he])
  | o d =>
    obtain ⟨G2, g2, I2, v2⟩ := WR.use I hv
    exact .inr ⟨d, env, G2, rfl, g2, I2, v2, rfl⟩
  | t j xs =>
    obtain ⟨G2, g2, I2, v2⟩ := WR.use I hv
    exact .inr ⟨.tup xs, env, G2, rfl, g2, I2, v2, rfl⟩
/-- a value goes to a slot -/
theorem put_spec {Fr G : Hp} {rho : List Addr} {env : En} {M : Mem} {σ : St} {H : Hp} {i : Nat} {w : W} {v : V} (I : R S G Fr env M rho σ H) (hv : WR S Fr σ G env rho H w v) :
    put i w env M = .no ∨ ∃ e G', put i w env M = .ok () e M ∧ Same G G' ∧ R S G' Fr e M rho (σ.set i (some v)) H ∧ e.length = env.length := by
  have gen : ((kept w env M).bind fun d e m => if i < e.length then Res.ok () (e.set i (.val d)) m else .no) = .no ∨
      ∃ e G', ((kept w env M).bind fun d e m => if i < e.length then Res.ok () (e.set i (.val d)) m else .no) = .ok () e M ∧ Same G G' ∧ R S G' Fr e M rho (σ.set i (some v)) H ∧ e.length = env.length := by
    rcases kept_spec I hv with q | ⟨d, e, G', q, g, I', r, l⟩
    · rw [q]; exact .inl rfl
    · rw [q]
      show (if i < e.length then Res.ok () (e.set i (.val d)) M else .no) = .no ∨ _
      by_cases hi : i < e.length
      · exact .inr ⟨e.set i (.val d), G', if_pos hi, g, I'.setVal hi r, by rw [List.length_set]; exact l⟩
      · exact .inl (if_neg hi)
  cases w with
  | o d =>
    cases d with
    | lst xs =>
      obtain ⟨a, ys, e1, rfl, o, f⟩ := hv
      show (if i < env.length then Res.ok () (env.set i (.own (.lst xs))) M else .no) = .no ∨ _
      by_cases hi : i < env.length
      · exact .inr ⟨env.set i (.own (.lst xs)), G, if_pos hi, Same.refl _, I.setOwn hi o f, by rw [List.length_set]⟩
      · exact .inl (if_neg hi)
    | _ => exact gen
  | v d => exact gen
  | s i => exact gen
  | t j xs => exact gen
theorem put_post {Wx : WX} {Fr G : Hp} {rho : List Addr} {env : En} {M : Mem} {σ : St} {H : Hp} {i : Nat} {w : W} {v : V} {D : Ends} (I : R S G Fr env M rho σ H) (hv : WR S Fr σ G env rho H w v)
    (p : PostS S Wx Fr G rho ((put i w env M).bind fun _ e m => .ok .nx e m) D) : D.nx (σ.set i (some v)) H := by
  rcases put_spec (i := i) I hv with q | ⟨e, G', q, g, I', _⟩
  · rw [q] at p; exact p.elim
  · rw [q] at p
    exact PostS.nx (PostS.later p g (List.prefix_refl _)) I'
/-- x = e -/
theorem ss_set {i : Nat} {x : Str} {pos' : Pos} (hi : N[i]? = some x) (hx : Loc sc x) (h : SE S N sc k e f) (hs : ∀ env : Env, swapsWith e (some (.Name x pos')) pos.line env = pure false := by intro _; rfl) : SS S N sc k (.Assign [.Name x pos'] e pos) (sSet i f) := by
  obtain ⟨t, h1, h2⟩ := h
  refine ⟨fun Wx => tAsg (t Wx) (gName i), fun X Wx gd tk => ps_set (by rw [gd.nN]; exact gd.nd) (by rw [gd.nN]; exact hi) (by rw [gd.sco]; exact hx) (h1 X Wx gd.toGood tk) (hs _) (.inl (gd.fn x)), fun Wx Fr G rho env M σ H D I p => ?_⟩
  exact h2 Wx Fr G rho env M σ H _ I (PostS.step (VR := WR S) p fun w e m G1 rho1 H1 v _ g r I1 v1 q => put_post I1 v1 q)
theorem give_post {Wx : WX} {Fr G : Hp} {rho : List Addr} {env : En} {M : Mem} {σ : St} {H : Hp} {w : W} {v : V} {D : Ends} (I : R S G Fr env M rho σ H) (hv : WR S Fr σ G env rho H w v) (p : PostS S Wx Fr G rho (give w env M) D) : D.rt v H := by
  cases w with
  | s i =>
    have hv : σ[i]? = some (some v) := hv
    cases he : env[i]? with
    | none => simp only [give, he] at p; exact p.elim
    | some sl =>
      cases sl with
      | un => simp only [give, he] at p; exact p.elim
      | val d =>
        simp only [give, he] at p
        obtain ⟨v', h1, h2⟩ := I.vals i d he
        rw [hv] at h1; cases h1
        exact p σ G rho H (Same.refl _) (List.prefix_refl _) I v h2
      | own d =>
        cases d with
        | lst xs =>
          simp only [give, he] at p
          obtain ⟨a, h1, o, hg, hf, hr⟩ := I.owns i _ he
          rw [hv] at h1; cases h1
          refine p σ G rho H (Same.refl _) (List.prefix_refl _) I.drop _ ⟨a, xs, rfl, rfl, o, hg, hf, hr, fun j d hj hs => ?_⟩
          obtain ⟨nj, hj'⟩ := own_drop hj
          exact nj (I.dist j i d _ a hj' he hs hv)
        | _ => simp only [give, he] at p; exact p.elim
  | v d => exact p σ G rho H (Same.refl _) (List.prefix_refl _) I v hv
  | o d => exact p σ G rho H (Same.refl _) (List.prefix_refl _) I v hv
  | t j xs => exact p σ G rho H (Same.refl _) (List.prefix_refl _) I v hv
theorem ss_ret (h : SE S N sc k e f) : SS S N sc k (.Return (some e) pos) (sRet f) := by
  obtain ⟨t, h1, h2⟩ := h
  refine ⟨fun Wx => tRet (t Wx), fun X Wx gd tk => ps_ret (h1 X Wx gd.toGood tk), fun Wx Fr G rho env M σ H D I p => ?_⟩
  exact h2 Wx Fr G rho env M σ H _ I (PostS.step (VR := WR S) p fun w e m G1 rho1 H1 v _ g r I1 v1 q => give_post I1 v1 q)
theorem ss_retN : SS S N sc k (.Return none pos) sRetN := ⟨fun _ => tRetN, fun X Wx gd tk => ps_retN, fun Wx Fr G rho env M σ H D I p => p σ G rho H (Same.refl _) (List.prefix_refl _) I _ .non⟩
end

/-! ### a def: what it gives by its arguments and the memory -/
inductive RF where
  | ok (w : W) (m : Mem) | exc (c : Nat) (d : D) (m : Mem) | no
abbrev Fn := List D → Mem → RF
def frame (n : Nat) (ds : List D) : En := ds.map Sl.val ++ List.replicate (n - ds.length) .un
def fnOf (n : Nat) (g : En → Mem → Res Fl) : Fn := fun ds M => match g (frame n ds) M with
  | .ok fl _ m => (match fl with
    | .nx => .ok (.v .non) m
    | .rt (.s _) => .no
    | .rt w => .ok w m
    | _ => .no)
  | .exc c d _ m => .exc c d m
  | .no => .no
/-- how the known grows over a call: what is new was not there -/
structure Grow (G : Hp) (rho : List Addr) (H G' : Hp) (rho' : List Addr) (H' : Hp) : Prop where
  g : Same G G'
  r : rho <+: rho'
  new : ∀ b o, G' b = some o → G b = some o ∨ H b = none
  newr : ∀ a ∈ rho', a ∈ rho ∨ H a = none
  keep : ∀ b o, H b = some o → b ∉ rho → H' b = some o
/-- what a call gives -/
def GR (S : Sg) (G : Hp) (rho : List Addr) (H G' : Hp) (rho' : List Addr) (H' : Hp) : W → V → Prop
  | .v d, b => Rep S rho' G' d b
  | .s _, _ => False
  | .o d, b => ∃ a xs, d = .lst xs ∧ b = .ref a ∧ OOk S rho' G' H' a d ∧ G' a = none ∧ a ∉ rho' ∧ H a = none
  | .t j xs, b => ∃ a vs c ys, b = .ref a ∧ H' a = some (.tup vs) ∧ xs.length ≤ sizeLine ∧ xs.length = vs.length ∧ xs[j]? = some (.lst ys) ∧ vs[j]? = some (.ref c) ∧
      (∀ (i : Nat) (x : D), i ≠ j → xs[i]? = some x → ∃ v, vs[i]? = some v ∧ Rep S rho' G' x v) ∧ OOk S rho' G' H' c (.lst ys) ∧ G' a = none ∧ a ∉ rho' ∧ H a = none ∧ G' c = none ∧ c ∉ rho' ∧ H c = none ∧ a ≠ c
def spOf (S : Sg) (np : Nat) (f : Fn) : Sp := fun vs H Q E => ∃ (G : Hp) (M : Mem) (rho : List Addr) (ds : List D), MR S G (fun _ => none) M rho H ∧ Reps S rho G ds vs ∧ ds.length = np ∧
  match f ds M with
  | .ok w M' => ∀ (v : V) (G' : Hp) (rho' : List Addr) (H' : Hp), Grow G rho H G' rho' H' → MR S G' (fun _ => none) M' rho' H' → GR S G rho H G' rho' H' w v → Q v H'
  | .exc c d M' => ∀ (dd : Addr) (G' : Hp) (rho' : List Addr) (H' : Hp), Grow G rho H G' rho' H' → MR S G' (fun _ => none) M' rho' H' → Thrown S rho' G' H' dd d → E (.ref (S.cl c)) (some dd) H'
  | .no => False
theorem spOf_len {S : Sg} {np : Nat} {f : Fn} {vs : List V} {H : Hp} {Q : VK} {E : XK} (h : spOf S np f vs H Q E) : vs.length = np := by
  obtain ⟨G, M, rho, ds, _, t, l, _⟩ := h
  rw [← t.length]
  exact l
section
variable {S : Sg} {G : Hp} {rho : List Addr} {H : Hp} {M : Mem}
/-- at a def's entry: all that stands elsewhere is others' -/
theorem entry (I : MR S G (fun _ => none) M rho H) : ∃ Fr, MR S G Fr M rho H ∧ ∀ b o, H b = some o → b ∈ rho ∨ G b = some o ∨ Fr b = some o := by
  classical
  refine ⟨fun b => if b ∈ rho then none else if (G b).isSome then none else H b, ⟨I.gs, fun b o e => ?_, fun a o e => ?_, I.ml, I.nd, fun a ha => ⟨(I.out a ha).1, if_pos ha⟩, I.mem⟩, fun b o e => ?_⟩
  · by_cases h1 : b ∈ rho
    · simp [h1] at e
    · by_cases h2 : (G b).isSome
      · simp [h1, h2] at e
      · simpa [h1, h2] using e
  · by_cases h1 : a ∈ rho
    · simp [h1] at e
    · cases h2 : G a with
      | none => rfl
      | some u => simp [h1, h2] at e
  · by_cases h1 : b ∈ rho
    · exact .inl h1
    · cases h2 : G b with
      | none => exact .inr (.inr (by simp [h1, h2, e]))
      | some u =>
        have := I.gs b u h2
        rw [e] at this
        exact .inr (.inl this.symm)
variable {G' Fr H' : Hp} {rho' : List Addr} {M' : Mem}
theorem grown (I : MR S G Fr M rho H) (all : ∀ b o, H b = some o → b ∈ rho ∨ G b = some o ∨ Fr b = some o) (g : Same G G') (r : rho <+: rho') (I' : MR S G' Fr M' rho' H') : Grow G rho H G' rho' H' where
  g := g
  r := r
  new := fun b o e => by
    cases hb : H b with
    | none => exact .inr rfl
    | some u =>
      rcases all b u hb with z | z | z
      · have := (I'.out b (r.subset z)).1
        rw [e] at this; cases this
      · rw [g _ _ z] at e; cases e; exact .inl z
      · have := I'.gf b u z
        rw [e] at this; cases this
  newr := fun a ha => by
    cases hb : H a with
    | none => exact .inr rfl
    | some u =>
      rcases all a u hb with z | z | z
      · exact .inl z
      · have := (I'.out a ha).1
        rw [g _ _ z] at this; cases this
      · have := (I'.out a ha).2
        rw [z] at this; cases this
  keep := fun b o e hn => by
    rcases all b o e with z | z | z
    · exact absurd z hn
    · exact I'.gs _ _ (g _ _ z)
    · exact I'.fs _ _ z
theorem MR.nofr (I : MR S G Fr M rho H) : MR S G (fun _ => none) M rho H := ⟨I.gs, (fun _ _ e => by cases e), (fun _ _ e => by cases e), I.ml, I.nd, fun a ha => ⟨(I.out a ha).1, rfl⟩, I.mem⟩
theorem fresh_of (all : ∀ b o, H b = some o → b ∈ rho ∨ G b = some o ∨ Fr b = some o) (g : Same G G') (r : rho <+: rho') {a : Addr} (h1 : G' a = none) (h2 : Fr a = none) (h3 : a ∉ rho') : H a = none := by
  cases hb : H a with
  | none => rfl
  | some u =>
    rcases all a u hb with z | z | z
    · exact absurd (r.subset z) h3
    · rw [g _ _ z] at h1; cases h1
    · rw [z] at h2; cases h2
theorem R.start {ds : List D} {vs : List V} {N : List Str} (I : MR S G Fr M rho H) (t : Reps S rho G ds vs) (hl : vs.length ≤ N.length) : R S G Fr (frame N.length ds) M rho (start N vs) H where
  toMR := I
  len := by
    have := t.length
    unfold frame L2.start
    simp
    omega
  vals := fun i d e => by
    unfold frame at e
    by_cases hi : i < ds.length
    · rw [List.getElem?_append_left (by simpa using hi), List.getElem?_map] at e
      cases q : ds[i]? with
      | none => rw [q] at e; cases e
      | some d' =>
        rw [q] at e
        cases e
        obtain ⟨v, h1, h2⟩ := t.get q
        refine ⟨v, ?_, h2⟩
        unfold L2.start
        rw [List.getElem?_append_left (by rw [List.length_map, ← t.length]; exact hi), List.getElem?_map, h1]
        rfl
    · rw [List.getElem?_append_right (by simpa using hi)] at e
      have := List.mem_of_getElem? e
      rw [List.mem_replicate] at this
      cases this.2
  owns := fun i d e => by
    unfold frame at e
    have := List.mem_of_getElem? e
    simp at this
  dist := fun i j d e a h => by
    unfold frame at h
    have := List.mem_of_getElem? h
    simp at this
end

/-- a def's body keeps its promise -/
theorem fn_ok {S : Sg} {f : Addr} {fd : FuncData} {x qual : Str} {params : Arguments} {body : List Stmt} {scope : Scope} {N ps : List Str} {k : Nat} {g : En → Mem → Res Fl} (F : FunD S.K x qual params body scope [] [] f fd) (Sc : FnScope N ps scope) (hN : ps.length ≤ N.length)
    (h : SSs S N scope (.sm k) body g) : FnOk S.P S.w S.K S.mg S.base (L2.CX S.P S.w) (k + 1) f fd ps (spOf S ps.length (fnOf N.length g)) := by
  refine F.ok Sc (fun vs H Q E q => spOf_len q) fun cdv A outer s H vs Q E hr q => ?_
  obtain ⟨t, h1, h2⟩ := h
  refine ⟨t (fun cls d _ H => E cls d H), h1 _ _ ⟨⟨rfl, rfl, rfl, rfl, rfl, rfl, Sc.nd, rfl, Sc.kind, fun k' e => by cases e; exact ⟨hr, rfl⟩, hr.units, fun _ _ _ e => by cases e⟩, rfl, rfl, fun _ _ => passes_of rfl, fun _ => rfl, rfl⟩ (takes_of rfl rfl rfl rfl), ?_⟩
  obtain ⟨G, M, rho, ds, I0, tt, l, q⟩ := q
  obtain ⟨Fr, I, all⟩ := entry I0
  refine h2 _ Fr G rho (frame N.length ds) M (start N vs) H _ (R.start I tt (by rw [← tt.length, l]; exact hN)) ?_
  unfold fnOf at q
  cases hg : g (frame N.length ds) M with
  | ok fl e m =>
    rw [hg] at q
    intro σ' G' rho' H' g1 r1 I1
    cases fl with
    | nx => exact q _ G' rho' H' (grown I all g1 r1 I1.toMR) I1.toMR.nofr .non
    | bk => exact q
    | ct => exact q
    | rt w =>
      intro v hv
      cases w with
      | v d => exact q v G' rho' H' (grown I all g1 r1 I1.toMR) I1.toMR.nofr hv
      | s i => exact q.elim
      | o d =>
        obtain ⟨a, xs, e1, e2, o, f⟩ := hv
        exact q v G' rho' H' (grown I all g1 r1 I1.toMR) I1.toMR.nofr ⟨a, xs, e1, e2, o, f.g, f.r, fresh_of all g1 r1 f.g f.f f.r⟩
      | t j xs =>
        obtain ⟨a, vs, c, ys, e1, e2, e3, e4, e5, e6, e7, e8, fa, fc, ac⟩ := hv
        exact q v G' rho' H' (grown I all g1 r1 I1.toMR) I1.toMR.nofr ⟨a, vs, c, ys, e1, e2, e3, e4, e5, e6, e7, e8, fa.g, fa.r, fresh_of all g1 r1 fa.g fa.f fa.r, fc.g, fc.r, fresh_of all g1 r1 fc.g fc.f fc.r, ac⟩
  | exc c d e m =>
    rw [hg] at q
    exact fun σ' dd G' rho' H' g1 r1 I1 th => q dd G' rho' H' (grown I all g1 r1 I1.toMR) I1.toMR.nofr th
  | no => rw [hg] at q; exact q.elim
end Ow
namespace Ow
open PySem PySem.Spec L2

section
variable {S : Sg} {G Fr G' H' : Hp} {env : En} {M M' : Mem} {rho rho' : List Addr} {σ : St} {H : Hp}
/-- behind a call the slots are as they were -/
theorem R.called (I : R S G Fr env M rho σ H) (g : Grow G rho H G' rho' H') (I' : MR S G' (fun _ => none) M' rho' H') : R S G' Fr env M' rho' σ H' where
  gs := I'.gs
  fs := fun b o e => g.keep b o (I.fs b o e) fun hm => by
    have := (I.out b hm).2
    rw [e] at this; cases this
  gf := fun a o e => by
    cases q : G' a with
    | none => rfl
    | some u =>
      rcases g.new a u q with z | z
      · have := I.gf a o e
        rw [z] at this; cases this
      · have := I.fs a o e
        rw [z] at this; cases this
  ml := I'.ml
  nd := I'.nd
  out := fun a ha => ⟨(I'.out a ha).1, by
    rcases g.newr a ha with z | z
    · exact (I.out a z).2
    · cases q : Fr a with
      | none => rfl
      | some u =>
        have := I.fs a u q
        rw [z] at this; cases this⟩
  mem := I'.mem
  len := I.len
  vals := fun i d e => by
    obtain ⟨v, h1, h2⟩ := I.vals i d e
    exact ⟨v, h1, h2.mono g.g g.r⟩
  owns := fun i d e => by
    obtain ⟨a, h1, o, hg, hf, hr⟩ := I.owns i d e
    obtain ⟨u, hu⟩ := o.there
    refine ⟨a, h1, o.mono g.g g.r ((g.keep a u hu hr).trans hu.symm), ?_, hf, fun hm => ?_⟩
    · cases q : G' a with
      | none => rfl
      | some u' =>
        rcases g.new a u' q with z | z
        · rw [hg] at z; cases z
        · rw [hu] at z; cases z
    · rcases g.newr a hm with z | z
      · exact hr z
      · rw [hu] at z; cases z
  dist := I.dist
theorem R.newFree (I : R S G Fr env M rho σ H) {a : Addr} (hg : G' a = none) (hr : a ∉ rho') (hn : H a = none) : Free G' Fr env rho' σ a where
  g := hg
  f := by
    cases q : Fr a with
    | none => rfl
    | some u =>
      have := I.fs a u q
      rw [hn] at this; cases this
  r := hr
  s := fun i d e hs => by
    obtain ⟨b, h1, o, _⟩ := I.owns i d e
    rw [hs] at h1
    cases h1
    obtain ⟨u, hu⟩ := o.there
    rw [hn] at hu; cases hu
theorem R.gave (I : R S G Fr env M rho σ H) {w : W} {v : V} (h : GR S G rho H G' rho' H' w v) : WR S Fr σ G' env rho' H' w v := by
  cases w with
  | v d => exact h
  | s i => exact h.elim
  | o d =>
    obtain ⟨a, xs, e1, e2, o, hg, hr, hn⟩ := h
    exact ⟨a, xs, e1, e2, o, I.newFree hg hr hn⟩
  | t j xs =>
    obtain ⟨a, vs, c, ys, e1, e2, e3, e4, e5, e6, e7, e8, ga, ra, na, gc, rc, nc, ac⟩ := h
    exact ⟨a, vs, c, ys, e1, e2, e3, e4, e5, e6, e7, e8, I.newFree ga ra na, I.newFree gc rc nc, ac⟩
end

/-- a def of the text that keeps its promise, by its name -/
structure DefOk (S : Sg) (x : Str) (k n : Nat) (f : Fn) : Prop where
  ex : ∃ (fa : Addr) (fd : FuncData) (ps : List Str), FnOk S.P S.w S.K S.mg S.base (L2.CX S.P S.w) k fa fd ps (spOf S n f) ∧ PySem.W.keepIn S.K (.ref fa) = true ∧ Binds S.K fd ps [] ∧ S.mg x = some (.ref fa) ∧ ps.length = n
def out (r : RF) (e : En) : Res W := match r with
  | .ok w m => .ok w e m
  | .exc c d m => .exc c d e m
  | .no => .no
def eCall (n : Nat) (f : Fn) (fs : En → Mem → Res (List D)) : En → Mem → Res W := fun env M => (fs env M).bind fun ds e m => if ds.length = n then out (f ds m) e else .no
theorem sp_call {S : Sg} {Wx : WX} {Fr G : Hp} {rho : List Addr} {env : En} {M : Mem} {σ : St} {H : Hp} {n : Nat} {f : Fn} {ds : List D} {vs : List V} {Q : VK} (I : R S G Fr env M rho σ H) (t : Reps S rho G ds vs) (hn : ds.length = n)
    (q : Post S Wx Fr σ G rho (out (f ds M) env) (WR S) Q) : spOf S n f vs H Q (WE Wx σ) := by
  refine ⟨G, M, rho, ds, I.toMR.nofr, t, hn, ?_⟩
  cases hf : f ds M with
  | ok w m =>
    rw [hf] at q
    exact fun v G' rho' H' g I' gr => q G' rho' H' v g.g g.r (I.called g I') (I.gave gr)
  | exc c d m =>
    rw [hf] at q
    exact fun dd G' rho' H' g I' th => q dd G' rho' H' g.g g.r (I.called g I') th
  | no => rw [hf] at q; exact q.elim
section
variable {S : Sg} {N : List Str} {sc : Scope} {k : Nat} {e : Expr} {es : List Expr} {p pos : Pos}
theorem se_call {x : Str} {j n : Nat} {f : Fn} {fs : En → Mem → Res (List D)} (h : DefOk S x j n f) (hj : j ≤ k) (hg : sc.names.lookup x = some .globalImplicit) (ha : SDs S N sc (.sm k) (e :: es) fs) (hdb : (x == ("__debug__" : Str)) = false := by decide +kernel)
    (he : ∀ env : Env, starEach (e :: es) env = (false, eval e env) :: starEach es env := by intro _; rfl) (hpl : ∀ env : Env, (backTo pos (starEach es env)).any (·.1) = false := by intro _; rfl) : SE S N sc (.sm k) (.Call (.Name x p) (e :: es) [] pos) (eCall n f fs) := by
  obtain ⟨fa, fd, ps, F, kp, hb, hm, hl⟩ := h.ex
  obtain ⟨t, h1, h2⟩ := ha
  refine ⟨fun Wx => tCallS (spOf S n f) (WE Wx) (t Wx), fun X Wx g tk => ?_, fun Wx Fr G rho env M σ H Q I q => ?_⟩
  · have F' : FnOk X.prog X.w X.K X.mg X.base (L2.CX X.prog X.w) j fa fd ps (spOf S n f) := by rw [g.p, g.w, g.K, g.mg, g.base]; exact F
    exact pe_callS F' ((g.room k rfl).1.mono hj) (by rw [Gl, Env.kindOf, g.sco]; exact hg) (by rw [g.mg]; exact hm) (by rw [g.K]; exact kp) (by rw [g.K]; exact hb) (fun σ => passAt tk σ) (h1 X Wx g tk) hdb (he _) (hpl _)
  · refine h2 Wx Fr G rho env M σ H _ I (Post.step (VR := DRs S) q fun ds e m G1 rho1 H1 vs _ g r I1 v1 q1 => ?_)
    split at q1
    · next hn => exact sp_call I1 v1 hn q1
    · exact q1.elim
end

/-! ### loops -/
/-- what a loop walks: the items, and the lists of the memory that must stay meanwhile -/
structure Src where
  items : List D
  mems : List (Nat × List D)
def memOk (m : Mem) (l : List (Nat × List D)) : Prop := ∀ p ∈ l, m[p.1]? = some (.lst p.2)
def SrcR (S : Sg) (Fr : Hp) (σ : St) (G : Hp) (e : En) (rho : List Addr) (H : Hp) (s : Src) (J : It) : Prop :=
  ∃ (Gp : Hp → Prop) (Y : Nat → Hp → V → Hp → Prop), Walk J s.items.length Gp Y ∧
    (∀ (Fr' G' : Hp) (env : En) (M : Mem) (rho' : List Addr) (σ' : St) (H' : Hp), Same G G' → rho <+: rho' → R S G' Fr' env M rho' σ' H' → memOk M s.mems → Gp H') ∧
    ∀ (i : Nat) (Fr' G' : Hp) (env : En) (M : Mem) (rho' : List Addr) (σ' : St) (H' : Hp) (x : V) (H2 : Hp), i < s.items.length → Same G G' → rho <+: rho' → R S G' Fr' env M rho' σ' H' → memOk M s.mems → Y i H' x H2 →
      ∃ G2, Same G' G2 ∧ R S G2 Fr' env M rho' σ' H2 ∧ ∃ d, s.items[i]? = some d ∧ Rep S rho' G2 d x
def SI (S : Sg) (N : List Str) (sc : Scope) (k : Nat) (tg iter : Expr) (f : En → Mem → Res Src) : Prop :=
  ∃ t : WX → TI, (∀ X Wx, Good S N sc (.sm k) X → Takes X Wx → PI X tg iter (t Wx)) ∧ Sem S f (SrcR S) t
/-- a list, a tuple, a text as what is walked -/
def srcOf (d : D) (m : Mem) : Option Src := match d with
  | .lst xs => some ⟨xs, []⟩
  | .tup xs => some ⟨xs, []⟩
  | .ref n => (match m[n]? with
    | some (.lst xs) => some ⟨xs, [(n, xs)]⟩
    | _ => none)
  | _ => none
section
variable {S : Sg} {Fr : Hp} {G : Hp} {rho : List Addr} {env : En} {M : Mem} {σ : St} {H : Hp}
theorem walk_seqX {K : PySem.W.Frag} {a : Addr} {xs : List V} : Walk (Itl K a) xs.length (fun H => SqL K H a xs) (YAt xs) := walk_list
/-- where a kept value's sequence stands -/
theorem src_at (I : MR S G Fr M rho H) {d : D} {v : V} {s : Src} (h : Rep S rho G d v) (e : srcOf d M = some s) : ∃ (t : Bool) (a : Addr) (vs : List V), v = .ref a ∧ Reps S rho G s.items vs ∧ SqX S.K t H a vs ∧
    (∀ (Fr' G' : Hp) (env : En) (M' : Mem) (rho' : List Addr) (σ' : St) (H' : Hp), Same G G' → rho <+: rho' → R S G' Fr' env M' rho' σ' H' → memOk M' s.mems → ∃ us, SqX S.K t H' a us ∧ Reps S rho' G' s.items us) := by
  cases h with
  | @lst a xs vs ha z t =>
    cases e
    exact ⟨false, a, vs, rfl, t, SqL.of (I.gs _ _ ha), fun Fr' G' env M' rho' σ' H' g r I' _ => ⟨vs, SqL.of (I'.gs _ _ (g _ _ ha)), t.mono g r⟩⟩
  | @tup a xs vs ha z t =>
    cases e
    exact ⟨true, a, vs, rfl, t, SqT.of (I.gs _ _ ha), fun Fr' G' env M' rho' σ' H' g r I' _ => ⟨vs, SqT.of (I'.gs _ _ (g _ _ ha)), t.mono g r⟩⟩
  | @ref n a hr =>
    unfold srcOf at e
    cases hm : M[n]? with
    | none => simp [hm] at e
    | some mo =>
      cases mo with
      | ins c xs => simp [hm] at e
      | lst xs =>
        simp only [hm] at e
        cases e
        obtain ⟨z, vs, q, t⟩ := I.mem n a _ hr hm
        refine ⟨false, a, vs, rfl, t, SqL.of q, fun Fr' G' env M' rho' σ' H' g r I' mk => ?_⟩
        have hm' := mk (n, xs) (List.mem_singleton.mpr rfl)
        have hr' : rho'[n]? = some a := by
          obtain ⟨u, rfl⟩ := r
          rw [List.getElem?_append_left (List.getElem?_eq_some_iff.mp hr).1]
          exact hr
        obtain ⟨z', us, q', t'⟩ := I'.mem n a _ hr' hm'
        exact ⟨us, SqL.of q', t'⟩
  | _ => cases e
end

/-- the iterator of a list, a tuple -/
def ItS (K : PySem.W.Frag) (t : Bool) (a : Addr) : It := match t with
  | true => Itt K a
  | false => Itl K a
theorem walkS {K : PySem.W.Frag} {a : Addr} {n : Nat} : ∀ {t : Bool}, Walk (ItS K t a) n (fun H => ∃ us, SqX K t H a us ∧ us.length = n) (fun i H x H' => H' = H ∧ ∀ us, SqX K t H a us → us[i]? = some x)
  | true => ⟨fun i H hi ⟨us, q, l⟩ => ⟨us, us[i]'(by omega), q, by simp [l, hi]⟩, fun H ⟨us, q, l⟩ => ⟨us, q, by omega⟩, fun i H x H' hi q y => ⟨y.1, fun us hu => y.2 us hu⟩⟩
  | false => ⟨fun i H hi ⟨us, q, l⟩ => ⟨us, us[i]'(by omega), q, by simp [l, hi]⟩, fun H ⟨us, q, l⟩ => ⟨us, q, by omega⟩, fun i H x H' hi q y => ⟨y.1, fun us hu => y.2 us hu⟩⟩
section
variable {X : Cx} {tg : Expr}
theorem pi_seqX {l : Expr} {tl : TE} (hl : PE X l tl) : PI X tg l (fun σ H R => tl σ H fun x H1 => ∃ (t : Bool) (a : Addr), x = .ref a ∧ (∃ xs, SqX X.K t H1 a xs) ∧ R (ItS X.K t a) H1) := by
  refine ⟨fun pins s σ H R I h => ?_⟩
  refine thn (hl.run pins s σ H _ I h) fun v s1 ⟨x, H1, I1, r1, q1⟩ => ?_
  obtain ⟨t, a, e, ⟨xs, hq⟩, q⟩ := q1
  subst e
  cases r1
  have fr : ∀ b, b ∈ [s1.heap.objs.size] → FpOk X pins H1 b := fun b hb => by
    have e : b = s1.heap.objs.size := by simpa using hb
    subst e
    exact I1.fpOk (Nat.le_refl _) (I1.hok.fresh (Nat.le_refl _))
  cases t with
  | true =>
    obtain ⟨its, rv, p, hz⟩ := I1.tuple hq
    refine wpAny_pyIter_tuple (show s1.heap.IsTuple a its.toArray from p) ?_
    exact ⟨s1.heap.objs.size, [s1.heap.objs.size], _, _, H1, rfl, I1.kept (t' := s1.toks) fun b o e => Heap.get?_push_of_some _ e, turn_tuple a _, ⟨_, Heap.get?_push_size _ rfl, rfl, rfl⟩, fr, q⟩
  | false =>
    obtain ⟨its, rv, p, hz⟩ := I1.list hq
    refine wpAny_pyIter_list p.isList ?_
    exact ⟨s1.heap.objs.size, [s1.heap.objs.size], _, _, H1, rfl, I1.kept (t' := s1.toks) fun b o e => Heap.get?_push_of_some _ e, turn_list a _, ⟨_, Heap.get?_push_size _ rfl, rfl, rfl⟩, fr, q⟩
end
section
variable {S : Sg} {N : List Str} {sc : Scope} {k : Nat} {tg e e1 e2 e3 : Expr} {f f1 f2 f3 : En → Mem → Res W} {p pos : Pos}
theorem pi_seqA {X : Cx} {tg l : Expr} {tl : TE} (hl : PE X l tl) : PI X tg l (fun σ H R => tl σ H fun x H1 => (∃ z, x = .str z ∧ R (Its z) H1) ∨ ∃ (t : Bool) (a : Addr), x = .ref a ∧ (∃ xs, SqX X.K t H1 a xs) ∧ R (ItS X.K t a) H1) := by
  refine ⟨fun pins s σ H R I h => ?_⟩
  refine thn (hl.run pins s σ H _ I h) fun v s1 ⟨x, H1, I1, r1, q1⟩ => ?_
  rcases q1 with ⟨z, ex, q⟩ | ⟨t, a, e, ⟨xs, hq⟩, q⟩
  · subst ex
    obtain ⟨t, rfl⟩ := r1
    cases ha : z.cps.all (· < 128)
    · exact wpAny_pyIter_wide ha (pi_one (tk := s1.toks) I1 _ (turn_str _ z t "str_iterator" (.inr rfl)) ⟨_, Heap.get?_push_size _ rfl, rfl, rfl⟩ q)
    · exact wpAny_pyIter_ascii ha (pi_one (tk := s1.toks) I1 _ (turn_str _ z t "str_ascii_iterator" (.inl rfl)) ⟨_, Heap.get?_push_size _ rfl, rfl, rfl⟩ q)
  · subst e
    cases r1
    have fr : ∀ b, b ∈ [s1.heap.objs.size] → FpOk X pins H1 b := fun b hb => by
      have e : b = s1.heap.objs.size := by simpa using hb
      subst e
      exact I1.fpOk (Nat.le_refl _) (I1.hok.fresh (Nat.le_refl _))
    cases t with
    | true =>
      obtain ⟨its, rv, p, hz⟩ := I1.tuple hq
      refine wpAny_pyIter_tuple (show s1.heap.IsTuple a its.toArray from p) ?_
      exact ⟨s1.heap.objs.size, [s1.heap.objs.size], _, _, H1, rfl, I1.kept (t' := s1.toks) fun b o e => Heap.get?_push_of_some _ e, turn_tuple a _, ⟨_, Heap.get?_push_size _ rfl, rfl, rfl⟩, fr, q⟩
    | false =>
      obtain ⟨its, rv, p, hz⟩ := I1.list hq
      refine wpAny_pyIter_list p.isList ?_
      exact ⟨s1.heap.objs.size, [s1.heap.objs.size], _, _, H1, rfl, I1.kept (t' := s1.toks) fun b o e => Heap.get?_push_of_some _ e, turn_list a _, ⟨_, Heap.get?_push_size _ rfl, rfl, rfl⟩, fr, q⟩
/-- the signs of a text -/
def signs (z : Str) : List D := z.cps.toList.map fun c => D.str ⟨#[c]⟩
def srcA (d : D) (m : Mem) : Option Src := match d with
  | .str z => some ⟨signs z, []⟩
  | d => srcOf d m
def iSeq (f : En → Mem → Res W) : En → Mem → Res Src := fun env M => (esc f env M).bind fun d e m => match srcA d m with
  | some s => .ok s e m
  | none => .no
theorem si_seq (h : SE S N sc (.sm k) e f) : SI S N sc k tg e (iSeq f) := by
  obtain ⟨t, h1, h2⟩ := h.esc
  refine ⟨fun Wx σ H R => t Wx σ H fun x H1 => (∃ z, x = .str z ∧ R (Its z) H1) ∨ ∃ (t : Bool) (a : Addr), x = .ref a ∧ (∃ xs, SqX S.K t H1 a xs) ∧ R (ItS S.K t a) H1, fun X Wx g tk => by have := pi_seqA (tg := tg) (h1 X Wx g tk); rw [g.K] at this; exact this, fun Wx Fr G rho env M σ H Q I q => ?_⟩
  refine h2 Wx Fr G rho env M σ H _ I (Post.step (VR := DR S) q fun d e' m G1 rho1 H1 v _ g r I1 v1 q1 => ?_)
  by_cases hz : ∃ z, d = .str z
  · obtain ⟨z, rfl⟩ := hz
    cases (v1 : Rep S rho1 G1 (.str z) v)
    have hl : (signs z).length = z.cps.size := by simp [signs]
    refine .inl ⟨z, rfl, q1 G1 rho1 H1 _ (Same.refl _) (List.prefix_refl _) I1 ⟨_, _, by rw [show (⟨signs z, []⟩ : Src).items.length = z.cps.size from hl]; exact walk_str, fun _ _ _ _ _ _ _ _ _ _ _ => trivial, fun i Fr' G' env M' rho' σ' H' x H2 hi g' r' I' mk y => ?_⟩⟩
    obtain ⟨rfl, c, hc, rfl⟩ := y
    exact ⟨G', Same.refl _, I', .str ⟨#[c]⟩, by simp [signs, hc], .str _⟩
  · have hd : srcA d m = srcOf d m := by
      cases d <;> first | rfl | exact absurd ⟨_, rfl⟩ hz
    rw [hd] at q1
    cases hs : srcOf d m with
    | none => rw [hs] at q1; exact q1.elim
    | some s =>
      rw [hs] at q1
      obtain ⟨t, a, vs, rfl, tt, hx, later⟩ := src_at I1.toMR v1 hs
      refine .inr ⟨t, a, rfl, ⟨vs, hx⟩, q1 G1 rho1 H1 _ (Same.refl _) (List.prefix_refl _) I1 ⟨_, _, walkS (n := s.items.length), fun Fr' G' env M' rho' σ' H' g' r' I' mk => ?_, fun i Fr' G' env M' rho' σ' H' x H2 hi g' r' I' mk y => ?_⟩⟩
      · obtain ⟨us, q1, q2⟩ := later Fr' G' env M' rho' σ' H' g' r' I' mk
        exact ⟨us, q1, q2.length.symm⟩
      · obtain ⟨us, q1, q2⟩ := later Fr' G' env M' rho' σ' H' g' r' I' mk
        obtain ⟨rfl, y⟩ := y
        obtain ⟨d', h3, h4⟩ := q2.getV (y us q1)
        exact ⟨G', Same.refl _, I', d', h3, h4⟩
/-- the ints of a range -/
def rng (lo : Int) (n : Nat) : List D := (List.range n).map fun (i : Nat) => D.int (lo + i)
def inR (i : Int) : Bool := decide (-(2 ^ 62) ≤ i) && decide (i < 2 ^ 62)
def iR1 (fs : En → Mem → Res (List U)) : En → Mem → Res Src := fun env M => (fs env M).bind fun us e m => match us with
  | [u] => (match u.get e with
    | some (.int j) => if inR j then .ok ⟨rng 0 j.toNat, []⟩ e m else .no
    | _ => .no)
  | _ => .no
def iR2 (fs : En → Mem → Res (List U)) : En → Mem → Res Src := fun env M => (fs env M).bind fun us e m => match us with
  | [u, u'] => (match u.get e, u'.get e with
    | some (.int i), some (.int j) => if inR i && inR j then .ok ⟨rng i (j - i).toNat, []⟩ e m else .no
    | _, _ => .no)
  | _ => .no
theorem src_rng {Fr : Hp} {σ : St} {G : Hp} {env : En} {rho : List Addr} {H : Hp} {lo : Int} {n : Nat} : SrcR S Fr σ G env rho H ⟨rng lo n, []⟩ (Itr lo n) := by
  have hl : (rng lo n).length = n := by simp [rng]
  refine ⟨_, _, by rw [show (⟨rng lo n, []⟩ : Src).items.length = n from hl]; exact walk_range, fun _ _ _ _ _ _ _ _ _ _ _ => trivial, fun i Fr' G' env M rho' σ' H' x H2 hi g r I' _ y => ?_⟩
  obtain ⟨rfl, rfl⟩ := y
  rw [show (⟨rng lo n, []⟩ : Src).items.length = n from hl] at hi
  exact ⟨G', Same.refl _, I', .int (lo + i), by simp [rng, hi], .int _⟩
theorem inR_ok {i : Int} (h : inR i = true) : -(2 ^ 62) ≤ i ∧ i < 2 ^ 62 := by
  unfold inR at h
  rw [Bool.and_eq_true, decide_eq_true_eq, decide_eq_true_eq] at h
  exact h
theorem urs1 {Fr : Hp} {σ : St} {G : Hp} {env : En} {rho : List Addr} {H : Hp} {u : U} {vs : List V} (h : URs S Fr σ G env rho H [u] vs) : ∃ v, vs = [v] ∧ UR S Fr σ G env rho H u v := by
  cases h with
  | cons h t => cases t; exact ⟨_, rfl, h⟩
theorem urs2 {Fr : Hp} {σ : St} {G : Hp} {env : En} {rho : List Addr} {H : Hp} {u u' : U} {vs : List V} (h : URs S Fr σ G env rho H [u, u'] vs) : ∃ v v', vs = [v, v'] ∧ UR S Fr σ G env rho H u v ∧ UR S Fr σ G env rho H u' v' := by
  cases h with
  | cons h t =>
    obtain ⟨v', e, h'⟩ := urs1 t
    subst e
    exact ⟨_, _, rfl, h, h'⟩
theorem urs3 {Fr : Hp} {σ : St} {G : Hp} {env : En} {rho : List Addr} {H : Hp} {u u' u2 : U} {vs : List V} (h : URs S Fr σ G env rho H [u, u', u2] vs) : ∃ v v' v2, vs = [v, v', v2] ∧ UR S Fr σ G env rho H u v ∧ UR S Fr σ G env rho H u' v' ∧ UR S Fr σ G env rho H u2 v2 := by
  cases h with
  | cons h t =>
    obtain ⟨v', v2, e, h', h2⟩ := urs2 t
    subst e
    exact ⟨_, _, _, rfl, h, h', h2⟩
/-- a built-in's name that the module leaves alone -/
structure Blt (S : Sg) (sc : Scope) (x : Str) : Prop where
  g : sc.names.lookup x = some .globalImplicit
  m : S.mg x = none
theorem Blt.gl {X : Cx} {kk : Kk} {x : Str} (b : Blt S sc x) (g : Good S N sc kk X) : Gl X x := by
  rw [Gl, Env.kindOf, g.sco]
  exact b.g
theorem Blt.mg {X : Cx} {kk : Kk} {x : Str} (b : Blt S sc x) (g : Good S N sc kk X) : X.mg x = none := by
  rw [g.mg]
  exact b.m
theorem si_range1 {fs : En → Mem → Res (List U)} (b : Blt S sc "range") (h : SUs S N sc (.sm k) [e] fs) (hs : ∀ env : Env, starEach [e] env = [(false, eval e env)] := by intro _; rfl) : SI S N sc k tg (.Call (.Name "range" p) [e] [] pos) (iR1 fs) := by
  obtain ⟨t, h1, h2⟩ := h
  refine ⟨fun Wx => iRng1 (t Wx), fun X Wx g tk => pi_range1 (b.gl g) (b.mg g) (h1 X Wx g tk) (hs _), fun Wx Fr G rho env M σ H Q I q => ?_⟩
  refine h2 Wx Fr G rho env M σ H _ I (Post.step (VR := URs S) q fun us e' m G1 rho1 H1 vs _ g r I1 v1 q1 => ?_)
  split at q1
  · next u =>
    obtain ⟨v, rfl, hu⟩ := urs1 v1
    split at q1
    · next j hj =>
      cases UR.cur I1 hu hj
      split at q1
      · next hr =>
        obtain ⟨r1, r2⟩ := inR_ok hr
        exact ⟨j, rfl, r1, r2, q1 G1 rho1 H1 _ (Same.refl _) (List.prefix_refl _) I1 src_rng⟩
      · exact q1.elim
    · exact q1.elim
  · exact q1.elim
theorem si_range2 {fs : En → Mem → Res (List U)} (b : Blt S sc "range") (h : SUs S N sc (.sm k) [e1, e2] fs) (hs : ∀ env : Env, starEach [e1, e2] env = [(false, eval e1 env), (false, eval e2 env)] := by intro _; rfl) (hs2 : ∀ env : Env, starEach [e2] env = [(false, eval e2 env)] := by intro _; rfl) :
    SI S N sc k tg (.Call (.Name "range" p) [e1, e2] [] pos) (iR2 fs) := by
  obtain ⟨t, h1, h2⟩ := h
  refine ⟨fun Wx => iRng2 (t Wx), fun X Wx g tk => pi_range2 (b.gl g) (b.mg g) (h1 X Wx g tk) (hs _) (hs2 _), fun Wx Fr G rho env M σ H Q I q => ?_⟩
  refine h2 Wx Fr G rho env M σ H _ I (Post.step (VR := URs S) q fun us e' m G1 rho1 H1 vs _ g r I1 v1 q1 => ?_)
  split at q1
  · next u u' =>
    obtain ⟨v, v', rfl, hu, hu'⟩ := urs2 v1
    split at q1
    · next i j hi hj =>
      cases UR.cur I1 hu hi
      cases UR.cur I1 hu' hj
      split at q1
      · next hr =>
        rw [Bool.and_eq_true] at hr
        obtain ⟨r1, r2⟩ := inR_ok hr.1
        obtain ⟨r3, r4⟩ := inR_ok hr.2
        exact ⟨i, j, rfl, ⟨r1, r2, r3, r4⟩, q1 G1 rho1 H1 _ (Same.refl _) (List.prefix_refl _) I1 src_rng⟩
      · exact q1.elim
    · exact q1.elim
  · exact q1.elim

/-! ### enumerate, zip -/
def enumL (xs : List D) : List D := xs.zipIdx.map fun (p : D × Nat) => D.tup [.int (p.2 : Int), p.1]
def iEnum' (fs : En → Mem → Res (List D)) : En → Mem → Res Src := fun env M => (fs env M).bind fun ds e m => match ds with
  | [d] => (match srcOf d m with
    | some s => .ok ⟨enumL s.items, s.mems⟩ e m
    | none => .no)
  | _ => .no
/-- a new tuple of kept values -/
theorem tup_kept {Fr G : Hp} {rho : List Addr} {env : En} {M : Mem} {σ : St} {H : Hp} {T : Addr} {xs : List D} {vs : List V} (I : R S G Fr env M rho σ H) (hT : H T = none) (t : Reps S rho G xs vs) (z : xs.length ≤ sizeLine) :
    ∃ G2, Same G G2 ∧ R S G2 Fr env M rho σ (upd H T (.tup vs)) ∧ Rep S rho G2 (.tup xs) (.ref T) := by
  have f := free_new I hT
  exact ⟨upd G T (.tup vs), same_upd f.g, (I.alloc hT).keep f upd_same, .tup upd_same z (t.mono (same_upd f.g) (List.prefix_refl _))⟩
theorem walkE {K : PySem.W.Frag} {t : Bool} {a : Addr} {n : Nat} : Walk (IeX K t a) n (fun H => ∃ us, SqX K t H a us ∧ us.length = n)
    (fun i H v H' => ∃ T x, v = .ref T ∧ H T = none ∧ H' = upd H T (.tup [.int (i : Nat), x]) ∧ ∀ us, SqX K t H a us → us[i]? = some x) :=
  ⟨fun i H hi ⟨us, q, l⟩ => ⟨us, us[i]'(by omega), q, by simp [l, hi]⟩, fun H ⟨us, q, l⟩ => ⟨us, q, l⟩, fun i H x H' hi q y => y⟩
theorem si_enum {elts : List Expr} {x1 : Nat} {tpos : Pos} {fs : En → Mem → Res (List D)} (b : Blt S sc "enumerate") (h : SDs S N sc (.sm k) [e] fs) (hs : ∀ env : Env, starEach [e] env = [(false, eval e env)] := by intro _; rfl) :
    SI S N sc k (.Tuple elts x1 tpos) (.Call (.Name "enumerate" p) [e] [] pos) (iEnum' fs) := by
  obtain ⟨t, h1, h2⟩ := h
  refine ⟨fun Wx => iEnX S.K (t Wx), fun X Wx g tk => by have := pi_enumX (p := p) (pos := pos) (tpos := tpos) (elts := elts) (kk := x1) (b.gl g) (b.mg g) (h1 X Wx g tk) (hs _); rw [g.K] at this; exact this, fun Wx Fr G rho env M σ H Q I q => ?_⟩
  refine h2 Wx Fr G rho env M σ H _ I (Post.step (VR := DRs S) q fun ds e' m G1 rho1 H1 vs _ g r I1 v1 q1 => ?_)
  split at q1
  · next d _ =>
    have v1 : Reps S rho1 G1 [d] vs := v1
    cases v1 with
    | cons hd tl =>
      cases tl
      cases hs : srcOf d m with
      | none => rw [hs] at q1; exact q1.elim
      | some s =>
        rw [hs] at q1
        obtain ⟨t, a, us, rfl, tt, hx, later⟩ := src_at I1.toMR hd hs
        have hl : (enumL s.items).length = s.items.length := by simp [enumL]
        refine ⟨t, a, us, rfl, hx, q1 G1 rho1 H1 _ (Same.refl _) (List.prefix_refl _) I1 ⟨_, _, by rw [show (⟨enumL s.items, s.mems⟩ : Src).items.length = s.items.length from hl]; exact walkE, fun Fr' G' env M' rho' σ' H' g' r' I' mk => ?_, fun i Fr' G' env M' rho' σ' H' x H2 hi g' r' I' mk y => ?_⟩⟩
        · obtain ⟨us, q1, q2⟩ := later Fr' G' env M' rho' σ' H' g' r' I' mk
          exact ⟨us, q1, q2.length.symm⟩
        · obtain ⟨us, q1, q2⟩ := later Fr' G' env M' rho' σ' H' g' r' I' mk
          obtain ⟨T, x', rfl, hT, rfl, y⟩ := y
          obtain ⟨d', h3, h4⟩ := q2.getV (y us q1)
          obtain ⟨G2, g2, I2, r2⟩ := tup_kept I' hT (.cons (.int (i : Nat)) (.cons h4 .nil)) (by show 2 ≤ sizeLine; decide)
          exact ⟨G2, g2, I2, _, by simp [enumL, h3], r2⟩
  · exact q1.elim
def iZip2 (fs : En → Mem → Res (List D)) : En → Mem → Res Src := fun env M => (fs env M).bind fun ds e m => match ds with
  | [d1, d2] => (match srcOf d1 m, srcOf d2 m with
    | some s1, some s2 => .ok ⟨List.zipWith (fun x y => D.tup [x, y]) s1.items s2.items, s1.mems ++ s2.mems⟩ e m
    | _, _ => .no)
  | _ => .no
def zip3 (xs ys zs : List D) : List D := List.zipWith (fun x (p : D × D) => D.tup [x, p.1, p.2]) xs (ys.zip zs)
def iZip3 (fs : En → Mem → Res (List D)) : En → Mem → Res Src := fun env M => (fs env M).bind fun ds e m => match ds with
  | [d1, d2, d3] => (match srcOf d1 m, srcOf d2 m, srcOf d3 m with
    | some s1, some s2, some s3 => .ok ⟨zip3 s1.items s2.items s3.items, s1.mems ++ (s2.mems ++ s3.mems)⟩ e m
    | _, _, _ => .no)
  | _ => .no
theorem memOk_l {m : Mem} {l l' : List (Nat × List D)} (h : memOk m (l ++ l')) : memOk m l := fun p hp => h p (List.mem_append_left _ hp)
theorem memOk_r {m : Mem} {l l' : List (Nat × List D)} (h : memOk m (l ++ l')) : memOk m l' := fun p hp => h p (List.mem_append_right _ hp)
theorem walkZ2 {K : PySem.W.Frag} {t1 t2 : Bool} {a1 a2 : Addr} {n1 n2 : Nat} : Walk (Iz2 K t1 t2 a1 a2) (min n1 n2) (fun H => (∃ us, SqX K t1 H a1 us ∧ us.length = n1) ∧ ∃ us, SqX K t2 H a2 us ∧ us.length = n2) (Iz2 K t1 t2 a1 a2).yld :=
  ⟨fun i H hi ⟨⟨us, q, l⟩, ⟨us', q', l'⟩⟩ => ⟨us, us', us[i]'(by omega), us'[i]'(by omega), q, q', by simp [show i < us.length by omega], by simp [show i < us'.length by omega]⟩, fun H ⟨⟨us, q, l⟩, ⟨us', q', l'⟩⟩ => ⟨us, us', q, q', by rw [l, l']⟩, fun i H x H' hi q y => y⟩
theorem walkZ3 {K : PySem.W.Frag} {t1 t2 t3 : Bool} {a1 a2 a3 : Addr} {n1 n2 n3 : Nat} : Walk (Iz3 K t1 t2 t3 a1 a2 a3) (min (min n1 n2) n3) (fun H => (∃ us, SqX K t1 H a1 us ∧ us.length = n1) ∧ (∃ us, SqX K t2 H a2 us ∧ us.length = n2) ∧ ∃ us, SqX K t3 H a3 us ∧ us.length = n3) (Iz3 K t1 t2 t3 a1 a2 a3).yld :=
  ⟨fun i H hi ⟨⟨us, q, l⟩, ⟨us', q', l'⟩, ⟨us2, q2, l2⟩⟩ => ⟨us, us', us2, us[i]'(by omega), us'[i]'(by omega), us2[i]'(by omega), q, q', q2, by simp [show i < us.length by omega], by simp [show i < us'.length by omega], by simp [show i < us2.length by omega]⟩,
    fun H ⟨⟨us, q, l⟩, ⟨us', q', l'⟩, ⟨us2, q2, l2⟩⟩ => ⟨us, us', us2, q, q', q2, by rw [l, l', l2]⟩, fun i H x H' hi q y => y⟩
theorem si_zip2 {elts : List Expr} {x1 : Nat} {tpos : Pos} {fs : En → Mem → Res (List D)} (b : Blt S sc "zip") (h : SDs S N sc (.sm k) [e1, e2] fs)
    (hs : ∀ env : Env, starEach [e1, e2] env = (false, eval e1 env) :: starEach [e2] env := by intro _; rfl) (hpl : ∀ env : Env, (backTo pos (starEach [e2] env)).any (·.1) = false := by intro _; rfl) :
    SI S N sc k (.Tuple elts x1 tpos) (.Call (.Name "zip" p) [e1, e2] [] pos) (iZip2 fs) := by
  obtain ⟨t, h1, h2⟩ := h
  refine ⟨fun Wx => iZp2 S.K (t Wx), fun X Wx g tk => by have := pi_zipX2 (p := p) (pos := pos) (tpos := tpos) (elts := elts) (kk := x1) (b.gl g) (b.mg g) (h1 X Wx g tk) (hs _) (hpl _); rw [g.K] at this; exact this, fun Wx Fr G rho env M σ H Q I q => ?_⟩
  refine h2 Wx Fr G rho env M σ H _ I (Post.step (VR := DRs S) q fun ds e' m G1 rho1 H1 vs _ g r I1 v1 q1 => ?_)
  split at q1
  · next d1 d2 _ =>
    have v1 : Reps S rho1 G1 [d1, d2] vs := v1
    cases v1 with
    | cons hd1 tl =>
      cases tl with
      | cons hd2 tl =>
        cases tl
        cases hs1 : srcOf d1 m with
        | none => simp only [hs1] at q1; exact q1.elim
        | some s1 =>
          cases hs2 : srcOf d2 m with
          | none => simp only [hs1, hs2] at q1; exact q1.elim
          | some s2 =>
            simp only [hs1, hs2] at q1
            obtain ⟨t1, a1, us1, rfl, tt1, hx1, later1⟩ := src_at I1.toMR hd1 hs1
            obtain ⟨t2, a2, us2, rfl, tt2, hx2, later2⟩ := src_at I1.toMR hd2 hs2
            refine ⟨t1, t2, a1, a2, us1, us2, rfl, hx1, hx2, q1 G1 rho1 H1 _ (Same.refl _) (List.prefix_refl _) I1 ⟨_, _, by
              rw [show (⟨List.zipWith (fun x y => D.tup [x, y]) s1.items s2.items, s1.mems ++ s2.mems⟩ : Src).items.length = min s1.items.length s2.items.length by simp]
              exact walkZ2, fun Fr' G' env M' rho' σ' H' g' r' I' mk => ?_, fun i Fr' G' env M' rho' σ' H' x H2 hi g' r' I' mk y => ?_⟩⟩
            · obtain ⟨us, q1, q2⟩ := later1 Fr' G' env M' rho' σ' H' g' r' I' (memOk_l mk)
              obtain ⟨us', q3, q4⟩ := later2 Fr' G' env M' rho' σ' H' g' r' I' (memOk_r mk)
              exact ⟨⟨us, q1, q2.length.symm⟩, ⟨us', q3, q4.length.symm⟩⟩
            · obtain ⟨us, q1, q2⟩ := later1 Fr' G' env M' rho' σ' H' g' r' I' (memOk_l mk)
              obtain ⟨us', q3, q4⟩ := later2 Fr' G' env M' rho' σ' H' g' r' I' (memOk_r mk)
              obtain ⟨T, y1, y2, rfl, hT, rfl, z1, z2⟩ := y
              obtain ⟨d', h3, h4⟩ := q2.getV (z1 us q1)
              obtain ⟨d2', h5, h6⟩ := q4.getV (z2 us' q3)
              obtain ⟨G2, g2, I2, r2⟩ := tup_kept I' hT (.cons h4 (.cons h6 .nil)) (by show 2 ≤ sizeLine; decide)
              exact ⟨G2, g2, I2, .tup [d', d2'], by simp [List.getElem?_zipWith, h3, h5], r2⟩
  · exact q1.elim
theorem si_zip3 {elts : List Expr} {x1 : Nat} {tpos : Pos} {fs : En → Mem → Res (List D)} (b : Blt S sc "zip") (h : SDs S N sc (.sm k) [e1, e2, e3] fs)
    (hs : ∀ env : Env, starEach [e1, e2, e3] env = (false, eval e1 env) :: starEach [e2, e3] env := by intro _; rfl) (hpl : ∀ env : Env, (backTo pos (starEach [e2, e3] env)).any (·.1) = false := by intro _; rfl) :
    SI S N sc k (.Tuple elts x1 tpos) (.Call (.Name "zip" p) [e1, e2, e3] [] pos) (iZip3 fs) := by
  obtain ⟨t, h1, h2⟩ := h
  refine ⟨fun Wx => iZp3 S.K (t Wx), fun X Wx g tk => by have := pi_zipX3 (p := p) (pos := pos) (tpos := tpos) (elts := elts) (kk := x1) (b.gl g) (b.mg g) (h1 X Wx g tk) (hs _) (hpl _); rw [g.K] at this; exact this, fun Wx Fr G rho env M σ H Q I q => ?_⟩
  refine h2 Wx Fr G rho env M σ H _ I (Post.step (VR := DRs S) q fun ds e' m G1 rho1 H1 vs _ g r I1 v1 q1 => ?_)
  split at q1
  · next d1 d2 d3 _ =>
    have v1 : Reps S rho1 G1 [d1, d2, d3] vs := v1
    cases v1 with
    | cons hd1 tl =>
      cases tl with
      | cons hd2 tl =>
        cases tl with
        | cons hd3 tl =>
          cases tl
          split at q1
          · next s1 s2 s3 hs1 hs2 hs3 =>
            obtain ⟨t1, a1, us1, rfl, tt1, hx1, later1⟩ := src_at I1.toMR hd1 hs1
            obtain ⟨t2, a2, us2, rfl, tt2, hx2, later2⟩ := src_at I1.toMR hd2 hs2
            obtain ⟨t3, a3, us3, rfl, tt3, hx3, later3⟩ := src_at I1.toMR hd3 hs3
            refine ⟨t1, t2, t3, a1, a2, a3, us1, us2, us3, rfl, hx1, hx2, hx3, q1 G1 rho1 H1 _ (Same.refl _) (List.prefix_refl _) I1 ⟨_, _, by
              rw [show (⟨zip3 s1.items s2.items s3.items, s1.mems ++ (s2.mems ++ s3.mems)⟩ : Src).items.length = min (min s1.items.length s2.items.length) s3.items.length by simp [zip3, Nat.min_assoc]]
              exact walkZ3, fun Fr' G' env M' rho' σ' H' g' r' I' mk => ?_, fun i Fr' G' env M' rho' σ' H' x H2 hi g' r' I' mk y => ?_⟩⟩
            · obtain ⟨us, q1, q2⟩ := later1 Fr' G' env M' rho' σ' H' g' r' I' (memOk_l mk)
              obtain ⟨us', q3, q4⟩ := later2 Fr' G' env M' rho' σ' H' g' r' I' (memOk_l (memOk_r mk))
              obtain ⟨us2, q5, q6⟩ := later3 Fr' G' env M' rho' σ' H' g' r' I' (memOk_r (memOk_r mk))
              exact ⟨⟨us, q1, q2.length.symm⟩, ⟨us', q3, q4.length.symm⟩, ⟨us2, q5, q6.length.symm⟩⟩
            · obtain ⟨us, q1, q2⟩ := later1 Fr' G' env M' rho' σ' H' g' r' I' (memOk_l mk)
              obtain ⟨us', q3, q4⟩ := later2 Fr' G' env M' rho' σ' H' g' r' I' (memOk_l (memOk_r mk))
              obtain ⟨us2, q5, q6⟩ := later3 Fr' G' env M' rho' σ' H' g' r' I' (memOk_r (memOk_r mk))
              obtain ⟨T, y1, y2, y3, rfl, hT, rfl, z1, z2, z3⟩ := y
              obtain ⟨d', h3, h4⟩ := q2.getV (z1 us q1)
              obtain ⟨d2', h5, h6⟩ := q4.getV (z2 us' q3)
              obtain ⟨d3', h7, h8⟩ := q6.getV (z3 us2 q5)
              obtain ⟨G2, g2, I2, r2⟩ := tup_kept I' hT (.cons h4 (.cons h6 (.cons h8 .nil))) (by show 3 ≤ sizeLine; decide)
              exact ⟨G2, g2, I2, .tup [d', d2', d3'], by simp [zip3, List.getElem?_zipWith, List.zip, h3, h5, h7], r2⟩
          · exact q1.elim
  · exact q1.elim
end
end Ow
namespace Ow
open PySem PySem.Spec L2

/-! ### targets -/
/-- the slots but those at l are as they were -/
def But (l : List Nat) (σ σ' : St) : Prop := σ'.length = σ.length ∧ ∀ i, i ∉ l → σ'[i]? = σ[i]?
theorem But.refl (l : List Nat) (σ : St) : But l σ σ := ⟨rfl, fun _ _ => rfl⟩
theorem But.trans {l : List Nat} {a b c : St} (h : But l a b) (h' : But l b c) : But l a c := ⟨h'.1.trans h.1, fun i hi => (h'.2 i hi).trans (h.2 i hi)⟩
theorem But.mono {l l' : List Nat} {a b : St} (h : But l a b) (s : ∀ i ∈ l, i ∈ l') : But l' a b := ⟨h.1, fun i hi => h.2 i fun z => hi (s i z)⟩
theorem But.set (l : List Nat) (σ : St) (i : Nat) (v : Option V) (h : i ∈ l) : But l σ (σ.set i v) := ⟨by rw [List.length_set], fun j hj => by
  rw [List.getElem?_set_ne]
  rintro rfl
  exact hj h⟩
def TgOk (X : Cx) (own : List (Str × Nat)) : Prop := ∀ p ∈ own, L2.Loc X.env.scope p.1 ∧ (X.fn p.1 = true ∨ X.env.scope.names.lookup p.1 = some .local)
abbrev GT := D → En → Option En
abbrev GTs := List D → En → Option En
def SG (S : Sg) (N : List Str) (sc : Scope) (k : Nat) (own : List (Str × Nat)) (tg : Expr) (g : GT) : Prop :=
  ∃ t : TG, (∀ X, Good S N sc (.sm k) X → TgOk X own → PG X tg t) ∧
    ∀ (G Fr : Hp) (env e : En) (M : Mem) (rho : List Addr) (σ : St) (H : Hp) (d : D) (v : V) (Q : St → Hp → Prop), R S G Fr env M rho σ H → Rep S rho G d v → g d env = some e → (∀ σ', But (own.map (·.2)) σ σ' → R S G Fr e M rho σ' H → Q σ' H) → t v σ H Q
def SGs (S : Sg) (N : List Str) (sc : Scope) (k : Nat) (own : List (Str × Nat)) (tgs : List Expr) (g : GTs) : Prop :=
  ∃ t : TGs, (∀ X, Good S N sc (.sm k) X → TgOk X own → PGs X tgs t) ∧
    ∀ (G Fr : Hp) (env e : En) (M : Mem) (rho : List Addr) (σ : St) (H : Hp) (ds : List D) (vs : List V) (Q : St → Hp → Prop), R S G Fr env M rho σ H → Reps S rho G ds vs → g ds env = some e → (∀ σ', But (own.map (·.2)) σ σ' → R S G Fr e M rho σ' H → Q σ' H) → t vs σ H Q
def tgN (i : Nat) : GT := fun d e => if i < e.length then some (e.set i (.val d)) else none
def tgNil : GTs := fun ds e => match ds with
  | [] => some e
  | _ => none
def tgCons (g : GT) (gs : GTs) : GTs := fun ds e => match ds with
  | d :: ds => (g d e).bind fun e => gs ds e
  | [] => none
def tgT (n : Nat) (gs : GTs) : GT := fun d e => match d with
  | .tup xs => if xs.length = n then gs xs e else none
  | _ => none
section
variable {S : Sg} {N : List Str} {sc : Scope} {k : Nat} {own own' : List (Str × Nat)} {pos : Pos} {e : Expr} {es : List Expr}
theorem sg_name {i : Nat} {x : Str} (hi : N[i]? = some x := by rfl) : SG S N sc k [(x, i)] (.Name x pos) (tgN i) := by
  refine ⟨gName i, fun X g ok => ?_, fun G Fr env e M rho σ H d v Q I r q c => ?_⟩
  · obtain ⟨h1, h2⟩ := ok (x, i) (List.mem_singleton.mpr rfl)
    exact pg_name (by rw [g.nN]; exact g.nd) (by rw [g.nN]; exact hi) h1 h2
  · unfold tgN at q
    split at q
    · next hl =>
      cases q
      exact c _ (But.set _ _ _ _ (by simp)) (I.setVal hl r)
    · cases q
theorem sgs_nil : SGs S N sc k [] [] tgNil := by
  refine ⟨gNil, fun X g ok => pgs_nil, fun G Fr env e M rho σ H ds vs Q I r q c => ?_⟩
  cases r with
  | nil =>
    cases q
    exact ⟨rfl, c σ (But.refl _ _) I⟩
  | cons h t => cases q
theorem sgs_cons {g : GT} {gs : GTs} (h : SG S N sc k own e g) (h' : SGs S N sc k own' es gs) (h0 : ∀ env : Env, (assignEach (e :: es) env).map (·.2) = assign e env :: (assignEach es env).map (·.2) := by intro _; rfl) : SGs S N sc k (own ++ own') (e :: es) (tgCons g gs) := by
  obtain ⟨t, h1, h2⟩ := h
  obtain ⟨u, k1, k2⟩ := h'
  refine ⟨gCons t u, fun X g ok => pgs_cons (h1 X g fun p hp => ok p (List.mem_append_left _ hp)) (k1 X g fun p hp => ok p (List.mem_append_right _ hp)) (h0 _), fun G Fr env e M rho σ H ds vs Q I r q c => ?_⟩
  cases r with
  | nil => cases q
  | @cons d ds v vs hd tl =>
    refine ⟨_, _, rfl, ?_⟩
    obtain ⟨e1, q1, q2⟩ := Option.bind_eq_some_iff.mp (show (g d env).bind (fun e => gs ds e) = some e from q)
    refine h2 G Fr env e1 M rho σ H _ _ _ I hd q1 fun σ1 b1 I1 => ?_
    refine k2 G Fr e1 e M rho σ1 H _ _ _ I1 tl q2 fun σ2 b2 I2 => ?_
    exact c σ2 ((b1.mono fun i hi => by rw [List.map_append]; exact List.mem_append_left _ hi).trans (b2.mono fun i hi => by rw [List.map_append]; exact List.mem_append_right _ hi)) I2
theorem sg_tup {x1 n : Nat} {gs : GTs} (h : SGs S N sc k own es gs) (hn : ∀ env : Env, (assignEach es env).length = n := by intro _; rfl) (hst : ∀ env : Env, (assignEach es env).findIdx? (·.1) = none := by intro _; rfl) : SG S N sc k own (.Tuple es x1 pos) (tgT n gs) := by
  obtain ⟨t, h1, h2⟩ := h
  refine ⟨gTup S.K n t, fun X g ok => by have := pg_tup (k := x1) (pos := pos) (g.room k rfl).2 (h1 X g ok) (hn X.env) (hst _); rw [g.K] at this; exact this, fun G Fr env e M rho σ H d v Q I r q c => ?_⟩
  cases r with
  | @tup a xs vs ha z t =>
    unfold tgT at q
    simp only at q
    split at q
    · next hl => exact ⟨a, vs, rfl, SqT.of (I.gs _ _ ha), by rw [← t.length]; exact hl, h2 G Fr env e M rho σ H xs vs Q I t q c⟩
    · cases q
  | _ => cases q
/-- targets of a statement: the def's own names -/
theorem tgOk_def {X : Cx} {k : Nat} (g : GoodS S N sc (.sm k) X) (h : ∀ p ∈ own, L2.Loc sc p.1) : TgOk X own := fun p hp => ⟨by rw [g.sco]; exact h p hp, .inl (g.fn _)⟩
def locB (sc : Scope) (own : List (Str × Nat)) : Bool := own.all fun p => match sc.names.lookup p.1 with
  | some .local => true
  | some .cell => true
  | _ => false
theorem loc_of {h : Scope} {own : List (Str × Nat)} (b : locB h own = true) : ∀ p ∈ own, L2.Loc h p.1 := fun p hp => by
  have := List.all_eq_true.mp b p hp
  unfold L2.Loc
  cases q : h.names.lookup p.1 with
  | none => simp only [q] at this; cases this
  | some kd => cases kd <;> simp only [q] at this <;> first | exact .inl rfl | exact .inr rfl | cases this
/-- target = e -/
def sAsg (g : GT) (f : En → Mem → Res W) : En → Mem → Res Fl := fun env M => (esc f env M).bind fun d e m => match g d e with
  | some e' => .ok .nx e' m
  | none => .no
theorem ss_asg {tg : Expr} {g : GT} {f : En → Mem → Res W} (hg : SG S N sc k own tg g) (hl : locB sc own = true) (h : SE S N sc (.sm k) e f) (hs : ∀ env : Env, swapsWithSole [tg] e pos.line env = pure false := by intro _; rfl) (hw : ∀ env : Env, swappedStores [tg] e env = pure none := by intro _; rfl) (h3 : ∀ env : Env, (assignEach [tg] env).map (·.2) = [assign tg env] := by intro _; rfl) :
    SS S N sc (.sm k) (.Assign [tg] e pos) (sAsg g f) := by
  obtain ⟨t, h1, h2⟩ := hg
  obtain ⟨u, k1, k2⟩ := h.esc
  refine ⟨fun Wx => tAsg (u Wx) t, fun X Wx gd tk => ps_asg (k1 X Wx gd.toGood tk) (h1 X gd.toGood (tgOk_def gd (loc_of hl))) (hs _) (hw _) (h3 _), fun Wx Fr G rho env M σ H D I p => ?_⟩
  refine k2 Wx Fr G rho env M σ H _ I (PostS.step (VR := DR S) p fun d e m G1 rho1 H1 v _ g r I1 v1 q => ?_)
  split at q
  · next e' he => exact h2 G1 Fr e e' m rho1 σ H1 d v _ I1 v1 he fun σ' b I' => PostS.nx q I'
  · exact q.elim

/-! ### for -/
open Classical in
noncomputable def forD (g : GT) (b : En → Mem → Res Fl) (mems : List (Nat × List D)) : List D → En → Mem → Res Fl
  | [], e, m => if memOk m mems then .ok .nx e m else .no
  | x :: xs, e, m => if memOk m mems then (match g x e with
      | some e' => (b e' m).bind fun fl e m => (match fl with
        | .nx => forD g b mems xs e m
        | .ct => forD g b mems xs e m
        | .bk => .ok .nx e m
        | .rt w => .ok (.rt w) e m)
      | none => .no) else .no
noncomputable def sFor (i : En → Mem → Res Src) (g : GT) (b : En → Mem → Res Fl) : En → Mem → Res Fl := fun env M => (i env M).bind fun s e m => forD g b s.mems s.items e m
theorem forD_mem {g : GT} {b : En → Mem → Res Fl} {mems : List (Nat × List D)} {xs : List D} {e : En} {m : Mem} (h : forD g b mems xs e m ≠ .no) : memOk m mems := by
  by_cases hm : memOk m mems
  · exact hm
  · exfalso
    apply h
    cases xs <;> simp only [forD, if_neg hm]
theorem ss_for {tg iter : Expr} {body : List Stmt} {g : GT} {i : En → Mem → Res Src} {b : En → Mem → Res Fl} (hg : SG S N sc k own tg g) (hl : locB sc own = true) (hi : SI S N sc k tg iter i) (hb : SSs S N sc (.sm k) body b)
    (hs : ∀ (env : Env) x, foldedSetIterable iter env x = pure x := by intro _ _; rfl) : SS S N sc (.sm k) (.For tg iter body [] pos) (sFor i g b) := by
  obtain ⟨t, h1, h2⟩ := hg
  obtain ⟨u, k1, k2⟩ := hi
  obtain ⟨w, l1, l2⟩ := hb
  refine ⟨fun Wx => tFor (u Wx) t (w Wx), fun X Wx gd tk => ps_for (gd.po k rfl) (gd.room k rfl).2 (k1 X Wx gd.toGood tk) (h1 X gd.toGood (tgOk_def gd (loc_of hl))) (l1 X Wx gd tk) (hs _), fun Wx Fr G rho env M σ H D I p => ?_⟩
  refine k2 Wx Fr G rho env M σ H _ I (PostS.step (VR := SrcR S) p fun s e m G1 rho1 H1 J _ g1 r1 I1 v1 q => ?_)
  obtain ⟨Gp, Y, wk, hGp, hY⟩ := v1
  have nono : ∀ {r : Res Fl} {G' : Hp} {rho' : List Addr}, PostS S Wx Fr G' rho' r D → r ≠ .no := fun {r _ _} p z => by subst z; exact p
  refine for_it wk (fun j σ' H' => ∃ G' rho' e' m', Same G1 G' ∧ rho1 <+: rho' ∧ R S G' Fr e' m' rho' σ' H' ∧ PostS S Wx Fr G' rho' (forD g b s.mems (s.items.drop j) e' m') D) ⟨G1, rho1, e, m, Same.refl _, List.prefix_refl _, I1, q⟩ ?_ ?_ ?_
  · rintro j σ' H' hj ⟨G', rho', e', m', g', r', I', q'⟩
    exact hGp Fr G' e' m' rho' σ' H' g' r' I' (forD_mem (nono q'))
  · rintro j x σ' H' H2 hj ⟨G', rho', e', m', g', r', I', q'⟩ y
    have mk := forD_mem (nono q')
    obtain ⟨G2, g2, I2, d, hd, rd⟩ := hY j Fr G' e' m' rho' σ' H' x H2 hj g' r' I' mk y
    have hdr : s.items.drop j = d :: s.items.drop (j + 1) := by
      obtain ⟨hlt, he⟩ := List.getElem?_eq_some_iff.mp hd
      rw [List.drop_eq_getElem_cons hlt, he]
    rw [hdr] at q'
    simp only [forD, if_pos mk] at q'
    cases hg : g d e' with
    | none => simp only [hg] at q'; exact q'.elim
    | some e2 =>
      simp only [hg] at q'
      refine h2 G2 Fr e' e2 m' rho' σ' H2 d x _ I2 rd hg fun σ2 _ I3 => ?_
      refine l2 Wx Fr G2 rho' e2 m' σ2 H2 _ I3 ?_
      have q2 := PostS.later q' g2 (List.prefix_refl _)
      cases hbr : b e2 m' with
      | ok fl e4 m4 =>
        rw [hbr] at q2
        intro σ4 G4 rho4 H4 g4 r4 I4
        have q4 := PostS.later q2 g4 r4
        cases fl with
        | nx => exact ⟨G4, rho4, e4, m4, (g'.trans g2).trans g4, r'.trans r4, I4, q4⟩
        | ct => exact ⟨G4, rho4, e4, m4, (g'.trans g2).trans g4, r'.trans r4, I4, q4⟩
        | bk => exact PostS.nx q4 I4
        | rt w => exact fun v hv => q4 σ4 G4 rho4 H4 (Same.refl _) (List.prefix_refl _) I4 v hv
      | exc c d2 e4 m4 => rw [hbr] at q2; exact q2
      | no => rw [hbr] at q2; exact q2.elim
  · rintro σ' H' ⟨G', rho', e', m', g', r', I', q'⟩
    have mk := forD_mem (nono q')
    rw [List.drop_length] at q'
    simp only [forD, if_pos mk] at q'
    exact PostS.nx q' I'

/-! ### while -/
def sWhile (c : En → Mem → Res Bool) (b : En → Mem → Res Fl) : Nat → En → Mem → Res Fl
  | 0, _, _ => .no
  | n + 1, e, m => (c e m).bind fun k e m => if k then (b e m).bind fun fl e m => (match fl with
      | .nx => sWhile c b n e m
      | .ct => sWhile c b n e m
      | .bk => .ok .nx e m
      | .rt w => .ok (.rt w) e m) else .ok .nx e m
theorem ss_while {c : Expr} {body : List Stmt} {gc : En → Mem → Res Bool} {b : En → Mem → Res Fl} (n : Nat) (hc : SB S N sc (.sm k) c gc) (hb : SSs S N sc (.sm k) body b) : SS S N sc (.sm k) (.While c body [] pos) (sWhile gc b n) := by
  obtain ⟨t, h1, h2⟩ := hc
  obtain ⟨u, k1, k2⟩ := hb
  refine ⟨fun Wx => tWhile (t Wx) (u Wx), fun X Wx gd tk => ps_while (gd.po k rfl) (h1 X Wx gd.toGood tk) (k1 X Wx gd tk), fun Wx Fr G rho env M σ H D I p => ?_⟩
  refine ⟨fun j σ' H' => ∃ G' rho' e' m', R S G' Fr e' m' rho' σ' H' ∧ PostS S Wx Fr G' rho' (sWhile gc b j e' m') D, ⟨n, G, rho, env, M, I, p⟩, ?_⟩
  rintro j σ' H' ⟨G', rho', e', m', I', q⟩
  cases j with
  | zero => exact q.elim
  | succ j =>
    refine h2 Wx Fr G' rho' e' m' σ' H' _ I' (PostS.step (VR := BR) q fun kb e m G1 rho1 H1 v _ g r I1 v1 q1 => ?_)
    cases v1
    cases kb with
    | false =>
      rw [if_neg Bool.false_ne_true]
      exact PostS.nx q1 I1
    | true =>
      rw [if_pos rfl]
      refine ⟨fun σ2 H2 => ∃ G' rho' e' m', R S G' Fr e' m' rho' σ2 H2 ∧ PostS S Wx Fr G' rho' (sWhile gc b j e' m') D, fun σ2 H2 w => ⟨j, Nat.lt_succ_self j, w⟩, ?_⟩
      refine k2 Wx Fr G1 rho1 e m σ' H1 _ I1 ?_
      have q1 : PostS S Wx Fr G1 rho1 ((b e m).bind fun fl e m => (match fl with
        | .nx => sWhile gc b j e m
        | .ct => sWhile gc b j e m
        | .bk => .ok .nx e m
        | .rt w => .ok (.rt w) e m)) D := q1
      cases hbr : b e m with
      | ok fl e4 m4 =>
        rw [hbr] at q1
        intro σ4 G4 rho4 H4 g4 r4 I4
        have q4 := PostS.later q1 g4 r4
        cases fl with
        | nx => exact ⟨G4, rho4, e4, m4, I4, q4⟩
        | ct => exact ⟨G4, rho4, e4, m4, I4, q4⟩
        | bk => exact PostS.nx q4 I4
        | rt w => exact fun v hv => q4 σ4 G4 rho4 H4 (Same.refl _) (List.prefix_refl _) I4 v hv
      | exc c d2 e4 m4 => rw [hbr] at q1; exact q1
      | no => rw [hbr] at q1; exact q1.elim
end
end Ow
namespace Ow
open PySem PySem.Spec L2

/-! ### slots of a comprehension's own names -/
def clr : List Nat → En → En
  | [], e => e
  | v :: vs, e => (clr vs e).set v .un
def rst (e0 : En) : List Nat → En → En
  | [], e => e
  | v :: vs, e => (rst e0 vs e).set v (e0.getD v .un)
def noOwn (e : En) (vs : List Nat) : Bool := vs.all fun v => match e[v]? with
  | some (.own _) => false
  | _ => true
theorem clr_len : ∀ (vs : List Nat) (e : En), (clr vs e).length = e.length
  | [], _ => rfl
  | v :: vs, e => by rw [clr, List.length_set, clr_len vs e]
theorem rst_len (e0 : En) : ∀ (vs : List Nat) (e : En), (rst e0 vs e).length = e.length
  | [], _ => rfl
  | v :: vs, e => by rw [rst, List.length_set, rst_len e0 vs e]
theorem clr_out : ∀ {vs : List Nat} {e : En} {i : Nat}, i ∉ vs → (clr vs e)[i]? = e[i]?
  | [], _, _, _ => rfl
  | v :: vs, e, i, h => by
    rw [clr, List.getElem?_set_ne (fun z => h (by simp [z]))]
    exact clr_out fun z => h (by simp [z])
theorem clr_in : ∀ {vs : List Nat} {e : En} {i : Nat} {s : Sl}, i ∈ vs → (clr vs e)[i]? = some s → s = .un
  | v :: vs, e, i, s, h, q => by
    by_cases hv : v = i
    · subst hv
      rw [clr] at q
      by_cases hl : v < (clr vs e).length
      · rw [List.getElem?_set_self hl] at q; exact (Option.some.inj q).symm
      · rw [List.getElem?_eq_none (by simpa using hl)] at q; cases q
    · rw [clr, List.getElem?_set_ne hv] at q
      rcases List.mem_cons.mp h with z | z
      · exact absurd z.symm hv
      · exact clr_in z q
theorem rst_out {e0 : En} : ∀ {vs : List Nat} {e : En} {i : Nat}, i ∉ vs → (rst e0 vs e)[i]? = e[i]?
  | [], _, _, _ => rfl
  | v :: vs, e, i, h => by
    rw [rst, List.getElem?_set_ne (fun z => h (by simp [z]))]
    exact rst_out fun z => h (by simp [z])
theorem rst_in {e0 : En} : ∀ {vs : List Nat} {e : En} {i : Nat} {s : Sl}, i ∈ vs → (rst e0 vs e)[i]? = some s → s = e0.getD i .un
  | v :: vs, e, i, s, h, q => by
    by_cases hv : v = i
    · subst hv
      rw [rst] at q
      by_cases hl : v < (rst e0 vs e).length
      · rw [List.getElem?_set_self hl] at q; exact (Option.some.inj q).symm
      · rw [List.getElem?_eq_none (by simpa using hl)] at q; cases q
    · rw [rst, List.getElem?_set_ne hv] at q
      rcases List.mem_cons.mp h with z | z
      · exact absurd z.symm hv
      · exact rst_in z q
theorem wipe_but : ∀ (vs : List Nat) (σ : St), But vs σ (wipe σ vs)
  | [], σ => But.refl _ _
  | v :: vs, σ => by
    unfold wipe
    exact ((wipe_but vs σ).mono fun i hi => List.mem_cons_of_mem _ hi).trans (But.set _ _ _ _ (by simp))
theorem wipe_eq_of_but {vs : List Nat} {σ σ' : St} (h : But vs σ σ') : wipe σ' vs = wipe σ vs := by
  apply List.ext_getElem?
  intro i
  by_cases hi : i ∈ vs
  · have key : ∀ (vs : List Nat) (a b : St), a.length = b.length → i ∈ vs → (wipe a vs)[i]? = (wipe b vs)[i]? := by
      intro vs
      induction vs with
      | nil => intro a b _ h; cases h
      | cons v vs ih =>
        intro a b hl h
        unfold wipe
        by_cases hv : v = i
        · subst hv
          by_cases hlt : v < a.length
          · rw [List.getElem?_set_self (by rw [wipe_length]; exact hlt), List.getElem?_set_self (by rw [wipe_length, ← hl]; exact hlt)]
          · rw [List.getElem?_eq_none (by rw [List.length_set, wipe_length]; omega), List.getElem?_eq_none (by rw [List.length_set, wipe_length]; omega)]
        · rw [List.getElem?_set_ne hv, List.getElem?_set_ne hv]
          rcases List.mem_cons.mp h with z | z
          · exact absurd z.symm hv
          · exact ih a b hl z
    exact key vs σ' σ h.1 hi
  · rw [(wipe_but vs σ').2 i hi, (wipe_but vs σ).2 i hi, h.2 i hi]
section
variable {S : Sg} {G G' Fr : Hp} {env e e0 : En} {M M' M0 : Mem} {rho rho0 : List Addr} {σ σ' : St} {H H' H0 : Hp} {vs : List Nat}
theorem R.clear (I : R S G Fr env M rho σ' H) (h : But vs (wipe σ vs) σ') : R S G Fr (clr vs env) M rho (wipe σ vs) H := by
  have key : ∀ (i : Nat) (s : Sl), s ≠ .un → (clr vs env)[i]? = some s → env[i]? = some s ∧ (wipe σ vs)[i]? = σ'[i]? := fun i s hs q => by
    by_cases hi : i ∈ vs
    · exact absurd (clr_in hi q) hs
    · rw [clr_out hi] at q
      exact ⟨q, (h.2 i hi).symm⟩
  refine ⟨I.toMR, by rw [clr_len, I.len, h.1], fun i d q => ?_, fun i d q => ?_, fun i j d f a hi hj h1 h2 => ?_⟩
  · obtain ⟨q1, q2⟩ := key i _ (by intro z; cases z) q
    rw [q2]
    exact I.vals i d q1
  · obtain ⟨q1, q2⟩ := key i _ (by intro z; cases z) q
    rw [q2]
    exact I.owns i d q1
  · obtain ⟨q1, q2⟩ := key i _ (by intro z; cases z) hi
    obtain ⟨q3, q4⟩ := key j _ (by intro z; cases z) hj
    rw [q2] at h1
    rw [q4] at h2
    exact I.dist i j d f a q1 q3 h1 h2
theorem R.restore (I : R S G Fr env M rho (wipe σ vs) H) (I0 : R S G' Fr e0 M0 rho0 σ H0) (g : Same G' G) (r : rho0 <+: rho) (hn : noOwn e0 vs = true) (hl : e0.length = env.length) : R S G Fr (rst e0 vs env) M rho σ H := by
  have hσ := wipe_but vs σ
  have key : ∀ (i : Nat) (d : D), (rst e0 vs env)[i]? = some (.own d) → env[i]? = some (.own d) ∧ σ[i]? = (wipe σ vs)[i]? := fun i d q => by
    by_cases hi : i ∈ vs
    · have z := rst_in hi q
      have n := List.all_eq_true.mp hn i hi
      rw [List.getD_eq_getElem?_getD] at z
      cases q0 : e0[i]? with
      | none => rw [q0] at z; cases z
      | some s =>
        rw [q0] at z n
        simp only [Option.getD_some] at z
        subst z
        cases n
    · rw [rst_out hi] at q
      exact ⟨q, (hσ.2 i hi).symm⟩
  refine ⟨I.toMR, by rw [rst_len, I.len, wipe_length], fun i d q => ?_, fun i d q => ?_, fun i j d f a hi hj h1 h2 => ?_⟩
  · by_cases hi : i ∈ vs
    · have z := rst_in hi q
      rw [List.getD_eq_getElem?_getD] at z
      cases q0 : e0[i]? with
      | none => rw [q0] at z; cases z
      | some s =>
        rw [q0] at z
        simp only [Option.getD_some] at z
        subst z
        obtain ⟨v, w1, w2⟩ := I0.vals i d q0
        exact ⟨v, w1, w2.mono g r⟩
    · rw [rst_out hi] at q
      obtain ⟨v, w1, w2⟩ := I.vals i d q
      rw [hσ.2 i hi] at w1
      exact ⟨v, w1, w2⟩
  · obtain ⟨q1, q2⟩ := key i d q
    rw [q2]
    exact I.owns i d q1
  · obtain ⟨q1, q2⟩ := key i d hi
    obtain ⟨q3, q4⟩ := key j f hj
    rw [q2] at h1
    rw [q4] at h2
    exact I.dist i j d f a q1 q3 h1 h2

/-! ### a list that is being made stands apart -/
theorem R.frame (I : R S G Fr env M rho σ H) {p : Addr} {o : HO} (f : Free G Fr env rho σ p) (h : H p = some o) : R S G (upd Fr p o) env M rho σ H where
  gs := I.gs
  fs := fun b u e => by
    by_cases hb : b = p
    · subst hb; rw [upd_same] at e; cases e; exact h
    · rw [upd_ne hb] at e; exact I.fs b u e
  gf := fun b u e => by
    by_cases hb : b = p
    · subst hb; exact f.g
    · rw [upd_ne hb] at e; exact I.gf b u e
  ml := I.ml
  nd := I.nd
  out := fun a ha => ⟨(I.out a ha).1, by rw [upd_ne fun z => f.r (by rw [← z]; exact ha)]; exact (I.out a ha).2⟩
  mem := I.mem
  len := I.len
  vals := I.vals
  owns := fun i d e => by
    obtain ⟨a, h1, h2, h3, h4, h5⟩ := I.owns i d e
    exact ⟨a, h1, h2, h3, by rw [upd_ne fun z => f.s i d e (by rw [← z]; exact h1)]; exact h4, h5⟩
  dist := I.dist
theorem R.apart {p : Addr} {o : HO} (I : R S G (upd Fr p o) env M rho σ H) : Free G (fun _ => none) env rho σ p where
  g := I.gf p o upd_same
  f := rfl
  r := fun hm => by
    have := (I.out p hm).2
    rw [upd_same] at this; cases this
  s := fun i d e hs => by
    obtain ⟨a, h1, h2, h3, h4, h5⟩ := I.owns i d e
    rw [hs] at h1
    cases h1
    rw [upd_same] at h4; cases h4
theorem R.bump {p : Addr} {o o' : HO} (I : R S G (upd Fr p o) env M rho σ H) : R S G (upd Fr p o') env M rho σ (upd H p o') := by
  have f := I.apart
  refine ⟨⟨fun b u e => ?_, fun b u e => ?_, fun b u e => ?_, I.ml, I.nd, fun a ha => ⟨(I.out a ha).1, ?_⟩, fun n a mo h1 h2 => ?_⟩, I.len, I.vals, fun i d e => ?_, I.dist⟩
  · rw [upd_ne (ne_of_none e f.g)]; exact I.gs b u e
  · by_cases hb : b = p
    · subst hb; rw [upd_same] at e ⊢; exact e
    · rw [upd_ne hb] at e ⊢; exact I.fs b u (by rw [upd_ne hb]; exact e)
  · by_cases hb : b = p
    · subst hb; exact f.g
    · rw [upd_ne hb] at e; exact I.gf b u (by rw [upd_ne hb]; exact e)
  · have np : a ≠ p := fun z => f.r (by rw [← z]; exact ha)
    have := (I.out a ha).2
    rw [upd_ne np] at this ⊢
    exact this
  · have np : a ≠ p := fun z => f.r (by rw [← z]; exact List.mem_of_getElem? h1)
    exact (I.mem n a mo h1 h2).mono (Same.refl _) (List.prefix_refl _) (upd_ne np)
  · obtain ⟨a, h1, h2, h3, h4, h5⟩ := I.owns i d e
    have np : a ≠ p := fun z => f.s i d e (by rw [← z]; exact h1)
    refine ⟨a, h1, h2.mono (Same.refl _) (List.prefix_refl _) (upd_ne np), h3, ?_, h5⟩
    rw [upd_ne np] at h4 ⊢
    exact h4
theorem R.unframe {p : Addr} {o : HO} (I : R S G (upd Fr p o) env M rho σ H) (hf : Fr p = none) : R S G Fr env M rho σ H := by
  have sub : ∀ b u, Fr b = some u → upd Fr p o b = some u := fun b u e => by rw [upd_ne (ne_of_none e hf)]; exact e
  have none_ : ∀ b, upd Fr p o b = none → Fr b = none := fun b e => by
    cases q : Fr b with
    | none => rfl
    | some u => rw [sub b u q] at e; cases e
  exact ⟨⟨I.gs, fun b u e => I.fs b u (sub b u e), fun b u e => I.gf b u (sub b u e), I.ml, I.nd, fun a ha => ⟨(I.out a ha).1, none_ a (I.out a ha).2⟩, I.mem⟩, I.len, I.vals, fun i d e => by
    obtain ⟨a, h1, h2, h3, h4, h5⟩ := I.owns i d e
    exact ⟨a, h1, h2, h3, none_ a h4, h5⟩, I.dist⟩
end

/-! ### [elt for target in iter if test] -/
def noX {α : Type} (r : Res α) : Res α := match r with
  | .ok a e m => .ok a e m
  | _ => .no
open Classical in
noncomputable def compD (vs : List Nat) (g : GT) (t : En → Mem → Res Bool) (f : En → Mem → Res W) (mems : List (Nat × List D)) : List D → List D → En → Mem → Res (List D)
  | [], acc, e, m => if memOk m mems then .ok acc e m else .no
  | x :: xs, acc, e, m => if memOk m mems then (match g x e with
      | some e' => (noX (t e' m)).bind fun b e m => if b then (noX (esc f e m)).bind fun d e m => if acc.length < sizeLine then compD vs g t f mems xs (acc ++ [d]) (clr vs e) m else .no
        else compD vs g t f mems xs acc (clr vs e) m
      | none => .no) else .no
def compF (e0 : En) (vs : List Nat) (r : Res (List D)) : Res W := match r with
  | .ok acc e m => if e0.length = e.length then .ok (.o (.lst acc)) (rst e0 vs e) m else .no
  | _ => .no
noncomputable def eComp (vs : List Nat) (i : En → Mem → Res Src) (g : GT) (t : En → Mem → Res Bool) (f : En → Mem → Res W) : En → Mem → Res W := fun env M => (i env M).bind fun s e m =>
  if noOwn e vs then compF e vs (compD vs g t f s.mems s.items [] (clr vs e) m) else .no
def STs (S : Sg) (N : List Str) (sc : Scope) (k : Nat) (ifs : List Expr) (f : En → Mem → Res Bool) : Prop :=
  ∃ t : WX → TT, (∀ X Wx, Good S N sc (.sm k) X → Takes X Wx → PTs X ifs (t Wx)) ∧ Sem S f BR t
def bYes : En → Mem → Res Bool := fun e m => .ok true e m
section
variable {S : Sg} {N : List Str} {sc scope : Scope} {k : Nat} {own : List (Str × Nat)} {pos : Pos} {tg iter elt c : Expr} {ifs : List Expr}
theorem sts_nil : STs S N sc k [] bYes := ⟨fun _ => tYes, fun X Wx _ _ => pts_nil, fun Wx Fr G rho env M σ H Q I p => p G rho H true (Same.refl _) (List.prefix_refl _) I rfl⟩
theorem sts_one {t : En → Mem → Res Bool} (h : SB S N sc (.sm k) c t) : STs S N sc k [c] t := by
  obtain ⟨u, h1, h2⟩ := h
  exact ⟨u, fun X Wx g tk => pts_one (h1 X Wx g tk), h2⟩
/-- the block's place -/
theorem good_blk {X : Cx} {s : Shared} {H : Hp} {C : Addr} {cl : List (Str × Addr)} {fp : List Addr} (g : Good S N sc (.sm k) X) (hk : scope.kind = .function) : Good S N (relS scope sc) (.sm k) (X.blk s H scope (compEnvC scope cl C X.env) fp) where
  p := g.p
  w := g.w
  K := g.K
  mg := g.mg
  base := g.base
  nN := g.nN
  nd := g.nd
  sco := by rw [← g.sco]; rfl
  kind := hk
  room := g.room
  un := g.un
  exn := fun _ _ _ e => by cases e
theorem tgOk_blk {X : Cx} {s : Shared} {H : Hp} {C : Addr} {cl : List (Str × Addr)} {fp : List Addr} (g : Good S N sc (.sm k) X) (h : locB scope own = true) : TgOk (X.blk s H scope (compEnvC scope cl C X.env) fp) own := fun p hp => by
  have e : (X.blk s H scope (compEnvC scope cl C X.env) fp).env.scope = relS scope X.env.scope := rfl
  rw [e]
  rcases loc_of h p hp with z | z
  · have z2 := lookup_relS_keep (sc := X.env.scope) (by decide) z
    exact ⟨.inl z2, .inr z2⟩
  · have z2 := lookup_relS_keep (sc := X.env.scope) (by decide) z
    refine ⟨.inr z2, .inl ?_⟩
    show (scope.names.lookup p.1 == some .cell) = true
    rw [z]
    rfl
theorem takes_blk {X : Cx} {s : Shared} {H : Hp} {env : Env} {fp : List Addr} {sc : Scope} : Takes (X.blk s H sc env fp) (fun _ _ _ _ => False) := fun _ _ ⟨_, _, _, _, _, _, _, _, _, _, _, _, _, _, _, _, w⟩ => w.elim
theorem noX_post {α β : Type} {Fr : Hp} {σ : St} {G : Hp} {rho : List Addr} {r : Res α} {VR : VRel α β} {P : β → Hp → Prop} (h : noX r ≠ .no) (st : ∀ a e m G' rho' H' b, r = .ok a e m → Same G G' → rho <+: rho' → R S G' Fr e m rho' σ H' → VR Fr σ G' e rho' H' a b → P b H') :
    Post S (fun _ _ _ _ => False) Fr σ G rho r VR P := by
  cases r with
  | ok a e m => exact fun G' rho' H' b g' r' I v => st a e m G' rho' H' b rfl g' r' I v
  | exc c d e m => exact (h rfl).elim
  | no => exact (h rfl).elim
/-- the reading of a comprehension -/
theorem sem_comp {i : En → Mem → Res Src} {g : GT} {t : En → Mem → Res Bool} {f : En → Mem → Res W} {ti : WX → TI} {tt : WX → TT} {te : WX → TE} {gt : TG}
    (hi : Sem S i (SrcR S) ti) (hg : ∀ (G Fr : Hp) (env e : En) (M : Mem) (rho : List Addr) (σ : St) (H : Hp) (d : D) (v : V) (Q : St → Hp → Prop), R S G Fr env M rho σ H → Rep S rho G d v → g d env = some e → (∀ σ', But (own.map (·.2)) σ σ' → R S G Fr e M rho σ' H → Q σ' H) → gt v σ H Q)
    (ht : Sem S t BR tt) (he : Sem S (esc f) (DR S) te) :
    Sem S (eComp (own.map (·.2)) i g t f) (WR S) (fun Wx => tLc (ti Wx) gt (tt fun _ _ _ _ => False) (te fun _ _ _ _ => False) (own.map (·.2))) := by
  intro Wx Fr G rho env M σ H Q I p
  refine hi Wx Fr G rho env M σ H _ I (Post.step (VR := SrcR S) p fun s e0 m0 G1 rho1 H1 J _ g1 r1 I1 v1 q => ?_)
  obtain ⟨Gp, Y, wk, hGp, hY⟩ := v1
  split at q
  case isFalse => exact q.elim
  next hno =>
  intro DD hD
  generalize hvs : own.map (·.2) = vs at *
  have f0 := free_new I1 hD
  have I2 : R S G1 (upd Fr DD (.lst [])) (clr vs e0) m0 rho1 (wipe σ vs) (upd H1 DD (.lst [])) := by
    refine R.clear (σ := σ) (σ' := σ) ?_ ⟨(wipe_length σ vs).symm ▸ rfl, fun j hj => ((wipe_but vs σ).2 j hj).symm⟩
    exact (I1.alloc hD).frame f0 upd_same
  have nono : ∀ {r : Res (List D)} {G' : Hp} {rho' : List Addr}, Post S Wx Fr σ G' rho' (compF e0 vs r) (WR S) Q → ∃ acc e m, r = .ok acc e m := fun {r _ _} z => by
    cases r with
    | ok acc e m => exact ⟨acc, e, m, rfl⟩
    | exc c d e m => exact z.elim
    | no => exact z.elim
  have mem_of : ∀ {xs acc : List D} {e : En} {m : Mem} {G' : Hp} {rho' : List Addr}, Post S Wx Fr σ G' rho' (compF e0 vs (compD vs g t f s.mems xs acc e m)) (WR S) Q → memOk m s.mems := fun {xs acc e m _ _} z => by
    by_cases hm : memOk m s.mems
    · exact hm
    · exfalso
      obtain ⟨a, e', m', q⟩ := nono z
      cases xs <;> simp only [compD, if_neg hm] at q <;> cases q
  refine lc_it wk (fun j H' => ∃ (G' : Hp) (rho' : List Addr) (e' : En) (m' : Mem) (acc : List D) (av : List V), Same G1 G' ∧ rho1 <+: rho' ∧ R S G' (upd Fr DD (.lst av)) e' m' rho' (wipe σ vs) H' ∧ Reps S rho' G' acc av ∧ acc.length ≤ sizeLine ∧
    Post S Wx Fr σ G' rho' (compF e0 vs (compD vs g t f s.mems (s.items.drop j) acc e' m')) (WR S) Q) ⟨G1, rho1, clr vs e0, m0, [], [], Same.refl _, List.prefix_refl _, I2, .nil, Nat.zero_le _, q⟩ ?_ ?_ ?_
  · rintro j H' hj ⟨G', rho', e', m', acc, av, g', r', I', ra, za, q'⟩
    exact hGp _ G' e' m' rho' _ H' g' r' I' (mem_of q')
  · rintro j x H' H2 hj ⟨G', rho', e', m', acc, av, g', r', I', ra, za, q'⟩ y
    have mk := mem_of q'
    obtain ⟨G2, g2, I3, d, hd, rd⟩ := hY j _ G' e' m' rho' _ H' x H2 hj g' r' I' mk y
    have hdr : s.items.drop j = d :: s.items.drop (j + 1) := by
      obtain ⟨hlt, hde⟩ := List.getElem?_eq_some_iff.mp hd
      rw [List.drop_eq_getElem_cons hlt, hde]
    rw [hdr] at q'
    simp only [compD, if_pos mk] at q'
    cases hgd : g d e' with
    | none => simp only [hgd] at q'; exact q'.elim
    | some e2 =>
      simp only [hgd] at q'
      refine hg G2 _ e' e2 m' rho' _ H2 d x _ I3 rd hgd fun σ2 b2 I4 => ?_
      have hw : wipe σ2 vs = wipe σ vs := by
        have h1 := wipe_eq_of_but b2
        rw [h1]
        exact wipe_eq_of_but (wipe_but vs σ)
      refine ⟨by rw [hw], ?_⟩
      have nt : noX (t e2 m') ≠ .no := fun z => by rw [z] at q'; exact q'.elim
      refine ht _ _ G2 rho' e2 m' σ2 H2 _ I4 (noX_post nt fun b e3 m3 G3 rho3 H3 bb hr g3 r3 I5 v3 => ?_)
      cases v3
      rw [hr] at q'
      have q3 := Post.later q' (g2.trans g3) r3
      cases b with
      | false =>
        rw [if_neg Bool.false_ne_true]
        exact ⟨G3, rho3, clr vs e3, m3, acc, av, (g'.trans g2).trans g3, r'.trans r3, I5.clear b2, ra.mono (g2.trans g3) r3, za, q3⟩
      | true =>
        rw [if_pos rfl]
        have q3 : Post S Wx Fr σ G3 rho3 (compF e0 vs ((noX (esc f e3 m3)).bind fun d e m => if acc.length < sizeLine then compD vs g t f s.mems (s.items.drop (j + 1)) (acc ++ [d]) (clr vs e) m else .no)) (WR S) Q := q3
        have ne : noX (esc f e3 m3) ≠ .no := fun z => by rw [z] at q3; exact q3.elim
        refine he _ _ G3 rho3 e3 m3 σ2 H3 _ I5 (noX_post ne fun dd e4 m4 G4 rho4 H4 yv hr4 g4 r4 I6 v4 => ?_)
        rw [hr4] at q3
        have q4 := Post.later q3 g4 r4
        have q4 : Post S Wx Fr σ G4 rho4 (compF e0 vs (if acc.length < sizeLine then compD vs g t f s.mems (s.items.drop (j + 1)) (acc ++ [dd]) (clr vs e4) m4 else .no)) (WR S) Q := q4
        by_cases hz : acc.length < sizeLine
        · rw [if_pos hz] at q4
          have hDD : H4 DD = some (.lst av) := I6.fs _ _ upd_same
          refine ⟨av, hDD, by rw [← ra.length]; exact hz, G4, rho4, clr vs e4, m4, acc ++ [dd], av ++ [yv], ((g'.trans g2).trans g3).trans g4, (r'.trans r3).trans r4, (I6.clear b2).bump, (ra.mono ((g2.trans g3).trans g4) (r3.trans r4)).append (.cons v4 .nil), by rw [List.length_append]; exact hz, q4⟩
        · rw [if_neg hz] at q4; exact q4.elim
  · rintro H' ⟨G', rho', e', m', acc, av, g', r', I', ra, za, q'⟩
    have mk := mem_of q'
    rw [List.drop_length] at q'
    simp only [compD, if_pos mk] at q'
    unfold compF at q'
    simp only at q'
    split at q'
    · next hlen =>
      have fd := I'.apart
      have hDD : H' DD = some (.lst av) := I'.fs _ _ upd_same
      have I'' := I'.unframe f0.f
      have J := I''.restore I1 g' r' hno hlen
      refine q' G' rho' H' _ (Same.refl _) (List.prefix_refl _) J ⟨DD, acc, rfl, rfl, ⟨za, av, hDD, ra⟩, fd.g, f0.f, fd.r, fun j d hj hs => ?_⟩
      obtain ⟨a, h1, h2, h3, h4, h5⟩ := J.owns j d hj
      rw [hs] at h1
      cases h1
      by_cases hjv : j ∈ vs
      · have z := rst_in hjv hj
        have n := List.all_eq_true.mp hno j hjv
        rw [List.getD_eq_getElem?_getD] at z
        cases q0 : e0[j]? with
        | none => rw [q0] at z; cases z
        | some sl =>
          rw [q0] at z n
          simp only [Option.getD_some] at z
          subst z
          cases n
      · rw [rst_out hjv] at hj
        refine fd.s j d hj ?_
        rw [(wipe_but vs σ).2 j hjv]
        exact hs
    · exact q'.elim
theorem se_comp {i : En → Mem → Res Src} {g : GT} {t : En → Mem → Res Bool} {f : En → Mem → Res W} (own : List (Str × Nat)) (hi : SI S N sc k tg iter i) (hg : SG S N (relS scope sc) k own tg g) (ht : STs S N (relS scope sc) k ifs t) (he : SE S N (relS scope sc) (.sm k) elt f)
    (hb : (blkC N sc scope own && locB scope own) = true := by decide +kernel) (hs : ∀ (env : Env) x, foldedSetIterable iter env x = pure x := by intro _ _; rfl) : SE S N sc (.sm k) (.ListComp elt [⟨tg, iter, ifs, 0⟩] scope pos) (eComp (own.map (·.2)) i g t f) := by
  obtain ⟨ti, i1, i2⟩ := hi
  obtain ⟨gt, g1, g2⟩ := hg
  obtain ⟨tt, t1, t2⟩ := ht
  obtain ⟨te, e1, e2⟩ := he.esc
  rw [Bool.and_eq_true] at hb
  have ok := blkOk_by hb.1
  refine ⟨_, fun X Wx gd tk => ?_, sem_comp i2 g2 t2 e2⟩
  exact pe_lc (gd.room k rfl).2 (by rw [gd.nN]; exact gd.nd) (i1 X Wx gd tk) (by rw [gd.nN, gd.sco]; exact ok) (fun s H C cl fp => g1 _ (good_blk gd ok.kind) (tgOk_blk gd hb.2))
    (fun s H C cl fp => t1 _ _ (good_blk gd ok.kind) takes_blk) (fun s H C cl fp => e1 _ _ (good_blk gd ok.kind) takes_blk) (hs _)
/-- name = [..] on one line -/
theorem ss_setC {n : Nat} {y : Str} {py spos : Pos} {i : En → Mem → Res Src} {g : GT} {t : En → Mem → Res Bool} {f : En → Mem → Res W} (own : List (Str × Nat)) (hy : N[n]? = some y) (hyl : sc.names.lookup y = some .local) (hl : (py.line == pos.line) = true)
    (hi : SI S N sc k tg iter i) (hg : SG S N (relS scope sc) k own tg g) (ht : STs S N (relS scope sc) k ifs t) (he : SE S N (relS scope sc) (.sm k) elt f)
    (hb : (blkC N sc scope own && locB scope own) = true := by decide +kernel) (hs : ∀ (env : Env) x, foldedSetIterable iter env x = pure x := by intro _ _; rfl)
    (hsw : ∀ env : Env, env.scope.kind = .function → env.scope.names.lookup y = some .local → swapsWith (.ListComp elt [⟨tg, iter, ifs, 0⟩] scope pos) (some (.Name y py)) spos.line env = pure true := by intro _ h1 h2; exact sw_true h1 h2 (by decide +kernel)) :
    SS S N sc (.sm k) (.Assign [.Name y py] (.ListComp elt [⟨tg, iter, ifs, 0⟩] scope pos) spos) (sSet n (eComp (own.map (·.2)) i g t f)) := by
  obtain ⟨ti, i1, i2⟩ := hi
  obtain ⟨gt, g1, g2⟩ := hg
  obtain ⟨tt, t1, t2⟩ := ht
  obtain ⟨te, e1, e2⟩ := he.esc
  rw [Bool.and_eq_true] at hb
  have ok := blkOk_by hb.1
  refine ⟨fun Wx => tAsg (tLc (ti Wx) gt (tt fun _ _ _ _ => False) (te fun _ _ _ _ => False) (own.map (·.2))) (gName n), fun X Wx gd tk => ?_, fun Wx Fr G rho env M σ H D I p => ?_⟩
  · exact ps_setLc (gd.room k rfl).2 (by rw [gd.nN]; exact gd.nd) (by rw [gd.nN]; exact hy) (by rw [gd.sco]; exact hyl) (hsw _ (by rw [gd.sco]; exact gd.kind) (by rw [gd.sco]; exact hyl)) (i1 X Wx gd.toGood tk) (by rw [gd.nN, gd.sco]; exact ok)
      (fun s H C cl fp => g1 _ (good_blk gd.toGood ok.kind) (tgOk_blk gd.toGood hb.2)) (fun s H C cl fp => t1 _ _ (good_blk gd.toGood ok.kind) takes_blk) (fun s H C cl fp => e1 _ _ (good_blk gd.toGood ok.kind) takes_blk) (hs _)
  · exact sem_comp i2 g2 t2 e2 Wx Fr G rho env M σ H _ I (PostS.step (VR := WR S) p fun w e m G1 rho1 H1 v _ g r I1 v1 q => put_post I1 v1 q)
end
end Ow
namespace Ow
open PySem PySem.Spec L2

/-! ### a list that may be changed -/
inductive Tgt where
  | own (i : Nat) (xs : List D) | mem (n : Nat) (xs : List D)
def Tgt.xs : Tgt → List D
  | .own _ xs => xs
  | .mem _ xs => xs
def memL (n : Nat) (m : Mem) : Option Tgt := match m[n]? with
  | some (.lst xs) => some (.mem n xs)
  | _ => none
def tgtOf (u : U) (e : En) (m : Mem) : Option Tgt := match u with
  | .s i => (match e[i]? with
    | some (.own (.lst xs)) => some (.own i xs)
    | some (.val (.ref n)) => memL n m
    | _ => none)
  | .v (.ref n) => memL n m
  | _ => none
def tputE (t : Tgt) (xs : List D) (e : En) : En := match t with
  | .own i _ => e.set i (.own (.lst xs))
  | .mem _ _ => e
def tputM (t : Tgt) (xs : List D) (m : Mem) : Mem := match t with
  | .own _ _ => m
  | .mem n _ => m.set n (.lst xs)
section
variable {S : Sg} {G Fr : Hp} {env : En} {M : Mem} {rho : List Addr} {σ : St} {H : Hp}
theorem R.setMem (I : R S G Fr env M rho σ H) {n : Nat} {a : Addr} {mo : MO} {o : HO} (hr : rho[n]? = some a) (ok : MOk S rho G (upd H a o) a mo) : R S G Fr env (M.set n mo) rho σ (upd H a o) := by
  have ha : a ∈ rho := List.mem_of_getElem? hr
  have hg := (I.out a ha).1
  have hf := (I.out a ha).2
  refine ⟨⟨fun b u e => ?_, fun b u e => ?_, I.gf, by rw [List.length_set]; exact I.ml, I.nd, I.out, fun n' a' mo' h1 h2 => ?_⟩, I.len, I.vals, fun i d e => ?_, I.dist⟩
  · rw [upd_ne (ne_of_none e hg)]; exact I.gs b u e
  · rw [upd_ne (ne_of_none e hf)]; exact I.fs b u e
  · by_cases hn : n = n'
    · subst hn
      rw [hr] at h1; cases h1
      have hlt : n < M.length := by rw [I.ml]; exact (List.getElem?_eq_some_iff.mp hr).1
      rw [List.getElem?_set_self hlt] at h2
      cases h2
      exact ok
    · rw [List.getElem?_set_ne hn] at h2
      have na : a' ≠ a := fun z => by
        subst z
        obtain ⟨l1, e1⟩ := List.getElem?_eq_some_iff.mp hr
        obtain ⟨l2, e2⟩ := List.getElem?_eq_some_iff.mp h1
        exact hn ((List.getElem_inj I.nd).mp (e1.trans e2.symm))
      exact (I.mem n' a' mo' h1 h2).mono (Same.refl _) (List.prefix_refl _) (upd_ne na)
  · obtain ⟨b, h1, h2, h3, h4, h5⟩ := I.owns i d e
    exact ⟨b, h1, h2.mono (Same.refl _) (List.prefix_refl _) (upd_ne fun z => h5 (by rw [z]; exact ha)), h3, h4, h5⟩
theorem R.setAt (I : R S G Fr env M rho σ H) {i : Nat} {d d' : D} {a : Addr} {o : HO} (he : env[i]? = some (.own d)) (hs : σ[i]? = some (some (.ref a))) (ok : OOk S rho G (upd H a o) a d') : R S G Fr (env.set i (.own d')) M rho σ (upd H a o) := by
  obtain ⟨a', h1, h2, hg, hf, hr⟩ := I.owns i d he
  rw [hs] at h1
  cases h1
  have hi : i < env.length := (List.getElem?_eq_some_iff.mp he).1
  have hm := I.toMR.put (o := o) hg hf hr
  refine ⟨hm, by rw [List.length_set]; exact I.len, fun j e q => ?_, fun j e q => ?_, fun j k x y b hj hk w1 w2 => ?_⟩
  · by_cases hij : i = j
    · subst hij
      rw [List.getElem?_set_self hi] at q; cases q
    · rw [List.getElem?_set_ne hij] at q; exact I.vals j e q
  · by_cases hij : i = j
    · subst hij
      rw [List.getElem?_set_self hi] at q; cases q
      exact ⟨a, hs, ok, hg, hf, hr⟩
    · rw [List.getElem?_set_ne hij] at q
      obtain ⟨b, w1, w2, w3⟩ := I.owns j e q
      exact ⟨b, w1, w2.mono (Same.refl _) (List.prefix_refl _) (upd_ne fun z => hij (I.dist i j d e a he q hs (by rw [← z]; exact w1))), w3⟩
  · have key : ∀ (j : Nat) (x : D), (env.set i (.own d'))[j]? = some (.own x) → ∃ x', env[j]? = some (.own x') := fun j x q => by
      by_cases hij : i = j
      · subst hij; exact ⟨d, he⟩
      · rw [List.getElem?_set_ne hij] at q; exact ⟨x, q⟩
    obtain ⟨x', q1⟩ := key j x hj
    obtain ⟨y', q2⟩ := key k y hk
    exact I.dist j k x' y' b q1 q2 w1 w2
/-- where such a list stands, and how it is written -/
theorem tgt_at (I : R S G Fr env M rho σ H) {u : U} {v : V} {t : Tgt} (h : UR S Fr σ G env rho H u v) (e : tgtOf u env M = some t) : ∃ a vs, v = .ref a ∧ H a = some (.lst vs) ∧ Reps S rho G t.xs vs ∧ t.xs.length ≤ sizeLine ∧
    ∀ xs' vs', Reps S rho G xs' vs' → xs'.length ≤ sizeLine → R S G Fr (tputE t xs' env) (tputM t xs' M) rho σ (upd H a (.lst vs')) := by
  have memc : ∀ {n : Nat} {a : Addr} {t : Tgt}, rho[n]? = some a → memL n M = some t → ∃ vs, H a = some (.lst vs) ∧ Reps S rho G t.xs vs ∧ t.xs.length ≤ sizeLine ∧
      ∀ xs' vs', Reps S rho G xs' vs' → xs'.length ≤ sizeLine → R S G Fr (tputE t xs' env) (tputM t xs' M) rho σ (upd H a (.lst vs')) := by
    intro n a t hr hm
    unfold memL at hm
    cases q : M[n]? with
    | none => rw [q] at hm; cases hm
    | some mo =>
      cases mo with
      | ins c xs => rw [q] at hm; cases hm
      | lst xs =>
        rw [q] at hm
        cases hm
        obtain ⟨z, vs, e1, tt⟩ := I.mem n a _ hr q
        exact ⟨vs, e1, tt, z, fun xs' vs' t' z' => I.setMem hr ⟨z', vs', upd_same, t'⟩⟩
  cases u with
  | v d =>
    cases d with
    | ref n =>
      cases (h : Rep S rho G (.ref n) v) with
      | @ref _ a hr =>
        obtain ⟨vs, r⟩ := memc hr e
        exact ⟨a, vs, rfl, r⟩
    | _ => cases e
  | s i =>
    have h : σ[i]? = some (some v) := h
    unfold tgtOf at e
    simp only at e
    cases q : env[i]? with
    | none => rw [q] at e; cases e
    | some sl =>
      cases sl with
      | un => rw [q] at e; cases e
      | val d =>
        cases d with
        | ref n =>
          rw [q] at e
          obtain ⟨v', h1, h2⟩ := I.vals i _ q
          rw [h] at h1; cases h1
          cases h2 with
          | @ref _ a hr =>
            obtain ⟨vs, r⟩ := memc hr e
            exact ⟨a, vs, rfl, r⟩
        | _ => rw [q] at e; cases e
      | own d =>
        cases d with
        | lst xs =>
          rw [q] at e
          cases e
          obtain ⟨a, h1, ⟨z, vs, e1, tt⟩, hg, hf, hr⟩ := I.owns i _ q
          rw [h] at h1; cases h1
          exact ⟨a, vs, rfl, e1, tt, z, fun xs' vs' t' z' => I.setAt q h ⟨z', vs', upd_same, t'⟩⟩
        | _ => rw [q] at e; cases e
end

/-! ### methods that change a list -/
abbrev Mu := List D → List D → Option (List D × D)
def MuSem (S : Sg) (r : V → List V → Hp → VK → Prop) (μ : Mu) : Prop := ∀ (G : Hp) (rho : List Addr) (H : Hp) (a : Addr) (xs ds xs' : List D) (vs us : List V) (d : D) (Q : VK), H a = some (.lst vs) → Reps S rho G xs vs → xs.length ≤ sizeLine → Same G H → Reps S rho G ds us → μ xs ds = some (xs', d) →
  (∀ vs' b, Reps S rho G xs' vs' → xs'.length ≤ sizeLine → Rep S rho G d b → Q b (upd H a (.lst vs'))) → r (.ref a) us H Q
def eMut (μ : Mu) (o : En → Mem → Res W) (fs : En → Mem → Res (List D)) : En → Mem → Res W := fun env M => (use o env M).bind fun u e m => match tgtOf u e m with
  | some _ => (fs e m).bind fun ds e m => (match tgtOf u e m with
    | some t => (match μ t.xs ds with
      | some (xs', d) => .ok (.v d) (tputE t xs' e) (tputM t xs' m)
      | none => .no)
    | none => .no)
  | none => .no
section
variable {S : Sg} {N : List Str} {sc : Scope} {k : Nat} {kk : Kk} {o e : Expr} {es : List Expr} {f f1 f2 f3 : En → Mem → Res W} {fs : En → Mem → Res (List D)} {apos cpos pos : Pos} {name : Str} {id : String} {r : V → List V → Hp → VK → Prop} {μ : Mu}
theorem sem_mut {to : WX → TE} {ta : WX → TA} (hm : MuSem S r μ) (ho : Sem S (use f) (UR S) to) (ha : Sem S fs (DRs S) ta) : Sem S (eMut μ f fs) (WR S) (fun Wx => tBM S.K "list" r (to Wx) (ta Wx)) := by
  intro Wx Fr G rho env M σ H Q I p
  refine ho Wx Fr G rho env M σ H _ I (Post.step (VR := UR S) p fun u e m G1 rho1 H1 v _ g1 r1 I1 v1 q => ?_)
  split at q
  · next t0 ht0 =>
    obtain ⟨a0, vs0, e0, h0, _⟩ := tgt_at I1 v1 ht0
    refine ⟨by subst e0; exact .inl ⟨rfl, vs0, SqL.of h0⟩, ?_⟩
    refine ha Wx Fr G1 rho1 e m σ H1 _ I1 (Post.step (VR := DRs S) q fun ds e2 m2 G2 rho2 H2 us _ g2 r2 I2 v2 q2 => ?_)
    split at q2
    · next t ht =>
      split at q2
      · next xs' d hmu =>
        have v1' : UR S Fr σ G2 e2 rho2 H2 u v := UR.later (G' := G) (G2 := G) v1 g2 r2
        obtain ⟨a, vs, rfl, hH, tt, z, wr⟩ := tgt_at I2 v1' ht
        exact hm G2 rho2 H2 a t.xs ds xs' vs us d Q hH tt z I2.gs v2 hmu fun vs' b t' z' rb => q2 G2 rho2 _ b (Same.refl _) (List.prefix_refl _) (wr xs' vs' t' z') rb
      · exact q2.elim
    · exact q2.elim
  · exact q.elim
theorem se_mut (slot : PySem.Slot "list" name id) (hty : typeOf (.builtin id) = pure (.type "method_descriptor")) (hx : ∀ X : Cx, Good S N sc kk X → MtR X id r) (hm : MuSem S r μ) (ho : SE S N sc kk o f) (ha : SDs S N sc kk (e :: es) fs)
    (hbase : ∀ env : Env, attributeBase o name env (eval o env) = eval o env := by intro _; rfl)
    (hfew : ∀ env : Env, ((backTo cpos (starEach (e :: es) env)).all (fun x => !x.1) && (backToKw cpos (keywordEach [] env)).all (fun x => x.1.isSome)
      && decide ((e :: es).length + ([] : List Keyword).length + (if ([] : List Keyword).isEmpty then 0 else 1) < 30)) = true := by intro _; rfl)
    (hline : (apos.endLine == cpos.line) = true := by rfl) (hs : ∀ env : Env, starEach (e :: es) env = (false, eval e env) :: starEach es env := by intro _; rfl) (hplain : ∀ env : Env, (backTo cpos (starEach es env)).any (·.1) = false := by intro _; rfl) :
    SE S N sc kk (.Call (.Attribute o name apos) (e :: es) [] cpos) (eMut μ f fs) := by
  obtain ⟨to, o1, o2⟩ := ho.use
  obtain ⟨ta, a1, a2⟩ := ha
  refine ⟨_, fun X Wx g tk => ?_, sem_mut hm o2 a2⟩
  have := pe_bm PySem.F.plainAttrs_list slot hty (hx X g) (o1 X Wx g tk) (a1 X Wx g tk) (hbase _) (hfew _) hline (hs _) (hplain _)
  rw [g.K] at this
  exact this
theorem se_mut0 (slot : PySem.Slot "list" name id) (hty : typeOf (.builtin id) = pure (.type "method_descriptor")) (hx : ∀ X : Cx, Good S N sc kk X → MtR X id r) (hm : MuSem S r μ) (ho : SE S N sc kk o f)
    (hbase : ∀ env : Env, attributeBase o name env (eval o env) = eval o env := by intro _; rfl) (hline : (apos.endLine == cpos.line) = true := by rfl) :
    SE S N sc kk (.Call (.Attribute o name apos) [] [] cpos) (eMut μ f dNil) := by
  obtain ⟨to, o1, o2⟩ := ho.use
  refine ⟨fun Wx => tBM0 S.K "list" r (to Wx), fun X Wx g tk => ?_, ?_⟩
  · have := pe_bm0 PySem.F.plainAttrs_list slot hty (hx X g) (o1 X Wx g tk) (hbase _) hline
    rw [g.K] at this
    exact this
  · exact sem_mut (ta := fun _ => tNil) hm o2 (fun Wx Fr G rho env M σ H Q I p => p G rho H [] (Same.refl _) (List.prefix_refl _) I .nil)
/-! append, pop, insert, reverse, extend -/
def muApp : Mu := fun xs ds => match ds with
  | [d] => if xs.length < sizeLine then some (xs ++ [d], .non) else none
  | _ => none
def muPop : Mu := fun xs ds => match ds with
  | [] => (match xs[xs.length - 1]? with
    | some d => some (xs.dropLast, d)
    | none => none)
  | _ => none
def muPopAt : Mu := fun xs ds => match ds with
  | [.int i] => if -(2 ^ 63) ≤ i ∧ i < 2 ^ 63 then (match PySem.seqIndex? i xs.length with
    | some j => (match xs[j]? with
      | some d => some (xs.eraseIdx j, d)
      | none => none)
    | none => none) else none
  | _ => none
def muRev : Mu := fun xs ds => match ds with
  | [] => some (xs.reverse, .non)
  | _ => none
def muExt : Mu := fun xs ds => match ds with
  | [.lst ys] => if xs.length + ys.length ≤ sizeLine then some (xs ++ ys, .non) else none
  | _ => none
theorem ms_app : MuSem S rAppend muApp := by
  intro G rho H a xs ds xs' vs us d Q hH t z g tu e k
  unfold muApp at e
  split at e
  · next d0 =>
    cases tu with
    | cons h0 tl =>
      cases tl
      split at e
      · next hz =>
        cases e
        exact ⟨a, vs, _, rfl, rfl, hH, by rw [← t.length]; exact hz, k _ _ (t.append (.cons h0 .nil)) (by rw [List.length_append]; exact hz) .non⟩
      · cases e
  · cases e
theorem Reps.dropLast {G : Hp} {rho : List Addr} {xs : List D} {vs : List V} (t : Reps S rho G xs vs) : Reps S rho G xs.dropLast vs.dropLast := by
  rw [List.dropLast_eq_take, List.dropLast_eq_take, t.length]
  exact t.take _
theorem Reps.eraseIdx {G : Hp} {rho : List Addr} : ∀ {xs : List D} {vs : List V} (i : Nat), Reps S rho G xs vs → Reps S rho G (xs.eraseIdx i) (vs.eraseIdx i)
  | _, _, _, .nil => .nil
  | _, _, 0, .cons _ t => t
  | _, _, i + 1, .cons h t => .cons h (t.eraseIdx i)
theorem ms_pop : MuSem S rPop muPop := by
  intro G rho H a xs ds xs' vs us d Q hH t z g tu e k
  unfold muPop at e
  split at e
  · cases tu
    split at e
    · next d0 hd =>
      cases e
      obtain ⟨v, h1, h2⟩ := t.get hd
      exact ⟨a, vs, v, rfl, rfl, hH, by rw [← t.length]; exact h1, k _ _ t.dropLast (by rw [List.length_dropLast]; omega) h2⟩
    · cases e
  · cases e
theorem ms_popAt : MuSem S rPopAt muPopAt := by
  intro G rho H a xs ds xs' vs us d Q hH t z g tu e k
  unfold muPopAt at e
  split at e
  · next i =>
    cases tu with
    | cons h0 tl =>
      cases tl
      cases h0
      split at e
      · next hb =>
        split at e
        · next j hj =>
          split at e
          · next d0 hd =>
            cases e
            obtain ⟨v, h1, h2⟩ := t.get hd
            refine ⟨a, vs, i, j, v, rfl, rfl, hH, hb.1, hb.2, by rw [← t.length]; exact hj, h1, k _ _ (t.eraseIdx j) ?_ h2⟩
            have := List.length_eraseIdx_le xs j
            omega
          · cases e
        · cases e
      · cases e
  · cases e
theorem ms_rev : MuSem S rReverse muRev := by
  intro G rho H a xs ds xs' vs us d Q hH t z g tu e k
  unfold muRev at e
  split at e
  · cases tu
    cases e
    exact ⟨a, vs, rfl, rfl, hH, k _ _ t.reverse (by rw [List.length_reverse]; exact z) .non⟩
  · cases e
theorem ms_ext : MuSem S rExtend muExt := by
  intro G rho H a xs ds xs' vs us d Q hH t z g tu e k
  unfold muExt at e
  split at e
  · next ys =>
    cases tu with
    | cons h0 tl =>
      cases tl
      cases h0 with
      | @lst b _ zs hb zb tb =>
        split at e
        · next hz =>
          cases e
          exact ⟨a, b, vs, zs, rfl, rfl, hH, g _ _ hb, by rw [← t.length, ← tb.length]; exact hz, k _ _ (t.append tb) (by rw [List.length_append]; exact hz) .non⟩
        · cases e
  · cases e

/-! ### x[i] = e -/
def sPut (o i f : En → Mem → Res W) : En → Mem → Res Fl := fun env M => (esc f env M).bind fun d e m => (use o e m).bind fun u e m => (use i e m).bind fun ui e m => match tgtOf u e m, ui.get e with
  | some t, some (.int j) => (match ixN t.xs.length j with
    | some n => .ok .nx (tputE t (t.xs.set n d) e) (tputM t (t.xs.set n d) m)
    | none => .no)
  | _, _ => .no
theorem ss_put {v : Expr} {spos : Pos} (ho : SE S N sc (.sm k) o f1) (hi : SE S N sc (.sm k) e f2) (hv : SE S N sc (.sm k) v f3) (hs : ∀ env : Env, swapsWithSole [.Subscript o e pos] v spos.line env = pure false := by intro _; rfl) (hw : ∀ env : Env, swappedStores [.Subscript o e pos] v env = pure none := by intro _; rfl)
    (h3 : ∀ env : Env, (assignEach [.Subscript o e pos] env).map (·.2) = [assign (.Subscript o e pos) env] := by intro _; rfl) (hsub : ∀ X : Cx, GoodS S N sc (.sm k) X → ∀ {to ti : TE}, PE X o to → PE X e ti → PG X (.Subscript o e pos) (L2.gSub to ti rSetL) := by intro X _ to ti h1 h2; exact pg_sub h1 h2 set_list) :
    SS S N sc (.sm k) (.Assign [.Subscript o e pos] v spos) (sPut f1 f2 f3) := by
  obtain ⟨to, o1, o2⟩ := ho.use
  obtain ⟨ti, i1, i2⟩ := hi.use
  obtain ⟨tv, v1, v2⟩ := hv.esc
  refine ⟨fun Wx => tAsg (tv Wx) (L2.gSub (to Wx) (ti Wx) rSetL), fun X Wx gd tk => ps_asg (v1 X Wx gd.toGood tk) (hsub X gd (o1 X Wx gd.toGood tk) (i1 X Wx gd.toGood tk)) (hs _) (hw _) (h3 _), fun Wx Fr G rho env M σ H D I p => ?_⟩
  refine v2 Wx Fr G rho env M σ H _ I (PostS.step (VR := DR S) p fun d e m G1 rho1 H1 vd _ g1 r1 I1 rd q => ?_)
  refine o2 Wx Fr G1 rho1 e m σ H1 _ I1 (PostS.step (VR := UR S) q fun u e2 m2 G2 rho2 H2 vo _ g2 r2 I2 ru q2 => ?_)
  refine i2 Wx Fr G2 rho2 e2 m2 σ H2 _ I2 (PostS.step (VR := UR S) q2 fun ui e3 m3 G3 rho3 H3 vi _ g3 r3 I3 ri q3 => ?_)
  split at q3
  · next t j ht hj =>
    split at q3
    · next n hn =>
      have ru' : UR S Fr σ G3 e3 rho3 H3 u vo := UR.later (G' := G) (G2 := G) ru g3 r3
      obtain ⟨a, vs, rfl, hH, tt, z, wr⟩ := tgt_at I3 ru' ht
      cases UR.cur I3 ri hj
      have rd' : Rep S rho3 G3 d vd := Rep.mono (g2.trans g3) (r2.trans r3) rd
      exact ⟨a, vs, j, n, rfl, rfl, hH, by rw [← tt.length]; exact hn, PostS.nx q3 (wr _ _ (tt.set rd' n) (by rw [List.length_set]; exact z))⟩
    · exact q3.elim
  · exact q3.elim
end
end Ow
namespace Ow
open PySem PySem.Spec L2

abbrev GB := Mem → List D → Option W
inductive Curs (S : Sg) (rho : List Addr) (G H : Hp) : List D → List V → Prop
  | nil : Curs S rho G H [] []
  | cons {d : D} {ds : List D} {v : V} {vs : List V} : Cur S rho G H d v → Curs S rho G H ds vs → Curs S rho G H (d :: ds) (v :: vs)
def CSem (S : Sg) (r : List V → Hp → VK → Prop) (g : GB) : Prop := ∀ (Fr G : Hp) (rho : List Addr) (env : En) (M : Mem) (σ : St) (H : Hp) (ds : List D) (vs : List V) (w : W) (Q : VK), R S G Fr env M rho σ H → Curs S rho G H ds vs → g M ds = some w →
  (∀ (G' H' : Hp) (b : V), Same G G' → R S G' Fr env M rho σ H' → WR S Fr σ G' env rho H' w b → Q b H') → r vs H Q
def getU (us : List U) (e : En) : Option (List D) := match us with
  | [] => some []
  | u :: us => (match u.get e, getU us e with
    | some d, some ds => some (d :: ds)
    | _, _ => none)
def eBlt (g : GB) (fs : En → Mem → Res (List U)) : En → Mem → Res W := fun env M => (fs env M).bind fun us e m => match getU us e with
  | some ds => (match g m ds with
    | some w => .ok w e m
    | none => .no)
  | none => .no
section
variable {S : Sg} {N : List Str} {sc : Scope} {k : Nat} {kk : Kk} {o e : Expr} {es : List Expr} {f f1 f2 f3 : En → Mem → Res W} {fs : En → Mem → Res (List U)} {p pos : Pos} {x : Str} {r r' : List V → Hp → VK → Prop} {g g' : GB}
theorem curs_of {Fr G : Hp} {rho : List Addr} {env : En} {M : Mem} {σ : St} {H : Hp} (I : R S G Fr env M rho σ H) : ∀ {us : List U} {vs : List V} {ds : List D}, URs S Fr σ G env rho H us vs → getU us env = some ds → Curs S rho G H ds vs
  | [], _, _, h, q => by
    cases h
    cases q
    exact .nil
  | u :: us, _, _, h, q => by
    cases h with
    | cons h t =>
      unfold getU at q
      split at q
      · next d ds h1 h2 =>
        cases q
        exact .cons (UR.cur I h h1) (curs_of I t h2)
      · cases q
theorem sem_blt {t : WX → TA} (c : CSem S r g) (h : Sem S fs (URs S) t) : Sem S (eBlt g fs) (WR S) (fun Wx => tCB r (t Wx)) := by
  intro Wx Fr G rho env M σ H Q I p
  refine h Wx Fr G rho env M σ H _ I (Post.step (VR := URs S) p fun us e m G1 rho1 H1 vs _ g1 r1 I1 v1 q => ?_)
  split at q
  · next ds hd =>
    split at q
    · next w hw => exact c Fr G1 rho1 e m σ H1 ds vs w Q I1 (curs_of I1 v1 hd) hw fun G2 H2 b g2 I2 w2 => q G2 rho1 H2 b g2 (List.prefix_refl _) I2 w2
    · exact q.elim
  · exact q.elim
theorem se_blt {id : String} (hc : ∀ X : Cx, Good S N sc kk X → CallR X (.builtin id) r) (c : CSem S r g) (b : Blt S sc x) (hv : bootBuiltins x = some (.builtin id)) (h : SUs S N sc kk (e :: es) fs) (hn : x ≠ "__name__" := by decide +kernel) (hdb : (x == ("__debug__" : Str)) = false := by decide +kernel)
    (hs : ∀ env : Env, starEach (e :: es) env = (false, eval e env) :: starEach es env := by intro _; rfl) (hpl : ∀ env : Env, (backTo pos (starEach es env)).any (·.1) = false := by intro _; rfl) : SE S N sc kk (.Call (.Name x p) (e :: es) [] pos) (eBlt g fs) := by
  obtain ⟨t, h1, h2⟩ := h
  exact ⟨_, fun X Wx gd tk => pe_callB (hc X gd) (b.gl gd) (b.mg gd) hv (h1 X Wx gd tk) hn hdb (hs _) (hpl _), sem_blt c h2⟩
theorem se_typ {T : String} (hc : ∀ X : Cx, Good S N sc kk X → CallR X (.type T) r) (c : CSem S r g) (b : Blt S sc x) (hv : bootBuiltins x = some (.type T)) (h : SUs S N sc kk (e :: es) fs) (hn : x ≠ "__name__" := by decide +kernel) (hdb : (x == ("__debug__" : Str)) = false := by decide +kernel)
    (hs : ∀ env : Env, starEach (e :: es) env = (false, eval e env) :: starEach es env := by intro _; rfl) (hpl : ∀ env : Env, (backTo pos (starEach es env)).any (·.1) = false := by intro _; rfl) : SE S N sc kk (.Call (.Name x p) (e :: es) [] pos) (eBlt g fs) := by
  obtain ⟨t, h1, h2⟩ := h
  exact ⟨_, fun X Wx gd tk => pe_callTy (hc X gd) (b.gl gd) (b.mg gd) hv (h1 X Wx gd tk) hn hdb (hs _) (hpl _), sem_blt c h2⟩
theorem CallR.or2 {X : Cx} {f : Value} (h : CallR X f r) (h' : CallR X f r') : CallR X f (fun xs H Q => r xs H Q ∨ r' xs H Q) := by
  intro pins s σ H xs us Q I rv q
  rcases q with q | q
  · exact h pins s σ H xs us Q I rv q
  · exact h' pins s σ H xs us Q I rv q
theorem CSem.or (h : CSem S r g) (h' : CSem S r' g') : CSem S (fun xs H Q => r xs H Q ∨ r' xs H Q) (fun m ds => (g m ds).or (g' m ds)) := by
  intro Fr G rho env M σ H ds vs w Q I c e k
  cases hg : g M ds with
  | some w' =>
    simp only [hg, Option.some_or] at e
    exact .inl (h Fr G rho env M σ H ds vs w Q I c (by rw [hg]; exact e) k)
  | none =>
    simp only [hg, Option.none_or] at e
    exact .inr (h' Fr G rho env M σ H ds vs w Q I c e k)

/-! ### len, abs, int, max, min -/
def gLen : GB := fun m ds => match ds with
  | [d] => (match deref m d with
    | .lst xs => some (.v (.int (xs.length : Int)))
    | .tup xs => some (.v (.int (xs.length : Int)))
    | .scr ns => some (.v (.int (ns.length : Int)))
    | .str s => if s.length ≤ sizeLine then some (.v (.int (s.length : Int))) else none
    | _ => none)
  | _ => none
theorem cs_len : CSem S (fun xs H Q => ∃ x n, xs = [x] ∧ LenV S.K x H n ∧ Q (.int n) H) gLen := by
  intro Fr G rho env M σ H ds vs w Q I c e k
  unfold gLen at e
  split at e
  · next d =>
    cases c with
    | cons cd t =>
      cases t
      have cd := cd.deref I.toMR
      have fin : ∀ (n : Nat), w = .v (.int (n : Int)) → Q (.int n) H := fun n hw => k G H _ (Same.refl _) I (by rw [hw]; exact .int _)
      split at e
      · next xs hx =>
        rw [hx] at cd
        obtain ⟨a, us, rfl, ha, z, t⟩ := cd
        exact ⟨_, xs.length, rfl, .inl ⟨us, SqL.of ha, t.length⟩, fin _ (Option.some.inj e).symm⟩
      · next xs hx =>
        rw [hx] at cd
        obtain ⟨a, us, rfl, ha, z, t⟩ := cd
        exact ⟨_, xs.length, rfl, .inr ⟨us, SqT.of ha, t.length⟩, fin _ (Option.some.inj e).symm⟩
      · next ns hx =>
        rw [hx] at cd
        obtain ⟨a, rfl, ha, z⟩ := cd
        exact ⟨_, ns.length, rfl, .inl ⟨_, ha, by rw [List.length_map]⟩, fin _ (Option.some.inj e).symm⟩
      · next s hx =>
        rw [hx] at cd
        cases cd
        split at e
        · next h => exact ⟨_, s.length, rfl, ⟨h, rfl⟩, fin _ (Option.some.inj e).symm⟩
        · cases e
      · cases e
  · cases e
theorem se_len (b : Blt S sc "len") (h : SUs S N sc kk [e] fs) (hs : ∀ env : Env, starEach [e] env = (false, eval e env) :: starEach [] env := by intro _; rfl) : SE S N sc kk (.Call (.Name "len" p) [e] [] pos) (eBlt gLen fs) :=
  se_blt (fun X g => by have := @call_len X; rw [g.K] at this; exact this) cs_len b PySem.boot_len h (by decide +kernel) (by decide +kernel) hs (by intro _; rfl)
def gAbs : GB := fun _ ds => match ds with
  | [.int i] => some (.v (.int (if i < 0 then -i else i)))
  | _ => none
theorem cs_abs : CSem S (fun xs H Q => ∃ i, xs = [.int i] ∧ Q (.int (if i < 0 then -i else i)) H) gAbs := by
  intro Fr G rho env M σ H ds vs w Q I c e k
  unfold gAbs at e
  split at e
  · next i =>
    cases c with
    | cons cd t =>
      cases t
      cases cd
      cases e
      exact ⟨i, rfl, k G H _ (Same.refl _) I (.int _)⟩
  · cases e
theorem se_abs (b : Blt S sc "abs") (h : SUs S N sc kk [e] fs) (hs : ∀ env : Env, starEach [e] env = (false, eval e env) :: starEach [] env := by intro _; rfl) : SE S N sc kk (.Call (.Name "abs" p) [e] [] pos) (eBlt gAbs fs) :=
  se_blt (fun X g => call_abs) cs_abs b (by decide +kernel) h (by decide +kernel) (by decide +kernel) hs (by intro _; rfl)
def gMax2 : GB := fun _ ds => match ds with
  | [.int i, .int j] => some (.v (.int (max i j)))
  | _ => none
def gMin2 : GB := fun _ ds => match ds with
  | [.int i, .int j] => some (.v (.int (min i j)))
  | _ => none
theorem cs_max2 : CSem S (fun xs H Q => ∃ i j, xs = [.int i, .int j] ∧ Q (.int (if j > i then j else i)) H) gMax2 := by
  intro Fr G rho env M σ H ds vs w Q I c e k
  unfold gMax2 at e
  split at e
  · next i j =>
    cases c with
    | cons ci t =>
      cases t with
      | cons cj t =>
        cases t; cases ci; cases cj; cases e
        refine ⟨i, j, rfl, ?_⟩
        have h : (if j > i then j else i) = max i j := by split <;> omega
        rw [h]
        exact k G H _ (Same.refl _) I (.int _)
  · cases e
theorem cs_min2 : CSem S (fun xs H Q => ∃ i j, xs = [.int i, .int j] ∧ Q (.int (if j < i then j else i)) H) gMin2 := by
  intro Fr G rho env M σ H ds vs w Q I c e k
  unfold gMin2 at e
  split at e
  · next i j =>
    cases c with
    | cons ci t =>
      cases t with
      | cons cj t =>
        cases t; cases ci; cases cj; cases e
        refine ⟨i, j, rfl, ?_⟩
        have h : (if j < i then j else i) = min i j := by split <;> omega
        rw [h]
        exact k G H _ (Same.refl _) I (.int _)
  · cases e
theorem se_max2 {e2 : Expr} (b : Blt S sc "max") (h : SUs S N sc (.sm k) [e, e2] fs) (hs : ∀ env : Env, starEach [e, e2] env = (false, eval e env) :: starEach [e2] env := by intro _; rfl) (hpl : ∀ env : Env, (backTo pos (starEach [e2] env)).any (·.1) = false := by intro _; rfl) : SE S N sc (.sm k) (.Call (.Name "max" p) [e, e2] [] pos) (eBlt gMax2 fs) :=
  se_blt (fun X g => call_max2 (g.room k rfl).2) cs_max2 b (by decide +kernel) h (by decide +kernel) (by decide +kernel) hs hpl
theorem se_min2 {e2 : Expr} (b : Blt S sc "min") (h : SUs S N sc (.sm k) [e, e2] fs) (hs : ∀ env : Env, starEach [e, e2] env = (false, eval e env) :: starEach [e2] env := by intro _; rfl) (hpl : ∀ env : Env, (backTo pos (starEach [e2] env)).any (·.1) = false := by intro _; rfl) : SE S N sc (.sm k) (.Call (.Name "min" p) [e, e2] [] pos) (eBlt gMin2 fs) :=
  se_blt (fun X g => call_min2 (g.room k rfl).2) cs_min2 b (by decide +kernel) h (by decide +kernel) (by decide +kernel) hs hpl
def gInt : GB := fun _ ds => match ds with
  | [.int i] => some (.v (.int i))
  | [.bl b] => some (.v (.int (if b then 1 else 0)))
  | _ => none
theorem cs_int : CSem S (fun xs H Q => (∃ i, xs = [.int i] ∧ Q (.int i) H) ∨ ∃ k, xs = [.bl k] ∧ Q (.int (if k then 1 else 0)) H) gInt := by
  intro Fr G rho env M σ H ds vs w Q I c e k
  unfold gInt at e
  split at e
  · next i =>
    cases c with
    | cons ci t =>
      cases t; cases ci; cases e
      exact .inl ⟨i, rfl, k G H _ (Same.refl _) I (.int _)⟩
  · next b =>
    cases c with
    | cons ci t =>
      cases t; cases ci; cases e
      exact .inr ⟨b, rfl, k G H _ (Same.refl _) I (.int _)⟩
  · cases e
theorem se_int1 (b : Blt S sc "int") (h : SUs S N sc kk [e] fs) (hs : ∀ env : Env, starEach [e] env = (false, eval e env) :: starEach [] env := by intro _; rfl) : SE S N sc kk (.Call (.Name "int" p) [e] [] pos) (eBlt gInt fs) :=
  se_typ (fun X g => call_int1) cs_int b (by decide +kernel) h (by decide +kernel) (by decide +kernel) hs (by intro _; rfl)

/-! ### sums, all, any, greatest, least of a list -/
def intsD : List D → Option (List Int)
  | [] => some []
  | .int i :: r => (intsD r).map (i :: ·)
  | _ :: _ => none
def blsD : List D → Option (List Bool)
  | [] => some []
  | .bl i :: r => (blsD r).map (i :: ·)
  | _ :: _ => none
theorem intsD_eq : ∀ {ds : List D} {ns : List Int}, intsD ds = some ns → ds = ns.map D.int
  | [], _, h => by cases h; rfl
  | d :: r, ns, h => by
    cases d with
    | int i =>
      obtain ⟨ms, h1, rfl⟩ := Option.map_eq_some_iff.mp (show (intsD r).map (i :: ·) = some ns from h)
      rw [intsD_eq h1]
      rfl
    | _ => cases h
theorem blsD_eq : ∀ {ds : List D} {ns : List Bool}, blsD ds = some ns → ds = ns.map D.bl
  | [], _, h => by cases h; rfl
  | d :: r, ns, h => by
    cases d with
    | bl i =>
      obtain ⟨ms, h1, rfl⟩ := Option.map_eq_some_iff.mp (show (blsD r).map (i :: ·) = some ns from h)
      rw [blsD_eq h1]
      rfl
    | _ => cases h
@[simp] theorem intsD_map (ns : List Int) : intsD (ns.map D.int) = some ns := by
  induction ns with
  | nil => rfl
  | cons n r ih => show (intsD (r.map D.int)).map (n :: ·) = _; rw [ih]; rfl
@[simp] theorem blsD_map (ns : List Bool) : blsD (ns.map D.bl) = some ns := by
  induction ns with
  | nil => rfl
  | cons n r ih => show (blsD (r.map D.bl)).map (n :: ·) = _; rw [ih]; rfl
theorem Reps.int_vals {rho : List Addr} {G : Hp} : ∀ {ns : List Int} {vs : List V}, Reps S rho G (ns.map D.int) vs → vs = ns.map V.int
  | [], _, h => by cases h; rfl
  | n :: r, _, h => by
    cases h with
    | cons h t =>
      cases h
      rw [Reps.int_vals t]
      rfl
theorem Reps.bl_vals {rho : List Addr} {G : Hp} : ∀ {ns : List Bool} {vs : List V}, Reps S rho G (ns.map D.bl) vs → vs = ns.map V.bl
  | [], _, h => by cases h; rfl
  | n :: r, _, h => by
    cases h with
    | cons h t =>
      cases h
      rw [Reps.bl_vals t]
      rfl
def onInts (h : List Int → Option W) : GB := fun m ds => match ds with
  | [d] => (match deref m d with
    | .lst xs => (intsD xs).bind h
    | _ => none)
  | _ => none
def onBls (h : List Bool → Option W) : GB := fun m ds => match ds with
  | [d] => (match deref m d with
    | .lst xs => (blsD xs).bind h
    | _ => none)
  | _ => none
theorem cs_ints {h : List Int → Option W} {q : Addr → List Int → Hp → VK → Prop} (hq : ∀ (Fr G : Hp) (rho : List Addr) (env : En) (M : Mem) (σ : St) (H : Hp) (a : Addr) (ns : List Int) (w : W) (Q : VK), R S G Fr env M rho σ H → H a = some (.lst (ns.map V.int)) → ns.length ≤ sizeLine → h ns = some w →
    (∀ (G' H' : Hp) (b : V), Same G G' → R S G' Fr env M rho σ H' → WR S Fr σ G' env rho H' w b → Q b H') → q a ns H Q) (hr : ∀ a ns H Q, SqL S.K H a (ns.map V.int) → q a ns H Q → r [.ref a] H Q) : CSem S r (onInts h) := by
  intro Fr G rho env M σ H ds vs w Q I c e k
  unfold onInts at e
  split at e
  · next d =>
    cases c with
    | cons cd t =>
      cases t
      have cd := cd.deref I.toMR
      split at e
      · next xs hx =>
        rw [hx] at cd
        obtain ⟨a, us, rfl, ha, z, t⟩ := cd
        obtain ⟨ns, h1, h2⟩ := Option.bind_eq_some_iff.mp e
        have := intsD_eq h1
        subst this
        rw [t.int_vals] at ha
        exact hr a ns H Q (SqL.of ha) (hq Fr G rho env M σ H a ns w Q I ha (by simpa using z) h2 k)
      · cases e
  · cases e
theorem cs_bls {h : List Bool → Option W} {q : Addr → List Bool → Hp → VK → Prop} (hq : ∀ (Fr G : Hp) (rho : List Addr) (env : En) (M : Mem) (σ : St) (H : Hp) (a : Addr) (ns : List Bool) (w : W) (Q : VK), R S G Fr env M rho σ H → h ns = some w →
    (∀ (G' H' : Hp) (b : V), Same G G' → R S G' Fr env M rho σ H' → WR S Fr σ G' env rho H' w b → Q b H') → q a ns H Q) (hr : ∀ a ns H Q, SqL S.K H a (ns.map V.bl) → q a ns H Q → r [.ref a] H Q) : CSem S r (onBls h) := by
  intro Fr G rho env M σ H ds vs w Q I c e k
  unfold onBls at e
  split at e
  · next d =>
    cases c with
    | cons cd t =>
      cases t
      have cd := cd.deref I.toMR
      split at e
      · next xs hx =>
        rw [hx] at cd
        obtain ⟨a, us, rfl, ha, z, t⟩ := cd
        obtain ⟨ns, h1, h2⟩ := Option.bind_eq_some_iff.mp e
        have := blsD_eq h1
        subst this
        rw [t.bl_vals] at ha
        exact hr a ns H Q (SqL.of ha) (hq Fr G rho env M σ H a ns w Q I h2 k)
      · cases e
  · cases e
def gSum : GB := onInts fun ns => some (.v (.int ns.sum))
def gAll : GB := onBls fun ns => some (.v (.bl (ns.all id)))
def gAny : GB := onBls fun ns => some (.v (.bl (ns.any id)))
def maxL : List Int → Int
  | [] => 0
  | x :: xs => xs.foldl max x
def minL : List Int → Int
  | [] => 0
  | x :: xs => xs.foldl min x
theorem foldl_max : ∀ (xs : List Int) (x m : Int), m ∈ x :: xs → (∀ y ∈ x :: xs, y ≤ m) → xs.foldl max x = m
  | [], x, m, h, g => (by have := List.mem_singleton.mp h; exact this.symm)
  | y :: ys, x, m, h, g => by
    rw [List.foldl_cons]
    refine foldl_max ys (max x y) m ?_ fun z hz => ?_
    · have hx := g x (by simp)
      have hy := g y (by simp)
      rcases List.mem_cons.mp h with e | e
      · have : max x y = m := by omega
        rw [this]; simp
      · rcases List.mem_cons.mp e with e | e
        · have : max x y = m := by omega
          rw [this]; simp
        · exact List.mem_cons_of_mem _ e
    · rcases List.mem_cons.mp hz with e | e
      · have hx := g x (by simp)
        have hy := g y (by simp)
        omega
      · exact g z (by simp [e])
theorem foldl_min : ∀ (xs : List Int) (x m : Int), m ∈ x :: xs → (∀ y ∈ x :: xs, m ≤ y) → xs.foldl min x = m
  | [], x, m, h, g => (by have := List.mem_singleton.mp h; exact this.symm)
  | y :: ys, x, m, h, g => by
    rw [List.foldl_cons]
    refine foldl_min ys (min x y) m ?_ fun z hz => ?_
    · have hx := g x (by simp)
      have hy := g y (by simp)
      rcases List.mem_cons.mp h with e | e
      · have : min x y = m := by omega
        rw [this]; simp
      · rcases List.mem_cons.mp e with e | e
        · have : min x y = m := by omega
          rw [this]; simp
        · exact List.mem_cons_of_mem _ e
    · rcases List.mem_cons.mp hz with e | e
      · have hx := g x (by simp)
        have hy := g y (by simp)
        omega
      · exact g z (by simp [e])
theorem maxL_eq {ns : List Int} {m : Int} (h : m ∈ ns) (g : ∀ y ∈ ns, y ≤ m) : maxL ns = m := by
  cases ns with
  | nil => cases h
  | cons x xs => exact foldl_max xs x m h g
theorem minL_eq {ns : List Int} {m : Int} (h : m ∈ ns) (g : ∀ y ∈ ns, m ≤ y) : minL ns = m := by
  cases ns with
  | nil => cases h
  | cons x xs => exact foldl_min xs x m h g
def gMaxL : GB := onInts fun ns => if 0 < ns.length then some (.v (.int (maxL ns))) else none
def gMinL : GB := onInts fun ns => if 0 < ns.length then some (.v (.int (minL ns))) else none
theorem cs_sum : CSem S (rSum S.K) gSum := cs_ints (q := fun a ns H Q => Q (.int ns.sum) H) (fun Fr G rho env M σ H a ns w Q I _ _ e k => by cases e; exact k G H _ (Same.refl _) I (.int _)) fun a ns H Q h q => ⟨a, ns, rfl, h, q⟩
theorem cs_all : CSem S (rAll S.K) gAll := cs_bls (q := fun a ns H Q => Q (.bl (ns.all id)) H) (fun Fr G rho env M σ H a ns w Q I e k => by cases e; exact k G H _ (Same.refl _) I (.bl _)) fun a ns H Q h q => ⟨a, ns, rfl, h, q⟩
theorem cs_any : CSem S (rAny S.K) gAny := cs_bls (q := fun a ns H Q => Q (.bl (ns.any id)) H) (fun Fr G rho env M σ H a ns w Q I e k => by cases e; exact k G H _ (Same.refl _) I (.bl _)) fun a ns H Q h q => ⟨a, ns, rfl, h, q⟩
theorem cs_maxL : CSem S (rMax S.K) gMaxL := cs_ints (q := fun a ns H Q => 0 < ns.length ∧ ∀ m, m ∈ ns → (∀ y, y ∈ ns → y ≤ m) → Q (.int m) H) (fun Fr G rho env M σ H a ns w Q I _ _ e k => by
  by_cases h : 0 < ns.length
  · rw [if_pos h] at e
    cases e
    exact ⟨h, fun m h1 h2 => by rw [← maxL_eq h1 h2]; exact k G H _ (Same.refl _) I (.int _)⟩
  · rw [if_neg h] at e; cases e) fun a ns H Q h q => ⟨a, ns, rfl, h, q⟩
theorem cs_minL : CSem S (rMin S.K) gMinL := cs_ints (q := fun a ns H Q => 0 < ns.length ∧ ∀ m, m ∈ ns → (∀ y, y ∈ ns → m ≤ y) → Q (.int m) H) (fun Fr G rho env M σ H a ns w Q I _ _ e k => by
  by_cases h : 0 < ns.length
  · rw [if_pos h] at e
    cases e
    exact ⟨h, fun m h1 h2 => by rw [← minL_eq h1 h2]; exact k G H _ (Same.refl _) I (.int _)⟩
  · rw [if_neg h] at e; cases e) fun a ns H Q h q => ⟨a, ns, rfl, h, q⟩
theorem se_sum (b : Blt S sc "sum") (h : SUs S N sc (.sm k) [e] fs) (hs : ∀ env : Env, starEach [e] env = (false, eval e env) :: starEach [] env := by intro _; rfl) : SE S N sc (.sm k) (.Call (.Name "sum" p) [e] [] pos) (eBlt gSum fs) :=
  se_blt (fun X g => by have := @cr_sum X (g.room k rfl).2; rw [g.K] at this; exact this) cs_sum b (by decide +kernel) h (by decide +kernel) (by decide +kernel) hs (by intro _; rfl)
theorem se_all (b : Blt S sc "all") (h : SUs S N sc (.sm k) [e] fs) (hs : ∀ env : Env, starEach [e] env = (false, eval e env) :: starEach [] env := by intro _; rfl) : SE S N sc (.sm k) (.Call (.Name "all" p) [e] [] pos) (eBlt gAll fs) :=
  se_blt (fun X g => by have := @cr_all X (g.room k rfl).2; rw [g.K] at this; exact this) cs_all b (by decide +kernel) h (by decide +kernel) (by decide +kernel) hs (by intro _; rfl)
theorem se_any (b : Blt S sc "any") (h : SUs S N sc (.sm k) [e] fs) (hs : ∀ env : Env, starEach [e] env = (false, eval e env) :: starEach [] env := by intro _; rfl) : SE S N sc (.sm k) (.Call (.Name "any" p) [e] [] pos) (eBlt gAny fs) :=
  se_blt (fun X g => by have := @cr_any X (g.room k rfl).2; rw [g.K] at this; exact this) cs_any b (by decide +kernel) h (by decide +kernel) (by decide +kernel) hs (by intro _; rfl)
theorem se_maxL (b : Blt S sc "max") (h : SUs S N sc (.sm k) [e] fs) (hs : ∀ env : Env, starEach [e] env = (false, eval e env) :: starEach [] env := by intro _; rfl) : SE S N sc (.sm k) (.Call (.Name "max" p) [e] [] pos) (eBlt gMaxL fs) :=
  se_blt (fun X g => by have := @cr_max X (g.room k rfl).2; rw [g.K] at this; exact this) cs_maxL b (by decide +kernel) h (by decide +kernel) (by decide +kernel) hs (by intro _; rfl)
theorem se_minL (b : Blt S sc "min") (h : SUs S N sc (.sm k) [e] fs) (hs : ∀ env : Env, starEach [e] env = (false, eval e env) :: starEach [] env := by intro _; rfl) : SE S N sc (.sm k) (.Call (.Name "min" p) [e] [] pos) (eBlt gMinL fs) :=
  se_blt (fun X g => by have := @cr_min X (g.room k rfl).2; rw [g.K] at this; exact this) cs_minL b (by decide +kernel) h (by decide +kernel) (by decide +kernel) hs (by intro _; rfl)

/-! ### divmod, list, tuple -/
def gDivmod : GB := fun _ ds => match ds with
  | [.int i, .int j] => if 0 < j ∧ j < 1073741824 then some (.v (.tup [.int (i / j), .int (i % j)])) else none
  | _ => none
theorem cs_divmod : CSem S (fun xs H Q => ∃ i j, xs = [.int i, .int j] ∧ CDiv i j ∧ ∀ p, H p = none → Q (.ref p) (upd H p (.tup [.int (i / j), .int (i % j)]))) gDivmod := by
  intro Fr G rho env M σ H ds vs w Q I c e k
  unfold gDivmod at e
  split at e
  · next i j =>
    cases c with
    | cons ci t =>
      cases t with
      | cons cj t =>
        cases t; cases ci; cases cj
        split at e
        · next h =>
          cases e
          exact ⟨i, j, rfl, h, new_tup I (.cons (.int _) (.cons (.int _) .nil)) (by show 2 ≤ sizeLine; decide) k⟩
        · cases e
  · cases e
theorem se_divmod {e2 : Expr} (b : Blt S sc "divmod") (h : SUs S N sc kk [e, e2] fs) (hs : ∀ env : Env, starEach [e, e2] env = (false, eval e env) :: starEach [e2] env := by intro _; rfl) (hpl : ∀ env : Env, (backTo pos (starEach [e2] env)).any (·.1) = false := by intro _; rfl) : SE S N sc kk (.Call (.Name "divmod" p) [e, e2] [] pos) (eBlt gDivmod fs) :=
  se_blt (fun X g => call_divmod) cs_divmod b (by decide +kernel) h (by decide +kernel) (by decide +kernel) hs hpl
def gList : GB := fun m ds => match ds with
  | [d] => (match deref m d with
    | .lst xs => some (.o (.lst xs))
    | .tup xs => some (.o (.lst xs))
    | _ => none)
  | _ => none
theorem cs_list : CSem S (fun xs H Q => ∃ p ys, xs = [.ref p] ∧ (SqL S.K H p ys ∨ SqT S.K H p ys) ∧ ∀ l, H l = none → Q (.ref l) (upd H l (.lst ys))) gList := by
  intro Fr G rho env M σ H ds vs w Q I c e k
  unfold gList at e
  split at e
  · next d =>
    cases c with
    | cons cd t =>
      cases t
      have cd := cd.deref I.toMR
      split at e
      · next xs hx =>
        rw [hx] at cd
        obtain ⟨a, us, rfl, ha, z, t⟩ := cd
        cases e
        exact ⟨a, us, rfl, .inl (SqL.of ha), new_list I t z k⟩
      · next xs hx =>
        rw [hx] at cd
        obtain ⟨a, us, rfl, ha, z, t⟩ := cd
        cases e
        exact ⟨a, us, rfl, .inr (SqT.of ha), new_list I t z k⟩
      · cases e
  · cases e
theorem se_list1 (b : Blt S sc "list") (h : SUs S N sc kk [e] fs) (hs : ∀ env : Env, starEach [e] env = (false, eval e env) :: starEach [] env := by intro _; rfl) : SE S N sc kk (.Call (.Name "list" p) [e] [] pos) (eBlt gList fs) :=
  se_typ (fun X g => by have := @call_list_of X; rw [g.K] at this; exact this) cs_list b (by decide +kernel) h (by decide +kernel) (by decide +kernel) hs (by intro _; rfl)
/-- tuple(x) of a list -/
def gTuple : GB := fun m ds => match ds with
  | [d] => (match deref m d with
    | .lst xs => some (.v (.tup xs))
    | _ => none)
  | _ => none
theorem cs_tuple : CSem S (fun xs H Q => ∃ p ys, xs = [.ref p] ∧ ((SqL S.K H p ys ∧ ∀ l, H l = none → Q (.ref l) (upd H l (.tup ys))) ∨ (SqT S.K H p ys ∧ Q (.ref p) H))) gTuple := by
  intro Fr G rho env M σ H ds vs w Q I c e k
  unfold gTuple at e
  split at e
  · next d =>
    cases c with
    | cons cd t =>
      cases t
      have cd := cd.deref I.toMR
      split at e
      · next xs hx =>
        rw [hx] at cd
        obtain ⟨a, us, rfl, ha, z, t⟩ := cd
        cases e
        exact ⟨a, us, rfl, .inl ⟨SqL.of ha, new_tup I t z k⟩⟩
      · cases e
  · cases e
theorem se_tuple1 (b : Blt S sc "tuple") (h : SUs S N sc kk [e] fs) (hs : ∀ env : Env, starEach [e] env = (false, eval e env) :: starEach [] env := by intro _; rfl) : SE S N sc kk (.Call (.Name "tuple" p) [e] [] pos) (eBlt gTuple fs) :=
  se_typ (fun X g => by have := @call_tuple_of X; rw [g.K] at this; exact this) cs_tuple b (by decide +kernel) h (by decide +kernel) (by decide +kernel) hs (by intro _; rfl)
end
end Ow
namespace Ow
open PySem PySem.Spec L2

/-! ### methods of texts -/
def eM0 (g : Str → Option W) (f : En → Mem → Res W) : En → Mem → Res W := fun env M => (use f env M).bind fun u e m => match u with
  | .v (.str z) => (match g z with
    | some w => .ok w e m
    | none => .no)
  | _ => .no
def eM1 (g : Mem → Str → D → Option W) (f f2 : En → Mem → Res W) : En → Mem → Res W := fun env M => (use f env M).bind fun u e m => match u with
  | .v (.str z) => (use f2 e m).bind fun u2 e m => (match u2.get e with
    | some y => (match g m z y with
      | some w => .ok w e m
      | none => .no)
    | none => .no)
  | _ => .no
def MSem1 (S : Sg) (r : V → List V → Hp → VK → Prop) (g : Mem → Str → D → Option W) : Prop := ∀ (Fr G : Hp) (rho : List Addr) (env : En) (M : Mem) (σ : St) (H : Hp) (z : Str) (y : D) (vy : V) (w : W) (Q : VK), R S G Fr env M rho σ H → Cur S rho G H y vy → g M z y = some w →
  (∀ (G' H' : Hp) (b : V), Same G G' → R S G' Fr env M rho σ H' → WR S Fr σ G' env rho H' w b → Q b H') → r (.str z) [vy] H Q
def MSem0 (S : Sg) (r : V → List V → Hp → VK → Prop) (g : Str → Option W) : Prop := ∀ (Fr G : Hp) (rho : List Addr) (env : En) (M : Mem) (σ : St) (H : Hp) (z : Str) (w : W) (Q : VK), R S G Fr env M rho σ H → g z = some w →
  (∀ (G' H' : Hp) (b : V), Same G G' → R S G' Fr env M rho σ H' → WR S Fr σ G' env rho H' w b → Q b H') → r (.str z) [] H Q
section
variable {S : Sg} {N : List Str} {sc : Scope} {k : Nat} {kk : Kk} {o e : Expr} {f f1 f2 f3 : En → Mem → Res W} {apos p pos : Pos} {name : Str} {id : String} {r : V → List V → Hp → VK → Prop}
theorem sem_m1 {g : Mem → Str → D → Option W} {to te : WX → TE} (c : MSem1 S r g) (ho : Sem S (use f) (UR S) to) (he : Sem S (use f2) (UR S) te) : Sem S (eM1 g f f2) (WR S) (fun Wx => tM1 r (to Wx) (te Wx)) := by
  intro Wx Fr G rho env M σ H Q I p
  refine ho Wx Fr G rho env M σ H _ I (Post.step (VR := UR S) p fun u e m G1 rho1 H1 v _ g1 r1 I1 v1 q => ?_)
  split at q
  · next z _ =>
    cases (v1 : Rep S rho1 G1 (.str z) v)
    refine ⟨⟨z, rfl⟩, he Wx Fr G1 rho1 e m σ H1 _ I1 (Post.step (VR := UR S) q fun u2 e2 m2 G2 rho2 H2 vy _ g2 r2 I2 v2 q2 => ?_)⟩
    split at q2
    · next y hy =>
      split at q2
      · next w hw => exact c Fr G2 rho2 e2 m2 σ H2 z y vy w Q I2 (UR.cur I2 v2 hy) hw fun G3 H3 b g3 I3 w3 => q2 G3 rho2 H3 b g3 (List.prefix_refl _) I3 w3
      · exact q2.elim
    · exact q2.elim
  · exact q.elim
theorem se_m1 {g : Mem → Str → D → Option W} (slot : PySem.Slot "str" name id) (ty : typeOf (.builtin id) = pure (.type "method_descriptor")) (rule : ∀ X : Cx, Good S N sc kk X → MtR X id r) (c : MSem1 S r g) (ho : SE S N sc kk o f) (he : SE S N sc kk e f2)
    (hs : ∀ env : Env, starEach [e] env = [(false, eval e env)] := by intro _; rfl) (hbase : ∀ env : Env, attributeBase o name env (eval o env) = eval o env := by intro _; rfl) (hline : (apos.endLine == pos.line) = true := by rfl) :
    SE S N sc kk (.Call (.Attribute o name apos) [e] [] pos) (eM1 g f f2) := by
  obtain ⟨to, o1, o2⟩ := ho.use
  obtain ⟨te, e1, e2⟩ := he.use
  exact ⟨_, fun X Wx gd tk => pe_m1 slot ty (rule X gd) (o1 X Wx gd tk) (e1 X Wx gd tk) (hs _) (hbase _) hline, sem_m1 c o2 e2⟩
theorem se_m0 {g : Str → Option W} (slot : PySem.Slot "str" name id) (ty : typeOf (.builtin id) = pure (.type "method_descriptor")) (rule : ∀ X : Cx, Good S N sc kk X → MtR X id r) (c : MSem0 S r g) (ho : SE S N sc kk o f)
    (hbase : ∀ env : Env, attributeBase o name env (eval o env) = eval o env := by intro _; rfl) (hline : (apos.endLine == pos.line) = true := by rfl) :
    SE S N sc kk (.Call (.Attribute o name apos) [] [] pos) (eM0 g f) := by
  obtain ⟨to, o1, o2⟩ := ho.use
  refine ⟨_, fun X Wx gd tk => pe_m0 slot ty (rule X gd) (o1 X Wx gd tk) (hbase _) hline, fun Wx Fr G rho env M σ H Q I p => ?_⟩
  refine o2 Wx Fr G rho env M σ H _ I (Post.step (VR := UR S) p fun u e m G1 rho1 H1 v _ g1 r1 I1 v1 q => ?_)
  split at q
  · next z _ =>
    cases (v1 : Rep S rho1 G1 (.str z) v)
    split at q
    · next w hw => exact ⟨⟨z, rfl⟩, c Fr G1 rho1 e m σ H1 z w Q I1 hw fun G3 H3 b g3 I3 w3 => q G3 rho1 H3 b g3 (List.prefix_refl _) I3 w3⟩
    · exact q.elim
  · exact q.elim
theorem reps_strs {rho : List Addr} {G : Hp} : ∀ ys : List Str, Reps S rho G (ys.map D.str) (ys.map V.str)
  | [] => .nil
  | y :: ys => .cons (.str y) (reps_strs ys)
def gSplit : Mem → Str → D → Option W := fun _ z y => match y with
  | .str b => if (b.length == 0) = false ∧ z.length + 2 ≤ sizeLine then some (.o (.lst ((Txt.split z b).map D.str))) else none
  | _ => none
theorem mc_split : MSem1 S (fun x xs H Q => ∃ a b, x = .str a ∧ xs = [.str b] ∧ (b.length == 0) = false ∧ a.length + 2 ≤ sizeLine ∧ rNewStrs (Txt.split a b) H Q) gSplit := by
  intro Fr G rho env M σ H z y vy w Q I cy e k
  unfold gSplit at e
  split at e
  · next b =>
    cases cy
    split at e
    · next h =>
      cases e
      refine ⟨z, b, rfl, rfl, h.1, h.2, new_list I (reps_strs _) ?_ k⟩
      rw [List.length_map]
      exact Nat.le_trans (PyProof.Rows.split_le z b) h.2
    · cases e
  · cases e
theorem se_split (ho : SE S N sc kk o f) (he : SE S N sc kk e f2) (hs : ∀ env : Env, starEach [e] env = [(false, eval e env)] := by intro _; rfl) (hbase : ∀ env : Env, attributeBase o "split" env (eval o env) = eval o env := by intro _; rfl) (hline : (apos.endLine == pos.line) = true := by rfl) :
    SE S N sc kk (.Call (.Attribute o "split" apos) [e] [] pos) (eM1 gSplit f f2) := se_m1 F.slot_str_split F.type_str_split (fun X _ => mt_split) mc_split ho he hs hbase hline
def strsD : List D → Option (List Str)
  | [] => some []
  | .str i :: r => (strsD r).map (i :: ·)
  | _ :: _ => none
theorem strsD_eq : ∀ {ds : List D} {ns : List Str}, strsD ds = some ns → ds = ns.map D.str
  | [], _, h => by cases h; rfl
  | d :: r, ns, h => by
    cases d with
    | str i =>
      obtain ⟨ms, h1, rfl⟩ := Option.map_eq_some_iff.mp (show (strsD r).map (i :: ·) = some ns from h)
      rw [strsD_eq h1]
      rfl
    | _ => cases h
@[simp] theorem strsD_map (ns : List Str) : strsD (ns.map D.str) = some ns := by
  induction ns with
  | nil => rfl
  | cons n r ih => show (strsD (r.map D.str)).map (n :: ·) = _; rw [ih]; rfl
theorem Reps.str_vals {rho : List Addr} {G : Hp} : ∀ {ns : List Str} {vs : List V}, Reps S rho G (ns.map D.str) vs → vs = ns.map V.str
  | [], _, h => by cases h; rfl
  | n :: r, _, h => by
    cases h with
    | cons h t =>
      cases h
      rw [Reps.str_vals t]
      rfl
def joinOk (z : Str) (ys : List Str) : Bool := decide ((ys.map (·.length)).sum + ys.length * z.length ≤ 16777216)
def gJoin : Mem → Str → D → Option W := fun m z y => match deref m y with
  | .lst xs => (strsD xs).bind fun ys => if joinOk z ys then some (.v (.str (Txt.join z ys))) else none
  | _ => none
theorem mc_join : MSem1 S (fun x xs H Q => ∃ a p, ∃ ys : List Str, x = .str a ∧ xs = [.ref p] ∧ (SqL S.K H p (ys.map V.str) ∨ SqT S.K H p (ys.map V.str)) ∧
      (ys.map (·.length)).sum + ys.length * a.length ≤ 16777216 ∧ Q (.str (Txt.join a ys)) H) gJoin := by
  intro Fr G rho env M σ H z y vy w Q I cy e k
  have cy := cy.deref I.toMR
  unfold gJoin at e
  split at e
  · next xs hx =>
    rw [hx] at cy
    obtain ⟨a, us, rfl, ha, hz, t⟩ := cy
    obtain ⟨ys, h1, h2⟩ := Option.bind_eq_some_iff.mp e
    have := strsD_eq h1
    subst this
    rw [t.str_vals] at ha
    split at h2
    · next h =>
      cases h2
      exact ⟨z, a, ys, rfl, rfl, .inl (SqL.of ha), of_decide_eq_true h, k G H _ (Same.refl _) I (.str _)⟩
    · cases h2
  · cases e
theorem se_join (ho : SE S N sc kk o f) (he : SE S N sc kk e f2) (hs : ∀ env : Env, starEach [e] env = [(false, eval e env)] := by intro _; rfl) (hbase : ∀ env : Env, attributeBase o "join" env (eval o env) = eval o env := by intro _; rfl) (hline : (apos.endLine == pos.line) = true := by rfl) :
    SE S N sc kk (.Call (.Attribute o "join" apos) [e] [] pos) (eM1 gJoin f f2) := se_m1 F.slot_str_join F.type_str_join (fun X g => by have := @mt_join X; rw [g.K] at this; exact this) mc_join ho he hs hbase hline
def gPartition : Mem → Str → D → Option W := fun _ z y => match y with
  | .str b => if (b.length == 0) = false ∧ z.length ≤ sizeLine then some (.v (.tup [.str (Txt.partition z b).1, .str (Txt.partition z b).2.1, .str (Txt.partition z b).2.2])) else none
  | _ => none
theorem mc_partition : MSem1 S (fun x xs H Q => ∃ a b, x = .str a ∧ xs = [.str b] ∧ (b.length == 0) = false ∧ a.length ≤ sizeLine ∧
      ∀ p, H p = none → Q (.ref p) (upd H p (.tup [.str (Txt.partition a b).1, .str (Txt.partition a b).2.1, .str (Txt.partition a b).2.2]))) gPartition := by
  intro Fr G rho env M σ H z y vy w Q I cy e k
  unfold gPartition at e
  split at e
  · next b =>
    cases cy
    split at e
    · next h =>
      cases e
      exact ⟨z, b, rfl, rfl, h.1, h.2, new_tup I (.cons (.str _) (.cons (.str _) (.cons (.str _) .nil))) (by show 3 ≤ sizeLine; decide) k⟩
    · cases e
  · cases e
theorem se_partition (ho : SE S N sc kk o f) (he : SE S N sc kk e f2) (hs : ∀ env : Env, starEach [e] env = [(false, eval e env)] := by intro _; rfl) (hbase : ∀ env : Env, attributeBase o "partition" env (eval o env) = eval o env := by intro _; rfl) (hline : (apos.endLine == pos.line) = true := by rfl) :
    SE S N sc kk (.Call (.Attribute o "partition" apos) [e] [] pos) (eM1 gPartition f f2) := se_m1 F.slot_str_partition F.type_str_partition (fun X g => mt_partition) mc_partition ho he hs hbase hline
def gUpper : Str → Option W := fun z => if z.length ≤ 5592405 then some (.v (.str (Txt.upper z))) else none
theorem se_upper (ho : SE S N sc kk o f) (hbase : ∀ env : Env, attributeBase o "upper" env (eval o env) = eval o env := by intro _; rfl) (hline : (apos.endLine == pos.line) = true := by rfl) :
    SE S N sc kk (.Call (.Attribute o "upper" apos) [] [] pos) (eM0 gUpper f) := se_m0 F.slot_str_upper F.type_str_upper (fun X g => mt_upper) (by
  intro Fr G rho env M σ H z w Q I e k
  unfold gUpper at e
  split at e
  · next h => cases e; exact ⟨z, rfl, rfl, h, k G H _ (Same.refl _) I (.str _)⟩
  · cases e) ho hbase hline

/-! ### str(i), int(text) -/
def gStr : GB := fun _ ds => match ds with
  | [.int i] => if i.natAbs.log2 < 1920 then some (.v (.str (toString i))) else none
  | [.str z] => some (.v (.str z))
  | _ => none
theorem cs_str : CSem S (fun xs H Q => (∃ i, xs = [.int i] ∧ i.natAbs.log2 < 1920 ∧ Q (.str (toString i)) H) ∨ ∃ a, xs = [.str a] ∧ Q (.str a) H) gStr := by
  intro Fr G rho env M σ H ds vs w Q I c e k
  unfold gStr at e
  split at e
  · next i =>
    cases c with
    | cons ci t =>
      cases t; cases ci
      split at e
      · next h => cases e; exact .inl ⟨i, rfl, h, k G H _ (Same.refl _) I (.str _)⟩
      · cases e
  · next z =>
    cases c with
    | cons ci t =>
      cases t; cases ci; cases e
      exact .inr ⟨z, rfl, k G H _ (Same.refl _) I (.str _)⟩
  · cases e
theorem se_str1 {fs : En → Mem → Res (List U)} (b : Blt S sc "str") (h : SUs S N sc kk [e] fs) (hs : ∀ env : Env, starEach [e] env = (false, eval e env) :: starEach [] env := by intro _; rfl) : SE S N sc kk (.Call (.Name "str" p) [e] [] pos) (eBlt gStr fs) :=
  se_typ (fun X g => CallR.or2 call_str_int SkE.call_str_str) cs_str b (by decide +kernel) h (by decide +kernel) (by decide +kernel) hs (by intro _; rfl)
def gIntS : GB := fun _ ds => match ds with
  | [.str a] => if a.length ≤ 640 then (PySem.intText? a).map fun n => .v (.int n) else none
  | _ => none
theorem cs_intS : CSem S (fun xs H Q => ∃ a n, xs = [.str a] ∧ PySem.intText? a = some n ∧ a.length ≤ 640 ∧ Q (.int n) H) gIntS := by
  intro Fr G rho env M σ H ds vs w Q I c e k
  unfold gIntS at e
  split at e
  · next a =>
    cases c with
    | cons ci t =>
      cases t; cases ci
      split at e
      · next h =>
        obtain ⟨n, h1, rfl⟩ := Option.map_eq_some_iff.mp e
        exact ⟨a, n, rfl, h1, h, k G H _ (Same.refl _) I (.int _)⟩
      · cases e
  · cases e
/-- int(x), x an int, a bool, or a text -/
def gIntA : GB := fun m ds => (gInt m ds).or (gIntS m ds)
theorem se_intA {fs : En → Mem → Res (List U)} (b : Blt S sc "int") (h : SUs S N sc kk [e] fs) (hs : ∀ env : Env, starEach [e] env = (false, eval e env) :: starEach [] env := by intro _; rfl) : SE S N sc kk (.Call (.Name "int" p) [e] [] pos) (eBlt gIntA fs) :=
  se_typ (fun X g => CallR.or2 call_int1 call_int_str) (CSem.or cs_int cs_intS) b (by decide +kernel) h (by decide +kernel) (by decide +kernel) hs (by intro _; rfl)

/-! ### slices -/
def SO (S : Sg) (N : List Str) (sc : Scope) (kk : Kk) (e : Option Expr) (f : En → Mem → Res (Option Int)) : Prop :=
  ∃ t : WX → TO, (∀ X Wx, Good S N sc kk X → Takes X Wx → PO X e (t Wx)) ∧ Sem S f (fun _ _ _ _ _ _ a b => a = b) t
def pNo : En → Mem → Res (Option Int) := fun e m => .ok none e m
def pInt (f : En → Mem → Res W) : En → Mem → Res (Option Int) := fun e m => (use f e m).bind fun u e m => match u.get e with
  | some (.int i) => .ok (some i) e m
  | _ => .no
theorem so_none : SO S N sc kk none pNo := ⟨fun _ => tNoPart, fun X Wx _ _ => po_none, fun Wx Fr G rho env M σ H Q I p => p G rho H _ (Same.refl _) (List.prefix_refl _) I rfl⟩
theorem so_some (h : SE S N sc kk e f) : SO S N sc kk (some e) (pInt f) := by
  obtain ⟨t, h1, h2⟩ := h.use
  refine ⟨fun Wx => tPart (t Wx), fun X Wx g tk => po_some (h1 X Wx g tk), fun Wx Fr G rho env M σ H Q I p => ?_⟩
  refine h2 Wx Fr G rho env M σ H _ I (Post.step (VR := UR S) p fun u e m G1 rho1 H1 v _ g r I1 v1 q => ?_)
  split at q
  · next i hi =>
    cases UR.cur I1 v1 hi
    exact ⟨i, rfl, q G1 rho1 H1 _ (Same.refl _) (List.prefix_refl _) I1 rfl⟩
  · exact q.elim
def cutD (xs : List D) (lo hi : Option Int) : List D := (xs.drop (HT.sIx xs.length 0 lo)).take (HT.sIx xs.length xs.length hi - HT.sIx xs.length 0 lo)
def gSlice (d : D) (lo hi : Option Int) : Option W := match d with
  | .str z => if z.length ≤ sizeLine then some (.v (.str (cutS z lo hi))) else none
  | .lst xs => some (.o (.lst (cutD xs lo hi)))
  | _ => none
def eSlice (f : En → Mem → Res W) (l h : En → Mem → Res (Option Int)) : En → Mem → Res W := fun env M => (use f env M).bind fun u e m => (l e m).bind fun lo e m => (h e m).bind fun hi e m => match (u.get e).bind fun d => gSlice (deref m d) lo hi with
  | some w => .ok w e m
  | none => .no
theorem Reps.cut {rho : List Addr} {G : Hp} {xs : List D} {vs : List V} (t : Reps S rho G xs vs) (lo hi : Option Int) : Reps S rho G (cutD xs lo hi) (cutV vs lo hi) := by
  unfold cutD cutV
  rw [t.length]
  exact (t.drop _).take _
theorem cutD_len (xs : List D) (lo hi : Option Int) : (cutD xs lo hi).length ≤ xs.length := by
  unfold cutD
  rw [List.length_take, List.length_drop]
  omega
theorem se_slice {a : Expr} {lo hi : Option Expr} {l h : En → Mem → Res (Option Int)} {p2 : Pos} (ha : SE S N sc kk a f) (hl : SO S N sc kk lo l) (hh : SO S N sc kk hi h) : SE S N sc kk (.Subscript a (.Slice lo hi none p2) pos) (eSlice f l h) := by
  obtain ⟨t, h1, h2⟩ := ha.use
  obtain ⟨tl, l1, l2⟩ := hl
  obtain ⟨th, k1, k2⟩ := hh
  refine ⟨fun Wx => tSl (fun x lo hi H Q => rSlS x lo hi H Q ∨ rSlL S.K x lo hi H Q) (t Wx) (tl Wx) (th Wx), fun X Wx g tk => pe_slice (SlR.or sl_str (by have := @sl_list X; rw [g.K] at this; exact this)) (h1 X Wx g tk) (l1 X Wx g tk) (k1 X Wx g tk), fun Wx Fr G rho env M σ H Q I p => ?_⟩
  refine h2 Wx Fr G rho env M σ H _ I (Post.step (VR := UR S) p fun u e m G1 rho1 H1 v _ g r I1 v1 q => ?_)
  refine l2 Wx Fr G1 rho1 e m σ H1 _ I1 (Post.step (VR := fun _ _ _ _ _ _ a b => a = b) q fun lo e2 m2 G2 rho2 H2 lo' _ g2 r2 I2 v2 q2 => ?_)
  refine k2 Wx Fr G2 rho2 e2 m2 σ H2 _ I2 (Post.step (VR := fun _ _ _ _ _ _ a b => a = b) q2 fun hi e3 m3 G3 rho3 H3 hi' _ g3 r3 I3 v3 q3 => ?_)
  cases v2; cases v3
  have v1' : UR S Fr σ G3 e3 rho3 H3 u v := UR.later (G' := G) (G2 := G) v1 (g2.trans g3) (r2.trans r3)
  split at q3
  · next w hw =>
    obtain ⟨d, hd, hs⟩ := Option.bind_eq_some_iff.mp hw
    have cv := (UR.cur I3 v1' hd).deref I3.toMR
    unfold gSlice at hs
    split at hs
    · next z hz =>
      rw [hz] at cv
      cases cv
      split at hs
      · next hl => cases hs; exact .inl ⟨z, rfl, hl, here (VR := WR S) q3 I3 (.str _)⟩
      · cases hs
    · next xs hx =>
      rw [hx] at cv
      obtain ⟨a, vs, rfl, ha, z, t⟩ := cv
      cases hs
      exact .inr ⟨a, vs, rfl, SqL.of ha, new_list I3 (t.cut lo hi) (Nat.le_trans (cutD_len xs lo hi) z) fun G4 H4 b g4 I4 w4 => q3 G4 rho3 H4 b g4 (List.prefix_refl _) I4 w4⟩
    · cases hs
  · exact q3.elim
end
end Ow
namespace Ow
open PySem PySem.Spec L2

/-! ### what is never reached -/
section
variable {S : Sg} {N : List Str} {sc : Scope} {k : Nat} {kk : Kk} {e : Expr} {st : Stmt} {l : List Stmt}
def dead {α : Type} : En → Mem → Res α := fun _ _ => .no
theorem se_dead : SE S N sc kk e dead := ⟨fun _ _ _ _ => False, fun X Wx _ _ => ⟨fun _ _ _ _ _ _ h => h.elim⟩, fun Wx Fr G rho env M σ H Q I p => p⟩
theorem sb_dead : SB S N sc kk e dead := ⟨fun _ _ _ _ => False, fun X Wx _ _ => ⟨fun _ _ _ _ _ _ h => h.elim⟩, fun Wx Fr G rho env M σ H Q I p => p⟩
theorem ss_dead : SS S N sc kk st dead := ⟨fun _ _ _ _ => False, fun X Wx _ _ => ⟨fun _ _ _ _ _ _ h => h.elim⟩, fun Wx Fr G rho env M σ H D I p => p⟩
theorem sss_dead : SSs S N sc kk l dead := ⟨fun _ _ _ _ => False, fun X Wx _ _ => ⟨fun _ _ _ _ _ _ h => h.elim⟩, fun Wx Fr G rho env M σ H D I p => p⟩
end

/-! ### a new list gets a number in the memory -/
section
variable {S : Sg} {G Fr : Hp} {env : En} {M : Mem} {rho : List Addr} {σ : St} {H : Hp}
theorem R.number (I : R S G Fr env M rho σ H) {a : Addr} {mo : MO} (h : MOk S rho G H a mo) (f : Free G Fr env rho σ a) : R S G Fr env (M ++ [mo]) (rho ++ [a]) σ H where
  gs := I.gs
  fs := I.fs
  gf := I.gf
  ml := by rw [List.length_append, List.length_append, I.ml]; rfl
  nd := by
    rw [List.nodup_append]
    refine ⟨I.nd, List.nodup_cons.mpr ⟨by simp, List.nodup_nil⟩, fun x hx y hy => ?_⟩
    rw [List.mem_singleton] at hy
    subst hy
    exact fun z => f.r (z ▸ hx)
  out := fun b hb => by
    rcases List.mem_append.mp hb with hb | hb
    · exact I.out b hb
    · rw [List.mem_singleton] at hb
      subst hb
      exact ⟨f.g, f.f⟩
  mem := fun n b mo' h1 h2 => by
    have hp : rho <+: rho ++ [a] := List.prefix_append _ _
    by_cases hn : n < rho.length
    · rw [List.getElem?_append_left hn] at h1
      rw [List.getElem?_append_left (by rw [I.ml]; exact hn)] at h2
      exact (I.mem n b mo' h1 h2).mono (Same.refl _) hp rfl
    · rw [List.getElem?_append_right (by omega)] at h1
      rw [List.getElem?_append_right (by rw [I.ml]; omega), I.ml] at h2
      cases q : n - rho.length with
      | zero =>
        rw [q] at h1 h2
        cases h1
        cases h2
        exact h.mono (Same.refl _) hp rfl
      | succ j => rw [q] at h1; simp at h1
  len := I.len
  vals := fun i d e => by
    obtain ⟨v, h1, h2⟩ := I.vals i d e
    exact ⟨v, h1, h2.mono (Same.refl _) (List.prefix_append _ _)⟩
  owns := fun i d e => by
    obtain ⟨b, h1, h2, h3, h4, h5⟩ := I.owns i d e
    refine ⟨b, h1, h2.mono (Same.refl _) (List.prefix_append _ _) rfl, h3, h4, fun hm => ?_⟩
    rcases List.mem_append.mp hm with hm | hm
    · exact h5 hm
    · rw [List.mem_singleton] at hm
      subst hm
      exact f.s i d e h1
  dist := I.dist
end
/-- a new list as a thing of the memory -/
def eNew (f : En → Mem → Res W) : En → Mem → Res W := fun env M => (f env M).bind fun w e m => match w with
  | .o (.lst xs) => .ok (.v (.ref m.length)) e (m ++ [.lst xs])
  | _ => .no
section
variable {S : Sg} {N : List Str} {sc : Scope} {k : Nat} {kk : Kk} {e : Expr} {f : En → Mem → Res W}
theorem se_new (h : SE S N sc kk e f) : SE S N sc kk e (eNew f) := by
  obtain ⟨t, h1, h2⟩ := h
  refine ⟨t, h1, fun Wx Fr G rho env M σ H Q I p => ?_⟩
  refine h2 Wx Fr G rho env M σ H _ I (Post.step (VR := WR S) p fun w e m G1 rho1 H1 v _ g r I1 v1 q => ?_)
  split at q
  · next xs _ =>
    obtain ⟨a, ys, e1, rfl, o, f⟩ := v1
    cases e1
    refine q G1 (rho1 ++ [a]) H1 _ (Same.refl _) (List.prefix_append _ _) (I1.number (mo := .lst xs) o f) (.ref ?_)
    rw [I1.ml, List.getElem?_append_right (Nat.le_refl _), Nat.sub_self]
    rfl
  · exact q.elim
end

/-! ### several values at once, new lists among them -/
def hold (w : W) (e : En) (m : Mem) : Res W := match w with
  | .s i => (kept (.s i) e m).bind fun d e m => .ok (.v d) e m
  | .t _ xs => .ok (.v (.tup xs)) e m
  | w => .ok w e m
def FrA (w : W) (v : V) (a : Addr) : Prop := (∃ d, w = .o d) ∧ v = .ref a
def FrAs : List W → List V → Addr → Prop
  | w :: ws, v :: vs, a => FrA w v a ∨ FrAs ws vs a
  | _, _, _ => False
inductive WRs (S : Sg) (Fr : Hp) (σ : St) (G : Hp) (e : En) (rho : List Addr) (H : Hp) : List W → List V → Prop
  | nil : WRs S Fr σ G e rho H [] []
  | cons {u : W} {us : List W} {v : V} {vs : List V} : WR S Fr σ G e rho H u v → WRs S Fr σ G e rho H us vs → (∀ a, FrA u v a → ¬ FrAs us vs a) → WRs S Fr σ G e rho H (u :: us) (v :: vs)
def SWs (S : Sg) (N : List Str) (sc : Scope) (kk : Kk) (es : List Expr) (f : En → Mem → Res (List W)) : Prop :=
  ∃ t : WX → TA, (∀ X Wx, Good S N sc kk X → Takes X Wx → PA X es (t Wx)) ∧ Sem S f (WRs S) t
def wNil : En → Mem → Res (List W) := fun env M => .ok [] env M
def wCons (f : En → Mem → Res W) (fs : En → Mem → Res (List W)) : En → Mem → Res (List W) := fun env M => (f env M).bind fun w e m => (hold w e m).bind fun w e m => (fs e m).bind fun ws e m => .ok (w :: ws) e m
section
variable {S : Sg} {G Fr Fr' : Hp} {env : En} {M : Mem} {rho : List Addr} {σ : St} {H : Hp}
/-- a free place becomes others', for a while -/
theorem R.lend (I : R S G Fr env M rho σ H) {a : Addr} {o : HO} (f : Free G Fr env rho σ a) (h : H a = some o) : R S G (upd Fr a o) env M rho σ H where
  gs := I.gs
  fs := fun b u e => by
    by_cases hb : b = a
    · subst hb; rw [upd_same] at e; cases e; exact h
    · rw [upd_ne hb] at e; exact I.fs b u e
  gf := fun b u e => by
    by_cases hb : b = a
    · subst hb; exact f.g
    · rw [upd_ne hb] at e; exact I.gf b u e
  ml := I.ml
  nd := I.nd
  out := fun b hb => ⟨(I.out b hb).1, by rw [upd_ne (fun (z : b = a) => f.r (z ▸ hb))]; exact (I.out b hb).2⟩
  mem := I.mem
  len := I.len
  vals := I.vals
  owns := fun i d e => by
    obtain ⟨b, h1, h2, h3, h4, h5⟩ := I.owns i d e
    exact ⟨b, h1, h2, h3, by rw [upd_ne (fun (z : b = a) => f.s i d e (z ▸ h1))]; exact h4, h5⟩
  dist := I.dist
theorem R.less (I : R S G Fr' env M rho σ H) (h : Same Fr Fr') : R S G Fr env M rho σ H where
  gs := I.gs
  fs := fun b u e => I.fs b u (h b u e)
  gf := fun b u e => I.gf b u (h b u e)
  ml := I.ml
  nd := I.nd
  out := fun b hb => ⟨(I.out b hb).1, by
    cases q : Fr b with
    | none => rfl
    | some u => have := (I.out b hb).2; rw [h b u q] at this; cases this⟩
  mem := I.mem
  len := I.len
  vals := I.vals
  owns := fun i d e => by
    obtain ⟨b, h1, h2, h3, h4, h5⟩ := I.owns i d e
    have h6 : Fr b = none := by
      cases q : Fr b with
      | none => rfl
      | some u => rw [h b u q] at h4; cases h4
    exact ⟨b, h1, h2, h3, h6, h5⟩
  dist := I.dist
theorem none_less {h : Same Fr Fr'} {a : Addr} (q : Fr' a = none) : Fr a = none := by
  cases z : Fr a with
  | none => rfl
  | some u => rw [h a u z] at q; cases q
theorem WR.less {w : W} {v : V} (h : Same Fr Fr') (r : WR S Fr' σ G env rho H w v) : WR S Fr σ G env rho H w v := by
  have fr : ∀ {a}, Free G Fr' env rho σ a → Free G Fr env rho σ a := fun f => ⟨f.g, none_less (h := h) f.f, f.r, f.s⟩
  cases w with
  | v d => exact r
  | s i => exact r
  | o d => obtain ⟨a, xs, e1, e2, o, f⟩ := r; exact ⟨a, xs, e1, e2, o, fr f⟩
  | t j xs =>
    obtain ⟨a, vs, c, ys, e1, e2, e3, e4, e5, e6, e7, e8, fa, fc, ac⟩ := r
    exact ⟨a, vs, c, ys, e1, e2, e3, e4, e5, e6, e7, e8, fr fa, fr fc, ac⟩
theorem WRs.less (h : Same Fr Fr') : ∀ {ws : List W} {vs : List V}, WRs S Fr' σ G env rho H ws vs → WRs S Fr σ G env rho H ws vs
  | _, _, .nil => .nil
  | _, _, .cons r t d => .cons (WR.less h r) (WRs.less h t) d
/-- new lists stand at free places -/
theorem WRs.free : ∀ {ws : List W} {vs : List V} {a : Addr}, WRs S Fr σ G env rho H ws vs → FrAs ws vs a → Free G Fr env rho σ a
  | _, _, _, .nil, h => h.elim
  | _, _, a, .cons r t _, h => by
    rcases h with ⟨⟨d, e⟩, e2⟩ | h
    · subst e
      obtain ⟨b, xs, _, e1, _, f⟩ := r
      rw [e2] at e1
      cases e1
      exact f
    · exact t.free h
end
section
variable {S : Sg} {N : List Str} {sc : Scope} {k : Nat} {kk : Kk} {e : Expr} {es : List Expr} {f : En → Mem → Res W} {fs : En → Mem → Res (List W)}
theorem sws_nil : SWs S N sc kk [] wNil := ⟨fun _ => tNil, fun X Wx _ _ => pa_nil, fun Wx Fr G rho env M σ H Q I p => p G rho H [] (Same.refl _) (List.prefix_refl _) I .nil⟩
theorem sws_cons (h : SE S N sc kk e f) (hs : SWs S N sc kk es fs) (hst : ∀ env : Env, starEach (e :: es) env = (false, eval e env) :: starEach es env := by intro _; rfl) : SWs S N sc kk (e :: es) (wCons f fs) := by
  obtain ⟨t, h1, h2⟩ := h
  obtain ⟨ts, hs1, hs2⟩ := hs
  refine ⟨fun Wx => tCons (t Wx) (ts Wx), fun X Wx g tk => pa_cons (h1 X Wx g tk) (hs1 X Wx g tk) (hst _), fun Wx Fr G rho env M σ H Q I p => ?_⟩
  refine h2 Wx Fr G rho env M σ H _ I (Post.step (VR := WR S) p fun w e m G1 rho1 H1 b _ g r I1 v q => ?_)
  have easy : ∀ (d : D) (G2 : Hp) (e' : En), Same G1 G2 → R S G2 Fr e' m rho1 σ H1 → Rep S rho1 G2 d b → Post S Wx Fr σ G1 rho1 ((fs e' m).bind fun ws e m => Res.ok (W.v d :: ws) e m) (WRs S) Q → ts Wx σ H1 fun vs H2 => Q (b :: vs) H2 := by
    intro d G2 e' g2 I2 v2 q2
    refine hs2 Wx Fr G2 rho1 e' m σ H1 _ I2 (Post.step (VR := WRs S) (Post.later q2 g2 (List.prefix_refl _)) fun us e2 m2 G3 rho3 H3 bs _ g3 r3 I3 vs q3 => ?_)
    exact q3 G3 rho3 H3 (b :: bs) (Same.refl _) (List.prefix_refl _) I3 (.cons (Rep.mono g3 r3 v2) vs fun a z => by obtain ⟨⟨d, z⟩, _⟩ := z; cases z)
  cases w with
  | v d => exact easy d G1 e (Same.refl _) I1 v q
  | s i =>
    have q' : Post S Wx Fr σ G1 rho1 ((((kept (.s i) e m).bind fun d e m => Res.ok (W.v d) e m)).bind fun w e m => (fs e m).bind fun ws e m => Res.ok (w :: ws) e m) (WRs S) Q := q
    rcases kept_spec I1 v with z | ⟨d, e', G2, z, g2, I2, v2, _⟩
    · rw [z] at q'; exact q'.elim
    · rw [z] at q'
      exact easy d G2 e' g2 I2 v2 q'
  | t j xs =>
    obtain ⟨G2, g2, I2, v2⟩ := WR.use I1 v
    exact easy (.tup xs) G2 e g2 I2 v2 q
  | o d =>
    obtain ⟨a, xs, rfl, rfl, ⟨z, us, ha, tt⟩, fa⟩ := v
    have sm : Same Fr (upd Fr a (.lst us)) := fun c u e => by rw [upd_ne (ne_of_none e fa.f)]; exact e
    have I2 := I1.lend fa ha
    refine hs2 Wx (upd Fr a (.lst us)) G1 rho1 e m σ H1 _ I2 ?_
    have q' : Post S Wx Fr σ G1 rho1 ((fs e m).bind fun ws e m => Res.ok (W.o (.lst xs) :: ws) e m) (WRs S) Q := q
    cases hr : fs e m with
    | ok ws e2 m2 =>
      rw [hr] at q'
      intro G2 rho2 H2 bs g2 r2 I3 vs
      have hH : H2 a = some (.lst us) := I3.fs a _ upd_same
      have nG : G2 a = none := I3.gf a _ upd_same
      have nR : a ∉ rho2 := fun hm => by have := (I3.out a hm).2; rw [upd_same] at this; cases this
      have nS : ∀ (i : Nat) (d : D), e2[i]? = some (.own d) → σ[i]? ≠ some (some (.ref a)) := fun i d he hs => by
        obtain ⟨c, h1, _, _, h4, _⟩ := I3.owns i d he
        rw [hs] at h1
        cases h1
        rw [upd_same] at h4; cases h4
      refine q' G2 rho2 H2 (.ref a :: bs) g2 r2 (I3.less sm) (.cons ⟨a, xs, rfl, rfl, ⟨z, us, hH, tt.mono g2 r2⟩, nG, fa.f, nR, nS⟩ (vs.less sm) fun c hc hc2 => ?_)
      obtain ⟨_, e3⟩ := hc
      cases e3
      have := (vs.free hc2).f
      rw [upd_same] at this; cases this
    | exc c d e2 m2 =>
      rw [hr] at q'
      exact fun dd G2 rho2 H2 g2 r2 I3 th => q' dd G2 rho2 H2 g2 r2 (I3.less sm) th
    | no => rw [hr] at q'; exact q'.elim
end

/-! ### a, b = x, y with plain local names -/
def put1 (i : Nat) (w : W) (e : En) : Option En := if i < e.length then (match w with
  | .v d => some (e.set i (.val d))
  | .o d => some (e.set i (.own d))
  | _ => none) else none
def putAll : List Nat → List W → En → Option En
  | [], [], e => some e
  | i :: is, w :: ws, e => (put1 i w e).bind fun e => putAll is ws e
  | _, _, _ => none
def setAll : List Nat → List V → St → St
  | i :: is, v :: vs, σ => setAll is vs (σ.set i (some v))
  | _, _, σ => σ
section
variable {S : Sg} {G Fr : Hp} {env e' : En} {M : Mem} {rho : List Addr} {σ : St} {H : Hp}
theorem put1_ok (I : R S G Fr env M rho σ H) {i : Nat} {w : W} {v : V} (hw : WR S Fr σ G env rho H w v) (h : put1 i w env = some e') : R S G Fr e' M rho (σ.set i (some v)) H ∧
    ∀ {b : Addr}, Free G Fr env rho σ b → ¬ FrA w v b → Free G Fr e' rho (σ.set i (some v)) b := by
  unfold put1 at h
  split at h
  · next hi =>
    have hσ : i < σ.length := by rw [← I.len]; exact hi
    cases w with
    | v d =>
      cases h
      refine ⟨I.setVal hi hw, fun f _ => ⟨f.g, f.f, f.r, fun j d' he hs => ?_⟩⟩
      have nj : i ≠ j := fun z => by subst z; rw [List.getElem?_set_self hi] at he; cases he
      rw [List.getElem?_set_ne nj] at he hs
      exact f.s j d' he hs
    | o d =>
      cases h
      obtain ⟨a, xs, rfl, rfl, o, fa⟩ := hw
      refine ⟨I.setOwn hi o fa, fun {b} f hn => ⟨f.g, f.f, f.r, fun j d' he hs => ?_⟩⟩
      by_cases nj : i = j
      · subst nj
        rw [List.getElem?_set_self hσ] at hs
        exact hn ⟨⟨_, rfl⟩, Option.some.inj (Option.some.inj hs)⟩
      · rw [List.getElem?_set_ne nj] at he hs
        exact f.s j d' he hs
    | s j => cases h
    | t j xs => cases h
  · cases h
theorem WRs.put (env2 : En) (σ2 : St) (k : ∀ {b : Addr}, Free G Fr env rho σ b → Free G Fr env2 rho σ2 b) : ∀ {ws : List W} {vs : List V}, (∀ w ∈ ws, (∃ d, w = .v d) ∨ ∃ d, w = .o d) → WRs S Fr σ G env rho H ws vs → WRs S Fr σ2 G env2 rho H ws vs
  | _, _, _, .nil => .nil
  | w :: ws, v :: vs, hw, .cons r t d => by
    refine .cons ?_ (WRs.put env2 σ2 k (fun w hm => hw w (List.mem_cons_of_mem _ hm)) t) d
    rcases hw w List.mem_cons_self with ⟨d, rfl⟩ | ⟨d, rfl⟩
    · exact r
    · obtain ⟨a, xs, e1, e2, o, f⟩ := r
      exact ⟨a, xs, e1, e2, o, k f⟩
theorem WRs.put' {env2 : En} {σ2 : St} {w : W} {v : V} (k : ∀ {b : Addr}, Free G Fr env rho σ b → ¬ FrA w v b → Free G Fr env2 rho σ2 b) : ∀ {ws : List W} {vs : List V}, (∀ w ∈ ws, (∃ d, w = .v d) ∨ ∃ d, w = .o d) → (∀ a, FrA w v a → ¬ FrAs ws vs a) → WRs S Fr σ G env rho H ws vs → WRs S Fr σ2 G env2 rho H ws vs
  | _, _, _, _, .nil => .nil
  | w' :: ws, v' :: vs, hw, hd, .cons r t d => by
    refine .cons ?_ (WRs.put' k (fun w hm => hw w (List.mem_cons_of_mem _ hm)) (fun a ha h => hd a ha (.inr h)) t) d
    rcases hw w' List.mem_cons_self with ⟨d, rfl⟩ | ⟨d, rfl⟩
    · exact r
    · obtain ⟨a, xs, e1, e2, o, f⟩ := r
      exact ⟨a, xs, e1, e2, o, k f fun z => hd a z (.inl ⟨⟨_, rfl⟩, e2⟩)⟩
theorem put1_form {i : Nat} {w : W} (h : put1 i w env = some e') : (∃ d, w = .v d) ∨ ∃ d, w = .o d := by
  unfold put1 at h
  split at h
  · cases w with
    | v d => exact .inl ⟨d, rfl⟩
    | o d => exact .inr ⟨d, rfl⟩
    | s j => cases h
    | t j xs => cases h
  · cases h
theorem putAll_form : ∀ {is : List Nat} {ws : List W} {env : En}, putAll is ws env = some e' → ∀ w ∈ ws, (∃ d, w = .v d) ∨ ∃ d, w = .o d
  | [], [], _, _, w, hm => by cases hm
  | i :: is, w :: ws, env, h, w', hm => by
    obtain ⟨e1, h1, h2⟩ := Option.bind_eq_some_iff.mp (show (put1 i w env).bind (fun e => putAll is ws e) = some e' from h)
    rcases List.mem_cons.mp hm with z | z
    · subst z; exact put1_form h1
    · exact putAll_form h2 w' z
theorem putAll_ok : ∀ {is : List Nat} {ws : List W} {vs : List V} {env : En} {σ : St}, R S G Fr env M rho σ H → WRs S Fr σ G env rho H ws vs → putAll is ws env = some e' → R S G Fr e' M rho (setAll is vs σ) H ∧ vs.length = is.length
  | [], [], _, env, σ, I, h, q => by
    cases h
    cases q
    exact ⟨I, rfl⟩
  | i :: is, w :: ws, _, env, σ, I, h, q => by
    cases h with
    | @cons _ _ v vs r t d =>
      obtain ⟨e1, h1, h2⟩ := Option.bind_eq_some_iff.mp (show (put1 i w env).bind (fun e => putAll is ws e) = some e' from q)
      obtain ⟨I1, k⟩ := put1_ok I r h1
      obtain ⟨I2, l⟩ := putAll_ok I1 (WRs.put' k (putAll_form h2) d t) h2
      exact ⟨I2, congrArg (· + 1) l⟩
end
def sPar (is : List Nat) (fs : En → Mem → Res (List W)) : En → Mem → Res Fl := fun env M => (fs env M).bind fun ws e m => match putAll is ws e with
  | some e => .ok .nx e m
  | none => .no
theorem ps_par3 {X : Cx} {i j l : Nat} {x y z : Str} {a b c : Expr} {ta : TA} {px py pz pt pos : Pos} {kt k2 pt2} (hc : X.calm = true) (hN : X.N.Nodup) (hi : X.N[i]? = some x) (hj : X.N[j]? = some y) (hl : X.N[l]? = some z) (hij : i ≠ j) (hil : i ≠ l) (hjl : j ≠ l)
    (hx : X.env.scope.names.lookup x = some .local) (hy : X.env.scope.names.lookup y = some .local) (hz : X.env.scope.names.lookup z = some .local) (ha : PA X [a, b, c] ta)
    (hw : swappedStores [.Tuple [.Name x px, .Name y py, .Name z pz] kt pt] (.Tuple [a, b, c] k2 pt2) X.env = pure (some [x, y, z]))
    (hs : swapsWithSole [.Tuple [.Name x px, .Name y py, .Name z pz] kt pt] (.Tuple [a, b, c] k2 pt2) pos.line X.env = pure false) :
    PS X (.Assign [.Tuple [.Name x px, .Name y py, .Name z pz] kt pt] (.Tuple [a, b, c] k2 pt2) pos) (fun D σ H => ta σ H fun vs H1 => ∃ v w u, vs = [v, w, u] ∧ D.nx (((σ.set i (some v)).set j (some w)).set l (some u)) H1) := by
  refine ⟨fun pins s σ H D I h => ?_⟩
  rw [exec_Assign_arm]
  refine wpAny_bind (wpAny_standAt ?_)
  rw [hs]
  refine wpAny_bind (wpAny_pure ?_)
  rw [if_neg (by decide)]
  refine wpAny_bind (PyProof.Rows.Tuple_ (thn (ha.run _ pins s σ H _ I h) fun us s1 ⟨vs, H1, I1, r1, q1⟩ => ?_))
  obtain ⟨v, w, u, e1, q1⟩ := q1
  subst e1
  obtain ⟨u1, u2, u3, rfl, rv, rw', ru⟩ : ∃ u1 u2 u3, us = [u1, u2, u3] ∧ RelV v u1 ∧ RelV w u2 ∧ RelV u u3 := by
    cases r1 with
    | cons p q =>
      cases q with
      | cons p' q' =>
        cases q' with
        | cons p2 q2 =>
          cases q2
          exact ⟨_, _, _, rfl, p, p', p2⟩
  refine wpAny_newObj_type ?_ (by show 3 ≤ sizeLine; decide)
  have I2 : Inv X pins σ H1 { s1 with heap := s1.heap.push { cls := .type "tuple", data := .seq [u1, u2, u3].toArray } } := I1.kept (t' := s1.toks) fun b o e => Heap.get?_push_of_some _ e
  rw [hw]
  refine wpAny_bind (wpAny_pure ?_)
  show wpAny (model X.prog X.w) X.A (do rule "assign.swapped-stores"; let items ← unpackItems (.ref s1.heap.objs.size) 3 none; assignInOrder [fun v => bindName X.env z v, fun v => bindName X.env y v, fun v => bindName X.env x v] items.reverse; pure Flow.next) _ _ _
  refine wpAny_bind (wpAny_rule (wpAny_bind (PyProof.Rows.unpackItems_tuple (items := #[u1, u2, u3]) (I.ok.hd hc) (PyProof.Rows.IsTup.new s1.heap _) fun h' hx' => ?_)))
  have I3 := I2.kept (h' := h') (t' := s1.toks) fun b o e => hx' b o (Nat.ne_of_lt (Heap.lt_size e)) e
  show wpAny _ _ (assignInOrder [fun v => bindName X.env z v, fun v => bindName X.env y v, fun v => bindName X.env x v] [u3, u2, u1] >>= fun _ => pure Flow.next) _ _ _
  refine wpAny_bind (PyProof.Rows.assignInOrder_cons (wpAny_bindName (store_ok I3 hN hl (.inl hz) ru (fun s2 I4 => ?_) (.inr hz))))
  refine PyProof.Rows.assignInOrder_cons (wpAny_bindName (store_ok I4 hN hj (.inl hy) rw' (fun s3 I5 => ?_) (.inr hy)))
  refine PyProof.Rows.assignInOrder_cons (wpAny_bindName (store_ok I5 hN hi (.inl hx) rv (fun s4 I6 => PyProof.Rows.assignInOrder_nil (wpAny_pure ?_)) (.inr hx)))
  rw [List.set_comm _ _ (Ne.symm hjl)] at I6
  rw [List.set_comm _ _ (Ne.symm hil)] at I6
  rw [List.set_comm _ _ (Ne.symm hij)] at I6
  exact ⟨_, H1, I6, q1⟩
section
variable {S : Sg} {N : List Str} {sc : Scope} {k : Nat} {e : Expr} {f : En → Mem → Res W} {fs : En → Mem → Res (List W)} {pos : Pos}
def locs (sc : Scope) (l : List Str) : Bool := l.all fun x => sc.names.lookup x == some .local
theorem loc_at {l : List Str} {x : Str} (h : locs sc l = true) (hm : x ∈ l) : sc.names.lookup x = some .local := by
  have := List.all_eq_true.mp h x hm
  exact eq_of_beq this
theorem ss_par2 {i j : Nat} {x y : Str} {a b : Expr} {px py pt : Pos} {kt k2 pt2} (hi : N[i]? = some x) (hj : N[j]? = some y) (hij : i ≠ j) (hl : locs sc [x, y] = true) (h : SWs S N sc (.sm k) [a, b] fs)
    (hw : ∀ env : Env, env.scope = sc → swappedStores [.Tuple [.Name x px, .Name y py] kt pt] (.Tuple [a, b] k2 pt2) env = pure (some [x, y])) (hs : ∀ env : Env, swapsWithSole [.Tuple [.Name x px, .Name y py] kt pt] (.Tuple [a, b] k2 pt2) pos.line env = pure false := by intro _; rfl) :
    SS S N sc (.sm k) (.Assign [.Tuple [.Name x px, .Name y py] kt pt] (.Tuple [a, b] k2 pt2) pos) (sPar [i, j] fs) := by
  obtain ⟨t, h1, h2⟩ := h
  refine ⟨fun Wx => tPar i j (t Wx), fun X Wx gd tk => ps_par (gd.room k rfl).2 (by rw [gd.nN]; exact gd.nd) (by rw [gd.nN]; exact hi) (by rw [gd.nN]; exact hj) hij (by rw [gd.sco]; exact loc_at hl (by simp)) (by rw [gd.sco]; exact loc_at hl (by simp)) (h1 X Wx gd.toGood tk) (hw _ gd.sco) (hs _), fun Wx Fr G rho env M σ H D I p => ?_⟩
  refine h2 Wx Fr G rho env M σ H _ I (PostS.step (VR := WRs S) p fun ws e m G1 rho1 H1 vs _ g r I1 v1 q => ?_)
  split at q
  · next e' he =>
    obtain ⟨I2, l⟩ := putAll_ok I1 v1 he
    match vs, l with
    | [v, w], _ => exact ⟨v, w, rfl, PostS.nx q I2⟩
  · exact q.elim
theorem ss_par3 {i j l : Nat} {x y z : Str} {a b c : Expr} {px py pz pt : Pos} {kt k2 pt2} (hi : N[i]? = some x) (hj : N[j]? = some y) (hk : N[l]? = some z) (hij : i ≠ j) (hil : i ≠ l) (hjl : j ≠ l) (hl : locs sc [x, y, z] = true) (h : SWs S N sc (.sm k) [a, b, c] fs)
    (hw : ∀ env : Env, env.scope = sc → swappedStores [.Tuple [.Name x px, .Name y py, .Name z pz] kt pt] (.Tuple [a, b, c] k2 pt2) env = pure (some [x, y, z])) (hs : ∀ env : Env, swapsWithSole [.Tuple [.Name x px, .Name y py, .Name z pz] kt pt] (.Tuple [a, b, c] k2 pt2) pos.line env = pure false := by intro _; rfl) :
    SS S N sc (.sm k) (.Assign [.Tuple [.Name x px, .Name y py, .Name z pz] kt pt] (.Tuple [a, b, c] k2 pt2) pos) (sPar [i, j, l] fs) := by
  obtain ⟨t, h1, h2⟩ := h
  refine ⟨_, fun X Wx gd tk => ps_par3 (gd.room k rfl).2 (by rw [gd.nN]; exact gd.nd) (by rw [gd.nN]; exact hi) (by rw [gd.nN]; exact hj) (by rw [gd.nN]; exact hk) hij hil hjl (by rw [gd.sco]; exact loc_at hl (by simp)) (by rw [gd.sco]; exact loc_at hl (by simp)) (by rw [gd.sco]; exact loc_at hl (by simp)) (h1 X Wx gd.toGood tk) (hw _ gd.sco) (hs _), fun Wx Fr G rho env M σ H D I p => ?_⟩
  refine h2 Wx Fr G rho env M σ H _ I (PostS.step (VR := WRs S) p fun ws e m G1 rho1 H1 vs _ g r I1 v1 q => ?_)
  split at q
  · next e' he =>
    obtain ⟨I2, l⟩ := putAll_ok I1 v1 he
    match vs, l with
    | [v, w, u], _ => exact ⟨v, w, u, rfl, PostS.nx q I2⟩
  · exact q.elim
end
end Ow
/-! isinstance of a caught error that has its dict: after HandS.ExcIs, for any dict -/
namespace PySem.W
open PySem PySem.Spec PySem.Calls PyProof.Rows
section
variable {prog : Program} {w : World} {A : Around} {E : Value → Shared → Prop} {s : Shared} {K : Frag} {x D : Addr} {ox : Obj}
theorem ow_find {C : Addr} {od : Option Obj} {name : Str} {a g : Value} (hc : (clsIn K C).isSome = true) (ha : findIn K (.ref C) name = some (some a)) (hg : specialIn K a "__get__" = some (some g)) (ht : takesIn K a = some true) : findObj K C od name = some (.bind g a) := by
  obtain ⟨cd, hc⟩ := Option.isSome_iff_exists.mp hc
  unfold findObj
  rw [hc, Option.bind_some, ha, Option.bind_some]
  simp [hg, ht]
theorem ow_class {Q : Option Value → Shared → Prop} (hga : findIn K (.ref D) "__getattribute__" = some (some (.builtin "BaseException.__getattribute__"))) (hgt : findIn K (.ref D) "__getattr__" = some none) (hsub : subIn K (.ref D) (.type "BaseException") = some true)
    (hdct : hasDictIn K D = true) (ha : findIn K (.ref D) "__class__" = some (some (.builtin "object.__class__")))
    (hn : specialIn K (.builtin "object.__class__") "__get__" = some (some (.builtin "getset_descriptor.__get__"))) (htk : takesIn K (.builtin "object.__class__") = some true) (hm : mroIn K D (.type "object") = some true)
    (X : K.In s.heap) {od : Option Obj} (I : InstAt s.heap x ox D od) (h : Q (some (.ref D)) { s with toks := s.toks + 1 }) : wpAny (model prog w) A (getAttr? (.ref x) "__class__") Q E s := by
  have hf : findObj K D od "__class__" = some (.bind (.builtin "getset_descriptor.__get__") (.builtin "object.__class__")) := ow_find (by obtain ⟨cd, hc, _⟩ := any_some hdct; rw [hc]; rfl) ha hn htk
  obtain ⟨hp, g, d, t, os⟩ := s
  have L0 := I.type (M := model prog w)
  have L1 := looks_findIn (M := model prog w) X hga
  have L2 := looks_findIn (M := model prog w) X hgt
  have L3 := looks_find (M := model prog w) X I hf
  have sub : Looks (model prog w) hp (isInstance (.ref x) (.type "BaseException")) true := L0.andThen (looks_subIn X hsub)
  have hx0 : (false && onTheHeap (Value.builtin "BaseException.__getattribute__")) = false := rfl
  have hx2 : (Value.builtin "BaseException.__getattribute__" == Value.builtin "object.__getattribute__") = false := by decide +kernel
  have hx1 : (onTheHeap (Value.ref D) && Value.builtin "BaseException.__getattribute__" == Value.builtin "object.__getattribute__") = false := by rw [hx2]; rfl
  unfold getAttr? getAttrBy? getAttrBy
  refine wpAny_bind (wpAny_mkText (wpAny_bind (wpAny_attempt (wpAny_holding (wpAny_bind (L0.at (wpAny_bind (L1.at ?_))))))))
  show wpAny _ _ (if (onTheHeap (Value.ref D) && Value.builtin "BaseException.__getattribute__" == Value.builtin "object.__getattribute__") = true then _ else _) _ _ _
  rw [hx1, if_neg Bool.false_ne_true]
  unfold getAttrByItsOwn hookBefore
  refine wpAny_bind ?_
  rw [if_pos (show onTheHeap (Value.ref D) = true from rfl)]
  refine L2.at ?_
  refine wpAny_bind (wpAny_attempt (wpAny_holding ?_))
  unfold callGetattribute
  rw [hx0, if_neg Bool.false_ne_true]
  unfold boundAndCalled
  rw [PySem.F.excAttr_ValueError.ga.bind (.ref x)]
  refine wpAny_bind (wpAny_pure ?_)
  show wpAny _ _ (call (.builtin "BaseException.__getattribute__") [.ref x, .str "__class__" t]) _ _ _
  refine wpAny_call (codeAny_call_builtin PySem.F.excAttr_ValueError.ga.plain PySem.F.entry_bexc_ga ?_)
  refine @check_slot (model prog w) _ _ ⟨hp, g, d, t + 1, os⟩ "BaseException.__getattribute__" "BaseException" "__getattribute__" (.ref x) [.str "__class__" t] [] _ (by decide +kernel) (by decide +kernel) sub (PySem.F.args_bexc_ga (.ref x) (.str "__class__" t)) ?_
  unfold Builtin.«object.__getattribute__»
  refine wpAny_bind (wpAny_of_eq (a := ((Value.ref x : Value), [Value.str "__class__" t])) (by first | rfl | (simp only [slotArgs]; rfl)) ?_)
  refine wpAny_bind (wpAny_pure (wpAny_bind (L0.at (wpAny_bind (L3.at ?_)))))
  show wpAny _ _ (holding [Value.builtin "object.__class__"] (call (.builtin "getset_descriptor.__get__") [.builtin "object.__class__", .ref x, .ref D]) >>= ret) _ _ _
  refine wpAny_bind (wpAny_holding (wpAny_call (class_get (s := ⟨hp, g, d, t + 1, os⟩) (ox := ox) (od := od) X I hm ?_)))
  refine wpAny_pure ?_
  show wpAny _ _ (handedOut (.ref D)) _ _ _
  rw [handedOut_of (v := .ref D) rfl]
  first
    | exact wpAny_pure (wpAny_pure h)
    | exact wpAny_pure h
    | exact wpAny_pure (wpAny_bind (wpAny_pure (wpAny_pure h)))
theorem ow_kitx (hga : findIn K (.ref D) "__getattribute__" = some (some (.builtin "BaseException.__getattribute__"))) (hgt : findIn K (.ref D) "__getattr__" = some none) (hsub : subIn K (.ref D) (.type "BaseException") = some true) (hdct : hasDictIn K D = true) (ha : findIn K (.ref D) "__class__" = some (some (.builtin "object.__class__")))
    (hn : specialIn K (.builtin "object.__class__") "__get__" = some (some (.builtin "getset_descriptor.__get__"))) (htk : takesIn K (.builtin "object.__class__") = some true) (hm : mroIn K D (.type "object") = some true) :
    KitX K (.ref x) (.ref D) (fun h => ∃ od, InstAt h x ox D od) where
  ty := fun _ _ _ ⟨_, I⟩ => I.type
  it := fun _ _ X _ => by
    obtain ⟨cdD, hcD, _⟩ := any_some hdct
    unfold clsIn at hcD
    split at hcD
    · rename_i c' d' cd' sl' ho
      intro A' Q' E' s' k q
      unfold isType loadHead
      exact wpAny_bind (wpAny_loadPart (k _ _ (X _ _ ho)) (wpAny_pure q))
    · cases hcD
  ne := fun h tp dd its n sl X htp => by
    obtain ⟨cdD, hcD, _⟩ := any_some hdct
    refine Bool.eq_false_iff.mpr fun q => ?_
    have e : D = tp := Value.ref.inj (beq_iff_eq.mp q)
    subst e
    unfold clsIn at hcD
    split at hcD
    · rename_i c' d' cd' sl' ho
      have z := (X _ _ ho).symm.trans htp
      cases z
    · cases hcD
  ca := fun X ⟨_, I⟩ k => ow_class hga hgt hsub hdct ha hn htk hm X I k
end
end PySem.W
namespace Ow
open PySem PySem.Spec L2

/-! ### self.value = value -/
def spVal (K : PySem.W.Frag) : Sp := fun vs H Q E => ∃ (a C : Addr) (y : V), vs = [.ref a, y] ∧ OexC K C ∧ PySem.W.findIn K (.ref C) "value" = some none ∧ H a = some (exo a C none) ∧
  ∀ dx, H dx = none → dx ≠ a → Q .non (upd (upd H dx (exd dx [("value", y)])) a (exo a C (some dx)))
theorem val_ok {S : Sg} {f : Addr} {fd : FuncData} {qual : Str} {params : Arguments} {scope : Scope} {k : Nat} {p1 p2 p3 p4 : Pos} (F : FunD S.K "__init__" qual params [.Assign [.Attribute (.Name "self" p1) "value" p2] (.Name "value" p3) p4] scope [] [] f fd) (Sc : FnScope ["self", "value"] ["self", "value"] scope) :
    FnOk S.P S.w S.K S.mg S.base (L2.CX S.P S.w) (k + 1) f fd ["self", "value"] (spVal S.K) := by
  refine F.ok Sc (fun vs H Q E ⟨a, C, y, e, _⟩ => by rw [e]; rfl) fun cdv A outer s H vs Q E hr q => ?_
  have hs := Sc.par "self" (by simp)
  have hv := Sc.par "value" (by simp)
  refine ⟨_, pss_one (ps_ost (pe_var (i := 0) rfl (by rcases hs with h | h; exact .inl h; exact .inr (.inl h)) (by decide +kernel) (by decide +kernel)) (pe_var (i := 1) rfl (by rcases hv with h | h; exact .inl h; exact .inr (.inl h)) (by decide +kernel) (by decide +kernel)) (by rfl)), ?_⟩
  obtain ⟨a, C, y, rfl, T, hno, ha, q⟩ := q
  exact ⟨y, rfl, .ref a, rfl, a, C, rfl, T, hno, .inl ⟨ha, fun dx n ne => q dx n ne⟩⟩

/-- an own exception class whose making stores its value -/
structure XOk (S : Sg) (x : Str) (c k : Nat) : Prop where
  T : OexC S.K (S.cl c)
  mg : S.mg x = some (.ref (S.cl c))
  no : PySem.W.findIn S.K (.ref (S.cl c)) "value" = some none
  ini : ∃ (fI : Addr) (fd : FuncData), PySem.W.findIn S.K (.ref (S.cl c)) "__init__" = some (some (.ref fI)) ∧ PySem.W.typeIn S.K (.ref fI) = some (.type "function") ∧
    FnOk S.P S.w S.K S.mg S.base (L2.CX S.P S.w) k fI fd ["self", "value"] (spVal S.K) ∧ Binds S.K fd ["self", "value"] []
def sRaise (c : Nat) (f : En → Mem → Res W) : En → Mem → Res Fl := fun env M => (esc f env M).bind fun d e m => .exc c d e m
section
variable {S : Sg} {N : List Str} {sc : Scope} {k j : Nat} {kk : Kk} {e : Expr} {f f2 : En → Mem → Res W} {x : Str} {c : Nat} {p pos pos' : Pos}
theorem no_pass {X : Cx} {P : Program} {w : World} : Passes (L2.CX P w) X (fun _ _ _ => False) := fun _ _ _ _ _ _ _ z => by
  obtain ⟨_, _, _, _, _, _, _, _, _, _, _, _, z⟩ := z
  exact z.elim
theorem ss_raise (T : XOk S x c j) (hj : j + 1 ≤ k) (hg : sc.names.lookup x = some .globalImplicit) (h : SE S N sc (.sm k) e f) (hdb : (x == ("__debug__" : Str)) = false := by decide +kernel) (he : ∀ env : Env, starEach [e] env = (false, eval e env) :: starEach [] env := by intro _; rfl) :
    SS S N sc (.sm k) (.Raise (some (.Call (.Name x p) [e] [] pos)) none pos') (sRaise c f) := by
  obtain ⟨t, h1, h2⟩ := h.esc
  obtain ⟨fI, fd, i1, i2, i3, i4⟩ := T.ini
  refine ⟨fun Wx => fun _ σ H => tMkO (S.cl c) (spVal S.K) [] (tCons (t Wx) tNil) σ H fun cls d H' => Wx cls d σ H', fun X Wx g tk => ?_, fun Wx Fr G rho env M σ H D I q => ?_⟩
  · have F' : FnOk X.prog X.w X.K X.mg X.base (L2.CX S.P S.w) j fI fd ["self", "value"] (spVal S.K) := by rw [g.p, g.w, g.K, g.mg, g.base]; exact i3
    refine ps_raise (g.room k rfl).2 tk ?_
    exact pmk_oex (by rw [g.K]; exact T.T) (by rw [g.K]; exact i1) (by rw [g.K]; exact i2) F' ((g.room k rfl).1.mono hj) (by rw [g.K]; exact i4) .nil no_pass (by rw [Gl, Env.kindOf, g.sco]; exact hg) (by rw [g.mg]; exact T.mg) (pa_cons (h1 X Wx g.toGood tk) pa_nil (he _)) hdb (he _) (by rfl)
  · refine h2 Wx Fr G rho env M σ H _ I (PostS.step (VR := DR S) q fun d e m G1 rho1 H1 v _ g1 r1 I1 v1 q1 => ?_)
    refine ⟨by show 1 ≤ 1000; decide, fun a ha => ⟨a, S.cl c, v, rfl, T.T, T.no, upd_same, fun dx n ne => ⟨rfl, dx, [("value", v)], upd_same, by rw [upd_ne ne, upd_same], ?_, ?_⟩⟩⟩
    · rw [upd_ne ne] at n; exact n
    · have hdx : H1 dx = none := by rw [upd_ne ne] at n; exact n
      have eH : upd (del (upd (upd (upd H1 a (exo a (S.cl c) none)) dx (exd dx [("value", v)])) a (exo a (S.cl c) (some dx))) a) dx (.xd [("value", v)]) = upd H1 dx (.xd [("value", v)]) := by
        funext b
        by_cases hb : b = dx
        · subst hb; rw [upd_same, upd_same]
        · rw [upd_ne hb, upd_ne hb]
          by_cases hba : b = a
          · subst hba; rw [del_same, ha]
          · rw [del_ne hba, upd_ne hba, upd_ne hb, upd_ne hba]
      rw [eH]
      have fr := free_new I1 hdx
      have I2 := (I1.alloc (o := .xd [("value", v)]) hdx).keep (free_new I1 hdx) upd_same
      exact q1 σ dx _ rho1 _ (same_upd fr.g) (List.prefix_refl _) I2 ⟨v, upd_same, Rep.mono (same_upd fr.g) (List.prefix_refl _) v1⟩
end

/-! ### a caught exception -/
/-- what a class must say so that its caught instances can be asked -/
structure XAsk (S : Sg) (c : Nat) : Prop where
  f : XfC S.K (S.cl c)
  no : PySem.W.findIn S.K (.ref (S.cl c)) "value" = some none
  i : ExcC S.K (S.cl c)
def eVal (a : Addr) (c : Nat) (dd : Addr) (f : En → Mem → Res W) : En → Mem → Res W := fun env M => (use f env M).bind fun u e m => match u with
  | .v (.exc a' c' dd' d) => if a' = a ∧ c' = c ∧ dd' = dd then .ok (.v d) e m else .no
  | _ => .no
section
variable {S : Sg} {N : List Str} {sc : Scope} {k j : Nat} {kk : Kk} {e : Expr} {f f2 : En → Mem → Res W} {x : Str} {c : Nat} {a dd : Addr} {p pos pos' : Pos}
theorem se_value (T : XAsk S c) (h : SE S N sc (.ex a c dd) e f) (hb : ∀ env : Env, attributeBase e "value" env (eval e env) = eval e env := by intro _; rfl) : SE S N sc (.ex a c dd) (.Attribute e "value" pos) (eVal a c dd f) := by
  obtain ⟨t, h1, h2⟩ := h.use
  refine ⟨fun Wx => tXf a (.ref (S.cl c)) (some dd) (S.cl c) "value" (t Wx), fun X Wx g tk => ?_, fun Wx Fr G rho env M σ H Q I p => ?_⟩
  · obtain ⟨X0, oe, pn, rfl, hz, hf⟩ := g.exn a c dd rfl
    have hK : X0.K = S.K := g.K
    exact pe_xf (by rw [hK]; exact T.f) (by rw [hK]; exact T.no) hz hf (h1 _ Wx g tk) (hb _)
  · refine h2 Wx Fr G rho env M σ H _ I (Post.step (VR := UR S) p fun u e m G1 rho1 H1 v _ g r I1 v1 q => ?_)
    split at q
    · next a' c' dd' d _ =>
      split at q
      · next h =>
        obtain ⟨rfl, rfl, rfl⟩ := h
        cases (v1 : Rep S rho1 G1 (.exc a' c' dd' d) v) with
        | @exc _ _ _ _ u hd hr => exact ⟨rfl, rfl, dd', _, u, rfl, I1.gs _ _ hd, rfl, here (VR := WR S) q I1 hr⟩
      · exact q.elim
    · exact q.elim
end

/-! ### isinstance of the caught exception -/
def rEx (K : PySem.W.Frag) (D a dd : Addr) : List V → Hp → VK → Prop := fun xs H Q => ∃ (c : V) (b : Bool), xs = [.ref a, c] ∧ (∃ fs, H dd = some (.xd fs)) ∧ Q (.bl b) H ∧
  ((∃ cv, (∀ u, RelV c u → u = cv) ∧ PySem.W.kitOne K (.ref D) cv = some b) ∨ ∃ (tp : Addr) (cs : List V) (us : List Value), c = .ref tp ∧ H tp = some (.tup cs) ∧ Paired ClsV cs us ∧ PySem.W.kitAny K (.ref D) us = some b)
theorem call_ex {X : Cx} {a D dd : Addr} {oe : Obj} {pn : List (Addr × Obj)} (C : ExcC X.K D) (hz : Zc (.ref D) (some dd) oe) (hf : ∃ vs, oe.data = .fields vs) : CallR (X.suite a ((a, oe) :: pn)) (.builtin "isinstance") (rEx X.K D a dd) := by
  intro pins s σ H xs us Q I r h
  obtain ⟨c, b, rfl, ⟨fs, hd⟩, q, e⟩ := h
  cases r with
  | cons rx rr =>
    cases rr with
    | @cons _ ut _ _ rt rr =>
      cases rr
      cases rx
      obtain ⟨hget, _⟩ := I.pin (a, oe) (List.mem_append.mpr (.inl List.mem_cons_self))
      obtain ⟨vs, hv⟩ := hf
      have hx : ObjOk X.prog X.w H s.heap dd (.xd fs) := I.hok dd _ hd
      obtain ⟨mA, hns, hr⟩ := hx
      obtain ⟨od, ho, hl⟩ := lookIn_ns hns
      have J : ∃ od, PySem.W.InstAt s.heap a oe D od := ⟨some od, hget, hz.1, by unfold PySem.W.notCls; rw [hv] <;> rfl, by rw [hz.2]; exact ho⟩
      have KX := PySem.W.ow_kitx (x := a) (ox := oe) C.hg C.hk C.hs C.hd C.ha C.hn C.ht C.hm
      rcases e with ⟨cv, hcv, e⟩ | ⟨tp, cs, ws, rfl, hT, k, e⟩
      · have ec := hcv _ rt
        subst ec
        exact PySem.W.kia_one KX I.kIn J e (fun z => nomatch z) fun tk => ⟨.bl b, H, I.kept (t' := tk) fun _ _ z => z, rfl, q⟩
      · cases (show ut = Value.ref tp from rt)
        obtain ⟨_, its, rv, o, h1, h2, n, h3⟩ := (show ObjOk X.prog X.w H s.heap tp (.tup cs) from I.hok tp _ hT)
        have e3 := ClsV.all k rv
        subst e3
        obtain ⟨oc, od, dt, sl⟩ := o
        simp only at h2 h3
        subst h2 h3
        exact PySem.W.kia_tup KX I.kIn J h1 e (fun z => nomatch z) fun tk => ⟨.bl b, H, I.kept (t' := tk) fun _ _ z => z, rfl, q⟩
/-- names of the program's classes -/
inductive CN (S : Sg) (sc : Scope) : List Expr → List Nat → Prop
  | nil : CN S sc [] []
  | cons {x : Str} {c : Nat} {pos : Pos} {es : List Expr} {cs : List Nat} (hg : sc.names.lookup x = some .globalImplicit) (hm : S.mg x = some (.ref (S.cl c))) (hd : (x == ("__debug__" : Str)) = false) (r : CN S sc es cs) : CN S sc (.Name x pos :: es) (c :: cs)
def eIs (a : Addr) (c : Nat) (dd : Addr) (b : Bool) (f : En → Mem → Res W) : En → Mem → Res W := fun env M => (use f env M).bind fun u e m => match u with
  | .v (.exc a' c' dd' d) => if a' = a ∧ c' = c ∧ dd' = dd then .ok (.v (.bl b)) e m else .no
  | _ => .no
section
variable {S : Sg} {N : List Str} {sc : Scope} {kk : Kk} {e : Expr} {es : List Expr} {f f2 : En → Mem → Res W} {x : Str} {c : Nat} {cs : List Nat} {a dd : Addr} {p pos pos' : Pos} {b : Bool}
theorem pe_cn {X : Cx} (g : Good S N sc kk X) (hg : sc.names.lookup x = some .globalImplicit) (hm : S.mg x = some (.ref (S.cl c))) (hd : (x == ("__debug__" : Str)) = false) : PE X (.Name x pos) (tC (.ref (S.cl c))) :=
  pe_glob (u := .ref (S.cl c)) (by rw [Gl, Env.kindOf, g.sco]; exact hg) (by rw [g.mg]; exact hm) rfl hd
theorem pa_cn {X : Cx} (g : Good S N sc kk X) : ∀ {es : List Expr} {cs : List Nat}, CN S sc es cs → PA X es (fun σ H Q => Q (cs.map fun c => V.ref (S.cl c)) H)
  | _, _, .nil => pa_nil
  | _, _, .cons hg hm hd r => by
    refine ⟨fun pos pins s σ H Q I h => ?_⟩
    exact (pa_cons (pe_cn g hg hm hd) (pa_cn g r) (by rfl)).run pos pins s σ H Q I h
theorem sem_is {t : WX → TE} {ta : TE} {R2 : Addr → List V → Hp → VK → Prop} (h2 : Sem S (use f) (UR S) t)
    (hr : ∀ (Fr G : Hp) (rho : List Addr) (env : En) (M : Mem) (σ : St) (H : Hp) (Q : VK), R S G Fr env M rho σ H → (∃ fs, H dd = some (.xd fs)) → (∀ G' H', Same G G' → R S G' Fr env M rho σ H' → Q (.bl b) H') → ta σ H fun y H2 => R2 a [.ref a, y] H2 Q) :
    Sem S (eIs a c dd b f) (WR S) (fun Wx => tCB (R2 a) (tCons (t Wx) (tCons ta tNil))) := by
  intro Wx Fr G rho env M σ H Q I p
  refine h2 Wx Fr G rho env M σ H _ I (Post.step (VR := UR S) p fun u e m G1 rho1 H1 v _ g r I1 v1 q => ?_)
  split at q
  · next a' c' dd' d _ =>
    split at q
    · next h =>
      obtain ⟨rfl, rfl, rfl⟩ := h
      cases (v1 : Rep S rho1 G1 (.exc a' c' dd' d) v) with
      | @exc _ _ _ _ u hd hr' => exact hr Fr G1 rho1 e m σ H1 Q I1 ⟨_, I1.gs _ _ hd⟩ fun G2 H2 g2 I2 => q G2 rho1 H2 _ g2 (List.prefix_refl _) I2 (.bl b)
    · exact q.elim
  · exact q.elim
theorem se_isE {y : Str} {c' : Nat} {py : Pos} (bl : Blt S sc "isinstance") (T : XAsk S c) (h : SE S N sc (.ex a c dd) e f) (hg : sc.names.lookup y = some .globalImplicit) (hm : S.mg y = some (.ref (S.cl c'))) (hk : PySem.W.kitOne S.K (.ref (S.cl c)) (.ref (S.cl c')) = some b) (hd : (y == ("__debug__" : Str)) = false := by decide +kernel)
    (hs : ∀ env : Env, starEach [e, .Name y py] env = (false, eval e env) :: starEach [.Name y py] env := by intro _; rfl) :
    SE S N sc (.ex a c dd) (.Call (.Name "isinstance" p) [e, .Name y py] [] pos) (eIs a c dd b f) := by
  obtain ⟨t, h1, h2⟩ := h.use
  refine ⟨_, fun X Wx g tk => ?_, sem_is (R2 := fun a => rEx S.K (S.cl c) a dd) (ta := tC (.ref (S.cl c'))) h2 fun Fr G rho env M σ H Q I hx k => ⟨_, b, rfl, hx, k G H (Same.refl _) I, .inl ⟨.ref (S.cl c'), fun u r => r, hk⟩⟩⟩
  have hpa := pa_cons (h1 X Wx g tk) (pa_cons (pe_cn g hg hm hd) pa_nil) (hs _)
  obtain ⟨X0, oe, pn, rfl, hz, hf⟩ := g.exn a c dd rfl
  have hK : X0.K = S.K := g.K
  have hc : CallR (X0.suite a ((a, oe) :: pn)) (.builtin "isinstance") (rEx S.K (S.cl c) a dd) := by have := call_ex (X := X0) (by rw [hK]; exact T.i) hz hf (a := a) (pn := pn); rw [hK] at this; exact this
  exact pe_callB hc (bl.gl g) (bl.mg g) (by decide +kernel) hpa (by decide +kernel) (by decide +kernel) (hs _) (by rfl)
theorem se_isT {py : Pos} {x1} (bl : Blt S sc "isinstance") (T : XAsk S c) (h : SE S N sc (.ex a c dd) e f) (hc : CN S sc es cs) (hz0 : cs.length ≤ 100) (hk : PySem.W.kitAny S.K (.ref (S.cl c)) (cs.map fun c => .ref (S.cl c)) = some b)
    (hs : ∀ env : Env, starEach [e, .Tuple es x1 py] env = (false, eval e env) :: starEach [.Tuple es x1 py] env := by intro _; rfl) :
    SE S N sc (.ex a c dd) (.Call (.Name "isinstance" p) [e, .Tuple es x1 py] [] pos) (eIs a c dd b f) := by
  obtain ⟨t, h1, h2⟩ := h.use
  have hl : ∀ cs : List Nat, Paired ClsV (cs.map fun c => V.ref (S.cl c)) (cs.map fun c => Value.ref (S.cl c)) := fun cs => by
    induction cs with
    | nil => exact .nil
    | cons c cs ih => exact .cons (.own _) ih
  refine ⟨_, fun X Wx g tk => ?_, sem_is (R2 := fun a => rEx S.K (S.cl c) a dd) (ta := tTup (fun σ H Q => Q (cs.map fun c => V.ref (S.cl c)) H)) h2 fun Fr G rho env M σ H Q I hx k => ⟨by rw [List.length_map]; exact Nat.le_trans hz0 (by decide), fun tp htp => ⟨_, b, rfl, ?_, k _ _ (Same.refl _) (I.alloc htp), .inr ⟨tp, _, _, rfl, upd_same, hl cs, hk⟩⟩⟩⟩
  · have hpa := pa_cons (h1 X Wx g tk) (pa_cons (pe_tup (x1 := x1) (pos := py) (pa_cn g hc)) pa_nil (by rfl)) (hs _)
    obtain ⟨X0, oe, pn, rfl, hz, hf⟩ := g.exn a c dd rfl
    have hK : X0.K = S.K := g.K
    have hc : CallR (X0.suite a ((a, oe) :: pn)) (.builtin "isinstance") (rEx S.K (S.cl c) a dd) := by have := call_ex (X := X0) (by rw [hK]; exact T.i) hz hf (a := a) (pn := pn); rw [hK] at this; exact this
    exact pe_callB hc (bl.gl g) (bl.mg g) (by decide +kernel) hpa (by decide +kernel) (by decide +kernel) (hs _) (by rfl)
  · obtain ⟨fs, hx⟩ := hx
    exact ⟨fs, by rw [upd_ne (ne_of_none hx htp)]; exact hx⟩
end

/-! ### try: .. except x as n: .. -/
section
variable {S : Sg} {G Fr : Hp} {env : En} {M : Mem} {rho : List Addr} {σ : St} {H : Hp}
theorem R.unset (I : R S G Fr env M rho σ H) {i : Nat} : R S G Fr (env.set i .un) M rho (σ.set i none) H where
  toMR := I.toMR
  len := by rw [List.length_set, List.length_set]; exact I.len
  vals := fun j e q => by
    by_cases hij : i = j
    · subst hij
      by_cases hi : i < env.length
      · rw [List.getElem?_set_self hi] at q; cases q
      · rw [List.getElem?_eq_none (by simpa using hi)] at q; cases q
    · rw [List.getElem?_set_ne hij] at q ⊢; exact I.vals j e q
  owns := fun j e q => by
    obtain ⟨nj, q'⟩ := own_drop q
    rw [List.getElem?_set_ne (Ne.symm nj)]
    exact I.owns j e q'
  dist := fun j k d f b hj hk h1 h2 => by
    obtain ⟨nj, hj'⟩ := own_drop hj
    obtain ⟨nk, hk'⟩ := own_drop hk
    rw [List.getElem?_set_ne (Ne.symm nj)] at h1
    rw [List.getElem?_set_ne (Ne.symm nk)] at h2
    exact I.dist j k d f b hj' hk' h1 h2
theorem Free.unset {i : Nat} {a : Addr} (f : Free G Fr env rho σ a) : Free G Fr (env.set i .un) rho (σ.set i none) a := ⟨f.g, f.f, f.r, fun j d he hs => by
  obtain ⟨nj, he'⟩ := own_drop he
  rw [List.getElem?_set_ne (Ne.symm nj)] at hs
  exact f.s j d he' hs⟩
end
def dropS (i : Nat) (r : Res Fl) : Res Fl := match r with
  | .ok (.rt (.s _)) _ _ => .no
  | .ok fl e m => .ok fl (e.set i .un) m
  | _ => .no
open Classical in
/-- the same wherever the exception stands -/
noncomputable def any2 (F : Addr → Addr → Res Fl) : Res Fl := if ∀ a dd, F a dd = F 0 0 then F 0 0 else .no
theorem any2_eq {F : Addr → Addr → Res Fl} {r : Res Fl} (h : ∀ a dd, F a dd = r) : any2 F = r := by
  unfold any2
  rw [if_pos fun a dd => (h a dd).trans (h 0 0).symm]
  exact h 0 0
noncomputable def sTryAs (i : Nat) (cond : Nat → Option Bool) (b : En → Mem → Res Fl) (g : Addr → Nat → Addr → En → Mem → Res Fl) : En → Mem → Res Fl := fun env M => match b env M with
  | .ok fl e m => .ok fl e m
  | .exc c d e m => (match cond c with
    | some true => if i < e.length then any2 fun a dd => dropS i (g a c dd (e.set i (.val (.exc a c dd d))) m) else .no
    | some false => .exc c d e m
    | none => .no)
  | .no => .no
section
variable {S : Sg} {N : List Str} {sc : Scope} {k : Nat} {body suite : List Stmt} {b₀ : Stmt} {g : En → Mem → Res Fl} {gs : Addr → Nat → Addr → En → Mem → Res Fl} {x n : Str} {i : Nat} {np pos pos' : Pos} {cx : Nat} {cond : Nat → Option Bool}
theorem goodS_tr {X : Cx} {pn : List (Addr × Obj)} {xe : Value → Shared → Prop} (g : GoodS S N sc (.sm k) X) (hp : PassesOwn (model X.prog X.w) X.A X.env xe) : GoodS S N sc (.sm k) (X.tr pn xe) :=
  ⟨⟨g.p, g.w, g.K, g.mg, g.base, g.nN, g.nd, g.sco, g.kind, g.room, g.un, fun _ _ _ e => (by cases e)⟩, g.hs, g.hf, fun _ _ => hp, g.fn, g.ex⟩
theorem goodS_su {X : Cx} {pn : List (Addr × Obj)} {a dd : Addr} {c : Nat} {oe : Obj} (g : GoodS S N sc (.sm k) X) (hz : Zc (.ref (S.cl c)) (some dd) oe) (hf : ∃ vs, oe.data = .fields vs) : GoodS S N sc (.ex a c dd) (X.suite a ((a, oe) :: pn)) :=
  ⟨⟨g.p, g.w, g.K, g.mg, g.base, g.nN, g.nd, g.sco, g.kind, fun _ e => (by cases e), g.un, fun a' c' dd' e => by cases e; exact ⟨X, oe, pn, rfl, hz, hf⟩⟩, g.hs, g.hf, fun _ e => (by cases e), g.fn, g.ex⟩
theorem ss_try_as (hi : N[i]? = some n) (hn : sc.names.lookup n = some .local) (hg : sc.names.lookup x = some .globalImplicit) (hm : S.mg x = some (.ref (S.cl cx))) (hd : (x == ("__debug__" : Str)) = false)
    (hc : ∀ c b, cond c = some b → PySem.W.exmOne S.K (.ref (S.cl c)) (.ref (S.cl cx)) = some b) (hb : SSs S N sc (.sm k) body g) (hs : ∀ a c dd, cond c = some true → SSs S N sc (.ex a c dd) (b₀ :: suite) (gs a c dd)) :
    SS S N sc (.sm k) (.Try body [.ExceptHandler (some (.Name x np)) (some n) (b₀ :: suite) pos'] [] [] pos) (sTryAs i cond g gs) := by
  obtain ⟨tb, b1, b2⟩ := hb
  let ts : Addr → Value → Option Addr → TS := fun a cls d D σ H => ∃ (c : Nat) (dd : Addr) (h : cond c = some true), cls = .ref (S.cl c) ∧ d = some dd ∧ (hs a c dd h).choose (fun _ _ _ _ => False) D σ H
  refine ⟨fun Wx D σ H => tb (wAs S.K (.ref (S.cl cx)) i ts Wx D) D σ H, fun X Wx gd tk => ?_, fun Wx Fr G rho env M σ H D I p => ?_⟩
  · have := ps_try_as (X := X) (ts := ts) (tb := tb) (x := x) (n := n) (i := i) (c := .ref (S.cl cx)) (body := body) (suite := suite) (b₀ := b₀) (np := np) (pos := pos) (pos' := pos') (Wout := Wx) gd.hs gd.hf (by rw [gd.nN]; exact gd.nd) (by rw [gd.nN]; exact hi) (by rw [Env.kindOf, gd.sco]; exact hn)
      ⟨by rw [Gl, Env.kindOf, gd.sco]; exact hg, hd, .inl (by rw [gd.mg]; exact hm)⟩ tk (fun W pn xe tk' hp => b1 _ W (goodS_tr gd hp) tk') (fun a oe cls d pn hz hf => ?_)
    · rw [gd.K] at this
      exact this
    · refine ⟨fun pins s σ H D I h => ?_⟩
      obtain ⟨c, dd, h1, rfl, rfl, h2⟩ := h
      exact ((hs a c dd h1).choose_spec.1 _ _ (goodS_su gd hz hf) (fun u s' z => by
        obtain ⟨_, _, _, _, _, _, _, _, _, _, _, _, _, _, _, _, z⟩ := z
        exact z.elim)).run pins s σ H D I h2
  · refine b2 _ Fr G rho env M σ H D I ?_
    unfold sTryAs at p
    cases hr : g env M with
    | ok fl e m => rw [hr] at p; exact p
    | no => rw [hr] at p; exact p
    | exc c d e m =>
      rw [hr] at p
      simp only at p
      intro σ' dd G' rho' H' g1 r1 I1 th
      cases hcd : cond c with
      | none => rw [hcd] at p; exact p.elim
      | some bb =>
        rw [hcd] at p
        refine ⟨bb, hc c bb hcd, fun hbt a ha => ?_, fun hbf => ?_⟩
        · subst hbt
          simp only at p
          by_cases hl : i < e.length
          · rw [if_pos hl] at p
            refine ⟨c, dd, hcd, rfl, rfl, ?_⟩
            obtain ⟨v, hv, rv⟩ := th
            have I2 : R S G' Fr (e.set i (.val (.exc a c dd d))) m rho' (σ'.set i (some (.ref a))) H' := I1.setVal hl (.exc hv rv)
            refine (hs a c dd hcd).choose_spec.2 _ Fr G' rho' _ m _ H' _ I2 ?_
            have p2 : PostS S Wx Fr G' rho' (dropS i (gs a c dd (e.set i (.val (.exc a c dd d))) m)) D := by
              refine PostS.later ?_ g1 r1
              unfold any2 at p
              split at p
              · next hall =>
                have : dropS i (gs a c dd (e.set i (.val (.exc a c dd d))) m) = dropS i (gs 0 c 0 (e.set i (.val (.exc 0 c 0 d))) m) := hall a dd
                rw [this]
                exact p
              · exact p.elim
            cases hr2 : gs a c dd (e.set i (.val (.exc a c dd d))) m with
            | no => rw [hr2] at p2; exact p2.elim
            | exc c2 d2 e2 m2 => rw [hr2] at p2; exact p2.elim
            | ok fl e2 m2 =>
              rw [hr2] at p2
              intro σ2 G2 rho2 H2 g2 r2 I3
              cases fl with
              | nx => exact p2 (σ2.set i none) G2 rho2 H2 g2 r2 I3.unset
              | bk => exact p2 (σ2.set i none) G2 rho2 H2 g2 r2 I3.unset
              | ct => exact p2 (σ2.set i none) G2 rho2 H2 g2 r2 I3.unset
              | rt w =>
                intro v hw
                cases w with
                | s j => exact p2.elim
                | v d => exact p2 (σ2.set i none) G2 rho2 H2 g2 r2 I3.unset v hw
                | o d =>
                  obtain ⟨b, xs, e1, e3, o, f⟩ := hw
                  exact p2 (σ2.set i none) G2 rho2 H2 g2 r2 I3.unset v ⟨b, xs, e1, e3, o, f.unset⟩
                | t j xs =>
                  obtain ⟨b, vs, c, ys, e1, e3, e4, e5, e6, e7, e8, e9, fa, fc, ac⟩ := hw
                  exact p2 (σ2.set i none) G2 rho2 H2 g2 r2 I3.unset v ⟨b, vs, c, ys, e1, e3, e4, e5, e6, e7, e8, e9, fa.unset, fc.unset, ac⟩
          · rw [if_neg hl] at p; exact p.elim
        · subst hbf
          exact p σ' dd G' rho' H' g1 r1 I1 th
end
end Ow
namespace Ow
open PySem PySem.Spec L2

/-! ### f(k = v, ..) -/
theorem kbN {K : PySem.W.Frag} {x qual : Str} {params : Arguments} {body : List Stmt} {scope : Scope} {f : Addr} {fd : FuncData} {ps : List Str} (F : FunD K x qual params body scope [] [] f fd) (n : Nat) (ks : List Str) (g : {α : Type} → List α → List α → List α)
    (hrel : ∀ {vs zs : List V} {us ws : List Value}, Vals vs us → Vals zs ws → Vals (g vs zs) (g us ws))
    (h : ∀ (kV doc pm : Value) (an : Option Addr) (cdv ct : Value) (us ws : List Value), us.length = n → ws.length = ks.length → bindArgs (PySem.W.fnOf x qual params body scope .none kV doc pm an cdv ct) ⟨us, ks.zip ws⟩ = pure (ps.zip (g us ws))) :
    KBn K fd ps n ks (fun us ws => g us ws) (fun vs zs => g vs zs) := by
  obtain ⟨oc, od, dV, kV, doc, pm, an, cdv, ct, osl, rfl, lk, hcd, hD, hK⟩ := F.ex
  rcases hD with ⟨_, rfl⟩ | ⟨e, _⟩
  · exact ⟨fun s us ws X l1 l2 => .of_eq (h kV doc pm an cdv ct us ws l1 l2), fun r1 r2 => hrel r1 r2⟩
  · exact absurd rfl e
/-- a def of the text that keeps its promise, by keywords alone; pi: the parameters' order -/
structure DefKw (S : Sg) (x : Str) (k n : Nat) (ks : List Str) (pi : List Nat) (f : Fn) : Prop where
  ex : ∃ (fa : Addr) (fd : FuncData) (ps : List Str), FnOk S.P S.w S.K S.mg S.base (L2.CX S.P S.w) k fa fd ps (spOf S n f) ∧ PySem.W.keepIn S.K (.ref fa) = true ∧ KBn S.K fd ps 0 ks (fun _ ws => pi.filterMap fun i => ws[i]?) (fun _ vs => pi.filterMap fun i => vs[i]?) ∧ S.mg x = some (.ref fa) ∧ ps.length = n
def perm {α : Type} (pi : List Nat) (ds : List α) : List α := pi.filterMap fun i => ds[i]?
def SKs (S : Sg) (N : List Str) (sc : Scope) (kk : Kk) (kws : List Keyword) (f : En → Mem → Res (List D)) : Prop :=
  ∃ t : WX → TA, (∀ X Wx, Good S N sc kk X → Takes X Wx → PK X kws (t Wx)) ∧ Sem S f (DRs S) t
section
variable {X : Cx} {k n : Nat} {f : Addr} {fd : FuncData} {ps ks : List Str} {sp : Sp} {E : XK} {CX : CXT} {g : List Value → List Value → List Value} {gV : List V → List V → List V}
theorem run_kw {pins : List (Addr × Obj)} {σ : St} {H : Hp} {s : Shared} {Q : VK} {us ws : List Value} {vs zs : List V} (F : FnOk X.prog X.w X.K X.mg X.base CX k f fd ps sp) (hr : Room k X.A) (hb : KBn X.K fd ps n ks g gV) (hx : PassesAt CX X σ E)
    (I : Inv X pins σ H s) (r : Vals vs us) (rz : Vals zs ws) (l1 : vs.length = n) (l2 : zs.length = ks.length) (h : sp (gV vs zs) H Q E) : wpAny (model X.prog X.w) X.A (call (.ref f) us (ks.zip ws)) (EP X pins σ Q) X.xe s := by
  have r2 := hb.rel r rz
  refine wpAny_call (codeAny_mono (F.run X.A X.stack s H ⟨us, ks.zip ws⟩ (g us ws) (gV vs zs) Q E hr I.env0 (hb.to s us ws I.kIn (r.length.symm.trans l1) (rz.length.symm.trans l2)) r2 h) fun r s' hq => ?_)
  cases r with
  | error e => exact hx pins H s e s' I hq
  | ok fl =>
    cases fl with
    | ret u => exact I.after hq
    | next => exact False.elim hq
    | brk => exact False.elim hq
    | cont => exact False.elim hq
end
section
variable {S : Sg} {N : List Str} {sc : Scope} {kk : Kk} {k : Nat} {e : Expr} {kws : List Keyword} {f : En → Mem → Res W} {fs : En → Mem → Res (List D)} {p pos kpos : Pos} {nm : Option Str}
theorem sks_nil : SKs S N sc kk [] dNil := ⟨fun _ => tNil, fun X Wx _ _ => pk_nil, fun Wx Fr G rho env M σ H Q I p => p G rho H [] (Same.refl _) (List.prefix_refl _) I .nil⟩
theorem sks_cons (h : SE S N sc kk e f) (hs : SKs S N sc kk kws fs) : SKs S N sc kk (⟨nm, e, kpos⟩ :: kws) (dCons f fs) := by
  obtain ⟨t, h1, h2⟩ := h.esc
  obtain ⟨ts, hs1, hs2⟩ := hs
  refine ⟨fun Wx => tCons (t Wx) (ts Wx), fun X Wx g tk => pk_cons (h1 X Wx g tk) (hs1 X Wx g tk), fun Wx Fr G rho env M σ H Q I p => ?_⟩
  refine h2 Wx Fr G rho env M σ H _ I (Post.step (VR := DR S) p fun u e m G1 rho1 H1 b _ g r I1 v q => ?_)
  refine hs2 Wx Fr G1 rho1 e m σ H1 _ I1 (Post.step (VR := DRs S) q fun us e2 m2 G2 rho2 H2 bs _ g2 r2 I2 vs q2 => ?_)
  exact q2 G2 rho2 H2 (b :: bs) (Same.refl _) (List.prefix_refl _) I2 (.cons (Rep.mono g2 r2 v) vs)
theorem Reps.perm {rho : List Addr} {G : Hp} {ds : List D} {vs : List V} (t : Reps S rho G ds vs) : ∀ pi : List Nat, Reps S rho G (Ow.perm pi ds) (pi.filterMap fun i => vs[i]?)
  | [] => .nil
  | i :: pi => by
    unfold Ow.perm
    cases h : ds[i]? with
    | none =>
      have : vs[i]? = none := by rw [List.getElem?_eq_none_iff] at h ⊢; rw [← t.length]; exact h
      rw [List.filterMap_cons_none h, List.filterMap_cons_none this]
      exact t.perm pi
    | some d =>
      obtain ⟨v, h1, h2⟩ := t.get h
      rw [List.filterMap_cons_some h, List.filterMap_cons_some h1]
      exact .cons h2 (t.perm pi)
def eCallK (n m : Nat) (pi : List Nat) (f : Fn) (fs : En → Mem → Res (List D)) : En → Mem → Res W := fun env M => (fs env M).bind fun ds e m' => if ds.length = m ∧ (perm pi ds).length = n then out (f (perm pi ds) m') e else .no
theorem se_callK0 {x : Str} {j n : Nat} {ks : List Str} {pi : List Nat} {f : Fn} (h : DefKw S x j n ks pi f) (hj : j ≤ k) (hg : sc.names.lookup x = some .globalImplicit) (ha : SKs S N sc (.sm k) kws fs) (hdb : (x == ("__debug__" : Str)) = false := by decide +kernel)
    (hall : ∀ env : Env, (backToKw pos (keywordEach kws env)).all (·.1.isSome) = true := by intro _; rfl) (hks : ∀ env : Env, (backToKw pos (keywordEach kws env)).filterMap (·.1) = ks := by intro _; rfl)
    (hpl : ∀ env : Env, ((backTo pos (starEach [] env)).any (·.1) || (backToKw pos (keywordEach kws env)).any (·.1.isNone)) = false := by intro _; rfl) :
    SE S N sc (.sm k) (.Call (.Name x p) [] kws pos) (eCallK n ks.length pi f fs) := by
  obtain ⟨fa, fd, ps, F, kp, hb, hm, hl⟩ := h.ex
  obtain ⟨t, h1, h2⟩ := ha
  refine ⟨fun Wx σ H Q => t Wx σ H fun vs H1 => vs.length = ks.length ∧ spOf S n f (pi.filterMap fun i => vs[i]?) H1 Q (WE Wx σ), fun X Wx g tk => ?_, fun Wx Fr G rho env M σ H Q I q => ?_⟩
  · have F' : FnOk X.prog X.w X.K X.mg X.base (L2.CX X.prog X.w) j fa fd ps (spOf S n f) := by rw [g.p, g.w, g.K, g.mg, g.base]; exact F
    have hb' : KBn X.K fd ps 0 ks (fun _ ws => pi.filterMap fun i => ws[i]?) (fun _ vs => pi.filterMap fun i => vs[i]?) := by rw [g.K]; exact hb
    refine ⟨fun pins s σ H Q I h => ?_⟩
    refine PySem.wpAny_Call_Name_kw (ld_glob I (by rw [Gl, Env.kindOf, g.sco]; exact hg) (by rw [g.mg]; exact hm) ?_ hdb)
    refine PySem.W.callWith_KW0 (h₀ := X.base) I.ok.mod.kin (by rw [g.K]; exact kp) (hall _) ?_ (hpl _)
    refine thn ((h1 X Wx g tk).run pos pins s σ H _ I h) fun ws s2 ⟨zs, H2, I2, rz, l2, q2⟩ => ⟨I2.kIn, ?_⟩
    rw [hks]
    exact run_kw (us := []) (vs := []) F' ((g.room k rfl).1.mono hj) hb' (passAt tk σ) I2 .nil rz rfl l2 q2
  · refine h2 Wx Fr G rho env M σ H _ I (Post.step (VR := DRs S) q fun ds e m G1 rho1 H1 vs _ g r I1 v1 q1 => ?_)
    split at q1
    · next hn =>
      have v1 : Reps S rho1 G1 ds vs := v1
      exact ⟨by rw [← v1.length]; exact hn.1, sp_call I1 (v1.perm pi) hn.2 q1⟩
    · exact q1.elim
end
end Ow
namespace Ow
open PySem PySem.Spec L2

/-! ### what the head tells: facts, defs -/
abbrev FB := PySem.W.Frag → Bool
def obsX (fs : List FB) (fn : List He.DefD) (K : PySem.W.Frag) : He.AlD := ((fs.all fun f => f K) && fn.all fun d => d.ok K, fn.map fun d => He.fnW K d.at_)
def SaysX (fs : List FB) (fn : List He.DefD) (K : PySem.W.Frag) : Prop := obsX fs fn K = He.valD fn
def obsXG (sel : (Addr → Option Obj) → List Addr) (fs : List FB) (fn : List He.DefD) (g : Addr → Option Obj) : He.AlD := obsX fs fn (He.frG g (sel g))
def hookX (sel : (Addr → Option Obj) → List Addr) (fs : List FB) (fn : List He.DefD) : PySem.W.Hook where
  α := He.AlD
  obs := fun s => obsXG sel fs fn s.heap.get?
  val := fun _ => He.valD fn
  says := fun _ h => ∃ K : PySem.W.Frag, K.In h ∧ SaysX fs fn K
  of := fun _ _ e => ⟨_, He.frG_in, e⟩
  keeps := fun _ _ _ ⟨K, hK, c⟩ k => ⟨K, PySem.W.Frag.In.keeps hK k, c⟩
theorem obsXG_eq {sel : (Addr → Option Obj) → List Addr} {fs : List FB} {fn : List He.DefD} {g : Addr → Option Obj} {s : Shared} (h : ∀ a, g a = s.heap.get? a) : obsXG sel fs fn g = (hookX sel fs fn).obs s := by
  have e : g = s.heap.get? := funext h
  rw [e] <;> rfl
section
variable {fs : List FB} {fn : List He.DefD} {K : PySem.W.Frag}
theorem SaysX.fact (c : SaysX fs fn K) (i : Nat) {f : FB} (h : fs[i]? = some f := by rfl) : f K = true := by
  have c1 := (He.ba (show ((fs.all fun f => f K) && fn.all fun d => d.ok K) = true from congrArg (fun z : He.AlD => z.1) c)).1
  exact List.all_eq_true.mp c1 f (List.mem_of_getElem? h)
theorem SaysX.def_ (c : SaysX fs fn K) (i : Nat) {d : He.DefD} (h : fn[i]? = some d := by rfl) : ∃ fd, FunD K d.name d.qual d.params d.body d.scope (d.dvs K) (d.kws K) (He.fAd K d.at_) fd := by
  have c2 := (He.ba (show ((fs.all fun f => f K) && fn.all fun d => d.ok K) = true from congrArg (fun z : He.AlD => z.1) c)).2
  have e : fn.map (fun d => He.fnW K d.at_) = fn.map He.DefD.val := congrArg (fun z : He.AlD => z.2) c
  have e2 : (fn.map fun d => He.fnW K d.at_)[i]? = (fn.map He.DefD.val)[i]? := by rw [e]
  rw [List.getElem?_map, List.getElem?_map, h] at e2
  exact He.DefD.funD (Option.some.inj e2) (List.all_eq_true.mp c2 d (List.mem_of_getElem? h))
end
/-! own exception classes -/
def oexB (K : PySem.W.Frag) (C : Addr) : Bool := (match K.lookup C with
  | some ⟨.type "type", _, .cls cd, sl⟩ => (match cd.mro, sl.toList with
    | .ref C' :: bm, [_, _, _, _, some (.builtin n), _] => C' == C && (n == "ValueError.__new__" && (!cd.hasDel && (cd.hasDict && PySem.HandSPX.refsVE bm)))
    | _, _ => false)
  | _ => false) && (decide (PySem.W.findIn K (.ref C) "__setattr__" = some (some (.builtin "object.__setattr__"))) && (decide (PySem.W.subIn K (.ref C) (.type "BaseException") = some true) && (decide (PySem.W.typeIn K (.ref C) = some (.type "type")) && PySem.W.keepIn K (.ref C))))
theorem oexB_ok {K : PySem.W.Frag} {C : Addr} (h : oexB K C = true) : OexC K C := by
  obtain ⟨h1, h⟩ := He.ba h
  obtain ⟨h2, h⟩ := He.ba h
  obtain ⟨h3, h⟩ := He.ba h
  obtain ⟨h4, h5⟩ := He.ba h
  refine ⟨?_, of_decide_eq_true h2, of_decide_eq_true h3, of_decide_eq_true h4, h5⟩
  split at h1
  · rename_i dd cd sl ho
    split at h1
    · rename_i C' bm k0 k1 k2 k3 n k5 hm hs
      simp only [Bool.and_eq_true, beq_iff_eq, Bool.not_eq_true'] at h1
      obtain ⟨rfl, rfl, hdel, hdict, ht⟩ := h1
      obtain ⟨nm, bs, mro, ns, qn, hd, sn, sub, ab, col, del⟩ := cd
      dsimp only at hm hdel hdict
      subst hm hdel hdict
      have hsl : sl = #[k0, k1, k2, k3, some (.builtin "ValueError.__new__"), k5] := by
        obtain ⟨l⟩ := sl
        simp only at hs
        rw [hs]
      subst hsl
      exact ⟨nm, qn, ns, bs, bm, sn, sub, ab, col, dd, k0, k1, k2, k3, k5, ho, ht⟩
    · cases h1
  · cases h1
/-- where __init__ of the class x stands -/
def iniB (K : PySem.W.Frag) (C fI : Addr) : Bool := decide (PySem.W.findIn K (.ref C) "value" = some none) && (decide (PySem.W.findIn K (.ref C) "__init__" = some (some (.ref fI))) && decide (PySem.W.typeIn K (.ref fI) = some (.type "function")))
def askB (K : PySem.W.Frag) (D : Addr) : Bool := xfB K D && (decide (PySem.W.findIn K (.ref D) "value" = some none) && (decide (PySem.W.findIn K (.ref D) "__getattribute__" = some (some (.builtin "BaseException.__getattribute__"))) && (decide (PySem.W.findIn K (.ref D) "__getattr__" = some none) &&
  (decide (PySem.W.subIn K (.ref D) (.type "BaseException") = some true) && (PySem.W.hasDictIn K D && (decide (PySem.W.findIn K (.ref D) "__class__" = some (some (.builtin "object.__class__"))) && (decide (PySem.W.specialIn K (.builtin "object.__class__") "__get__" = some (some (.builtin "getset_descriptor.__get__"))) &&
  (decide (PySem.W.takesIn K (.builtin "object.__class__") = some true) && decide (PySem.W.mroIn K D (.type "object") = some true)))))))))
theorem askB_ok {S : Sg} {c : Nat} (h : askB S.K (S.cl c) = true) : XAsk S c := by
  obtain ⟨h1, h⟩ := He.ba h
  obtain ⟨h2, h⟩ := He.ba h
  obtain ⟨h3, h⟩ := He.ba h
  obtain ⟨h4, h⟩ := He.ba h
  obtain ⟨h5, h⟩ := He.ba h
  obtain ⟨h6, h⟩ := He.ba h
  obtain ⟨h7, h⟩ := He.ba h
  obtain ⟨h8, h⟩ := He.ba h
  obtain ⟨h9, h10⟩ := He.ba h
  exact ⟨xfB_ok h1, of_decide_eq_true h2, ⟨of_decide_eq_true h3, of_decide_eq_true h4, of_decide_eq_true h5, h6, of_decide_eq_true h7, of_decide_eq_true h8, of_decide_eq_true h9, of_decide_eq_true h10⟩⟩
def exmB (K : PySem.W.Frag) (C D : Addr) (b : Bool) : Bool := decide (PySem.W.exmOne K (.ref C) (.ref D) = some b)
def kitB (K : PySem.W.Frag) (C : Addr) (Ds : List Addr) (b : Bool) : Bool := decide (PySem.W.kitAny K (.ref C) (Ds.map Value.ref) = some b)
def kit1B (K : PySem.W.Frag) (C D : Addr) (b : Bool) : Bool := decide (PySem.W.kitOne K (.ref C) (.ref D) = some b)
theorem XOk.of {S : Sg} {x : Str} {c k : Nat} {fI : Addr} {fd : FuncData} (h1 : oexB S.K (S.cl c) = true) (h2 : iniB S.K (S.cl c) fI = true) (hm : S.mg x = some (.ref (S.cl c)))
    (F : FnOk S.P S.w S.K S.mg S.base (L2.CX S.P S.w) k fI fd ["self", "value"] (spVal S.K)) (b : Binds S.K fd ["self", "value"] []) : XOk S x c k := by
  obtain ⟨i1, h2⟩ := He.ba h2
  obtain ⟨i2, i3⟩ := He.ba h2
  exact ⟨oexB_ok h1, hm, of_decide_eq_true i1, fI, fd, of_decide_eq_true i2, of_decide_eq_true i3, F, b⟩

/-! ### a def by its datum -/
theorem DefOk.of {S : Sg} {x qual : Str} {params : Arguments} {body : List Stmt} {scope : Scope} {f : Addr} {fd : FuncData} {N ps : List Str} {k : Nat} {g : En → Mem → Res Fl} (F : FunD S.K x qual params body scope [] [] f fd) (hm : S.mg x = some (.ref f)) (Sc : FnScope N ps scope) (hN : ps.length ≤ N.length)
    (b : ∀ (kV doc pm : Value) (an : Option Addr) (cdv ct : Value) (us : List Value), us.length = ps.length → bindArgs (PySem.W.fnOf x qual params body scope .none kV doc pm an cdv ct) ⟨us, []⟩ = pure (ps.zip us))
    (h : SSs S N scope (.sm k) body g) : DefOk S x (k + 1) ps.length (fnOf N.length g) :=
  ⟨f, fd, ps, fn_ok F Sc hN h, F.kp, F.bindsN b, hm, rfl⟩
theorem DefKw.of {S : Sg} {x qual : Str} {params : Arguments} {body : List Stmt} {scope : Scope} {f : Addr} {fd : FuncData} {N ps : List Str} {k : Nat} {g : En → Mem → Res Fl} (ks : List Str) (pi : List Nat) (F : FunD S.K x qual params body scope [] [] f fd) (hm : S.mg x = some (.ref f)) (Sc : FnScope N ps scope) (hN : ps.length ≤ N.length)
    (b : ∀ (kV doc pm : Value) (an : Option Addr) (cdv ct : Value) (us ws : List Value), us.length = 0 → ws.length = ks.length → bindArgs (PySem.W.fnOf x qual params body scope .none kV doc pm an cdv ct) ⟨us, ks.zip ws⟩ = pure (ps.zip (pi.filterMap fun i => ws[i]?)))
    (h : SSs S N scope (.sm k) body g) : DefKw S x (k + 1) ps.length ks pi (fnOf N.length g) :=
  ⟨f, fd, ps, fn_ok F Sc hN h, F.kp, kbN F 0 ks (fun _ ws => pi.filterMap fun i => ws[i]?) (fun {vs zs us ws} _ r => by
    have key : ∀ i : Nat, (∃ v u, zs[i]? = some v ∧ ws[i]? = some u ∧ RelV v u) ∨ (zs[i]? = none ∧ ws[i]? = none) := fun i => by
      have aux : ∀ {zs : List V} {ws : List Value}, Vals zs ws → ∀ i : Nat, (∃ v u, zs[i]? = some v ∧ ws[i]? = some u ∧ RelV v u) ∨ (zs[i]? = none ∧ ws[i]? = none) := by
        intro zs ws r
        induction r with
        | nil => exact fun i => .inr ⟨rfl, rfl⟩
        | cons h t ih =>
          intro i
          cases i with
          | zero => exact .inl ⟨_, _, rfl, rfl, h⟩
          | succ i => exact ih i
      exact aux r i
    clear b
    induction pi with
    | nil => exact .nil
    | cons i pi ih =>
      rcases key i with ⟨v, u, h1, h2, h3⟩ | ⟨h1, h2⟩
      · rw [List.filterMap_cons_some h1, List.filterMap_cons_some h2]
        exact .cons h3 ih
      · rw [List.filterMap_cons_none h1, List.filterMap_cons_none h2]
        exact ih) b, hm, rfl⟩
/-- what a call may let out, in any world -/
def CXw (P : Program) : CXT := fun outer H s E u s' => ∃ w, L2.CX P w outer H s E u s'
theorem cxw_no {P : Program} (H : Hp) (s : Shared) (e : Value) (s' : Shared) (z : CXw P [] H s (fun _ _ _ => False) e s') : False := by
  obtain ⟨_, _, _, _, _, _, _, _, _, _, _, _, _, z⟩ := z
  exact z
theorem cxw_of {P : Program} {w : World} {K : PySem.W.Frag} {mg : Str → Option Value} {base : Heap} {k : Nat} {f : Addr} {fd : FuncData} {ps : List Str} {sp : Sp} (F : FnOk P w K mg base (L2.CX P w) k f fd ps sp) : FnOk P w K mg base (CXw P) k f fd ps sp :=
  ⟨F.len, fun A outer s H args us vs Q E hr he hb hv hs => codeAny_mono (F.run A outer s H args us vs Q E hr he hb hv hs) fun r s' h => by
    cases r with
    | error e => exact ⟨w, h⟩
    | ok fl => cases fl <;> exact h⟩
/-- the law's promise -/
def spLaw (K : PySem.W.Frag) : Sp := fun vs H Q _ => ∃ (a : Addr) (ns : List Int), vs = [.ref a] ∧ ns.length ≤ 63 ∧ SqL K H a (ns.map V.int) ∧ ∀ H', Q (.bl true) H'
theorem law_sp {S : Sg} {f : Fn} {vs : List V} {H : Hp} {Q : VK} {E : XK} (good : ∀ ns : List Int, ns.length ≤ 63 → ∃ m, f [.scr ns] [] = .ok (.v (.bl true)) m) (h : spLaw S.K vs H Q E) : spOf S 1 f vs H Q E := by
  obtain ⟨a, ns, rfl, hl, hS, hq⟩ := h
  obtain ⟨m, hf⟩ := good ns hl
  refine ⟨H, [], [], [.scr ns], ⟨Same.refl _, fun _ _ e => (by cases e), fun _ _ e => (by cases e), rfl, List.nodup_nil, fun a ha => (by cases ha), fun n a mo e => (by cases e)⟩, .cons (.scr hS hl) .nil, rfl, ?_⟩
  rw [hf]
  intro v G' rho' H' _ _ gr
  cases (gr : Rep S rho' G' (.bl true) v)
  exact hq H'
theorem law_ok {S : Sg} {k : Nat} {f : Addr} {fd : FuncData} {ps : List Str} {fn : Fn} (good : ∀ ns : List Int, ns.length ≤ 63 → ∃ m, fn [.scr ns] [] = .ok (.v (.bl true)) m) (F : FnOk S.P S.w S.K S.mg S.base (L2.CX S.P S.w) k f fd ps (spOf S 1 fn)) :
    FnOk S.P S.w S.K S.mg S.base (CXw S.P) k f fd ps (spLaw S.K) := cxw_of (F.imp fun vs H Q E h => law_sp good h)
end Ow
namespace Ow
open PySem PySem.Spec L2

/-! ### a display in which a text is replaced: a written text stands ahead of it -/
def SET' (S : Sg) (N : List Str) (sc : Scope) (kk : Kk) (e : Expr) (f : En → Mem → Res W) : Prop :=
  ∃ t : WX → TE, (∀ X Wx, Good S N sc kk X → Takes X Wx → PET X e (t Wx)) ∧ Sem S f (WR S) t
def SDsT (S : Sg) (N : List Str) (sc : Scope) (kk : Kk) (es : List Expr) (f : En → Mem → Res (List D)) : Prop :=
  ∃ t : WX → TA, (∀ X Wx, Good S N sc kk X → Takes X Wx → PAT X es (t Wx)) ∧ Sem S f (DRs S) t
def eRepl (y z : Str) (f : En → Mem → Res W) : En → Mem → Res W := fun env M => (use f env M).bind fun u e m => match u with
  | .v (.str x) => if x.length + (x.length + 1) * z.length ≤ 16777216 then .ok (.v (.str (Txt.replace x y z))) e m else .no
  | _ => .no
section
variable {S : Sg} {N : List Str} {sc : Scope} {kk : Kk} {k : Nat} {o e a : Expr} {es : List Expr} {f f1 : En → Mem → Res W} {fs : En → Mem → Res (List D)} {apos pos c0 c1 : Pos} {i j : Nat} {y z : Str}
theorem st_of (h : SE S N sc kk e f) : SET' S N sc kk e f := by
  obtain ⟨t, h1, h2⟩ := h
  exact ⟨t, fun X Wx g tk => CwR.PET.of (h1 X Wx g tk), h2⟩
theorem st_repl (ho : SE S N sc kk o f) (hyz : (y == z) = false) (hst : ∀ env : Env, starEach [.Constant (.str y) i c0, .Constant (.str z) j c1] env = [(false, eval (.Constant (.str y) i c0) env), (false, eval (.Constant (.str z) j c1) env)] := by intro _; rfl)
    (hbase : ∀ env : Env, attributeBase o "replace" env (eval o env) = eval o env := by intro _; rfl) (hline : (apos.endLine == pos.line) = true := by rfl) :
    SET' S N sc kk (.Call (.Attribute o "replace" apos) [.Constant (.str y) i c0, .Constant (.str z) j c1] [] pos) (eRepl y z f) := by
  obtain ⟨t, h1, h2⟩ := ho.use
  refine ⟨fun Wx => CwR.tReplC (t Wx) y z, fun X Wx g tk => CwR.pet_replC (h1 X Wx g tk) hyz (hst _) (hbase _) hline, fun Wx Fr G rho env M σ H Q I p => ?_⟩
  refine h2 Wx Fr G rho env M σ H _ I (Post.step (VR := UR S) p fun u e m G1 rho1 H1 v _ g1 r1 I1 v1 q => ?_)
  split at q
  · next x _ =>
    cases (v1 : Rep S rho1 G1 (.str x) v)
    split at q
    · next h => exact ⟨x, rfl, h, here (VR := WR S) q I1 (.str _)⟩
    · exact q.elim
  · exact q.elim
theorem sdt_nil : SDsT S N sc kk [] dNil := ⟨fun _ => tNil, fun X Wx _ _ => pat_nil, fun Wx Fr G rho env M σ H Q I p => p G rho H [] (Same.refl _) (List.prefix_refl _) I .nil⟩
theorem sem_dcons {t : WX → TE} {ts : WX → TA} (h2 : Sem S f (WR S) t) (hs2 : Sem S fs (DRs S) ts) : Sem S (dCons f fs) (DRs S) (fun Wx => tCons (t Wx) (ts Wx)) := by
  intro Wx Fr G rho env M σ H Q I p
  refine h2 Wx Fr G rho env M σ H _ I (Post.step (VR := WR S) (k := fun w e m => (kept w e m).bind fun u e m => (fs e m).bind fun us e m => .ok (u :: us) e m) (VR' := DRs S) (Q := Q) ?_ fun w e m G1 rho1 H1 b _ g r I1 v q => ?_)
  · have : dCons f fs env M = (f env M).bind fun w e m => (kept w e m).bind fun u e m => (fs e m).bind fun us e m => .ok (u :: us) e m := by
      unfold dCons esc
      cases f env M <;> rfl
    rw [← this]
    exact p
  · rcases kept_spec I1 v with z | ⟨d, e', G2, z, g2, I2, v2, _⟩
    · rw [z] at q; exact q.elim
    · rw [z] at q
      refine hs2 Wx Fr G2 rho1 e' m σ H1 _ I2 (Post.step (VR := DRs S) (Post.later q g2 (List.prefix_refl _)) fun us e2 m2 G3 rho3 H3 bs _ g3 r3 I3 vs q2 => ?_)
      exact q2 G3 rho3 H3 (b :: bs) (Same.refl _) (List.prefix_refl _) I3 (.cons (Rep.mono g3 r3 v2) vs)
theorem sdt_cons (h : SET' S N sc kk e f) (hs : SDsT S N sc kk es fs) (hst : ∀ env : Env, starEach (e :: es) env = (false, eval e env) :: starEach es env := by intro _; rfl) : SDsT S N sc kk (e :: es) (dCons f fs) := by
  obtain ⟨t, h1, h2⟩ := h
  obtain ⟨ts, hs1, hs2⟩ := hs
  exact ⟨fun Wx => tCons (t Wx) (ts Wx), fun X Wx g tk => pat_cons (h1 X Wx g tk) (hs1 X Wx g tk) (hst _), sem_dcons h2 hs2⟩
/-- [a + 'text', ..] -/
theorem os_addS : OpSem S (fun x y H Q => ∃ i j, x = .str i ∧ y = .str j ∧ i.length + j.length ≤ sizeLine ∧ Q (.str (i ++ j)) H) gAddS := by
  intro Fr G rho env M σ H x y vx vy w Q I cx cy e k
  unfold gAddS at e
  split at e
  · next i j =>
    cases cx; cases cy
    split at e
    · next h =>
      cases e
      exact ⟨i, j, rfl, rfl, h, k G H _ (Same.refl _) I (.str _)⟩
    · cases e
  · cases e
theorem sdt_first {bp : Pos} (ha : SE S N sc kk a f1) (hs : SDsT S N sc kk es fs) (hst : ∀ env : Env, starEach (.BinOp a .Add (.Constant (.str y) i c0) bp :: es) env = (false, eval (.BinOp a .Add (.Constant (.str y) i c0) bp) env) :: starEach es env := by intro _; rfl) :
    SDs S N sc kk (.BinOp a .Add (.Constant (.str y) i c0) bp :: es) (dCons (e2 gAddS f1 (eC (.str y))) fs) := by
  obtain ⟨ts, hs1, hs2⟩ := hs
  obtain ⟨ta, a1, a2⟩ := ha.use
  obtain ⟨tb, b1, b2⟩ := (se_str (S := S) (N := N) (sc := sc) (kk := kk) (i := y) (j := i) (pos := c0)).use
  have b2 : Sem S (use (eC (.str y))) (UR S) (fun _ => tC (.str y)) := fun Wx Fr G rho env M σ H Q I p => p G rho H _ (Same.refl _) (List.prefix_refl _) I (.str y)
  refine ⟨fun Wx => tCons (tOp (fun x y H Q => ∃ i j, x = .str i ∧ y = .str j ∧ i.length + j.length ≤ sizeLine ∧ Q (.str (i ++ j)) H) (ta Wx) (tC (.str y))) (ts Wx), fun X Wx g tk => ⟨fun pos pins s σ H Q I h => ?_⟩, sem_dcons (sem2 os_addS a2 b2) hs2⟩
  rw [hst]
  show wpAny _ _ (spliced ((false, eval (.BinOp a .Add (.Constant (.str y) i c0) bp) X.env) :: backTo pos (starEach es X.env))) _ _ s
  refine Calls.spliced_cons (PySem.wpAny_BinOp (thn ((a1 X Wx g tk).run pins s σ H _ I h) fun v s1 ⟨x, H1, I1, r1, q1⟩ => Calls.Constant_str (wpAny_mono (PySem.wpAny_toks (op_add_str pins { s1 with toks := s1.toks + 1 } σ H1 x (.str y) v _ (fun x H1 => ts Wx σ H1 fun xs H2 => Q (x :: xs) H2) (I1.tok _) r1 ⟨_, rfl⟩ q1)) (fun u s2 q => ?_) fun _ _ z => z.2)))
  obtain ⟨ht, x, H1, I1, r1, q1⟩ := q
  exact thn (hs1 X Wx g tk pos pins s2 σ H1 _ (Nat.le_trans (by show 1 ≤ s1.toks + 1; omega) ht) I1 q1) fun us s2 ⟨xs, H2, I2, r2, q2⟩ => ⟨x :: xs, H2, I2, .cons r1 r2, q2⟩
theorem se_lstT (h : SDs S N sc kk es fs) : SE S N sc kk (.List es pos) (eLst fs) := se_lst h
end
end Ow
/-! Ow: how the terms compute -/
namespace Ow
open PySem PySem.Spec L2
section
variable {env : En} {M : Mem} {f f1 f2 f3 f4 : En → Mem → Res W} {fs : En → Mem → Res (List D)} {us : En → Mem → Res (List U)} {gb gb2 : En → Mem → Res Bool} {s1 s2 : En → Mem → Res Fl}
@[simp] theorem u_seq : sSeq s1 s2 env M = (s1 env M).bind fun fl e m => match fl with
  | .nx => s2 e m
  | fl => .ok fl e m := rfl
@[simp] theorem u_nop : sNop env M = .ok .nx env M := rfl
@[simp] theorem u_expr : sExpr f env M = (f env M).bind fun _ e m => .ok .nx e m := rfl
@[simp] theorem u_if : sIf gb s1 s2 env M = (gb env M).bind fun b e m => if b then s1 e m else s2 e m := rfl
@[simp] theorem u_set {i : Nat} : sSet i f env M = (f env M).bind fun w e m => (put i w e m).bind fun _ e m => .ok .nx e m := rfl
@[simp] theorem u_ret : sRet f env M = (f env M).bind give := rfl
@[simp] theorem u_retN : sRetN env M = .ok (.rt (.v .non)) env M := rfl
@[simp] theorem put_v {i : Nat} {d : D} : put i (.v d) env M = if i < env.length then .ok () (env.set i (.val d)) M else .no := rfl
@[simp] theorem put_o {i : Nat} {xs : List D} : put i (.o (.lst xs)) env M = if i < env.length then .ok () (env.set i (.own (.lst xs))) M else .no := rfl
@[simp] theorem put_t {i j : Nat} {xs : List D} : put i (.t j xs) env M = if i < env.length then .ok () (env.set i (.val (.tup xs))) M else .no := rfl
@[simp] theorem give_v {d : D} : give (.v d) env M = .ok (.rt (.v d)) env M := rfl
@[simp] theorem give_o {d : D} : give (.o d) env M = .ok (.rt (.o d)) env M := rfl
@[simp] theorem give_t {j : Nat} {xs : List D} : give (.t j xs) env M = .ok (.rt (.t j xs)) env M := rfl
theorem give_s {i : Nat} : give (.s i) env M = match env[i]? with
  | some (.own (.lst xs)) => .ok (.rt (.o (.lst xs))) (env.set i .un) M
  | some (.val d) => .ok (.rt (.v d)) env M
  | _ => .no := rfl
@[simp] theorem u_var {i : Nat} : eVar i env M = match env[i]? with
  | some (.val d) => .ok (.v d) env M
  | some (.own _) => .ok (.s i) env M
  | _ => .no := rfl
@[simp] theorem u_c {d : D} : eC d env M = .ok (.v d) env M := rfl
@[simp] theorem u_use : use f env M = (f env M).bind fun w e m => .ok w.use e m := rfl
@[simp] theorem u_esc : esc f env M = (f env M).bind kept := rfl
@[simp] theorem use_v {d : D} : (W.v d).use = .v d := rfl
@[simp] theorem use_s {i : Nat} : (W.s i).use = .s i := rfl
@[simp] theorem use_o {d : D} : (W.o d).use = .v d := rfl
@[simp] theorem use_t {j : Nat} {xs : List D} : (W.t j xs).use = .v (.tup xs) := rfl
@[simp] theorem get_v {d : D} {e : En} : (U.v d).get e = some d := rfl
@[simp] theorem get_s {i : Nat} {e : En} : (U.s i).get e = match e[i]? with
    | some (.val d) => some d
    | some (.own d) => some d
    | _ => none := rfl
@[simp] theorem kept_v {d : D} : kept (.v d) env M = .ok d env M := rfl
@[simp] theorem kept_o {d : D} : kept (.o d) env M = .ok d env M := rfl
@[simp] theorem kept_t {j : Nat} {xs : List D} : kept (.t j xs) env M = .ok (.tup xs) env M := rfl
@[simp] theorem kept_s {i : Nat} : kept (.s i) env M = match env[i]? with
    | some (.val d) => .ok d env M
    | some (.own (.lst xs)) => .ok (.lst xs) (env.set i (.val (.lst xs))) M
    | _ => .no := rfl
@[simp] theorem u_uNil : uNil env M = .ok [] env M := rfl
@[simp] theorem u_uCons : uCons f us env M = (f env M).bind fun w e m => (us e m).bind fun us e m => .ok (w.use :: us) e m := by
  show ((f env M).bind fun w e m => .ok w.use e m).bind _ = _
  cases f env M <;> rfl
@[simp] theorem u_dNil : dNil env M = .ok [] env M := rfl
@[simp] theorem u_dCons : dCons f fs env M = (f env M).bind fun w e m => (kept w e m).bind fun d e m => (fs e m).bind fun ds e m => .ok (d :: ds) e m := by
  show ((f env M).bind kept).bind _ = _
  cases f env M <;> rfl
@[simp] theorem u_e2 {g : G2} : e2 g f1 f2 env M = (f1 env M).bind fun w e m => (f2 e m).bind fun w' e' m' => match w.use.get e', w'.use.get e' with
  | some x, some y => (match g m' x y with
    | some w => .ok w e' m'
    | none => .no)
  | _, _ => .no := by
  show ((f1 env M).bind fun w e m => .ok w.use e m).bind _ = _
  cases h : f1 env M with
  | ok w e m =>
    show ((f2 e m).bind fun w e m => .ok w.use e m).bind _ = (f2 e m).bind _
    cases f2 e m <;> rfl
  | exc c d e m => rfl
  | no => rfl
@[simp] theorem u_asB : asB f env M = (f env M).bind fun w e m => match w.use.get e with
  | some (.bl b) => .ok b e m
  | _ => .no := by
  show ((f env M).bind fun w e m => .ok w.use e m).bind _ = _
  cases f env M <;> rfl
@[simp] theorem u_asT : asT f env M = (f env M).bind fun w e m => match (w.use.get e).bind fun d => truD (deref m d) with
  | some b => .ok b e m
  | none => .no := by
  show ((f env M).bind fun w e m => .ok w.use e m).bind _ = _
  cases f env M <;> rfl
@[simp] theorem u_bNot : bNot gb env M = (gb env M).bind fun b e m => .ok (!b) e m := rfl
@[simp] theorem u_bAnd : bAnd gb gb2 env M = (gb env M).bind fun b e m => if b then gb2 e m else .ok false e m := rfl
@[simp] theorem u_bOr : bOr gb gb2 env M = (gb env M).bind fun b e m => if b then .ok true e m else gb2 e m := rfl
@[simp] theorem u_eAnd : eAnd f f2 env M = (asB f env M).bind fun b e m => if b then f2 e m else .ok (.v (.bl false)) e m := rfl
@[simp] theorem u_eOr : eOr f f2 env M = (asB f env M).bind fun b e m => if b then .ok (.v (.bl true)) e m else f2 e m := rfl
@[simp] theorem u_eNot : eNot f env M = (asB f env M).bind fun b e m => .ok (.v (.bl (!b))) e m := rfl
@[simp] theorem u_eIf : eIf gb f1 f2 env M = (gb env M).bind fun b e m => if b then f1 e m else f2 e m := rfl
@[simp] theorem u_eNeg : eNeg f env M = (f env M).bind fun w e m => match w.use.get e with
  | some (.int i) => .ok (.v (.int (-i))) e m
  | _ => .no := by
  show ((f env M).bind fun w e m => .ok w.use e m).bind _ = _
  cases f env M <;> rfl
@[simp] theorem u_eLst : eLst fs env M = (fs env M).bind fun ds e m => if ds.length ≤ sizeLine then .ok (.o (.lst ds)) e m else .no := rfl
@[simp] theorem u_eTup : eTup fs env M = (fs env M).bind fun ds e m => if ds.length ≤ sizeLine then .ok (.v (.tup ds)) e m else .no := rfl
@[simp] theorem u_eCall {n : Nat} {F : Fn} : eCall n F fs env M = (fs env M).bind fun ds e m => if ds.length = n then out (F ds m) e else .no := rfl
@[simp] theorem u_eCallK {n k : Nat} {pi : List Nat} {F : Fn} : eCallK n k pi F fs env M = (fs env M).bind fun ds e m' => if ds.length = k ∧ (perm pi ds).length = n then out (F (perm pi ds) m') e else .no := rfl
@[simp] theorem out_ok {w : W} {m : Mem} {e : En} : out (.ok w m) e = .ok w e m := rfl
@[simp] theorem out_exc {c : Nat} {d : D} {m : Mem} {e : En} : out (.exc c d m) e = .exc c d e m := rfl
@[simp] theorem u_eBlt {g : GB} : eBlt g us env M = (us env M).bind fun us e m => match getU us e with
  | some ds => (match g m ds with
    | some w => .ok w e m
    | none => .no)
  | none => .no := rfl
@[simp] theorem getU_nil {e : En} : getU [] e = some [] := rfl
@[simp] theorem getU_cons {u : U} {us : List U} {e : En} : getU (u :: us) e = match u.get e, getU us e with
    | some d, some ds => some (d :: ds)
    | _, _ => none := rfl
@[simp] theorem u_eNew : eNew f env M = (f env M).bind fun w e m => match w with
  | .o (.lst xs) => .ok (.v (.ref m.length)) e (m ++ [.lst xs])
  | _ => .no := rfl
@[simp] theorem u_wNil : wNil env M = .ok [] env M := rfl
@[simp] theorem u_wCons {ws : En → Mem → Res (List W)} : wCons f ws env M = (f env M).bind fun w e m => (hold w e m).bind fun w e m => (ws e m).bind fun ws e m => .ok (w :: ws) e m := rfl
@[simp] theorem hold_v {d : D} : hold (.v d) env M = .ok (.v d) env M := rfl
@[simp] theorem hold_o {d : D} : hold (.o d) env M = .ok (.o d) env M := rfl
@[simp] theorem hold_t {j : Nat} {xs : List D} : hold (.t j xs) env M = .ok (.v (.tup xs)) env M := rfl
@[simp] theorem hold_s {i : Nat} : hold (.s i) env M = (kept (.s i) env M).bind fun d e m => .ok (.v d) e m := rfl
@[simp] theorem u_sPar {is : List Nat} {ws : En → Mem → Res (List W)} : sPar is ws env M = (ws env M).bind fun ws e m => match putAll is ws e with
  | some e => .ok .nx e m
  | none => .no := rfl
@[simp] theorem putAll_nil {e : En} : putAll [] [] e = some e := rfl
@[simp] theorem putAll_cons {i : Nat} {is : List Nat} {w : W} {ws : List W} {e : En} : putAll (i :: is) (w :: ws) e = (put1 i w e).bind fun e => putAll is ws e := rfl
@[simp] theorem put1_v {i : Nat} {d : D} {e : En} : put1 i (.v d) e = if i < e.length then some (e.set i (.val d)) else none := rfl
@[simp] theorem put1_o {i : Nat} {d : D} {e : En} : put1 i (.o d) e = if i < e.length then some (e.set i (.own d)) else none := rfl
@[simp] theorem u_sAsg {g : GT} : sAsg g f env M = (f env M).bind fun w e m => (kept w e m).bind fun d e m => match g d e with
  | some e' => .ok .nx e' m
  | none => .no := by
  show ((f env M).bind kept).bind _ = _
  cases f env M <;> rfl
@[simp] theorem u_tgN {i : Nat} {d : D} {e : En} : tgN i d e = if i < e.length then some (e.set i (.val d)) else none := rfl
@[simp] theorem u_tgNil {e : En} : tgNil [] e = some e := rfl
@[simp] theorem u_tgCons {g : GT} {gs : GTs} {d : D} {ds : List D} {e : En} : tgCons g gs (d :: ds) e = (g d e).bind fun e => gs ds e := rfl
@[simp] theorem u_tgT {n : Nat} {gs : GTs} {xs : List D} {e : En} : tgT n gs (.tup xs) e = if xs.length = n then gs xs e else none := rfl
@[simp] theorem u_eM1 {g : Mem → Str → D → Option W} : eM1 g f f2 env M = (f env M).bind fun w e m => match w.use with
  | .v (.str z) => (f2 e m).bind fun w2 e m => (match w2.use.get e with
    | some y => (match g m z y with
      | some w => .ok w e m
      | none => .no)
    | none => .no)
  | _ => .no := by
  show ((f env M).bind fun w e m => .ok w.use e m).bind _ = _
  cases h : f env M with
  | ok w e m =>
    show (match w.use with
      | .v (.str z) => ((f2 e m).bind fun w e m => .ok w.use e m).bind _
      | _ => .no) = _
    split
    · next z hz =>
      show _ = (match w.use with
        | .v (.str z) => (f2 e m).bind fun w2 e m => _
        | _ => .no)
      rw [hz]
      show ((f2 e m).bind fun w e m => .ok w.use e m).bind _ = (f2 e m).bind _
      cases f2 e m <;> rfl
    · next hz =>
      show Res.no = (match w.use with
        | .v (.str z) => (f2 e m).bind fun w2 e m => _
        | _ => .no)
      split
      · next z h2 => exact absurd h2 (hz z)
      · rfl
  | exc c d e m => rfl
  | no => rfl
@[simp] theorem u_pNo : pNo env M = .ok none env M := rfl
@[simp] theorem u_pInt : pInt f env M = (f env M).bind fun w e m => match w.use.get e with
  | some (.int i) => .ok (some i) e m
  | _ => .no := by
  show ((f env M).bind fun w e m => .ok w.use e m).bind _ = _
  cases f env M <;> rfl
@[simp] theorem u_eSlice {l h : En → Mem → Res (Option Int)} : eSlice f l h env M = (f env M).bind fun w e m => (l e m).bind fun lo e m => (h e m).bind fun hi e m => match (w.use.get e).bind fun d => gSlice (deref m d) lo hi with
  | some w => .ok w e m
  | none => .no := by
  show ((f env M).bind fun w e m => .ok w.use e m).bind _ = _
  cases f env M <;> rfl
@[simp] theorem u_iSeq : iSeq f env M = (f env M).bind fun w e m => (kept w e m).bind fun d e m => match srcA d m with
  | some s => .ok s e m
  | none => .no := by
  show ((f env M).bind kept).bind _ = _
  cases f env M <;> rfl
@[simp] theorem u_iR1 : iR1 us env M = (us env M).bind fun us e m => match us with
  | [u] => (match u.get e with
    | some (.int j) => if inR j then .ok ⟨rng 0 j.toNat, []⟩ e m else .no
    | _ => .no)
  | _ => .no := rfl
@[simp] theorem u_iR2 : iR2 us env M = (us env M).bind fun us e m => match us with
  | [u, u'] => (match u.get e, u'.get e with
    | some (.int i), some (.int j) => if inR i && inR j then .ok ⟨rng i (j - i).toNat, []⟩ e m else .no
    | _, _ => .no)
  | _ => .no := rfl
@[simp] theorem u_eMut {mu : Mu} : eMut mu f fs env M = (f env M).bind fun w e m => match tgtOf w.use e m with
  | some _ => (fs e m).bind fun ds e m => (match tgtOf w.use e m with
    | some t => (match mu t.xs ds with
      | some (xs', d) => .ok (.v d) (tputE t xs' e) (tputM t xs' m)
      | none => .no)
    | none => .no)
  | none => .no := by
  show ((f env M).bind fun w e m => .ok w.use e m).bind _ = _
  cases f env M <;> rfl
@[simp] theorem u_sPut : sPut f1 f2 f3 env M = (f3 env M).bind fun w e m => (kept w e m).bind fun d e m => (f1 e m).bind fun wo e m => (f2 e m).bind fun wi e m => match tgtOf wo.use e m, wi.use.get e with
  | some t, some (.int j) => (match ixN t.xs.length j with
    | some n => .ok .nx (tputE t (t.xs.set n d) e) (tputM t (t.xs.set n d) m)
    | none => .no)
  | _, _ => .no := by
  unfold sPut
  simp only [u_esc, u_use]
  cases f3 env M with
  | ok w e m =>
    show (kept w e m).bind _ = (kept w e m).bind _
    cases kept w e m with
    | ok d e m =>
      show ((f1 e m).bind fun w e m => .ok w.use e m).bind _ = (f1 e m).bind _
      cases f1 e m with
      | ok wo e m =>
        show ((f2 e m).bind fun w e m => .ok w.use e m).bind _ = (f2 e m).bind _
        cases f2 e m <;> rfl
      | exc => rfl
      | no => rfl
    | exc => rfl
    | no => rfl
  | exc => rfl
  | no => rfl
theorem Res.bind_assoc {α β γ : Type} (r : Res α) (k : α → En → Mem → Res β) (l : β → En → Mem → Res γ) : (r.bind k).bind l = r.bind fun a e m => (k a e m).bind l := by cases r <;> rfl
@[simp] theorem u_eChain {g g' : G2} : eChain g g' f1 f2 f3 env M = (f1 env M).bind fun w1 e m => (f2 e m).bind fun w2 e m => match w1.use.get e, w2.use.get e with
  | some x, some y => (match g m x y with
    | some (.v (.bl true)) => (f3 e m).bind fun w3 e m => (match w2.use.get e, w3.use.get e with
      | some y, some z => (match g' m y z with
        | some w => .ok w e m
        | none => .no)
      | _, _ => .no)
    | some (.v (.bl false)) => .ok (.v (.bl false)) e m
    | _ => .no)
  | _, _ => .no := by
  unfold eChain
  first
    | (simp only [u_use, Res.bind_assoc, Res.bind_ok]; done)
    | (simp only [u_use, Res.bind_assoc, Res.bind_ok]; rfl)
end
/-! the operations -/
section
variable {M : Mem} {i j : Int} {x y z : Str} {xs ys : List D} {d d' : D}
@[simp] theorem deref_int : deref M (.int i) = .int i := rfl
@[simp] theorem deref_str : deref M (.str x) = .str x := rfl
@[simp] theorem deref_lst : deref M (.lst xs) = .lst xs := rfl
@[simp] theorem deref_tup : deref M (.tup xs) = .tup xs := rfl
@[simp] theorem deref_non : deref M .non = .non := rfl
@[simp] theorem deref_bl {b : Bool} : deref M (.bl b) = .bl b := rfl
@[simp] theorem deref_scr {ns : List Int} : deref M (.scr ns) = .scr ns := rfl
theorem deref_ref {n : Nat} {xs : List D} (h : M[n]? = some (.lst xs)) : deref M (.ref n) = .lst xs := by
  unfold deref
  simp only [h]
@[simp] theorem o_lt : gLt M (.int i) (.int j) = some (.v (.bl (decide (i < j)))) := rfl
@[simp] theorem o_le : gLe M (.int i) (.int j) = some (.v (.bl (decide (i ≤ j)))) := rfl
@[simp] theorem o_gt : gGt M (.int i) (.int j) = some (.v (.bl (decide (j < i)))) := rfl
@[simp] theorem o_ge : gGe M (.int i) (.int j) = some (.v (.bl (decide (j ≤ i)))) := rfl
@[simp] theorem o_sub : gSub M (.int i) (.int j) = some (.v (.int (i - j))) := rfl
@[simp] theorem o_add : gAdd M (.int i) (.int j) = some (.v (.int (i + j))) := rfl
theorem o_mul (h : smul i j = true) : gMul M (.int i) (.int j) = some (.v (.int (i * j))) := by
  show (gI smul (fun i j => .int (i * j)) M (.int i) (.int j)).or _ = _
  unfold gI
  simp only [h, if_true, Option.some_or]
theorem o_div (h : cdiv i j = true) : gDiv M (.int i) (.int j) = some (.v (.int (i / j))) := by
  show (if cdiv i j then some (W.v (.int (i / j))) else none) = _
  rw [if_pos h]
theorem o_mod (h : 0 < j) : gMod M (.int i) (.int j) = some (.v (.int (i % j))) := by
  show (if cmod i j then some (W.v (.int (i % j))) else none) = _
  rw [if_pos (show cmod i j = true from decide_eq_true h)]
theorem o_pow (h : cpow i j = true) : gPow M (.int i) (.int j) = some (.v (.int (i ^ j.toNat))) := by
  show (if cpow i j then some (W.v (.int (i ^ j.toNat))) else none) = _
  rw [if_pos h]
theorem o_addS (h : x.length + y.length ≤ sizeLine) : gAdd M (.str x) (.str y) = some (.v (.str (x ++ y))) := by
  show (none.or ((if x.length + y.length ≤ sizeLine then some (W.v (.str (x ++ y))) else none).or _)) = _
  rw [if_pos h] <;> rfl
theorem o_addL (h : xs.length + ys.length ≤ sizeLine) : gAdd M (.lst xs) (.lst ys) = some (.o (.lst (xs ++ ys))) := by
  show (none.or (none.or (if xs.length + ys.length ≤ sizeLine then some (W.o (.lst (xs ++ ys))) else none))) = _
  rw [if_pos h] <;> rfl
@[simp] theorem deq_int : deq (.int i) (.int j) = some (decide (i = j)) := by
  show some (decide (V.int i = V.int j)) = _
  congr 1
  simp
@[simp] theorem deq_str : deq (.str x) (.str y) = some (decide (x = y)) := by
  show some (decide (V.str x = V.str y)) = _
  congr 1
  simp
@[simp] theorem o_eq : gEq M d d' = (deq (deref M d) (deref M d')).map fun b => W.v (.bl b) := rfl
@[simp] theorem o_ne : gNe M d d' = (deq (deref M d) (deref M d')).map fun b => W.v (.bl (!b)) := rfl
@[simp] theorem o_is : gIs M d .non = some (.v (.bl (isNon d))) := rfl
@[simp] theorem o_isnot : gIsNot M d .non = some (.v (.bl (!isNon d))) := rfl
@[simp] theorem frame_1 {a : D} : frame 1 [a] = [.val a] := rfl
theorem frame_eq {n : Nat} {ds : List D} : frame n ds = ds.map Sl.val ++ List.replicate (n - ds.length) .un := rfl
theorem fnOf_eq {n : Nat} {g : En → Mem → Res Fl} {ds : List D} : fnOf n g ds M = match g (frame n ds) M with
  | .ok fl _ m => (match fl with
    | .nx => .ok (.v .non) m
    | .rt (.s _) => .no
    | .rt w => .ok w m
    | _ => .no)
  | .exc c d _ m => .exc c d m
  | .no => .no := rfl
end
end Ow
/-! Ow: what a term gives, step by step -/
namespace Ow
open PySem PySem.Spec L2
/-- the result is well, by P; an exception by X -/
def Ev {α : Type} (r : Res α) (P : α → En → Mem → Prop) (X : Nat → D → En → Mem → Prop) : Prop := match r with
  | .ok a e m => P a e m
  | .exc c d e m => X c d e m
  | .no => False
def EvF (r : RF) (P : W → Mem → Prop) (X : Nat → D → Mem → Prop) : Prop := match r with
  | .ok w m => P w m
  | .exc c d m => X c d m
  | .no => False
abbrev X0 : Nat → D → En → Mem → Prop := fun _ _ _ _ => False
abbrev F0 : Nat → D → Mem → Prop := fun _ _ _ => False
theorem Ev.mono {α : Type} {r : Res α} {P P' : α → En → Mem → Prop} {X X' : Nat → D → En → Mem → Prop} (h : Ev r P X) (hp : ∀ a e m, P a e m → P' a e m) (hx : ∀ c d e m, X c d e m → X' c d e m) : Ev r P' X' := by
  cases r with
  | ok a e m => exact hp a e m h
  | exc c d e m => exact hx c d e m h
  | no => exact h
theorem EvF.mono {r : RF} {P P' : W → Mem → Prop} {X X' : Nat → D → Mem → Prop} (h : EvF r P X) (hp : ∀ a m, P a m → P' a m) (hx : ∀ c d m, X c d m → X' c d m) : EvF r P' X' := by
  cases r with
  | ok a m => exact hp a m h
  | exc c d m => exact hx c d m h
  | no => exact h
theorem EvF.imp {r : RF} {P P' : W → Mem → Prop} {X' : Nat → D → Mem → Prop} (h : EvF r P F0) (hp : ∀ a m, P a m → P' a m) : EvF r P' X' := h.mono hp fun _ _ _ z => z.elim
theorem EvF.get {r : RF} {P : W → Mem → Prop} (h : EvF r P F0) : ∃ w m, r = .ok w m ∧ P w m := by
  cases r with
  | ok w m => exact ⟨w, m, rfl, h⟩
  | exc c d m => exact h.elim
  | no => exact h.elim
theorem ev_bind {α β : Type} {r : Res α} {k : α → En → Mem → Res β} {P : β → En → Mem → Prop} {X : Nat → D → En → Mem → Prop} (h : Ev r (fun a e m => Ev (k a e m) P X) X) : Ev (r.bind k) P X := by
  cases r <;> exact h
section
variable {env : En} {M : Mem} {f f1 f2 f3 f4 : En → Mem → Res W} {fs : En → Mem → Res (List D)} {us : En → Mem → Res (List U)} {ws : En → Mem → Res (List W)} {gb gb2 : En → Mem → Res Bool} {s1 s2 : En → Mem → Res Fl} {X : Nat → D → En → Mem → Prop}
  {P : W → En → Mem → Prop} {PB : Bool → En → Mem → Prop} {PS : Fl → En → Mem → Prop} {PD : List D → En → Mem → Prop} {PU : List U → En → Mem → Prop} {PW : List W → En → Mem → Prop} {PI : Src → En → Mem → Prop}
theorem ev_seq (h : Ev (s1 env M) (fun fl e m => match fl with
  | .nx => Ev (s2 e m) PS X
  | fl => PS fl e m) X) : Ev (sSeq s1 s2 env M) PS X := ev_bind (h.mono (fun fl e m z => by cases fl <;> exact z) fun _ _ _ _ z => z)
theorem ev_nop (h : PS .nx env M) : Ev (sNop env M) PS X := h
theorem ev_expr (h : Ev (f env M) (fun _ e m => PS .nx e m) X) : Ev (sExpr f env M) PS X := ev_bind h
theorem ev_if (h : Ev (gb env M) (fun b e m => (b = true → Ev (s1 e m) PS X) ∧ (b = false → Ev (s2 e m) PS X)) X) : Ev (sIf gb s1 s2 env M) PS X := ev_bind (h.mono (fun b e m z => by cases b; exact z.2 rfl; exact z.1 rfl) fun _ _ _ _ z => z)
theorem ev_setv {i : Nat} (h : Ev (f env M) (fun w e m => ∃ e', put i w e m = .ok () e' m ∧ PS .nx e' m) X) : Ev (sSet i f env M) PS X := ev_bind (h.mono (fun w e m ⟨e', z1, z2⟩ => by
  show Ev ((put i w e m).bind fun _ e m => .ok .nx e m) PS X
  rw [z1]; exact z2) fun _ _ _ _ z => z)
theorem ev_ret (h : Ev (f env M) (fun w e m => ∃ w' e', give w e m = .ok (.rt w') e' m ∧ PS (.rt w') e' m) X) : Ev (sRet f env M) PS X := ev_bind (h.mono (fun w e m ⟨w', e', z1, z2⟩ => by rw [z1]; exact z2) fun _ _ _ _ z => z)
theorem ev_retN (h : PS (.rt (.v .non)) env M) : Ev (sRetN env M) PS X := h
theorem ev_raise {c : Nat} (h : Ev (f env M) (fun w e m => ∃ d e', kept w e m = .ok d e' m ∧ X c d e' m) X) : Ev (sRaise c f env M) PS X := by
  show Ev (((f env M).bind kept).bind fun d e m => Res.exc c d e m) PS X
  exact ev_bind (ev_bind (h.mono (fun w e m ⟨d, e', z1, z2⟩ => by rw [z1]; exact z2) fun _ _ _ _ z => z))
theorem ev_var {i : Nat} {d : D} (h : env[i]? = some (.val d)) (p : P (.v d) env M) : Ev (eVar i env M) P X := by
  show Ev (match env[i]? with
    | some (.val d) => Res.ok (W.v d) env M
    | some (.own _) => .ok (.s i) env M
    | _ => .no) P X
  rw [h]; exact p
theorem ev_own {i : Nat} {d : D} (h : env[i]? = some (.own d)) (p : P (.s i) env M) : Ev (eVar i env M) P X := by
  show Ev (match env[i]? with
    | some (.val d) => Res.ok (W.v d) env M
    | some (.own _) => .ok (.s i) env M
    | _ => .no) P X
  rw [h]; exact p
theorem ev_c {d : D} (p : P (.v d) env M) : Ev (eC d env M) P X := p
theorem ev_e2 {g : G2} (h : Ev (f1 env M) (fun w e m => Ev (f2 e m) (fun w' e' m' => ∃ x y w2, w.use.get e' = some x ∧ w'.use.get e' = some y ∧ g m' x y = some w2 ∧ P w2 e' m') X) X) : Ev (e2 g f1 f2 env M) P X := by
  rw [u_e2]
  exact ev_bind (h.mono (fun w e m z => ev_bind (z.mono (fun w' e' m' ⟨x, y, w2, h1, h2, h3, p⟩ => by simp only [h1, h2, h3]; exact p) fun _ _ _ _ z => z)) fun _ _ _ _ z => z)
theorem ev_asB (h : Ev (f env M) (fun w e m => ∃ b, w.use.get e = some (.bl b) ∧ PB b e m) X) : Ev (asB f env M) PB X := by
  rw [u_asB]
  exact ev_bind (h.mono (fun w e m ⟨b, h1, p⟩ => by simp only [h1]; exact p) fun _ _ _ _ z => z)
theorem ev_asT (h : Ev (f env M) (fun w e m => ∃ d b, w.use.get e = some d ∧ truD (deref m d) = some b ∧ PB b e m) X) : Ev (asT f env M) PB X := by
  rw [u_asT]
  exact ev_bind (h.mono (fun w e m ⟨d, b, h1, h2, p⟩ => by simp only [h1, Option.bind_some, h2]; exact p) fun _ _ _ _ z => z)
theorem ev_not (h : Ev (gb env M) (fun b e m => PB (!b) e m) X) : Ev (bNot gb env M) PB X := ev_bind h
theorem ev_and (h : Ev (gb env M) (fun b e m => (b = true → Ev (gb2 e m) PB X) ∧ (b = false → PB false e m)) X) : Ev (bAnd gb gb2 env M) PB X := ev_bind (h.mono (fun b e m z => by cases b; exact z.2 rfl; exact z.1 rfl) fun _ _ _ _ z => z)
theorem ev_or (h : Ev (gb env M) (fun b e m => (b = true → PB true e m) ∧ (b = false → Ev (gb2 e m) PB X)) X) : Ev (bOr gb gb2 env M) PB X := ev_bind (h.mono (fun b e m z => by cases b; exact z.2 rfl; exact z.1 rfl) fun _ _ _ _ z => z)
theorem ev_eAnd (h : Ev (asB f env M) (fun b e m => (b = true → Ev (f2 e m) P X) ∧ (b = false → P (.v (.bl false)) e m)) X) : Ev (eAnd f f2 env M) P X := ev_bind (h.mono (fun b e m z => by cases b; exact z.2 rfl; exact z.1 rfl) fun _ _ _ _ z => z)
theorem ev_eOr (h : Ev (asB f env M) (fun b e m => (b = true → P (.v (.bl true)) e m) ∧ (b = false → Ev (f2 e m) P X)) X) : Ev (eOr f f2 env M) P X := ev_bind (h.mono (fun b e m z => by cases b; exact z.2 rfl; exact z.1 rfl) fun _ _ _ _ z => z)
theorem ev_eNot (h : Ev (asB f env M) (fun b e m => P (.v (.bl (!b))) e m) X) : Ev (eNot f env M) P X := ev_bind h
theorem ev_eIf (h : Ev (gb env M) (fun b e m => (b = true → Ev (f1 e m) P X) ∧ (b = false → Ev (f2 e m) P X)) X) : Ev (eIf gb f1 f2 env M) P X := ev_bind (h.mono (fun b e m z => by cases b; exact z.2 rfl; exact z.1 rfl) fun _ _ _ _ z => z)
theorem ev_neg (h : Ev (f env M) (fun w e m => ∃ i, w.use.get e = some (.int i) ∧ P (.v (.int (-i))) e m) X) : Ev (eNeg f env M) P X := by
  rw [u_eNeg]
  exact ev_bind (h.mono (fun w e m ⟨i, h1, p⟩ => by simp only [h1]; exact p) fun _ _ _ _ z => z)
theorem ev_lst (h : Ev (fs env M) (fun ds e m => ds.length ≤ sizeLine ∧ P (.o (.lst ds)) e m) X) : Ev (eLst fs env M) P X := ev_bind (h.mono (fun ds e m z => by
  show Ev (if ds.length ≤ sizeLine then Res.ok (W.o (.lst ds)) e m else .no) P X
  rw [if_pos z.1]; exact z.2) fun _ _ _ _ z => z)
theorem ev_tup (h : Ev (fs env M) (fun ds e m => ds.length ≤ sizeLine ∧ P (.v (.tup ds)) e m) X) : Ev (eTup fs env M) P X := ev_bind (h.mono (fun ds e m z => by
  show Ev (if ds.length ≤ sizeLine then Res.ok (W.v (.tup ds)) e m else .no) P X
  rw [if_pos z.1]; exact z.2) fun _ _ _ _ z => z)
theorem ev_dNil (p : PD [] env M) : Ev (dNil env M) PD X := p
theorem ev_dCons (h : Ev (f env M) (fun w e m => ∃ d e', kept w e m = .ok d e' m ∧ Ev (fs e' m) (fun ds e m => PD (d :: ds) e m) X) X) : Ev (dCons f fs env M) PD X := by
  rw [u_dCons]
  exact ev_bind (h.mono (fun w e m ⟨d, e', z1, z2⟩ => by rw [z1]; exact ev_bind (show Ev (Res.ok _ _ _) _ _ from ev_bind z2)) fun _ _ _ _ z => z)
theorem ev_uNil (p : PU [] env M) : Ev (uNil env M) PU X := p
theorem ev_uCons (h : Ev (f env M) (fun w e m => Ev (us e m) (fun us e m => PU (w.use :: us) e m) X) X) : Ev (uCons f us env M) PU X := by
  rw [u_uCons]
  exact ev_bind (h.mono (fun w e m z => ev_bind z) fun _ _ _ _ z => z)
theorem ev_blt {g : GB} (h : Ev (us env M) (fun us e m => ∃ ds w, getU us e = some ds ∧ g m ds = some w ∧ P w e m) X) : Ev (eBlt g us env M) P X := ev_bind (h.mono (fun us e m ⟨ds, w, h1, h2, p⟩ => by simp only [h1, h2]; exact p) fun _ _ _ _ z => z)
theorem ev_call {n : Nat} {F : Fn} (h : Ev (fs env M) (fun ds e m => ds.length = n ∧ EvF (F ds m) (fun w m => P w e m) (fun c d m => X c d e m)) X) : Ev (eCall n F fs env M) P X := ev_bind (h.mono (fun ds e m ⟨h1, h2⟩ => by
  show Ev (if ds.length = n then out (F ds m) e else .no) P X
  rw [if_pos h1]
  cases q : F ds m <;> rw [q] at h2 <;> exact h2) fun _ _ _ _ z => z)
theorem ev_callK {n k : Nat} {pi : List Nat} {F : Fn} (h : Ev (fs env M) (fun ds e m => (ds.length = k ∧ (perm pi ds).length = n) ∧ EvF (F (perm pi ds) m) (fun w m => P w e m) (fun c d m => X c d e m)) X) : Ev (eCallK n k pi F fs env M) P X := ev_bind (h.mono (fun ds e m ⟨h1, h2⟩ => by
  show Ev (if ds.length = k ∧ (perm pi ds).length = n then out (F (perm pi ds) m) e else .no) P X
  rw [if_pos h1]
  cases q : F (perm pi ds) m <;> rw [q] at h2 <;> exact h2) fun _ _ _ _ z => z)
theorem ev_new (h : Ev (f env M) (fun w e m => ∃ xs, w = .o (.lst xs) ∧ P (.v (.ref m.length)) e (m ++ [.lst xs])) X) : Ev (eNew f env M) P X := ev_bind (h.mono (fun w e m ⟨xs, h1, p⟩ => by subst h1; exact p) fun _ _ _ _ z => z)
theorem ev_wNil (p : PW [] env M) : Ev (wNil env M) PW X := p
theorem ev_wCons (h : Ev (f env M) (fun w e m => ∃ w' e', hold w e m = .ok w' e' m ∧ Ev (ws e' m) (fun ws e m => PW (w' :: ws) e m) X) X) : Ev (wCons f ws env M) PW X := ev_bind (h.mono (fun w e m ⟨w', e', z1, z2⟩ => by
  show Ev ((hold w e m).bind fun w e m => (ws e m).bind fun ws e m => .ok (w :: ws) e m) PW X
  rw [z1]; exact ev_bind (show Ev (Res.ok _ _ _) _ _ from ev_bind z2)) fun _ _ _ _ z => z)
theorem ev_par {is : List Nat} (h : Ev (ws env M) (fun ws e m => ∃ e', putAll is ws e = some e' ∧ PS .nx e' m) X) : Ev (sPar is ws env M) PS X := ev_bind (h.mono (fun ws e m ⟨e', h1, p⟩ => by simp only [h1]; exact p) fun _ _ _ _ z => z)
theorem ev_asg {g : GT} (h : Ev (f env M) (fun w e m => ∃ d e1 e2, kept w e m = .ok d e1 m ∧ g d e1 = some e2 ∧ PS .nx e2 m) X) : Ev (sAsg g f env M) PS X := by
  rw [u_sAsg]
  exact ev_bind (h.mono (fun w e m ⟨d, e1, e2, h1, h2, p⟩ => by rw [h1]; simp only [Res.bind_ok, h2]; exact p) fun _ _ _ _ z => z)
theorem ev_m1 {g : Mem → Str → D → Option W} (h : Ev (f env M) (fun w e m => ∃ z, w.use = .v (.str z) ∧ Ev (f2 e m) (fun w2 e m => ∃ y w3, w2.use.get e = some y ∧ g m z y = some w3 ∧ P w3 e m) X) X) : Ev (eM1 g f f2 env M) P X := by
  rw [u_eM1]
  exact ev_bind (h.mono (fun w e m ⟨z, h1, h2⟩ => by
    simp only [h1]
    exact ev_bind (h2.mono (fun w2 e m ⟨y, w3, k1, k2, p⟩ => by simp only [k1, k2]; exact p) fun _ _ _ _ z => z)) fun _ _ _ _ z => z)
theorem ev_m0 {g : Str → Option W} (h : Ev (f env M) (fun w e m => ∃ z w3, w.use = .v (.str z) ∧ g z = some w3 ∧ P w3 e m) X) : Ev (eM0 g f env M) P X := by
  show Ev (((f env M).bind fun w e m => .ok w.use e m).bind fun u e m => match u with
    | .v (.str z) => (match g z with
      | some w => .ok w e m
      | none => .no)
    | _ => .no) P X
  exact ev_bind (ev_bind (h.mono (fun w e m ⟨z, w3, h1, h2, p⟩ => by simp only [h1, Ev, h2]; exact p) fun _ _ _ _ z => z))
theorem ev_repl {y z : Str} (h : Ev (f env M) (fun w e m => ∃ x, w.use = .v (.str x) ∧ x.length + (x.length + 1) * z.length ≤ 16777216 ∧ P (.v (.str (Txt.replace x y z))) e m) X) : Ev (eRepl y z f env M) P X := by
  show Ev (((f env M).bind fun w e m => .ok w.use e m).bind fun u e m => match u with
    | .v (.str x) => if x.length + (x.length + 1) * z.length ≤ 16777216 then .ok (.v (.str (Txt.replace x y z))) e m else .no
    | _ => .no) P X
  exact ev_bind (ev_bind (h.mono (fun w e m ⟨x, h1, h2, p⟩ => by simp only [h1, Ev, if_pos h2]; exact p) fun _ _ _ _ z => z))
theorem ev_pNo {PO : Option Int → En → Mem → Prop} (p : PO none env M) : Ev (pNo env M) PO X := p
theorem ev_pInt {PO : Option Int → En → Mem → Prop} (h : Ev (f env M) (fun w e m => ∃ i, w.use.get e = some (.int i) ∧ PO (some i) e m) X) : Ev (pInt f env M) PO X := by
  rw [u_pInt]
  exact ev_bind (h.mono (fun w e m ⟨i, h1, p⟩ => by simp only [h1]; exact p) fun _ _ _ _ z => z)
theorem ev_slice {l r : En → Mem → Res (Option Int)} (h : Ev (f env M) (fun w e m => Ev (l e m) (fun lo e m => Ev (r e m) (fun hi e m => ∃ d w2, w.use.get e = some d ∧ gSlice (deref m d) lo hi = some w2 ∧ P w2 e m) X) X) X) : Ev (eSlice f l r env M) P X := by
  rw [u_eSlice]
  exact ev_bind (h.mono (fun w e m z => ev_bind (z.mono (fun lo e m z => ev_bind (z.mono (fun hi e m ⟨d, w2, h1, h2, p⟩ => by simp only [h1, Option.bind_some, h2]; exact p) fun _ _ _ _ z => z)) fun _ _ _ _ z => z)) fun _ _ _ _ z => z)
theorem ev_iSeq (h : Ev (f env M) (fun w e m => ∃ d e' s, kept w e m = .ok d e' m ∧ srcA d m = some s ∧ PI s e' m) X) : Ev (iSeq f env M) PI X := by
  rw [u_iSeq]
  exact ev_bind (h.mono (fun w e m ⟨d, e', s, h1, h2, p⟩ => by rw [h1]; simp only [Res.bind_ok, h2]; exact p) fun _ _ _ _ z => z)
theorem ev_iR1 (h : Ev (us env M) (fun us e m => ∃ j : Int, getU us e = some [.int j] ∧ inR j = true ∧ PI ⟨rng 0 j.toNat, []⟩ e m) X) : Ev (iR1 us env M) PI X := ev_bind (h.mono (fun us e m ⟨j, h1, h2, p⟩ => by
  match us, h1 with
  | [u], h1 =>
    have : u.get e = some (.int j) := by
      rw [getU_cons] at h1
      cases q : u.get e with
      | none => rw [q] at h1; cases h1
      | some d => rw [q] at h1; cases h1; rfl
    simp only [this, h2]; exact p
  | u :: u' :: r, h1 =>
    rw [getU_cons, getU_cons] at h1
    split at h1
    · next d ds q1 q2 =>
      split at q2
      · cases q2; cases h1
      · cases q2
    · cases h1) fun _ _ _ _ z => z)
theorem ev_iR2 (h : Ev (us env M) (fun us e m => ∃ (u u' : U) (i j : Int), us = [u, u'] ∧ u.get e = some (.int i) ∧ u'.get e = some (.int j) ∧ (inR i && inR j) = true ∧ PI ⟨rng i (j - i).toNat, []⟩ e m) X) : Ev (iR2 us env M) PI X := ev_bind (h.mono (fun us e m ⟨u, u', i, j, h1, h2, h3, h4, p⟩ => by
  subst h1
  simp only [h2, h3, h4]; exact p) fun _ _ _ _ z => z)
theorem ev_mut {mu : Mu} (h : Ev (f env M) (fun w e m => (tgtOf w.use e m).isSome = true ∧ Ev (fs e m) (fun ds e m => ∃ t xs' d, tgtOf w.use e m = some t ∧ mu t.xs ds = some (xs', d) ∧ P (.v d) (tputE t xs' e) (tputM t xs' m)) X) X) : Ev (eMut mu f fs env M) P X := by
  rw [u_eMut]
  exact ev_bind (h.mono (fun w e m ⟨h1, z⟩ => by
    obtain ⟨t0, h0⟩ := Option.isSome_iff_exists.mp h1
    simp only [h0]
    exact ev_bind (z.mono (fun ds e m ⟨t, xs', d, k1, k2, p⟩ => by simp only [k1, k2]; exact p) fun _ _ _ _ z => z)) fun _ _ _ _ z => z)
theorem ev_put (h : Ev (f3 env M) (fun w e m => ∃ d e', kept w e m = .ok d e' m ∧ Ev (f1 e' m) (fun wo e m => Ev (f2 e m) (fun wi e m => ∃ t j n, tgtOf wo.use e m = some t ∧ wi.use.get e = some (.int j) ∧ ixN t.xs.length j = some n ∧ PS .nx (tputE t (t.xs.set n d) e) (tputM t (t.xs.set n d) m)) X) X) X) : Ev (sPut f1 f2 f3 env M) PS X := by
  rw [u_sPut]
  exact ev_bind (h.mono (fun w e m ⟨d, e', h1, z⟩ => by
    rw [h1, Res.bind_ok]
    exact ev_bind (z.mono (fun wo e m z => ev_bind (z.mono (fun wi e m ⟨t, j, n, k1, k2, k3, p⟩ => by simp only [k1, k2, k3]; exact p) fun _ _ _ _ z => z)) fun _ _ _ _ z => z)) fun _ _ _ _ z => z)
theorem ev_chain {g g' : G2} (h : Ev (f1 env M) (fun w1 e m => Ev (f2 e m) (fun w2 e m => ∃ x y b, w1.use.get e = some x ∧ w2.use.get e = some y ∧ g m x y = some (.v (.bl b)) ∧ (b = true → Ev (f3 e m) (fun w3 e m => ∃ y z w, w2.use.get e = some y ∧ w3.use.get e = some z ∧ g' m y z = some w ∧ P w e m) X) ∧ (b = false → P (.v (.bl false)) e m)) X) X) : Ev (eChain g g' f1 f2 f3 env M) P X := by
  rw [u_eChain]
  exact ev_bind (h.mono (fun w1 e m z => ev_bind (z.mono (fun w2 e m ⟨x, y, b, h1, h2, h3, h4, h5⟩ => by
    simp only [h1, h2, h3]
    cases b with
    | true => exact ev_bind ((h4 rfl).mono (fun w3 e m ⟨y, z, w, k1, k2, k3, p⟩ => by simp only [k1, k2, k3]; exact p) fun _ _ _ _ z => z)
    | false => exact h5 rfl) fun _ _ _ _ z => z)) fun _ _ _ _ z => z)
/-- a def -/
theorem evf {n : Nat} {g : En → Mem → Res Fl} {ds : List D} {Q : W → Mem → Prop} {Y : Nat → D → Mem → Prop} (h : Ev (g (frame n ds) M) (fun fl _ m => match fl with
  | .nx => Q (.v .non) m
  | .rt (.s _) => False
  | .rt w => Q w m
  | _ => False) (fun c d _ m => Y c d m)) : EvF (fnOf n g ds M) Q Y := by
  rw [fnOf_eq]
  cases q : g (frame n ds) M with
  | ok fl e m =>
    rw [q] at h
    cases fl with
    | nx => exact h
    | bk => exact h
    | ct => exact h
    | rt w => cases w <;> exact h
  | exc c d e m => rw [q] at h; exact h
  | no => rw [q] at h; exact h
end
theorem tgt_ref {n : Nat} {xs : List D} {e : En} {m : Mem} (h : m[n]? = some (.lst xs)) : tgtOf (.v (.ref n)) e m = some (.mem n xs) := by
  show memL n m = _
  unfold memL
  rw [h]
theorem tgt_own {i : Nat} {xs : List D} {e : En} {m : Mem} (h : e[i]? = some (.own (.lst xs))) : tgtOf (.s i) e m = some (.own i xs) := by
  unfold tgtOf
  simp only [h]
theorem ix_ref {n : Nat} {xs : List D} {m : Mem} {i : Int} {d : D} (h : m[n]? = some (.lst xs)) (h2 : atI xs i = some d) : gIx m (.ref n) (.int i) = some (.v d) := by
  unfold gIx
  rw [deref_ref h]
  simp only [h2]
  rfl
/-! ### loops, comprehensions -/
theorem memOk_nil {m : Mem} : memOk m [] := fun p hp => by cases hp
theorem ev_forD {g : GT} {b : En → Mem → Res Fl} {mems : List (Nat × List D)} {items : List D} {PS : Fl → En → Mem → Prop} {X : Nat → D → En → Mem → Prop} (I : Nat → En → Mem → Prop)
    (step : ∀ j x e m, items[j]? = some x → I j e m → memOk m mems ∧ ∃ e', g x e = some e' ∧ Ev (b e' m) (fun fl e m => match fl with
      | .nx => I (j + 1) e m
      | .ct => I (j + 1) e m
      | .bk => PS .nx e m
      | .rt w => PS (.rt w) e m) X) (fin : ∀ e m, I items.length e m → memOk m mems ∧ PS .nx e m) :
    ∀ (n j : Nat) (e : En) (m : Mem), items.length = j + n → I j e m → Ev (forD g b mems (items.drop j) e m) PS X
  | 0, j, e, m, hn, hI => by
    have hj : j = items.length := by omega
    subst hj
    obtain ⟨h1, h2⟩ := fin e m hI
    rw [List.drop_length]
    simp only [forD, if_pos h1]
    exact h2
  | n + 1, j, e, m, hn, hI => by
    have hlt : j < items.length := by omega
    obtain ⟨h1, e', h2, h3⟩ := step j items[j] e m (List.getElem?_eq_getElem hlt) hI
    rw [List.drop_eq_getElem_cons hlt]
    simp only [forD, if_pos h1, h2]
    refine ev_bind (h3.mono (fun fl e m z => ?_) fun _ _ _ _ z => z)
    cases fl with
    | nx => exact ev_forD I step fin n (j + 1) e m (by omega) z
    | ct => exact ev_forD I step fin n (j + 1) e m (by omega) z
    | bk => exact z
    | rt w => exact z
theorem ev_for {i : En → Mem → Res Src} {g : GT} {b : En → Mem → Res Fl} {env : En} {M : Mem} {PS : Fl → En → Mem → Prop} {X : Nat → D → En → Mem → Prop}
    (h : Ev (i env M) (fun s e m => ∃ I : Nat → En → Mem → Prop, I 0 e m ∧ (∀ j x e m, s.items[j]? = some x → I j e m → memOk m s.mems ∧ ∃ e', g x e = some e' ∧ Ev (b e' m) (fun fl e m => match fl with
      | .nx => I (j + 1) e m
      | .ct => I (j + 1) e m
      | .bk => PS .nx e m
      | .rt w => PS (.rt w) e m) X) ∧ ∀ e m, I s.items.length e m → memOk m s.mems ∧ PS .nx e m) X) : Ev (sFor i g b env M) PS X :=
  ev_bind (h.mono (fun s e m ⟨I, h0, h1, h2⟩ => by
    have := ev_forD I h1 h2 s.items.length 0 e m (by omega) h0
    rw [List.drop_zero] at this
    exact this) fun _ _ _ _ z => z)
theorem noX_ev {α : Type} {r : Res α} {P : α → En → Mem → Prop} {X : Nat → D → En → Mem → Prop} (h : Ev r P X0) : Ev (noX r) P X := by
  cases r with
  | ok a e m => exact h
  | exc c d e m => exact h.elim
  | no => exact h
theorem clr_clr : ∀ (vs : List Nat) (e : En), (clr vs e).length = e.length := clr_len
theorem ev_compD {vs : List Nat} {g : GT} {t : En → Mem → Res Bool} {f : En → Mem → Res W} {mems : List (Nat × List D)} {items : List D} {e0 : En} {Q : List D → En → Mem → Prop} {X : Nat → D → En → Mem → Prop} (I : Nat → List D → Mem → Prop)
    (step : ∀ j acc m x, items[j]? = some x → I j acc m → memOk m mems ∧ ∃ e', g x e0 = some e' ∧ Ev (t e' m) (fun b e1 m1 => (b = true → Ev (f e1 m1) (fun w e2 m2 => ∃ d e3, kept w e2 m2 = .ok d e3 m2 ∧ acc.length < sizeLine ∧ clr vs e3 = e0 ∧ I (j + 1) (acc ++ [d]) m2) X0) ∧ (b = false → clr vs e1 = e0 ∧ I (j + 1) acc m1)) X0)
    (fin : ∀ acc m, I items.length acc m → memOk m mems ∧ Q acc e0 m) :
    ∀ (n j : Nat) (acc : List D) (m : Mem), items.length = j + n → I j acc m → Ev (compD vs g t f mems (items.drop j) acc e0 m) Q X
  | 0, j, acc, m, hn, hI => by
    have hj : j = items.length := by omega
    subst hj
    obtain ⟨h1, h2⟩ := fin acc m hI
    rw [List.drop_length]
    simp only [compD, if_pos h1]
    exact h2
  | n + 1, j, acc, m, hn, hI => by
    have hlt : j < items.length := by omega
    obtain ⟨h1, e', h2, h3⟩ := step j acc m items[j] (List.getElem?_eq_getElem hlt) hI
    rw [List.drop_eq_getElem_cons hlt]
    simp only [compD, if_pos h1, h2]
    refine ev_bind (noX_ev (h3.mono (fun b e1 m1 z => ?_) fun _ _ _ _ z => z))
    cases b with
    | true =>
      rw [if_pos rfl]
      refine ev_bind (noX_ev ?_)
      rw [u_esc]
      refine ev_bind ((z.1 rfl).mono (fun w e2 m2 ⟨d, e3, k1, k2, k3, k4⟩ => ?_) fun _ _ _ _ z => z)
      rw [k1]
      show Ev (if acc.length < sizeLine then compD vs g t f mems (items.drop (j + 1)) (acc ++ [d]) (clr vs e3) m2 else .no) Q X
      rw [if_pos k2, k3]
      exact ev_compD I step fin n (j + 1) (acc ++ [d]) m2 (by omega) k4
    | false =>
      rw [if_neg Bool.false_ne_true]
      obtain ⟨k3, k4⟩ := z.2 rfl
      rw [k3]
      exact ev_compD I step fin n (j + 1) acc m1 (by omega) k4
theorem ev_comp {vs : List Nat} {i : En → Mem → Res Src} {g : GT} {t : En → Mem → Res Bool} {f : En → Mem → Res W} {env : En} {M : Mem} {P : W → En → Mem → Prop} {X : Nat → D → En → Mem → Prop}
    (h : Ev (i env M) (fun s e m => noOwn e vs = true ∧ ∃ I : Nat → List D → Mem → Prop, I 0 [] m ∧
      (∀ j acc m x, s.items[j]? = some x → I j acc m → memOk m s.mems ∧ ∃ e', g x (clr vs e) = some e' ∧ Ev (t e' m) (fun b e1 m1 => (b = true → Ev (f e1 m1) (fun w e2 m2 => ∃ d e3, kept w e2 m2 = .ok d e3 m2 ∧ acc.length < sizeLine ∧ clr vs e3 = clr vs e ∧ I (j + 1) (acc ++ [d]) m2) X0) ∧ (b = false → clr vs e1 = clr vs e ∧ I (j + 1) acc m1)) X0) ∧
      ∀ acc m, I s.items.length acc m → memOk m s.mems ∧ P (.o (.lst acc)) (rst e vs (clr vs e)) m) X) : Ev (eComp vs i g t f env M) P X :=
  ev_bind (h.mono (fun s e m ⟨h0, I, h1, h2, h3⟩ => by
    show Ev (if noOwn e vs = true then compF e vs (compD vs g t f s.mems s.items [] (clr vs e) m) else .no) P X
    rw [if_pos h0]
    have z := ev_compD (X := X0) (Q := fun acc e' m => e' = clr vs e ∧ P (.o (.lst acc)) (rst e vs (clr vs e)) m) I h2 (fun acc m hI => ⟨(h3 acc m hI).1, rfl, (h3 acc m hI).2⟩) s.items.length 0 [] m (by omega) h1
    rw [List.drop_zero] at z
    cases q : compD vs g t f s.mems s.items [] (clr vs e) m with
    | ok acc e' m' =>
      rw [q] at z
      obtain ⟨z1, z2⟩ := z
      subst z1
      show Ev (if e.length = (clr vs e).length then Res.ok (W.o (.lst acc)) (rst e vs (clr vs e)) m' else .no) P X
      rw [if_pos (clr_len vs e).symm]
      exact z2
    | exc c d e' m' => rw [q] at z; exact z.elim
    | no => rw [q] at z; exact z.elim) fun _ _ _ _ z => z)
/-- each item by itself, nothing left out, the memory as it was -/
theorem ev_map {vs : List Nat} {i : En → Mem → Res Src} {g : GT} {f : En → Mem → Res W} {env : En} {M : Mem} {P : W → En → Mem → Prop} {X : Nat → D → En → Mem → Prop} (hm : D → D)
    (h : Ev (i env M) (fun s e m => noOwn e vs = true ∧ memOk m s.mems ∧ s.items.length ≤ sizeLine ∧ (∀ x ∈ s.items, ∃ e', g x (clr vs e) = some e' ∧ Ev (f e' m) (fun w e2 m2 => m2 = m ∧ ∃ e3, kept w e2 m = .ok (hm x) e3 m ∧ clr vs e3 = clr vs e) X0) ∧ P (.o (.lst (s.items.map hm))) (rst e vs (clr vs e)) m) X) : Ev (eComp vs i g bYes f env M) P X := by
  refine ev_comp (h.mono (fun s e m ⟨h0, h1, h2, h3, h4⟩ => ⟨h0, fun j acc m' => m' = m ∧ acc = (s.items.take j).map hm, ⟨rfl, rfl⟩, fun j acc m' x hx ⟨e1, ea⟩ => ?_, fun acc m' ⟨e1, e2⟩ => ?_⟩) fun _ _ _ _ z => z)
  · subst e1
    obtain ⟨hj, hx'⟩ := List.getElem?_eq_some_iff.mp hx
    obtain ⟨e', k1, k2⟩ := h3 x (List.mem_of_getElem? hx)
    refine ⟨h1, e', k1, ⟨fun _ => k2.mono (fun w e2 m2 ⟨q1, e3, q2, q3⟩ => ?_) fun _ _ _ _ z => z, fun z => by cases z⟩⟩
    subst q1
    refine ⟨hm x, e3, q2, ?_, q3, rfl, ?_⟩
    · rw [ea, List.length_map, List.length_take]; omega
    · rw [ea, List.take_succ, hx, List.map_append]; rfl
  · subst e1
    rw [List.take_length] at e2
    subst e2
    exact ⟨h1, h4⟩
end Ow
namespace Ow
open PySem PySem.Spec L2
/-- some of the items, by a test -/
theorem ev_filter {vs : List Nat} {i : En → Mem → Res Src} {g : GT} {t : En → Mem → Res Bool} {f : En → Mem → Res W} {env : En} {M : Mem} {P : W → En → Mem → Prop} {X : Nat → D → En → Mem → Prop} (hb : D → Bool) (hm : D → D)
    (h : Ev (i env M) (fun s e m => noOwn e vs = true ∧ memOk m s.mems ∧ s.items.length ≤ sizeLine ∧ (∀ x ∈ s.items, ∃ e', g x (clr vs e) = some e' ∧ Ev (t e' m) (fun b e1 m1 => m1 = m ∧ b = hb x ∧ (hb x = true → Ev (f e1 m) (fun w e2 m2 => m2 = m ∧ ∃ e3, kept w e2 m = .ok (hm x) e3 m ∧ clr vs e3 = clr vs e) X0) ∧ (hb x = false → clr vs e1 = clr vs e)) X0) ∧ P (.o (.lst ((s.items.filter hb).map hm))) (rst e vs (clr vs e)) m) X) : Ev (eComp vs i g t f env M) P X := by
  refine ev_comp (h.mono (fun s e m ⟨h0, h1, h2, h3, h4⟩ => ⟨h0, fun j acc m' => m' = m ∧ acc = ((s.items.take j).filter hb).map hm, ⟨rfl, rfl⟩, fun j acc m' x hx ⟨e1, ea⟩ => ?_, fun acc m' ⟨e1, ea⟩ => ?_⟩) fun _ _ _ _ z => z)
  · subst e1
    obtain ⟨hj, hx'⟩ := List.getElem?_eq_some_iff.mp hx
    obtain ⟨e', k1, k2⟩ := h3 x (List.mem_of_getElem? hx)
    have hl : (((s.items.take j).filter hb).map hm).length < sizeLine := by
      have := List.length_filter_le hb (s.items.take j)
      rw [List.length_map]
      rw [List.length_take] at this
      omega
    refine ⟨h1, e', k1, k2.mono (fun b e1 m1 ⟨q1, q2, q3, q4⟩ => ?_) fun _ _ _ _ z => z⟩
    subst q1 q2
    refine ⟨fun hx1 => (q3 hx1).mono (fun w e2 m2 ⟨r1, e3, r2, r3⟩ => ?_) fun _ _ _ _ z => z, fun hx1 => ⟨q4 hx1, rfl, ?_⟩⟩
    · subst r1
      refine ⟨hm x, e3, r2, by rw [ea]; exact hl, r3, rfl, ?_⟩
      rw [ea, List.take_succ, hx, List.filter_append, List.map_append]
      show _ = _ ++ List.map hm (List.filter hb [x])
      rw [List.filter_cons, if_pos hx1] <;> rfl
    · rw [ea, List.take_succ, hx, List.filter_append, List.map_append]
      show _ = _ ++ List.map hm (List.filter hb [x])
      rw [List.filter_cons, if_neg (by rw [hx1]; exact Bool.false_ne_true)]
      simp
  · subst e1
    rw [List.take_length] at ea
    subst ea
    exact ⟨h1, h4⟩
/-! ### exceptions -/
theorem ev_is {f : En → Mem → Res W} {env : En} {M : Mem} {P : W → En → Mem → Prop} {X : Nat → D → En → Mem → Prop} {a dd : Addr} {c : Nat} {b : Bool} (h : Ev (f env M) (fun w e m => (∃ d, w.use = .v (.exc a c dd d)) ∧ P (.v (.bl b)) e m) X) : Ev (eIs a c dd b f env M) P X := by
  show Ev (((f env M).bind fun w e m => .ok w.use e m).bind fun u e m => match u with
    | .v (.exc a' c' dd' d) => if a' = a ∧ c' = c ∧ dd' = dd then .ok (.v (.bl b)) e m else .no
    | _ => .no) P X
  exact ev_bind (ev_bind (h.mono (fun w e m ⟨⟨d, h1⟩, p⟩ => by simp only [h1, Ev, and_self, if_true]; exact p) fun _ _ _ _ z => z))
theorem ev_val {f : En → Mem → Res W} {env : En} {M : Mem} {P : W → En → Mem → Prop} {X : Nat → D → En → Mem → Prop} {a dd : Addr} {c : Nat} (h : Ev (f env M) (fun w e m => ∃ d, w.use = .v (.exc a c dd d) ∧ P (.v d) e m) X) : Ev (eVal a c dd f env M) P X := by
  show Ev (((f env M).bind fun w e m => .ok w.use e m).bind fun u e m => match u with
    | .v (.exc a' c' dd' d) => if a' = a ∧ c' = c ∧ dd' = dd then .ok (.v d) e m else .no
    | _ => .no) P X
  exact ev_bind (ev_bind (h.mono (fun w e m ⟨d, h1, p⟩ => by simp only [h1, Ev, and_self, if_true]; exact p) fun _ _ _ _ z => z))
theorem ev_eq {r : Res Fl} {fl : Fl} {e' : En} {m' : Mem} {i : Nat} (h : Ev r (fun fl2 e2 m2 => fl2 = fl ∧ e2.set i .un = e' ∧ m2 = m') X0) (hs : ∀ j, fl ≠ .rt (.s j)) : dropS i r = .ok fl e' m' := by
  cases r with
  | ok fl2 e2 m2 =>
    obtain ⟨h1, h2, h3⟩ := h
    subst h1 h2 h3
    cases fl2 with
    | rt w => cases w with
      | s j => exact absurd rfl (hs j)
      | _ => rfl
    | _ => rfl
  | exc c d e m => exact h.elim
  | no => exact h.elim
theorem ev_try {i : Nat} {cond : Nat → Option Bool} {b : En → Mem → Res Fl} {g : Addr → Nat → Addr → En → Mem → Res Fl} {env : En} {M : Mem} {PS : Fl → En → Mem → Prop} {X : Nat → D → En → Mem → Prop}
    (h : Ev (b env M) PS (fun c d e m => cond c = some true ∧ i < e.length ∧ ∃ fl e' m', (∀ a dd, Ev (g a c dd (e.set i (.val (.exc a c dd d))) m) (fun fl2 e2 m2 => fl2 = fl ∧ e2.set i .un = e' ∧ m2 = m') X0) ∧ (∀ j, fl ≠ .rt (.s j)) ∧ PS fl e' m')) : Ev (sTryAs i cond b g env M) PS X := by
  unfold sTryAs
  cases q : b env M with
  | ok fl e m => rw [q] at h; exact h
  | no => rw [q] at h; exact h.elim
  | exc c d e m =>
    rw [q] at h
    obtain ⟨h1, h2, fl, e', m', h3, h4, h5⟩ := h
    simp only [h1, if_pos h2]
    rw [any2_eq fun a dd => ev_eq (h3 a dd) h4]
    exact h5
end Ow
/-! Ow: numerals -/
namespace Ow
open PySem PySem.Spec L2 TL
def tos (i : Int) : Str := Str.ofString (toString i)
theorem numL_head : ∀ (n : Nat) (r : List Nat), numL n = 48 :: r → n = 0 := by
  intro n
  induction n using Nat.strongRecOn with
  | ind n ih =>
    intro r h
    by_cases hn : n < 10
    · rw [numL_lt hn] at h
      have := (List.cons.inj h).1
      omega
    · rw [numL_step (by omega)] at h
      cases q : numL (n / 10) with
      | nil => exact absurd q (numL_ne _)
      | cons c t =>
        rw [q] at h
        have hc : c = 48 := (List.cons.inj h).1
        have := ih (n / 10) (by omega) t (by rw [q, hc])
        omega
theorem tos_nat (n : Nat) : tl (tos (n : Int)) = numL n := tl_num n
theorem tos_neg {n : Nat} (h : 0 < n) : tl (tos (-(n : Int))) = 45 :: numL n := by
  obtain ⟨m, rfl⟩ : ∃ m, n = m + 1 := ⟨n - 1, by omega⟩
  have e : toString (-((m + 1 : Nat) : Int)) = "-" ++ toString ((m + 1 : Nat) : Int) := by
    show toString (Int.negSucc m) = _
    rfl
  unfold tos
  rw [e, tl_ofString, String.toList_append, List.map_append, ← tl_ofString (toString _), tl_num]
  rfl
theorem digitsVal_lt : ∀ (cs : List Nat), NumText.AllDigits cs → NumText.digitsVal cs < 10 ^ cs.length := by
  have key : ∀ (cs : List Nat) (a : Nat), NumText.AllDigits cs → cs.foldl (fun acc c => acc * 10 + (c - 48)) a < (a + 1) * 10 ^ cs.length := by
    intro cs
    induction cs with
    | nil => intro a _; simp
    | cons c r ih =>
      intro a h
      have hc := h.head
      have := ih (a * 10 + (c - 48)) h.tail
      rw [List.foldl_cons, List.length_cons, Nat.pow_succ]
      refine Nat.lt_of_lt_of_le this ?_
      have e : (a + 1) * (10 ^ r.length * 10) = ((a + 1) * 10) * 10 ^ r.length := by rw [Nat.mul_assoc, Nat.mul_comm 10]
      rw [e]
      exact Nat.mul_le_mul_right _ (by omega)
  intro cs h
  have := key cs 0 h
  rw [Nat.zero_add, Nat.one_mul] at this
  exact this
/-- the digits of a numeral -/
def dgs (p : Str) : List Nat := if (tl p).head? = some 45 then (tl p).drop 1 else tl p
theorem int_of {p : Str} (h : NumText.AllDigits (dgs p)) (h1 : dgs p ≠ []) (hl : p.length ≤ 4300) : ∃ v : Int, intText? p = some v ∧ v.natAbs < 10 ^ (dgs p).length := by
  unfold dgs at h h1 ⊢
  by_cases q : (tl p).head? = some 45
  · rw [if_pos q] at h h1 ⊢
    obtain ⟨cs, hc⟩ : ∃ cs, tl p = 45 :: cs := by
      cases hp : tl p with
      | nil => rw [hp] at q; cases q
      | cons c cs => rw [hp] at q; cases q; exact ⟨cs, rfl⟩
    rw [hc] at h h1 ⊢
    refine ⟨_, intText_neg (x := p) (cs := cs) hc h h1 hl, ?_⟩
    have := digitsVal_lt cs h
    simp only [Int.natAbs_neg, Int.natAbs_natCast]
    exact this
  · rw [if_neg q] at h h1 ⊢
    refine ⟨_, intText_digits (x := p) h h1 hl, ?_⟩
    simp only [Int.natAbs_natCast]
    exact digitsVal_lt _ h
/-- a text that is the numeral of its value has no zero ahead -/
theorem no_zero {p : Str} {v : Int} (h : NumText.AllDigits (dgs p)) (h1 : dgs p ≠ []) (hl : p.length ≤ 4300) (hv : intText? p = some v) (ht : tos v = p) (hz : (dgs p).head? = some 48) : p = Str.ofString "0" := by
  unfold dgs at h h1 hz
  by_cases q : (tl p).head? = some 45
  · rw [if_pos q] at h h1 hz
    obtain ⟨cs, hc⟩ : ∃ cs, tl p = 45 :: cs := by
      cases hp : tl p with
      | nil => rw [hp] at q; cases q
      | cons c cs => rw [hp] at q; cases q; exact ⟨cs, rfl⟩
    rw [hc] at h h1 hz
    have e := intText_neg (x := p) (cs := cs) hc h h1 hl
    rw [hv] at e
    have e := Option.some.inj e
    subst e
    by_cases h0 : NumText.digitsVal cs = 0
    · rw [h0] at ht
      have : tl (tos (-((0 : Nat) : Int))) = [48] := by rw [show (-((0 : Nat) : Int)) = ((0 : Nat) : Int) from rfl, tos_nat, numL_lt (by omega)]
      rw [ht, hc] at this
      cases this
    · have z := tos_neg (n := NumText.digitsVal cs) (by omega)
      rw [ht, hc] at z
      have z := (List.cons.inj z).2
      have hz : cs.head? = some 48 := hz
      cases hcs : cs with
      | nil => rw [hcs] at hz; cases hz
      | cons c r =>
        rw [hcs] at hz
        cases hz
        rw [hcs] at z
        exact absurd (numL_head _ _ z.symm) (by rw [← hcs]; exact h0)
  · rw [if_neg q] at h h1 hz
    have e := intText_digits (x := p) h h1 hl
    rw [hv] at e
    have e := Option.some.inj e
    subst e
    have z := tos_nat (NumText.digitsVal p.cps.toList)
    rw [ht] at z
    cases hp : tl p with
    | nil => rw [hp] at hz; cases hz
    | cons c r =>
      rw [hp] at hz
      cases hz
      have n0 : NumText.digitsVal p.cps.toList = 0 := numL_head _ r (by rw [← z]; exact hp)
      rw [n0, numL_lt (by omega)] at z
      refine ext_tl ?_
      rw [z]
      rfl
/-- a numeral has no blank in it -/
theorem tos_free {i : Int} : (32 : Nat) ∉ tl (tos i) := by
  cases i with
  | ofNat n => rw [show Int.ofNat n = (n : Int) from rfl, tos_nat]; exact numL_free (Or.inl (by decide))
  | negSucc m =>
    rw [show Int.negSucc m = -((m + 1 : Nat) : Int) from rfl, tos_neg (by omega)]
    intro h
    rcases List.mem_cons.mp h with h | h
    · cases h
    · exact numL_free (Or.inl (by decide)) h
theorem tl_cut1 (p : Str) : tl (cutS p none (some 1)) = (tl p).take 1 := by
  show ((tl p).drop 0).take (min 1 p.length - 0) = _
  rw [List.drop_zero, len_tl, Nat.sub_zero]
  cases tl p with
  | nil => rfl
  | cons c r => simp
theorem tl_cut2 (p : Str) : tl (cutS p (some 1) none) = (tl p).drop 1 := by
  show ((tl p).drop (min 1 p.length)).take (p.length - min 1 p.length) = _
  rw [len_tl]
  cases hp : tl p with
  | nil => rfl
  | cons c r => simp
theorem sign_iff (p : Str) : cutS p none (some 1) = Str.ofString "-" ↔ (tl p).head? = some 45 := by
  constructor
  · intro h
    have := congrArg tl h
    rw [tl_cut1] at this
    cases hp : tl p with
    | nil => rw [hp] at this; cases this
    | cons c r => rw [hp] at this; cases this; rfl
  · intro h
    refine ext_tl ?_
    rw [tl_cut1]
    cases hp : tl p with
    | nil => rw [hp] at h; cases h
    | cons c r => rw [hp] at h; cases h; rfl
end Ow
/-! Ow: == of plain data -/
namespace Ow
open PySem PySem.Spec L2
mutual
/-- None, ints, texts, lists and tuples of such -/
def pln : D → Bool
  | .non => true
  | .int _ => true
  | .str s => PyData.strOk s
  | .lst xs => plns xs
  | .tup xs => plns xs
  | _ => false
def plns : List D → Bool
  | [] => true
  | x :: xs => pln x && plns xs
end
mutual
def asP : D → PyData
  | .int i => .int i
  | .str s => .str s
  | .lst xs => .list (asPs xs)
  | .tup xs => .tuple (asPs xs)
  | _ => .none
def asPs : List D → List PyData
  | [] => []
  | x :: xs => asP x :: asPs xs
end
mutual
theorem toPD_pln : ∀ d : D, pln d = true → toPD d = some (asP d)
  | .non, _ => by simp only [toPD, asP]
  | .int i, _ => by simp only [toPD, asP]
  | .str i, _ => by simp only [toPD, asP]
  | .lst xs, h => by simp only [toPD, asP, toPDs_pln xs (by simpa only [pln] using h)]
  | .tup xs, h => by simp only [toPD, asP, toPDs_pln xs (by simpa only [pln] using h)]
  | .bl _, h => by simp [pln] at h
  | .dic _ _, h => by simp [pln] at h
  | .ins _ _, h => by simp [pln] at h
  | .ref _, h => by simp [pln] at h
  | .scr _, h => by simp [pln] at h
  | .exc _ _ _ _, h => by simp [pln] at h
theorem toPDs_pln : ∀ d : List D, plns d = true → toPDs d = some (asPs d)
  | [], _ => by simp only [toPDs, asPs]
  | x :: xs, h => by
    rw [plns, Bool.and_eq_true] at h
    simp only [toPDs, asPs, toPD_pln x h.1, toPDs_pln xs h.2]
end
mutual
theorem canLay_pln : ∀ d : D, pln d = true → (asP d).canLay0 = true
  | .non, _ => by simp only [asP, PyData.canLay0]
  | .int i, _ => by simp only [asP, PyData.canLay0]
  | .str i, h => by simpa only [asP, PyData.canLay0, pln] using h
  | .lst xs, h => by simpa only [asP, PyData.canLay0] using canLays_pln xs (by simpa only [pln] using h)
  | .tup xs, h => by simpa only [asP, PyData.canLay0] using canLays_pln xs (by simpa only [pln] using h)
  | .bl _, h => by simp [pln] at h
  | .dic _ _, h => by simp [pln] at h
  | .ins _ _, h => by simp [pln] at h
  | .ref _, h => by simp [pln] at h
  | .scr _, h => by simp [pln] at h
  | .exc _ _ _ _, h => by simp [pln] at h
theorem canLays_pln : ∀ d : List D, plns d = true → PyData.canLayAll0 (asPs d) = true
  | [], _ => by simp only [asPs, PyData.canLayAll0]
  | x :: xs, h => by
    rw [plns, Bool.and_eq_true] at h
    simp only [asPs, PyData.canLayAll0, canLay_pln x h.1, canLays_pln xs h.2, Bool.and_self]
end
mutual
theorem eqv_asP : ∀ x y : D, pln x = true → pln y = true → (PyData.eqv (asP x) (asP y) = true ↔ x = y) := by
  intro x y hx hy
  cases x with
  | non => cases y <;> first | (simp [asP, PyData.eqv]; done) | (simp [pln] at hy; done)
  | int i => cases y <;> first | (simp [asP, PyData.eqv]; done) | (simp [pln] at hy; done)
  | str i => cases y <;> first | (simp [asP, PyData.eqv]; done) | (simp [pln] at hy; done)
  | lst xs =>
    cases y with
    | lst ys =>
      simp only [asP, PyData.eqv, D.lst.injEq]
      exact eqvs_asP xs ys (by simpa only [pln] using hx) (by simpa only [pln] using hy)
    | _ => first | (simp [asP, PyData.eqv]; done) | (simp [pln] at hy; done)
  | tup xs =>
    cases y with
    | tup ys =>
      simp only [asP, PyData.eqv, D.tup.injEq]
      exact eqvs_asP xs ys (by simpa only [pln] using hx) (by simpa only [pln] using hy)
    | _ => first | (simp [asP, PyData.eqv]; done) | (simp [pln] at hy; done)
  | _ => simp [pln] at hx
theorem eqvs_asP : ∀ xs ys : List D, plns xs = true → plns ys = true → (PyData.eqvAll (asPs xs) (asPs ys) = true ↔ xs = ys)
  | [], [], _, _ => by simp [asPs, PyData.eqvAll]
  | [], _ :: _, _, _ => by simp [asPs, PyData.eqvAll]
  | _ :: _, [], _, _ => by simp [asPs, PyData.eqvAll]
  | x :: xs, y :: ys, hx, hy => by
    rw [plns, Bool.and_eq_true] at hx hy
    simp only [asPs, PyData.eqvAll, Bool.and_eq_true, eqv_asP x y hx.1 hy.1, eqvs_asP xs ys hx.2 hy.2, List.cons.injEq]
end
def shal (d : D) : Prop := (asP d).depth ≤ 64
open Classical in
/-- == of plain data -/
theorem deq_pln {x y : D} (hx : pln x = true) (hy : pln y = true) (dx : shal x) (dy : shal y) : deq x y = some (decide (x = y)) := by
  have slow : (match toPD x, toPD y with
    | some p, some q => if SeqAt.shaped p && SeqAt.shaped q then some (PyData.eqv p q) else none
    | _, _ => none) = some (decide (x = y)) := by
    rw [toPD_pln x hx, toPD_pln y hy]
    have s1 : SeqAt.shaped (asP x) = true := by
      unfold SeqAt.shaped
      rw [canLay_pln x hx, Bool.true_and]
      exact decide_eq_true dx
    have s2 : SeqAt.shaped (asP y) = true := by
      unfold SeqAt.shaped
      rw [canLay_pln y hy, Bool.true_and]
      exact decide_eq_true dy
    simp only [s1, s2, Bool.and_self, if_true]
    congr 1
    have := eqv_asP x y hx hy
    cases h : PyData.eqv (asP x) (asP y) with
    | true => rw [h] at this; exact (decide_eq_true (this.mp rfl)).symm
    | false => rw [h] at this; exact (decide_eq_false fun z => by have := this.mpr z; cases this).symm
  unfold deq
  cases x with
  | non => cases y <;> first | (simp [scV, scal]; done) | (simp [pln] at hy; done) | exact slow
  | int i => cases y <;> first | (simp [scV, scal]; done) | (simp [pln] at hy; done) | exact slow
  | str i => cases y <;> first | (simp [scV, scal]; done) | (simp [pln] at hy; done) | exact slow
  | lst xs => exact slow
  | tup xs => exact slow
  | _ => simp [pln] at hx
theorem plns_all : ∀ {xs : List D}, (∀ x ∈ xs, pln x = true) → plns xs = true
  | [], _ => by simp only [plns]
  | x :: xs, h => by
    rw [plns, h x List.mem_cons_self, Bool.true_and]
    exact plns_all fun y hy => h y (List.mem_cons_of_mem _ hy)
theorem depths_all {n : Nat} : ∀ {xs : List D}, (∀ x ∈ xs, (asP x).depth ≤ n) → PyData.depthAll (asPs xs) ≤ n
  | [], _ => by simp only [asPs, PyData.depthAll]; exact Nat.zero_le _
  | x :: xs, h => by
    simp only [asPs, PyData.depthAll]
    exact Nat.max_le.mpr ⟨h x List.mem_cons_self, depths_all fun y hy => h y (List.mem_cons_of_mem _ hy)⟩
theorem depth_lst {n : Nat} {xs : List D} (h : ∀ x ∈ xs, (asP x).depth ≤ n) : (asP (.lst xs)).depth ≤ n + 1 := by
  simp only [asP, PyData.depth]
  exact Nat.succ_le_succ (depths_all h)
theorem depth_tup {n : Nat} {xs : List D} (h : ∀ x ∈ xs, (asP x).depth ≤ n) : (asP (.tup xs)).depth ≤ n + 1 := by
  simp only [asP, PyData.depth]
  exact Nat.succ_le_succ (depths_all h)
@[simp] theorem depth_int {i : Int} : (asP (.int i)).depth = 0 := by simp only [asP, PyData.depth]
@[simp] theorem depth_str {i : Str} : (asP (.str i)).depth = 0 := by simp only [asP, PyData.depth]
@[simp] theorem depth_non : (asP .non).depth = 0 := by simp only [asP, PyData.depth]
@[simp] theorem pln_int {i : Int} : pln (.int i) = true := by simp only [pln]
@[simp] theorem pln_str {i : Str} : pln (.str i) = PyData.strOk i := by simp only [pln]
@[simp] theorem pln_non : pln .non = true := by simp only [pln]
@[simp] theorem pln_lst {xs : List D} : pln (.lst xs) = plns xs := by simp only [pln]
@[simp] theorem pln_tup {xs : List D} : pln (.tup xs) = plns xs := by simp only [pln]
open Classical in
theorem o_eqP {M : Mem} {x y : D} (dx' : deref M x = x) (dy' : deref M y = y) (hx : pln x = true) (hy : pln y = true) (dx : shal x) (dy : shal y) : gEq M x y = some (.v (.bl (decide (x = y)))) := by
  rw [o_eq, dx', dy', deq_pln hx hy dx dy] <;> rfl
open Classical in
theorem o_neP {M : Mem} {x y : D} (dx' : deref M x = x) (dy' : deref M y = y) (hx : pln x = true) (hy : pln y = true) (dx : shal x) (dy : shal y) : gNe M x y = some (.v (.bl (!decide (x = y)))) := by
  rw [o_ne, dx', dy', deq_pln hx hy dx dy] <;> rfl
theorem strOk_iff {z : Str} : PyData.strOk z = true ↔ ∀ c ∈ TL.tl z, c < 0x110000 := by
  unfold PyData.strOk TL.tl
  rw [Array.all_eq_true']
  constructor
  · intro h c hc
    exact of_decide_eq_true (h c (by simpa using hc))
  · intro h c hc
    exact decide_eq_true (h c (by simpa using hc))
end Ow
namespace K55
open PySem PySem.Spec L2 Ow
def top (i : Nat) : Stmt := PySem.Challenge.pw_owedafresh_k55_bills_that_are_none.main.body.getD i (.Pass ⟨0, 0, 0, 0⟩)
def cname : Nat → Str := fun n => (["BillError", "InvalidRow", "NotEven", "Unreadable"] : List Str).getD n ""
def cflds : Nat → List Str := fun _ => []
abbrev Sx (P : Program) (w : World) (K : PySem.W.Frag) (mg : Str → Option Value) (base : Heap) : Sg := ⟨P, w, K, mg, base, fun n => He.ga K (cname n), cflds⟩
def excs : List Nat := [0, 1, 2, 3]
def is_BillError : Nat → Bool := fun c => ([0, 1, 2, 3] : List Nat).contains c
def is_Unreadable : Nat → Bool := fun c => ([3] : List Nat).contains c
def cond_BillError : Nat → Option Bool := fun c => if c ∈ excs then some (is_BillError c) else none
theorem cond_own_BillError (c : Nat) (h : cond_BillError c = some true) : c ∈ excs := by
  unfold cond_BillError at h
  split at h
  · assumption
  · cases h
def ist_InvalidRow_NotEven : Nat → Bool := fun c => ([1, 2] : List Nat).contains c
structure Fc (S : Sg) : Prop where
  b_abs : S.mg "abs" = none
  b_all : S.mg "all" = none
  b_int : S.mg "int" = none
  b_isinstance : S.mg "isinstance" = none
  b_len : S.mg "len" = none
  b_max : S.mg "max" = none
  b_min : S.mg "min" = none
  b_range : S.mg "range" = none
  b_str : S.mg "str" = none
  k_DIGITS : ∃ t, S.mg "DIGITS" = some (.str "0123456789" t)
  k_MOST_DIGITS_OF_AMOUNTS : ∃ t, S.mg "MOST_DIGITS_OF_AMOUNTS" = some (.int 6 t)
  c_BillError : S.mg "BillError" = some (.ref (S.cl 0))
  c_InvalidRow : S.mg "InvalidRow" = some (.ref (S.cl 1))
  c_NotEven : S.mg "NotEven" = some (.ref (S.cl 2))
  c_Unreadable : S.mg "Unreadable" = some (.ref (S.cl 3))
  x_Unreadable : XOk S "Unreadable" 3 1
  ask : ∀ c, c ∈ excs → XAsk S c
  cond_BillError : ∀ c b, cond_BillError c = some b → PySem.W.exmOne S.K (.ref (S.cl c)) (.ref (S.cl 0)) = some b
  is_Unreadable : ∀ c, c ∈ excs → PySem.W.kitOne S.K (.ref (S.cl c)) (.ref (S.cl 3)) = some (is_Unreadable c)
  ist_InvalidRow_NotEven : ∀ c, c ∈ excs → PySem.W.kitAny S.K (.ref (S.cl c)) (([1, 2] : List Nat).map fun c => .ref (S.cl c)) = some (ist_InvalidRow_NotEven c)
/-! show_bills -/
abbrev N_show_bills : List Str := ["bills", "amount"]
noncomputable def g_show_bills : En → Mem → Res Fl := sRet (eM1 gJoin (eC (.str " ")) (eComp [1] (iSeq (eVar 0)) (tgN 1) (bYes) (eBlt gStr (uCons (eVar 1) (uNil)))))
noncomputable def f_show_bills : Fn := fnOf 2 g_show_bills
theorem d_show_bills {S : Sg} (F : Fc S)   : SSs S N_show_bills (defScope (top 6)) (.sm 0) (defBody (top 6)) g_show_bills := by
  unfold g_show_bills
  exact ss_one (ss_ret (se_join (se_str) (se_comp [("amount", 1)] (si_seq (se_var (i := 0))) (sg_name (i := 1)) (sts_nil) (se_str1 ⟨rfl, F.b_str⟩ (sus_cons (se_var (i := 1)) (sus_nil))))))
theorem s_show_bills : FnScope N_show_bills ["bills"] (defScope (top 6)) := ⟨rfl, rfl, rfl, by decide +kernel, rfl, by decide +kernel, by decide +kernel⟩
/-! number_in -/
abbrev N_number_in : List Str := ["text", "most", "digits", "sign"]
noncomputable def g_number_in : En → Mem → Res Fl := sSeq (sSet 2 (eIf (asB (e2 gEq (eSlice (eVar 0) (pNo) (pInt (eC (.int 1)))) (eC (.str "-")))) (eSlice (eVar 0) (pInt (eC (.int 1))) (pNo)) (eVar 0))) (sSeq (sIf (bOr (bNot (asB (eChain gLe gLe (eC (.int 1)) (eBlt gLen (uCons (eVar 2) (uNil))) (eVar 1)))) (bNot (asT (eBlt gAll (uCons (eComp [3] (iSeq (eVar 2)) (tgN 3) (bYes) (e2 (gIn false) (eVar 3) (eC (.str "0123456789")))) (uNil)))))) (sRet (eC .non)) (sNop)) (sSeq (sIf (bAnd (asB (e2 gEq (e2 gIx (eVar 2) (eC (.int 0))) (eC (.str "0")))) (asB (e2 gNe (eVar 0) (eC (.str "0"))))) (sRet (eC .non)) (sNop)) (sRet (eBlt gIntA (uCons (eVar 0) (uNil))))))
noncomputable def f_number_in : Fn := fnOf 4 g_number_in
theorem d_number_in {S : Sg} (F : Fc S)   : SSs S N_number_in (defScope (top 10)) (.sm 0) (defBody (top 10)) g_number_in := by
  unfold g_number_in
  exact ss_cons (ss_set (i := 2) rfl (Or.inl rfl) (se_if ((sc_eq (se_slice (se_var (i := 0)) (so_none) (so_some (se_int))) (se_str)).sb) (se_slice (se_var (i := 0)) (so_some (se_int)) (so_none)) (se_var (i := 0)))) (ss_cons (ss_if ((sw_or (sb_not ((sc_le_le (se_int) (se_len ⟨rfl, F.b_len⟩ (sus_cons (se_var (i := 2)) (sus_nil))) (se_var (i := 1))).sb)) (sw_or1 (sb_not (sb_tru (se_all ⟨rfl, F.b_all⟩ (sus_cons (se_comp [("sign", 3)] (si_seq (se_var (i := 2))) (sg_name (i := 3)) (sts_nil) ((sc_in rfl (se_var (i := 3)) (se_gstr rfl F.k_DIGITS)).se)) (sus_nil))))))).sb) (ss_one (ss_ret (se_non))) (ss_nil)) (ss_cons (ss_if ((sw_and ((sc_eq (se_ix (fun _ _ => by intro _ _; rfl) (se_var (i := 2)) (se_int)) (se_str)).sb) (sw_and1 ((sc_ne (se_var (i := 0)) (se_str)).sb))).sb) (ss_one (ss_ret (se_non))) (ss_nil)) (ss_one (ss_ret (se_intA ⟨rfl, F.b_int⟩ (sus_cons (se_var (i := 0)) (sus_nil)))))))
theorem s_number_in : FnScope N_number_in ["text", "most"] (defScope (top 10)) := ⟨rfl, rfl, rfl, by decide +kernel, rfl, by decide +kernel, by decide +kernel⟩
/-! read_bills -/
abbrev N_read_bills : List Str := ["text", "found", "piece"]
noncomputable def g_read_bills : En → Mem → Res Fl := sSeq (sSet 1 (eIf (asB (e2 gNe (eVar 0) (eC (.str "")))) (eComp [2] (iSeq (eM1 gSplit (eVar 0) (eC (.str " ")))) (tgN 2) (bYes) (eCall 2 f_number_in (dCons (eVar 2) (dCons (eC (.int 6)) (dNil))))) (eLst (dNil)))) (sSeq (sIf (bOr (asB (e2 (gIn false) (eC .non) (eVar 1))) (asB (e2 gNe (eCall 1 f_show_bills (dCons (eVar 1) (dNil))) (eVar 0)))) (sRaise 3 (eVar 0)) (sNop)) (sRet (eVar 1)))
noncomputable def f_read_bills : Fn := fnOf 3 g_read_bills
theorem d_read_bills {S : Sg} (F : Fc S) (ok_number_in : DefOk S "number_in" 1 2 f_number_in) (ok_show_bills : DefOk S "show_bills" 1 1 f_show_bills)  : SSs S N_read_bills (defScope (top 11)) (.sm 2) (defBody (top 11)) g_read_bills := by
  unfold g_read_bills
  exact ss_cons (ss_set (i := 1) rfl (Or.inl rfl) (se_if ((sc_ne (se_var (i := 0)) (se_str)).sb) (se_comp [("piece", 2)] (si_seq (se_split (se_var (i := 0)) (se_str))) (sg_name (i := 2)) (sts_nil) (se_call ok_number_in (by decide) rfl (sds_cons (se_var (i := 2)) (sds_cons (se_gint rfl F.k_MOST_DIGITS_OF_AMOUNTS) (sds_nil))))) (se_lst (sds_nil)))) (ss_cons (ss_if ((sw_or ((sc_in rfl (se_non) (se_var (i := 1))).sb) (sw_or1 ((sc_ne (se_call ok_show_bills (by decide) rfl (sds_cons (se_var (i := 1)) (sds_nil))) (se_var (i := 0))).sb))).sb) (ss_one (ss_raise F.x_Unreadable (by decide) rfl (se_var (i := 0)))) (ss_nil)) (ss_one (ss_ret (se_var (i := 1)))))
theorem s_read_bills : FnScope N_read_bills ["text"] (defScope (top 11)) := ⟨rfl, rfl, rfl, by decide +kernel, rfl, by decide +kernel, by decide +kernel⟩
/-! law_purse -/
abbrev N_law_purse : List Str := ["script", "place", "cell"]
noncomputable def g_law_purse : En → Mem → Res Fl := sSeq (sSet 2 (eIf (asB (e2 gLt (eVar 1) (eBlt gLen (uCons (eVar 0) (uNil))))) (e2 gIx (eVar 0) (eVar 1)) (eC (.int 0)))) (sRet (eLst (dCons (eBlt gMax2 (uCons (eC (.int 0)) (uCons (e2 gSub (eBlt gAbs (uCons (eVar 2) (uNil))) (e2 gPow (eC (.int 10)) (eC (.int 18)))) (uNil)))) (dCons (e2 gMod (eBlt gIntA (uCons (e2 gAdd (e2 gAdd (e2 gMul (eVar 2) (eC (.int 30011))) (e2 gMul (eVar 1) (eC (.int 7368787)))) (eC (.int 104729))) (uNil))) (e2 gAdd (e2 gPow (eC (.int 10)) (eC (.int 24))) (eC (.int 7)))) (dCons (eC (.int 0)) (dNil))))))
noncomputable def f_law_purse : Fn := fnOf 3 g_law_purse
theorem d_law_purse {S : Sg} (F : Fc S)   : SSs S N_law_purse (defScope (top 13)) (.sm 0) (defBody (top 13)) g_law_purse := by
  unfold g_law_purse
  exact ss_cons (ss_set (i := 2) rfl (Or.inl rfl) (se_if ((sc_lt (se_var (i := 1)) (se_len ⟨rfl, F.b_len⟩ (sus_cons (se_var (i := 0)) (sus_nil)))).sb) (se_ix (fun _ _ => by intro _ _; rfl) (se_var (i := 0)) (se_var (i := 1))) (se_int))) (ss_one (ss_ret (se_lst (sds_cons (se_max2 ⟨rfl, F.b_max⟩ (sus_cons (se_int) (sus_cons (se_sub (se_abs ⟨rfl, F.b_abs⟩ (sus_cons (se_var (i := 2)) (sus_nil))) (se_pow (se_int) (se_int))) (sus_nil)))) (sds_cons (se_mod (se_intA ⟨rfl, F.b_int⟩ (sus_cons (se_add (se_add (se_mul (se_var (i := 2)) (se_int)) (se_mul (se_var (i := 1)) (se_int))) (se_int)) (sus_nil))) (se_add (se_pow (se_int) (se_int)) (se_int))) (sds_cons (se_int) (sds_nil)))))))
theorem s_law_purse : FnScope N_law_purse ["script", "place"] (defScope (top 13)) := ⟨rfl, rfl, rfl, by decide +kernel, rfl, by decide +kernel, by decide +kernel⟩
/-! law_coin -/
abbrev N_law_coin : List Str := ["purse", "many", "drawn", "stirred"]
noncomputable def g_law_coin : En → Mem → Res Fl := sSeq (sIf (asB (e2 gGt (e2 gIx (eVar 0) (eC (.int 0))) (eC (.int 0)))) (sSeq (sSet 2 (e2 gMod (eBlt gIntA (uCons (e2 gIx (eVar 0) (eC (.int 0))) (uNil))) (eVar 1))) (sSeq (sPut (eVar 0) (eC (.int 0)) (e2 gDiv (e2 gIx (eVar 0) (eC (.int 0))) (eVar 1))) (sRet (eVar 2)))) (sNop)) (sSeq (sPut (eVar 0) (eC (.int 2)) (e2 gAdd (e2 gIx (eVar 0) (eC (.int 2))) (eC (.int 1)))) (sSeq (sSet 3 (e2 gMod (e2 gPow (eBlt gIntA (uCons (e2 gAdd (e2 gIx (eVar 0) (eC (.int 1))) (e2 gMul (eC (.int 2038074743)) (e2 gIx (eVar 0) (eC (.int 2))))) (uNil))) (eC (.int 3))) (e2 gAdd (e2 gPow (eC (.int 10)) (eC (.int 25))) (eC (.int 13))))) (sSeq (sSet 3 (e2 gMod (e2 gPow (eBlt gIntA (uCons (e2 gAdd (eVar 3) (e2 gMul (eC (.int 982451653)) (e2 gIx (eVar 0) (eC (.int 2))))) (uNil))) (eC (.int 2))) (e2 gAdd (e2 gPow (eC (.int 10)) (eC (.int 24))) (eC (.int 7))))) (sRet (e2 gMod (eBlt gIntA (uCons (e2 gDiv (eVar 3) (eC (.int 1024))) (uNil))) (eVar 1))))))
noncomputable def f_law_coin : Fn := fnOf 4 g_law_coin
theorem d_law_coin {S : Sg} (F : Fc S)   : SSs S N_law_coin (defScope (top 14)) (.sm 0) (defBody (top 14)) g_law_coin := by
  unfold g_law_coin
  exact ss_cons (ss_if ((sc_gt (se_ix (fun _ _ => by intro _ _; rfl) (se_var (i := 0)) (se_int)) (se_int)).sb) (ss_cons (ss_set (i := 2) rfl (Or.inl rfl) (se_mod (se_intA ⟨rfl, F.b_int⟩ (sus_cons (se_ix (fun _ _ => by intro _ _; rfl) (se_var (i := 0)) (se_int)) (sus_nil))) (se_var (i := 1)))) (ss_cons (ss_put (se_var (i := 0)) (se_int) (se_div (se_ix (fun _ _ => by intro _ _; rfl) (se_var (i := 0)) (se_int)) (se_var (i := 1)))) (ss_one (ss_ret (se_var (i := 2)))))) (ss_nil)) (ss_cons (ss_put (se_var (i := 0)) (se_int) (se_add (se_ix (fun _ _ => by intro _ _; rfl) (se_var (i := 0)) (se_int)) (se_int))) (ss_cons (ss_set (i := 3) rfl (Or.inl rfl) (se_mod (se_pow (se_intA ⟨rfl, F.b_int⟩ (sus_cons (se_add (se_ix (fun _ _ => by intro _ _; rfl) (se_var (i := 0)) (se_int)) (se_mul (se_int) (se_ix (fun _ _ => by intro _ _; rfl) (se_var (i := 0)) (se_int)))) (sus_nil))) (se_int)) (se_add (se_pow (se_int) (se_int)) (se_int)))) (ss_cons (ss_set (i := 3) rfl (Or.inl rfl) (se_mod (se_pow (se_intA ⟨rfl, F.b_int⟩ (sus_cons (se_add (se_var (i := 3)) (se_mul (se_int) (se_ix (fun _ _ => by intro _ _; rfl) (se_var (i := 0)) (se_int)))) (sus_nil))) (se_int)) (se_add (se_pow (se_int) (se_int)) (se_int)))) (ss_one (ss_ret (se_mod (se_intA ⟨rfl, F.b_int⟩ (sus_cons (se_div (se_var (i := 3)) (se_int)) (sus_nil))) (se_var (i := 1))))))))
theorem s_law_coin : FnScope N_law_coin ["purse", "many"] (defScope (top 14)) := ⟨rfl, rfl, rfl, by decide +kernel, rfl, by decide +kernel, by decide +kernel⟩
/-! law_amount -/
abbrev N_law_amount : List Str := ["piece", "figures", "sign"]
noncomputable def g_law_amount : En → Mem → Res Fl := sSeq (sSet 1 (eIf (asB (e2 gEq (eSlice (eVar 0) (pNo) (pInt (eC (.int 1)))) (eC (.str "-")))) (eSlice (eVar 0) (pInt (eC (.int 1))) (pNo)) (eVar 0))) (sSeq (sIf (bOr (bNot (asB (eChain gLt gLt (eC (.int 0)) (eBlt gLen (uCons (eVar 1) (uNil))) (eC (.int 7))))) (asB (e2 gNe (eComp [2] (iSeq (eVar 1)) (tgN 2) (asB (e2 (gIn true) (eVar 2) (eC (.str "0123456789")))) (eVar 2)) (eLst (dNil))))) (sRet (eLst (dNil))) (sNop)) (sRet (eIf (asB (e2 gEq (eBlt gStr (uCons (eBlt gIntA (uCons (eVar 0) (uNil))) (uNil))) (eVar 0))) (eLst (dCons (eBlt gIntA (uCons (eVar 0) (uNil))) (dNil))) (eLst (dNil)))))
noncomputable def f_law_amount : Fn := fnOf 3 g_law_amount
theorem d_law_amount {S : Sg} (F : Fc S)   : SSs S N_law_amount (defScope (top 15)) (.sm 0) (defBody (top 15)) g_law_amount := by
  unfold g_law_amount
  exact ss_cons (ss_set (i := 1) rfl (Or.inl rfl) (se_if ((sc_eq (se_slice (se_var (i := 0)) (so_none) (so_some (se_int))) (se_str)).sb) (se_slice (se_var (i := 0)) (so_some (se_int)) (so_none)) (se_var (i := 0)))) (ss_cons (ss_if ((sw_or (sb_not ((sc_lt_lt (se_int) (se_len ⟨rfl, F.b_len⟩ (sus_cons (se_var (i := 1)) (sus_nil))) (se_int)).sb)) (sw_or1 ((sc_ne (se_comp [("sign", 2)] (si_seq (se_var (i := 1))) (sg_name (i := 2)) (sts_one ((sc_notin rfl (se_var (i := 2)) (se_str)).sb)) (se_var (i := 2))) (se_lst (sds_nil))).sb))).sb) (ss_one (ss_ret (se_lst (sds_nil)))) (ss_nil)) (ss_one (ss_ret (se_if ((sc_eq (se_str1 ⟨rfl, F.b_str⟩ (sus_cons (se_intA ⟨rfl, F.b_int⟩ (sus_cons (se_var (i := 0)) (sus_nil))) (sus_nil))) (se_var (i := 0))).sb) (se_lst (sds_cons (se_intA ⟨rfl, F.b_int⟩ (sus_cons (se_var (i := 0)) (sus_nil))) (sds_nil))) (se_lst (sds_nil))))))
theorem s_law_amount : FnScope N_law_amount ["piece"] (defScope (top 15)) := ⟨rfl, rfl, rfl, by decide +kernel, rfl, by decide +kernel, by decide +kernel⟩
/-! law_bills_of -/
abbrev N_law_bills_of : List Str := ["wording", "found", "piece"]
noncomputable def g_law_bills_of : En → Mem → Res Fl := sSeq (sSet 1 (eLst (dNil))) (sSeq (sFor (iSeq (eIf (asB (e2 gNe (eVar 0) (eC (.str "")))) (eM1 gSplit (eVar 0) (eC (.str " "))) (eLst (dNil)))) (tgN 2) (sSeq (sIf (asB (e2 gEq (eCall 1 f_law_amount (dCons (eVar 2) (dNil))) (eLst (dNil)))) (sRet (eC .non)) (sNop)) (sSet 1 (e2 gAdd (eVar 1) (eCall 1 f_law_amount (dCons (eVar 2) (dNil))))))) (sRet (eVar 1)))
noncomputable def f_law_bills_of : Fn := fnOf 3 g_law_bills_of
theorem d_law_bills_of {S : Sg} (F : Fc S) (ok_law_amount : DefOk S "_law_amount" 1 1 f_law_amount)  : SSs S N_law_bills_of (defScope (top 16)) (.sm 1) (defBody (top 16)) g_law_bills_of := by
  unfold g_law_bills_of
  exact ss_cons (ss_set (i := 1) rfl (Or.inl rfl) (se_lst (sds_nil))) (ss_cons (ss_for (sg_name (i := 2)) (by decide +kernel) (si_seq (se_if ((sc_ne (se_var (i := 0)) (se_str)).sb) (se_split (se_var (i := 0)) (se_str)) (se_lst (sds_nil)))) (ss_cons (ss_if ((sc_eq (se_call ok_law_amount (by decide) rfl (sds_cons (se_var (i := 2)) (sds_nil))) (se_lst (sds_nil))).sb) (ss_one (ss_ret (se_non))) (ss_nil)) (ss_one (ss_set (i := 1) rfl (Or.inl rfl) (se_add (se_var (i := 1)) (se_call ok_law_amount (by decide) rfl (sds_cons (se_var (i := 2)) (sds_nil)))))))) (ss_one (ss_ret (se_var (i := 1)))))
theorem s_law_bills_of : FnScope N_law_bills_of ["wording"] (defScope (top 16)) := ⟨rfl, rfl, rfl, by decide +kernel, rfl, by decide +kernel, by decide +kernel⟩
/-! law_caught -/
abbrev N_law_caught : List Str := ["wording", "way", "found", "told", "e", "odd"]
noncomputable def g_law_caught : En → Mem → Res Fl := sSeq (sSet 2 (eLst (dNil))) (sSeq (sTryAs 4 cond_BillError (sSeq (sSet 3 (eIf (asB (e2 gEq (eVar 1) (eC (.int 0)))) (eCall 1 f_read_bills (dCons (eVar 0) (dNil))) (eCallK 1 1 [0] f_read_bills (dCons (eVar 0) (dNil))))) (sSet 2 (eIf (asB (e2 gEq (eCall 1 f_show_bills (dCons (eVar 3) (dNil))) (eVar 0))) (eLst (dCons (eVar 3) (dNil))) (eLst (dCons (eC (.str "other")) (dNil)))))) (fun a c dd => sSeq (sSet 5 (eOr (eIs a c dd (ist_InvalidRow_NotEven c) (eVar 4)) (eNot (eIs a c dd (is_Unreadable c) (eVar 4))))) (sSet 2 (eIf (bOr (asT (eVar 5)) (asB (e2 gNe (eVal a c dd (eVar 4)) (eVar 0)))) (eLst (dCons (eC (.str "odd")) (dNil))) (eLst (dNil)))))) (sRet (eVar 2)))
noncomputable def f_law_caught : Fn := fnOf 6 g_law_caught
theorem d_law_caught {S : Sg} (F : Fc S) (ok_read_bills : DefOk S "read_bills" 3 1 f_read_bills) (ok_show_bills : DefOk S "show_bills" 1 1 f_show_bills) (kw_read_bills__text : DefKw S "read_bills" 3 1 ["text"] [0] f_read_bills) : SSs S N_law_caught (defScope (top 17)) (.sm 3) (defBody (top 17)) g_law_caught := by
  unfold g_law_caught
  exact ss_cons (ss_set (i := 2) rfl (Or.inl rfl) (se_lst (sds_nil))) (ss_cons (ss_try_as (cond := cond_BillError) (cx := 0) rfl rfl rfl F.c_BillError (by decide +kernel) F.cond_BillError (ss_cons (ss_set (i := 3) rfl (Or.inl rfl) (se_if ((sc_eq (se_var (i := 1)) (se_int)).sb) (se_call ok_read_bills (by decide) rfl (sds_cons (se_var (i := 0)) (sds_nil))) (se_callK0 kw_read_bills__text (by decide) rfl (sks_cons (se_var (i := 0)) (sks_nil))))) (ss_one (ss_set (i := 2) rfl (Or.inl rfl) (se_if ((sc_eq (se_call ok_show_bills (by decide) rfl (sds_cons (se_var (i := 3)) (sds_nil))) (se_var (i := 0))).sb) (se_lst (sds_cons (se_var (i := 3)) (sds_nil))) (se_lst (sds_cons (se_str) (sds_nil))))))) (fun a c dd hc => ss_cons (ss_set (i := 5) rfl (Or.inl rfl) (se_or (se_isT ⟨rfl, F.b_isinstance⟩ (F.ask c (cond_own_BillError c hc)) (se_var (i := 4)) (.cons rfl F.c_InvalidRow (by decide +kernel) (.cons rfl F.c_NotEven (by decide +kernel) (CN.nil))) (by decide) (F.ist_InvalidRow_NotEven c (cond_own_BillError c hc))) (se_one (se_not (se_isE ⟨rfl, F.b_isinstance⟩ (F.ask c (cond_own_BillError c hc)) (se_var (i := 4)) rfl F.c_Unreadable (F.is_Unreadable c (cond_own_BillError c hc))))))) (ss_one (ss_set (i := 2) rfl (Or.inl rfl) (se_if ((sw_or (sb_tru (se_var (i := 5))) (sw_or1 ((sc_ne (se_value (F.ask c (cond_own_BillError c hc)) (se_var (i := 4))) (se_var (i := 0))).sb))).sb) (se_lst (sds_cons (se_str) (sds_nil))) (se_lst (sds_nil))))))) (ss_one (ss_ret (se_var (i := 2)))))
theorem s_law_caught : FnScope N_law_caught ["wording", "way"] (defScope (top 17)) := ⟨rfl, rfl, rfl, by decide +kernel, rfl, by decide +kernel, by decide +kernel⟩
/-! law_odd -/
abbrev N_law_odd : List Str := ["purse", "wording", "menu", "many"]
noncomputable def g_law_odd : En → Mem → Res Fl := sSeq (sSet 2 (eLst (dCons (eC (.str "")) (dCons (eC (.str " ")) (dCons (eC (.str "0")) (dCons (eC (.str "-0")) (dCons (eC (.str "00")) (dCons (eC (.str "-")) (dCons (eC (.str "--1")) (dCons (eC (.str "+1")) (dCons (eC (.str "1 ")) (dCons (eC (.str " 1")) (dCons (eC (.str "1  2")) (dCons (eC (.str "1,2")) (dCons (eC (.str "1.0")) (dNil)))))))))))))))) (sSeq (sSet 2 (e2 gAdd (eVar 2) (eLst (dCons (eC (.str "999999")) (dCons (eC (.str "-999999")) (dCons (eC (.str "1000000")) (dCons (eC (.str "-1000000")) (dNil)))))))) (sSeq (sSet 2 (e2 gAdd (eVar 2) (eLst (dCons (eC (.str "007")) (dCons (eC (.str "-07")) (dCons (eC (.str "1 -")) (dCons (eC (.str "1 -0")) (dCons (eC (.str "0 0 0")) (dCons (eC (.str "a")) (dCons (eC (.str "1 a")) (dCons (eC (.str "1;2")) (dCons (eC (.str "12 34 56")) (dCons (eC (.str "10 -10")) (dNil)))))))))))))) (sSeq (sSet 2 (e2 gAdd (eVar 2) (eLst (dCons (eC (.str "1_0")) (dCons (eC (.str "1e3")) (dCons (eC (.str "0x1")) (dCons (eC (.str "100 200 -300")) (dNil)))))))) (sSeq (sSet 3 (e2 gAdd (eC (.int 2)) (eCall 2 f_law_coin (dCons (eVar 0) (dCons (eC (.int 400)) (dNil)))))) (sSeq (sSet 2 (e2 gAdd (eVar 2) (eLst (dCons (eM1 gJoin (eC (.str " ")) (e2 gMul (eLst (dCons (eC (.str "7")) (dNil))) (eVar 3))) (dCons (eM1 gJoin (eC (.str " ")) (e2 gMul (eLst (dCons (eC (.str "-9")) (dNil))) (eVar 3))) (dCons (eM1 gJoin (eC (.str " ")) (e2 gAdd (e2 gMul (eLst (dCons (eC (.str "0")) (dNil))) (eVar 3)) (eLst (dCons (eC (.str "-0")) (dNil))))) (dNil))))))) (sSeq (sSet 2 (e2 gAdd (eVar 2) (eLst (dCons (e2 gAdd (eM1 gJoin (eC (.str " ")) (e2 gMul (eLst (dCons (eC (.str "1")) (dNil))) (eVar 3))) (eC (.str " "))) (dNil))))) (sSeq (sSet 2 (e2 gAdd (eVar 2) (eLst (dCons (e2 gAddS (eVar 1) (eC (.str " 5"))) (dCons (e2 gAdd (eVar 1) (eC (.str " -"))) (dCons (e2 gAdd (eC (.str "0")) (eVar 1)) (dCons (eRepl " " "  " (eVar 1)) (dNil)))))))) (sSeq (sSet 2 (e2 gAdd (eVar 2) (eLst (dCons (e2 gAdd (eVar 1) (eC (.str ","))) (dCons (e2 gAdd (eVar 1) (eC (.str " 1000000"))) (dNil)))))) (sRet (e2 gIx (eVar 2) (eCall 2 f_law_coin (dCons (eVar 0) (dCons (eBlt gLen (uCons (eVar 2) (uNil))) (dNil))))))))))))))
noncomputable def f_law_odd : Fn := fnOf 4 g_law_odd
theorem d_law_odd {S : Sg} (F : Fc S) (ok_law_coin : DefOk S "_law_coin" 1 2 f_law_coin)  : SSs S N_law_odd (defScope (top 18)) (.sm 1) (defBody (top 18)) g_law_odd := by
  unfold g_law_odd
  exact ss_cons (ss_set (i := 2) rfl (Or.inl rfl) (se_lst (sds_cons (se_str) (sds_cons (se_str) (sds_cons (se_str) (sds_cons (se_str) (sds_cons (se_str) (sds_cons (se_str) (sds_cons (se_str) (sds_cons (se_str) (sds_cons (se_str) (sds_cons (se_str) (sds_cons (se_str) (sds_cons (se_str) (sds_cons (se_str) (sds_nil)))))))))))))))) (ss_cons (ss_set (i := 2) rfl (Or.inl rfl) (se_add (se_var (i := 2)) (se_lst (sds_cons (se_str) (sds_cons (se_str) (sds_cons (se_str) (sds_cons (se_str) (sds_nil)))))))) (ss_cons (ss_set (i := 2) rfl (Or.inl rfl) (se_add (se_var (i := 2)) (se_lst (sds_cons (se_str) (sds_cons (se_str) (sds_cons (se_str) (sds_cons (se_str) (sds_cons (se_str) (sds_cons (se_str) (sds_cons (se_str) (sds_cons (se_str) (sds_cons (se_str) (sds_cons (se_str) (sds_nil)))))))))))))) (ss_cons (ss_set (i := 2) rfl (Or.inl rfl) (se_add (se_var (i := 2)) (se_lst (sds_cons (se_str) (sds_cons (se_str) (sds_cons (se_str) (sds_cons (se_str) (sds_nil)))))))) (ss_cons (ss_set (i := 3) rfl (Or.inl rfl) (se_add (se_int) (se_call ok_law_coin (by decide) rfl (sds_cons (se_var (i := 0)) (sds_cons (se_int) (sds_nil)))))) (ss_cons (ss_set (i := 2) rfl (Or.inl rfl) (se_add (se_var (i := 2)) (se_lst (sds_cons (se_join (se_str) (se_mul (se_lst (sds_cons (se_str) (sds_nil))) (se_var (i := 3)))) (sds_cons (se_join (se_str) (se_mul (se_lst (sds_cons (se_str) (sds_nil))) (se_var (i := 3)))) (sds_cons (se_join (se_str) (se_add (se_mul (se_lst (sds_cons (se_str) (sds_nil))) (se_var (i := 3))) (se_lst (sds_cons (se_str) (sds_nil))))) (sds_nil))))))) (ss_cons (ss_set (i := 2) rfl (Or.inl rfl) (se_add (se_var (i := 2)) (se_lst (sds_cons (se_add (se_join (se_str) (se_mul (se_lst (sds_cons (se_str) (sds_nil))) (se_var (i := 3)))) (se_str)) (sds_nil))))) (ss_cons (ss_set (i := 2) rfl (Or.inl rfl) (se_add (se_var (i := 2)) (se_lstT (sdt_first (se_var (i := 1)) (sdt_cons (st_of (se_add (se_var (i := 1)) (se_str))) (sdt_cons (st_of (se_add (se_str) (se_var (i := 1)))) (sdt_cons (st_repl (se_var (i := 1)) (by decide +kernel)) (sdt_nil)))))))) (ss_cons (ss_set (i := 2) rfl (Or.inl rfl) (se_add (se_var (i := 2)) (se_lst (sds_cons (se_add (se_var (i := 1)) (se_str)) (sds_cons (se_add (se_var (i := 1)) (se_str)) (sds_nil)))))) (ss_one (ss_ret (se_ix (fun _ _ => by intro _ _; rfl) (se_var (i := 2)) (se_call ok_law_coin (by decide) rfl (sds_cons (se_var (i := 0)) (sds_cons (se_len ⟨rfl, F.b_len⟩ (sus_cons (se_var (i := 2)) (sus_nil))) (sds_nil)))))))))))))))
theorem s_law_odd : FnScope N_law_odd ["purse", "wording"] (defScope (top 18)) := ⟨rfl, rfl, rfl, by decide +kernel, rfl, by decide +kernel, by decide +kernel⟩
/-! law_marred -/
abbrev N_law_marred : List Str := ["purse", "wording", "spot", "way", "wide", "signs", "sign", "between", "pieces", "left", "right", "piece"]
noncomputable def g_law_marred : En → Mem → Res Fl := sSeq (sPar [2, 3] (wCons (eCall 2 f_law_coin (dCons (eVar 0) (dCons (e2 gAdd (eBlt gLen (uCons (eVar 1) (uNil))) (eC (.int 1))) (dNil)))) (wCons (eCall 2 f_law_coin (dCons (eVar 0) (dCons (eC (.int 8)) (dNil)))) (wNil)))) (sSeq (sSet 4 (eC (.str "ABCDEFGHIJKLMNOPQRSTUVWXYZ0123456789abcdefghijklmnopqrstuvwxyz !#$&'()*+,-./:;<=>?\x40[]^_`{|}~\"\\"))) (sSeq (sSet 5 (e2 gIx (eLst (dCons (eC (.str "0123456789 -")) (dCons (eVar 4) (dNil)))) (eCall 2 f_law_coin (dCons (eVar 0) (dCons (eC (.int 2)) (dNil)))))) (sSeq (sSet 6 (e2 gIx (eVar 5) (eCall 2 f_law_coin (dCons (eVar 0) (dCons (eBlt gLen (uCons (eVar 5) (uNil))) (dNil)))))) (sSeq (sIf (asB (e2 gEq (eVar 3) (eC (.int 0)))) (sRet (e2 gAdd (e2 gAdd (eSlice (eVar 1) (pNo) (pInt (eVar 2))) (eVar 6)) (eSlice (eVar 1) (pInt (eVar 2)) (pNo)))) (sNop)) (sSeq (sIf (asB (e2 gEq (eVar 3) (eC (.int 1)))) (sRet (e2 gAdd (eSlice (eVar 1) (pNo) (pInt (eVar 2))) (eSlice (eVar 1) (pInt (e2 gAdd (eVar 2) (eC (.int 1)))) (pNo)))) (sNop)) (sSeq (sIf (asB (e2 gEq (eVar 3) (eC (.int 2)))) (sRet (e2 gAdd (e2 gAdd (eSlice (eVar 1) (pNo) (pInt (eVar 2))) (eVar 6)) (eSlice (eVar 1) (pInt (e2 gAdd (eVar 2) (eC (.int 1)))) (pNo)))) (sNop)) (sSeq (sIf (asB (e2 gEq (eVar 3) (eC (.int 3)))) (sRet (eCall 2 f_law_odd (dCons (eVar 0) (dCons (eVar 1) (dNil))))) (sNop)) (sSeq (sIf (asB (e2 (gIn false) (eVar 3) (eTup (dCons (eC (.int 4)) (dCons (eC (.int 5)) (dNil)))))) (sSeq (sSet 7 (e2 gIx (eLst (dCons (eC (.str " ")) (dCons (eC (.str "-")) (dNil)))) (e2 gSub (eVar 3) (eC (.int 4))))) (sSeq (sSet 8 (eM1 gSplit (eVar 1) (eVar 7))) (sSeq (sPar [9, 10] (wCons (eCall 2 f_law_coin (dCons (eVar 0) (dCons (eBlt gLen (uCons (eVar 8) (uNil))) (dNil)))) (wCons (eCall 2 f_law_coin (dCons (eVar 0) (dCons (eBlt gLen (uCons (eVar 8) (uNil))) (dNil)))) (wNil)))) (sSeq (sSet 11 (e2 gIx (eVar 8) (eVar 9))) (sSeq (sPut (eVar 8) (eVar 9) (e2 gIx (eVar 8) (eVar 10))) (sSeq (sPut (eVar 8) (eVar 10) (eVar 11)) (sRet (eM1 gJoin (eVar 7) (eVar 8))))))))) (sNop)) (sRet (eVar 1))))))))))
noncomputable def f_law_marred : Fn := fnOf 12 g_law_marred
theorem d_law_marred {S : Sg} (F : Fc S) (ok_law_coin : DefOk S "_law_coin" 1 2 f_law_coin) (ok_law_odd : DefOk S "_law_odd" 2 2 f_law_odd)  : SSs S N_law_marred (defScope (top 19)) (.sm 2) (defBody (top 19)) g_law_marred := by
  unfold g_law_marred
  exact ss_cons (ss_par2 rfl rfl (by decide) (by decide +kernel) (sws_cons (se_call ok_law_coin (by decide) rfl (sds_cons (se_var (i := 0)) (sds_cons (se_add (se_len ⟨rfl, F.b_len⟩ (sus_cons (se_var (i := 1)) (sus_nil))) (se_int)) (sds_nil)))) (sws_cons (se_call ok_law_coin (by decide) rfl (sds_cons (se_var (i := 0)) (sds_cons (se_int) (sds_nil)))) (sws_nil))) (fun env h => by cases env; cases h; rfl)) (ss_cons (ss_set (i := 4) rfl (Or.inl rfl) (se_str)) (ss_cons (ss_set (i := 5) rfl (Or.inl rfl) (se_ix (fun _ _ => by intro _ _; rfl) (se_lst (sds_cons (se_str) (sds_cons (se_var (i := 4)) (sds_nil)))) (se_call ok_law_coin (by decide) rfl (sds_cons (se_var (i := 0)) (sds_cons (se_int) (sds_nil)))))) (ss_cons (ss_set (i := 6) rfl (Or.inl rfl) (se_ix (fun _ _ => by intro _ _; rfl) (se_var (i := 5)) (se_call ok_law_coin (by decide) rfl (sds_cons (se_var (i := 0)) (sds_cons (se_len ⟨rfl, F.b_len⟩ (sus_cons (se_var (i := 5)) (sus_nil))) (sds_nil)))))) (ss_cons (ss_if ((sc_eq (se_var (i := 3)) (se_int)).sb) (ss_one (ss_ret (se_add (se_add (se_slice (se_var (i := 1)) (so_none) (so_some (se_var (i := 2)))) (se_var (i := 6))) (se_slice (se_var (i := 1)) (so_some (se_var (i := 2))) (so_none))))) (ss_nil)) (ss_cons (ss_if ((sc_eq (se_var (i := 3)) (se_int)).sb) (ss_one (ss_ret (se_add (se_slice (se_var (i := 1)) (so_none) (so_some (se_var (i := 2)))) (se_slice (se_var (i := 1)) (so_some (se_add (se_var (i := 2)) (se_int))) (so_none))))) (ss_nil)) (ss_cons (ss_if ((sc_eq (se_var (i := 3)) (se_int)).sb) (ss_one (ss_ret (se_add (se_add (se_slice (se_var (i := 1)) (so_none) (so_some (se_var (i := 2)))) (se_var (i := 6))) (se_slice (se_var (i := 1)) (so_some (se_add (se_var (i := 2)) (se_int))) (so_none))))) (ss_nil)) (ss_cons (ss_if ((sc_eq (se_var (i := 3)) (se_int)).sb) (ss_one (ss_ret (se_call ok_law_odd (by decide) rfl (sds_cons (se_var (i := 0)) (sds_cons (se_var (i := 1)) (sds_nil)))))) (ss_nil)) (ss_cons (ss_if ((sc_in rfl (se_var (i := 3)) (se_tup (sds_cons (se_int) (sds_cons (se_int) (sds_nil))))).sb) (ss_cons (ss_set (i := 7) rfl (Or.inl rfl) (se_ix (fun _ _ => by intro _ _; rfl) (se_lst (sds_cons (se_str) (sds_cons (se_str) (sds_nil)))) (se_sub (se_var (i := 3)) (se_int)))) (ss_cons (ss_set (i := 8) rfl (Or.inl rfl) (se_split (se_var (i := 1)) (se_var (i := 7)))) (ss_cons (ss_par2 rfl rfl (by decide) (by decide +kernel) (sws_cons (se_call ok_law_coin (by decide) rfl (sds_cons (se_var (i := 0)) (sds_cons (se_len ⟨rfl, F.b_len⟩ (sus_cons (se_var (i := 8)) (sus_nil))) (sds_nil)))) (sws_cons (se_call ok_law_coin (by decide) rfl (sds_cons (se_var (i := 0)) (sds_cons (se_len ⟨rfl, F.b_len⟩ (sus_cons (se_var (i := 8)) (sus_nil))) (sds_nil)))) (sws_nil))) (fun env h => by cases env; cases h; rfl)) (ss_cons (ss_set (i := 11) rfl (Or.inl rfl) (se_ix (fun _ _ => by intro _ _; rfl) (se_var (i := 8)) (se_var (i := 9)))) (ss_cons (ss_put (se_var (i := 8)) (se_var (i := 9)) (se_ix (fun _ _ => by intro _ _; rfl) (se_var (i := 8)) (se_var (i := 10)))) (ss_cons (ss_put (se_var (i := 8)) (se_var (i := 10)) (se_var (i := 11))) (ss_one (ss_ret (se_join (se_var (i := 7)) (se_var (i := 8))))))))))) (ss_nil)) (ss_one (ss_ret (se_var (i := 1))))))))))))
theorem s_law_marred : FnScope N_law_marred ["purse", "wording"] (defScope (top 19)) := ⟨rfl, rfl, rfl, by decide +kernel, rfl, by decide +kernel, by decide +kernel⟩
/-! law_right -/
abbrev N_law_right : List Str := ["purse", "bills_here", "turn", "amount", "bent", "told", "owed"]
noncomputable def g_law_right : En → Mem → Res Fl := sSeq (sSet 1 (eLst (dNil))) (sSeq (sFor (iR1 (uCons (eCall 2 f_law_coin (dCons (eVar 0) (dCons (eC (.int 9)) (dNil)))) (uNil))) (tgN 2) (sSeq (sSet 3 (eCall 2 f_law_coin (dCons (eVar 0) (dCons (e2 gIx (eLst (dCons (eC (.int 3)) (dCons (eC (.int 100)) (dCons (eC (.int 1000000)) (dNil))))) (eCall 2 f_law_coin (dCons (eVar 0) (dCons (eC (.int 3)) (dNil))))) (dNil))))) (sExpr (eMut muApp (eVar 1) (dCons (eBlt gStr (uCons (e2 gMul (eVar 3) (e2 gSub (eC (.int 1)) (e2 gMul (eC (.int 2)) (eBlt gIntA (uCons (e2 gEq (eCall 2 f_law_coin (dCons (eVar 0) (dCons (eC (.int 3)) (dNil)))) (eC (.int 0))) (uNil)))))) (uNil))) (dNil)))))) (sSeq (sFor (iR1 (uCons (eC (.int 8)) (uNil))) (tgN 2) (sSeq (sSet 4 (eCall 2 f_law_marred (dCons (eVar 0) (dCons (eM1 gJoin (eC (.str " ")) (eVar 1)) (dNil))))) (sSeq (sSet 5 (eCall 1 f_law_bills_of (dCons (eVar 4) (dNil)))) (sSeq (sSet 6 (eIf (asB (e2 gIsNot (eVar 5) (eC .non))) (eLst (dCons (eVar 5) (dNil))) (eLst (dNil)))) (sIf (bAnd (asB (e2 gLe (eBlt gLen (uCons (eVar 4) (uNil))) (eC (.int 3000)))) (asB (e2 gNe (eCall 2 f_law_caught (dCons (eVar 4) (dCons (eCall 2 f_law_coin (dCons (eVar 0) (dCons (eC (.int 2)) (dNil)))) (dNil)))) (eVar 6)))) (sRet (eC (.bl false))) (sNop)))))) (sRet (eC (.bl true)))))
noncomputable def f_law_right : Fn := fnOf 7 g_law_right
theorem d_law_right {S : Sg} (F : Fc S) (ok_law_coin : DefOk S "_law_coin" 1 2 f_law_coin) (ok_law_marred : DefOk S "_law_marred" 3 2 f_law_marred) (ok_law_bills_of : DefOk S "_law_bills_of" 2 1 f_law_bills_of) (ok_law_caught : DefOk S "_law_caught" 4 2 f_law_caught)  : SSs S N_law_right (defScope (top 20)) (.sm 4) (defBody (top 20)) g_law_right := by
  unfold g_law_right
  exact ss_cons (ss_set (i := 1) rfl (Or.inl rfl) (se_lst (sds_nil))) (ss_cons (ss_for (sg_name (i := 2)) (by decide +kernel) (si_range1 ⟨rfl, F.b_range⟩ (sus_cons (se_call ok_law_coin (by decide) rfl (sds_cons (se_var (i := 0)) (sds_cons (se_int) (sds_nil)))) (sus_nil))) (ss_cons (ss_set (i := 3) rfl (Or.inl rfl) (se_call ok_law_coin (by decide) rfl (sds_cons (se_var (i := 0)) (sds_cons (se_ix (fun _ _ => by intro _ _; rfl) (se_lst (sds_cons (se_int) (sds_cons (se_int) (sds_cons (se_int) (sds_nil))))) (se_call ok_law_coin (by decide) rfl (sds_cons (se_var (i := 0)) (sds_cons (se_int) (sds_nil))))) (sds_nil))))) (ss_one (ss_expr (se_mut PySem.F.slot_list_append PySem.F.type_list_append (fun X _ => mt_append) ms_app (se_var (i := 1)) (sds_cons (se_str1 ⟨rfl, F.b_str⟩ (sus_cons (se_mul (se_var (i := 3)) (se_sub (se_int) (se_mul (se_int) (se_intA ⟨rfl, F.b_int⟩ (sus_cons ((sc_eq (se_call ok_law_coin (by decide) rfl (sds_cons (se_var (i := 0)) (sds_cons (se_int) (sds_nil)))) (se_int)).se) (sus_nil)))))) (sus_nil))) (sds_nil))))))) (ss_cons (ss_for (sg_name (i := 2)) (by decide +kernel) (si_range1 ⟨rfl, F.b_range⟩ (sus_cons (se_int) (sus_nil))) (ss_cons (ss_set (i := 4) rfl (Or.inl rfl) (se_call ok_law_marred (by decide) rfl (sds_cons (se_var (i := 0)) (sds_cons (se_join (se_str) (se_var (i := 1))) (sds_nil))))) (ss_cons (ss_set (i := 5) rfl (Or.inl rfl) (se_call ok_law_bills_of (by decide) rfl (sds_cons (se_var (i := 4)) (sds_nil)))) (ss_cons (ss_set (i := 6) rfl (Or.inl rfl) (se_if ((sc_isnot (se_var (i := 5)) (se_non)).sb) (se_lst (sds_cons (se_var (i := 5)) (sds_nil))) (se_lst (sds_nil)))) (ss_one (ss_if ((sw_and ((sc_le (se_len ⟨rfl, F.b_len⟩ (sus_cons (se_var (i := 4)) (sus_nil))) (se_int)).sb) (sw_and1 ((sc_ne (se_call ok_law_caught (by decide) rfl (sds_cons (se_var (i := 4)) (sds_cons (se_call ok_law_coin (by decide) rfl (sds_cons (se_var (i := 0)) (sds_cons (se_int) (sds_nil)))) (sds_nil)))) (se_var (i := 6))).sb))).sb) (ss_one (ss_ret (se_bl))) (ss_nil))))))) (ss_one (ss_ret (se_bl)))))
theorem s_law_right : FnScope N_law_right ["purse"] (defScope (top 20)) := ⟨rfl, rfl, rfl, by decide +kernel, rfl, by decide +kernel, by decide +kernel⟩
/-! law -/
abbrev N_law : List Str := ["script", "spot", "purse", "turn"]
noncomputable def g_law : En → Mem → Res Fl := sSeq (sFor (iR1 (uCons (eBlt gMax2 (uCons (eC (.int 1)) (uCons (eBlt gMin2 (uCons (eC (.int 6)) (uCons (eBlt gLen (uCons (eVar 0) (uNil))) (uNil)))) (uNil)))) (uNil))) (tgN 1) (sSeq (sSet 2 (eNew (eCall 2 f_law_purse (dCons (eVar 0) (dCons (eVar 1) (dNil)))))) (sFor (iR1 (uCons (eC (.int 2)) (uNil))) (tgN 3) (sIf (bNot (asT (eCall 1 f_law_right (dCons (eVar 2) (dNil))))) (sRet (eC (.bl false))) (sNop))))) (sRet (eC (.bl true)))
noncomputable def f_law : Fn := fnOf 4 g_law
theorem d_law {S : Sg} (F : Fc S) (ok_law_purse : DefOk S "_law_purse" 1 2 f_law_purse) (ok_law_right : DefOk S "_law_right" 5 1 f_law_right)  : SSs S N_law (defScope (top 21)) (.sm 5) (defBody (top 21)) g_law := by
  unfold g_law
  exact ss_cons (ss_for (sg_name (i := 1)) (by decide +kernel) (si_range1 ⟨rfl, F.b_range⟩ (sus_cons (se_max2 ⟨rfl, F.b_max⟩ (sus_cons (se_int) (sus_cons (se_min2 ⟨rfl, F.b_min⟩ (sus_cons (se_int) (sus_cons (se_len ⟨rfl, F.b_len⟩ (sus_cons (se_var (i := 0)) (sus_nil))) (sus_nil)))) (sus_nil)))) (sus_nil))) (ss_cons (ss_set (i := 2) rfl (Or.inl rfl) (se_new (se_call ok_law_purse (by decide) rfl (sds_cons (se_var (i := 0)) (sds_cons (se_var (i := 1)) (sds_nil)))))) (ss_one (ss_for (sg_name (i := 3)) (by decide +kernel) (si_range1 ⟨rfl, F.b_range⟩ (sus_cons (se_int) (sus_nil))) (ss_one (ss_if (sb_not (sb_tru (se_call ok_law_right (by decide) rfl (sds_cons (se_var (i := 2)) (sds_nil))))) (ss_one (ss_ret (se_bl))) (ss_nil))))))) (ss_one (ss_ret (se_bl)))
theorem s_law : FnScope N_law ["script"] (defScope (top 21)) := ⟨rfl, rfl, rfl, by decide +kernel, rfl, by decide +kernel, by decide +kernel⟩
theorem s_init : FnScope ["self", "value"] ["self", "value"] (defScope (inClass (top 1) 0)) := ⟨rfl, rfl, rfl, by decide +kernel, rfl, by decide +kernel, by decide +kernel⟩
def fn : List He.DefD := ([⟨("show_bills", none), "show_bills", "show_bills", defArgs (top 6), defBody (top 6), defScope (top 6), [], []⟩, ⟨("number_in", none), "number_in", "number_in", defArgs (top 10), defBody (top 10), defScope (top 10), [], []⟩, ⟨("read_bills", none), "read_bills", "read_bills", defArgs (top 11), defBody (top 11), defScope (top 11), [], []⟩, ⟨("_law_purse", none), "_law_purse", "_law_purse", defArgs (top 13), defBody (top 13), defScope (top 13), [], []⟩, ⟨("_law_coin", none), "_law_coin", "_law_coin", defArgs (top 14), defBody (top 14), defScope (top 14), [], []⟩, ⟨("_law_amount", none), "_law_amount", "_law_amount", defArgs (top 15), defBody (top 15), defScope (top 15), [], []⟩, ⟨("_law_bills_of", none), "_law_bills_of", "_law_bills_of", defArgs (top 16), defBody (top 16), defScope (top 16), [], []⟩, ⟨("_law_caught", none), "_law_caught", "_law_caught", defArgs (top 17), defBody (top 17), defScope (top 17), [], []⟩, ⟨("_law_odd", none), "_law_odd", "_law_odd", defArgs (top 18), defBody (top 18), defScope (top 18), [], []⟩, ⟨("_law_marred", none), "_law_marred", "_law_marred", defArgs (top 19), defBody (top 19), defScope (top 19), [], []⟩, ⟨("_law_right", none), "_law_right", "_law_right", defArgs (top 20), defBody (top 20), defScope (top 20), [], []⟩, ⟨("law", none), "law", "law", defArgs (top 21), defBody (top 21), defScope (top 21), [], []⟩, ⟨("BillError", some "__init__"), "__init__", "BillError.__init__", defArgs (inClass (top 1) 0), defBody (inClass (top 1) 0), defScope (inClass (top 1) 0), [], []⟩] : List He.DefD)
def fs : List FB := ([fun K => (He.Fa.free "abs").ok K, fun K => (He.Fa.free "all").ok K, fun K => (He.Fa.free "int").ok K, fun K => (He.Fa.free "isinstance").ok K, fun K => (He.Fa.free "len").ok K, fun K => (He.Fa.free "max").ok K, fun K => (He.Fa.free "min").ok K, fun K => (He.Fa.free "range").ok K, fun K => (He.Fa.free "str").ok K, fun K => (He.Fa.str "DIGITS" "0123456789").ok K, fun K => (He.Fa.int "MOST_DIGITS_OF_AMOUNTS" 6).ok K, fun K => (He.Fa.glo "BillError").ok K, fun K => (He.Fa.glo "InvalidRow").ok K, fun K => (He.Fa.glo "NotEven").ok K, fun K => (He.Fa.glo "Unreadable").ok K, fun K => oexB K (He.ga K (cname 3)), fun K => iniB K (He.ga K (cname 3)) (He.fAd K ("BillError", some "__init__")), fun K => (He.Fa.glo "Unreadable").ok K, fun K => excs.all fun n => askB K (He.ga K (cname n)), fun K => excs.all fun n => exmB K (He.ga K (cname n)) (He.ga K (cname 0)) (is_BillError n)] : List FB) ++ ([fun K => excs.all fun n => kit1B K (He.ga K (cname n)) (He.ga K (cname 3)) (is_Unreadable n), fun K => excs.all fun n => kitB K (He.ga K (cname n)) [(He.ga K (cname 1)), (He.ga K (cname 2))] (ist_InvalidRow_NotEven n), fun K => (He.Fa.glo "show_bills").ok K, fun K => (He.Fa.glo "number_in").ok K, fun K => (He.Fa.glo "read_bills").ok K, fun K => (He.Fa.glo "_law_purse").ok K, fun K => (He.Fa.glo "_law_coin").ok K, fun K => (He.Fa.glo "_law_amount").ok K, fun K => (He.Fa.glo "_law_bills_of").ok K, fun K => (He.Fa.glo "_law_caught").ok K, fun K => (He.Fa.glo "_law_odd").ok K, fun K => (He.Fa.glo "_law_marred").ok K, fun K => (He.Fa.glo "_law_right").ok K, fun K => (He.Fa.glo "law").ok K] : List FB)
def loose : List Str := (["BillError", "DIGITS", "InvalidRow", "MOST_DIGITS_OF_AMOUNTS", "NotEven", "Unreadable", "__name__", "_law_amount", "_law_bills_of", "_law_caught", "_law_coin", "_law_marred", "_law_odd", "_law_purse", "_law_right", "number_in", "read_bills", "show_bills"] : List Str)
theorem facts {P : Program} {w : World} {K : PySem.W.Frag} {h : Heap} {mg : Str → Option Value} {f : Addr} (X : K.In h) (G : h.Ns mainGlobals mg) (hfa : mg ("law" : Str) = some (.ref f)) (c : SaysX fs fn K) :
    ∃ fd : FuncData, (∀ (s : Shared) (v : Value), BindsTo s fd ⟨[v], []⟩ [("script", v)]) ∧ ∀ base : Heap, K.In base → base.Ns mainGlobals mg → FnOk P w K mg base (L2.CX P w) 6 f fd ["script"] (spOf (Sx P w K mg base) 1 f_law) := by
  obtain ⟨fd_show_bills, F_show_bills⟩ := c.def_ 0 rfl
  obtain ⟨fd_number_in, F_number_in⟩ := c.def_ 1 rfl
  obtain ⟨fd_read_bills, F_read_bills⟩ := c.def_ 2 rfl
  obtain ⟨fd_law_purse, F_law_purse⟩ := c.def_ 3 rfl
  obtain ⟨fd_law_coin, F_law_coin⟩ := c.def_ 4 rfl
  obtain ⟨fd_law_amount, F_law_amount⟩ := c.def_ 5 rfl
  obtain ⟨fd_law_bills_of, F_law_bills_of⟩ := c.def_ 6 rfl
  obtain ⟨fd_law_caught, F_law_caught⟩ := c.def_ 7 rfl
  obtain ⟨fd_law_odd, F_law_odd⟩ := c.def_ 8 rfl
  obtain ⟨fd_law_marred, F_law_marred⟩ := c.def_ 9 rfl
  obtain ⟨fd_law_right, F_law_right⟩ := c.def_ 10 rfl
  obtain ⟨fd_law, F_law⟩ := c.def_ 11 rfl
  obtain ⟨fd_init, F_init⟩ := c.def_ 12 rfl
  have G_show_bills := He.glo_ok X G (c.fact 22)
  have G_number_in := He.glo_ok X G (c.fact 23)
  have G_read_bills := He.glo_ok X G (c.fact 24)
  have G_law_purse := He.glo_ok X G (c.fact 25)
  have G_law_coin := He.glo_ok X G (c.fact 26)
  have G_law_amount := He.glo_ok X G (c.fact 27)
  have G_law_bills_of := He.glo_ok X G (c.fact 28)
  have G_law_caught := He.glo_ok X G (c.fact 29)
  have G_law_odd := He.glo_ok X G (c.fact 30)
  have G_law_marred := He.glo_ok X G (c.fact 31)
  have G_law_right := He.glo_ok X G (c.fact 32)
  have G_law := He.glo_ok X G (c.fact 33)
  have e := hfa.symm.trans G_law
  cases e
  have b := FunD.bindsA (ps := ["script"]) F_law fun _ _ _ _ _ _ us hl => match us, hl with | [_], _ => rfl
  refine ⟨fd_law, fun s v => b s [v] rfl, fun base _ _ => ?_⟩
  have fini := val_ok (S := Sx P w K mg base) (k := 0) F_init s_init
  have bini : Binds K fd_init ["self", "value"] [] := F_init.bindsN fun _ _ _ _ _ _ us hl => match us, hl with | [_, _], _ => rfl
  have FF : Fc (Sx P w K mg base) := ⟨He.free_ok X G (c.fact 0), He.free_ok X G (c.fact 1), He.free_ok X G (c.fact 2), He.free_ok X G (c.fact 3), He.free_ok X G (c.fact 4), He.free_ok X G (c.fact 5), He.free_ok X G (c.fact 6), He.free_ok X G (c.fact 7), He.free_ok X G (c.fact 8), He.str_ok X G (c.fact 9), He.int_ok X G (c.fact 10), He.glo_ok X G (c.fact 11), He.glo_ok X G (c.fact 12), He.glo_ok X G (c.fact 13), He.glo_ok X G (c.fact 14), XOk.of (S := Sx P w K mg base) (c.fact 15) (c.fact 16) (He.glo_ok X G (c.fact 17)) fini bini, (fun n hn => askB_ok (S := Sx P w K mg base) (List.all_eq_true.mp (c.fact 18) n hn)), (fun n b hb => by
    unfold cond_BillError at hb
    split at hb
    · next hn => cases hb; exact of_decide_eq_true (List.all_eq_true.mp (c.fact 19) n hn)
    · cases hb), (fun n hn => of_decide_eq_true (List.all_eq_true.mp (c.fact 20) n hn)), (fun n hn => of_decide_eq_true (List.all_eq_true.mp (c.fact 21) n hn))⟩
  have ok_show_bills : DefOk (Sx P w K mg base) "show_bills" 1 1 f_show_bills := DefOk.of (S := Sx P w K mg base) F_show_bills G_show_bills s_show_bills (by decide) (fun _ _ _ _ _ _ us hl => match us, hl with | [_], _ => rfl) (d_show_bills FF)
  have ok_number_in : DefOk (Sx P w K mg base) "number_in" 1 2 f_number_in := DefOk.of (S := Sx P w K mg base) F_number_in G_number_in s_number_in (by decide) (fun _ _ _ _ _ _ us hl => match us, hl with | [_, _], _ => rfl) (d_number_in FF)
  have ok_read_bills : DefOk (Sx P w K mg base) "read_bills" 3 1 f_read_bills := DefOk.of (S := Sx P w K mg base) F_read_bills G_read_bills s_read_bills (by decide) (fun _ _ _ _ _ _ us hl => match us, hl with | [_], _ => rfl) (d_read_bills FF ok_number_in ok_show_bills)
  have kw_read_bills__text : DefKw (Sx P w K mg base) "read_bills" 3 1 ["text"] [0] f_read_bills := DefKw.of (S := Sx P w K mg base) _ _ F_read_bills G_read_bills s_read_bills (by decide) (fun _ _ _ _ _ _ us ws h1 h2 => match us, h1, ws, h2 with | [], _, [_], _ => rfl) (d_read_bills FF ok_number_in ok_show_bills)
  have ok_law_purse : DefOk (Sx P w K mg base) "_law_purse" 1 2 f_law_purse := DefOk.of (S := Sx P w K mg base) F_law_purse G_law_purse s_law_purse (by decide) (fun _ _ _ _ _ _ us hl => match us, hl with | [_, _], _ => rfl) (d_law_purse FF)
  have ok_law_coin : DefOk (Sx P w K mg base) "_law_coin" 1 2 f_law_coin := DefOk.of (S := Sx P w K mg base) F_law_coin G_law_coin s_law_coin (by decide) (fun _ _ _ _ _ _ us hl => match us, hl with | [_, _], _ => rfl) (d_law_coin FF)
  have ok_law_amount : DefOk (Sx P w K mg base) "_law_amount" 1 1 f_law_amount := DefOk.of (S := Sx P w K mg base) F_law_amount G_law_amount s_law_amount (by decide) (fun _ _ _ _ _ _ us hl => match us, hl with | [_], _ => rfl) (d_law_amount FF)
  have ok_law_bills_of : DefOk (Sx P w K mg base) "_law_bills_of" 2 1 f_law_bills_of := DefOk.of (S := Sx P w K mg base) F_law_bills_of G_law_bills_of s_law_bills_of (by decide) (fun _ _ _ _ _ _ us hl => match us, hl with | [_], _ => rfl) (d_law_bills_of FF ok_law_amount)
  have ok_law_caught : DefOk (Sx P w K mg base) "_law_caught" 4 2 f_law_caught := DefOk.of (S := Sx P w K mg base) F_law_caught G_law_caught s_law_caught (by decide) (fun _ _ _ _ _ _ us hl => match us, hl with | [_, _], _ => rfl) (d_law_caught FF ok_read_bills ok_show_bills kw_read_bills__text)
  have ok_law_odd : DefOk (Sx P w K mg base) "_law_odd" 2 2 f_law_odd := DefOk.of (S := Sx P w K mg base) F_law_odd G_law_odd s_law_odd (by decide) (fun _ _ _ _ _ _ us hl => match us, hl with | [_, _], _ => rfl) (d_law_odd FF ok_law_coin)
  have ok_law_marred : DefOk (Sx P w K mg base) "_law_marred" 3 2 f_law_marred := DefOk.of (S := Sx P w K mg base) F_law_marred G_law_marred s_law_marred (by decide) (fun _ _ _ _ _ _ us hl => match us, hl with | [_, _], _ => rfl) (d_law_marred FF ok_law_coin ok_law_odd)
  have ok_law_right : DefOk (Sx P w K mg base) "_law_right" 5 1 f_law_right := DefOk.of (S := Sx P w K mg base) F_law_right G_law_right s_law_right (by decide) (fun _ _ _ _ _ _ us hl => match us, hl with | [_], _ => rfl) (d_law_right FF ok_law_coin ok_law_marred ok_law_bills_of ok_law_caught)
  exact fn_ok (S := Sx P w K mg base) F_law s_law (by decide) (d_law FF ok_law_purse ok_law_right)
abbrev R : PySem.W.OpenRow := PySem.W.OpenLaw.row PySem.Challenge.rw_owedafresh_k55_bills_that_are_none
def sel : (Addr → Option Obj) → List Addr := fun g => He.asD g 4
abbrev hk : PySem.W.Hook := hookX sel fs fn
def ob (s : PySem.W.SharedT) : He.AlD := obsXG sel fs fn (HandSHeadRun.getT s)
theorem ob_eq (s : PySem.W.SharedT) : ob s = hk.obs s.abs := obsXG_eq (HandSHeadRun.getT_eq s)
theorem run (w : World) : HandSHeadRun.RunEq R (PySem.W.view R.prog [21]) hk ob 60000 loose w := by
  intro os
  kernel_rfl
end K55
section
open PySem PySem.W PySem.Calls PyProof.Rows
theorem K55.holds_of (good : ∀ ns : List Int, ns.length ≤ 63 → ∃ m, K55.f_law [.scr ns] [] = .ok (.v (.bl true)) m) : PySem.Challenge.rw_owedafresh_k55_bills_that_are_none.Holds := by
  w_on; o_law
  refine HandSHeadRun.head_any (r := OpenLaw.row PySem.Challenge.rw_owedafresh_k55_bills_that_are_none) (q := view (OpenLaw.row PySem.Challenge.rw_owedafresh_k55_bills_that_are_none).prog [21]) (H := K55.hk) (ob := K55.ob) (M := 60000) (loose := K55.loose) (d := HandSHeadRun.topDef (OpenLaw.row PySem.Challenge.rw_owedafresh_k55_bills_that_are_none).prog 21) (kwd := []) K55.ob_eq
    (by kernel_rfl) (fun s => by kernel_rfl) K55.run (by kernel_rfl) (by kernel_rfl) (by kernel_rfl) (by rfl) (by first | assumption | decide +kernel) (by decide +kernel) ⟨rfl, rfl, rfl, rfl, rfl, by decide +kernel⟩ ?hw ?hc
  case hw => w_witness2
  case hc =>
    refine L2.walk_ofE (l := PySem.Challenge.rw_owedafresh_k55_bills_that_are_none) (n := 63) (k := 6) (x := "script") (CX := Ow.CXw PySem.Challenge.rw_owedafresh_k55_bills_that_are_none.prog) rfl (by decide) (by kernel_rfl) ⟨rfl, by decide, by decide⟩ ?F Ow.cxw_no
    intro w mg fa h Y G hmg0
    obtain ⟨K, KX, c⟩ := Y
    have hmg : mg ("law" : PySem.Str) = some (.ref fa) := by
      have e : (HandSHeadRun.topDef (OpenLaw.row PySem.Challenge.rw_owedafresh_k55_bills_that_are_none).prog 21).name = ("law" : PySem.Str) := by kernel_rfl
      rw [← e]
      exact hmg0
    obtain ⟨fd, hb, hF⟩ := K55.facts (P := (PySem.Challenge.rw_owedafresh_k55_bills_that_are_none).prog) (w := w) KX G hmg c
    exact ⟨K, fd, Ow.spLaw K, KX, hb, fun H a ns hl _ hS => ⟨a, ns, rfl, hl, hS, fun _ => rfl⟩, fun base b1 b2 => Ow.law_ok (S := K55.Sx _ w K mg base) good (hF base b1 b2)⟩
end

namespace K55
open PySem PySem.Spec L2 Ow
/-- a purse -/
def Pu (M : Mem) (n : Nat) (k : Int) : Prop := ∃ a b c : Int, M[n]? = some (.lst [.int a, .int b, .int c]) ∧ 0 ≤ a ∧ 0 ≤ b ∧ b < 10 ^ 24 + 7 ∧ 0 ≤ c ∧ c ≤ k
theorem sm_small {i : Int} (h : -(2 ^ 64) < i) (h2 : i < 2 ^ 64) : sm i = true := by
  unfold sm
  rw [decide_eq_true h, decide_eq_true h2] <;> rfl
theorem smul_l {i j : Int} (h : -(2 ^ 64) < i ∧ i < 2 ^ 64) : smul i j = true := by
  unfold smul
  rw [sm_small h.1 h.2, Bool.true_or]
theorem smul_r {i j : Int} (h : -(2 ^ 64) < j ∧ j < 2 ^ 64) : smul i j = true := by
  unfold smul
  rw [sm_small h.1 h.2, Bool.or_true]
theorem log2_small {j : Int} (h0 : 0 < j) (h : j < 2 ^ 62) : j.natAbs.log2 < 9000 := by
  have h1 : j.natAbs < 2 ^ 62 := by omega
  have h2 : j.natAbs ≠ 0 := by omega
  have := (Nat.log2_lt h2).mpr h1
  omega
theorem cdiv_ok {i j : Int} (h0 : 0 < j) (h : j < 2 ^ 62) : cdiv i j = true := by
  unfold cdiv
  simp [h0, log2_small h0 h]
theorem cpow_ok {i j : Int} (h0 : 0 ≤ j) (h : j ≤ 1000) (h2 : -(2 ^ 100) < i) (h3 : i < 2 ^ 100) : cpow i j = true := by
  unfold cpow
  have : i.natAbs < 2 ^ 1000 := Nat.lt_of_lt_of_le (by omega : i.natAbs < 2 ^ 100) (Nat.pow_le_pow_right (by decide) (by decide))
  simp [h0, h, this]
theorem p24 {M : Mem} : gPow M (.int 10) (.int 24) = some (.v (.int 1000000000000000000000000)) := by
  rw [o_pow (by decide +kernel)] <;> rfl
theorem p25 {M : Mem} : gPow M (.int 10) (.int 25) = some (.v (.int 10000000000000000000000000)) := by
  rw [o_pow (by decide +kernel)] <;> rfl
theorem p18 {M : Mem} : gPow M (.int 10) (.int 18) = some (.v (.int 1000000000000000000)) := by
  rw [o_pow (by decide +kernel)] <;> rfl
theorem pow2 {x c : Int} (h0 : 0 ≤ c) (h1 : c ≤ 2 ^ 60) : cpow (x % (10 ^ Int.toNat 25 + 13) + 982451653 * (c + 1)) 2 = true := by
  have e : (10 : Int) ^ Int.toNat 25 + 13 = 10000000000000000000000013 := by decide +kernel
  rw [e]
  exact cpow_ok (by decide) (by decide) (by omega) (by omega)
theorem coin {M : Mem} {n : Nat} {k many : Int} (h : Pu M n k) (hk : k ≤ 2 ^ 60) (h0 : 0 < many) (h1 : many < 2 ^ 62) : EvF (f_law_coin [.ref n, .int many] M) (fun w M' => ∃ r, w = .v (.int r) ∧ 0 ≤ r ∧ r < many ∧ Pu M' n (k + 1)) F0 := by
  obtain ⟨a, b, c, e, ha, hb, hb2, hc, hk2⟩ := h
  have hn : n < M.length := (List.getElem?_eq_some_iff.mp e).1
  refine evf ?_
  unfold g_law_coin
  (repeat (first | ((with_reducible show Ev _ _ _); (first | ((with_reducible apply ev_var); · exact rfl) | ((with_reducible apply ev_own); · exact rfl) | (with_reducible apply ev_c) | (with_reducible apply ev_dNil) | (with_reducible apply ev_uNil) | (with_reducible apply ev_wNil) | (with_reducible apply ev_nop) | (with_reducible apply ev_pNo) | (with_reducible apply ev_retN) | (with_reducible apply ev_seq) | (with_reducible apply ev_if) | (with_reducible apply ev_setv) | (with_reducible apply ev_ret) | (with_reducible apply ev_raise) | (with_reducible apply ev_expr) | (with_reducible apply ev_e2) | (with_reducible apply ev_asB) | (with_reducible apply ev_asT) | (with_reducible apply ev_not) | (with_reducible apply ev_and) | (with_reducible apply ev_or) | (with_reducible apply ev_eAnd) | (with_reducible apply ev_eOr) | (with_reducible apply ev_eNot) | (with_reducible apply ev_eIf) | (with_reducible apply ev_neg) | (with_reducible apply ev_lst) | (with_reducible apply ev_tup) | (with_reducible apply ev_dCons) | (with_reducible apply ev_uCons) | (with_reducible apply ev_blt) | (with_reducible apply ev_call) | (with_reducible apply ev_callK) | (with_reducible apply ev_new) | (with_reducible apply ev_wCons) | (with_reducible apply ev_par) | (with_reducible apply ev_asg) | (with_reducible apply ev_m1) | (with_reducible apply ev_m0) | (with_reducible apply ev_repl) | (with_reducible apply ev_pInt) | (with_reducible apply ev_slice) | (with_reducible apply ev_iSeq) | (with_reducible apply ev_iR1) | (with_reducible apply ev_iR2) | (with_reducible apply ev_mut) | (with_reducible apply ev_put) | (with_reducible apply ev_chain))) | ((with_reducible apply Exists.intro); (repeat (with_reducible apply Exists.intro)); (first | refine ⟨rfl, rfl, rfl, ?_⟩ | (refine ⟨rfl, rfl, ?_, ?_⟩; · (first | exact ix_ref e rfl)) | refine ⟨rfl, rfl, ?_⟩ | (refine ⟨?_, rfl, rfl, ?_⟩; · (first | exact ix_ref e rfl)) | (refine ⟨rfl, ?_, ?_⟩; · (first | exact ix_ref e rfl)) | refine ⟨rfl, ?_⟩ | (refine ⟨?_, ?_⟩; · (first | exact ix_ref e rfl)))) | ((with_reducible refine And.intro ?_ ?_); · (first | exact rfl | exact ix_ref e rfl))))
  refine ⟨fun hp => ?_, fun hp => ?_⟩
  · have hp := of_decide_eq_true hp
    (repeat (first | ((with_reducible show Ev _ _ _); (first | ((with_reducible apply ev_var); · exact rfl) | ((with_reducible apply ev_own); · exact rfl) | (with_reducible apply ev_c) | (with_reducible apply ev_dNil) | (with_reducible apply ev_uNil) | (with_reducible apply ev_wNil) | (with_reducible apply ev_nop) | (with_reducible apply ev_pNo) | (with_reducible apply ev_retN) | (with_reducible apply ev_seq) | (with_reducible apply ev_if) | (with_reducible apply ev_setv) | (with_reducible apply ev_ret) | (with_reducible apply ev_raise) | (with_reducible apply ev_expr) | (with_reducible apply ev_e2) | (with_reducible apply ev_asB) | (with_reducible apply ev_asT) | (with_reducible apply ev_not) | (with_reducible apply ev_and) | (with_reducible apply ev_or) | (with_reducible apply ev_eAnd) | (with_reducible apply ev_eOr) | (with_reducible apply ev_eNot) | (with_reducible apply ev_eIf) | (with_reducible apply ev_neg) | (with_reducible apply ev_lst) | (with_reducible apply ev_tup) | (with_reducible apply ev_dCons) | (with_reducible apply ev_uCons) | (with_reducible apply ev_blt) | (with_reducible apply ev_call) | (with_reducible apply ev_callK) | (with_reducible apply ev_new) | (with_reducible apply ev_wCons) | (with_reducible apply ev_par) | (with_reducible apply ev_asg) | (with_reducible apply ev_m1) | (with_reducible apply ev_m0) | (with_reducible apply ev_repl) | (with_reducible apply ev_pInt) | (with_reducible apply ev_slice) | (with_reducible apply ev_iSeq) | (with_reducible apply ev_iR1) | (with_reducible apply ev_iR2) | (with_reducible apply ev_mut) | (with_reducible apply ev_put) | (with_reducible apply ev_chain))) | ((with_reducible apply Exists.intro); (repeat (with_reducible apply Exists.intro)); (first | refine ⟨rfl, rfl, rfl, ?_⟩ | (refine ⟨rfl, rfl, ?_, ?_⟩; · (first | exact ix_ref e rfl | exact o_mod h0 | exact o_div (cdiv_ok h0 h1) | exact tgt_ref e)) | refine ⟨rfl, rfl, ?_⟩ | (refine ⟨?_, rfl, rfl, ?_⟩; · (first | exact ix_ref e rfl | exact o_mod h0 | exact o_div (cdiv_ok h0 h1) | exact tgt_ref e)) | (refine ⟨rfl, ?_, ?_⟩; · (first | exact ix_ref e rfl | exact o_mod h0 | exact o_div (cdiv_ok h0 h1) | exact tgt_ref e)) | refine ⟨rfl, ?_⟩ | (refine ⟨?_, ?_⟩; · (first | exact ix_ref e rfl | exact o_mod h0 | exact o_div (cdiv_ok h0 h1) | exact tgt_ref e)))) | ((with_reducible refine And.intro ?_ ?_); · (first | exact rfl | exact ix_ref e rfl | exact o_mod h0 | exact o_div (cdiv_ok h0 h1) | exact tgt_ref e))))
    refine ⟨Int.emod_nonneg _ (by omega), Int.emod_lt_of_pos _ h0, a / many, b, c, ?_, Int.ediv_nonneg ha (by omega), hb, hb2, hc, by omega⟩
    exact List.getElem?_set_self hn
  · have e2 : (M.set n (.lst [.int a, .int b, .int (c + 1)]))[n]? = some (.lst [.int a, .int b, .int (c + 1)]) := List.getElem?_set_self hn
    (repeat (first | ((with_reducible show Ev _ _ _); (first | ((with_reducible apply ev_var); · exact rfl) | ((with_reducible apply ev_own); · exact rfl) | (with_reducible apply ev_c) | (with_reducible apply ev_dNil) | (with_reducible apply ev_uNil) | (with_reducible apply ev_wNil) | (with_reducible apply ev_nop) | (with_reducible apply ev_pNo) | (with_reducible apply ev_retN) | (with_reducible apply ev_seq) | (with_reducible apply ev_if) | (with_reducible apply ev_setv) | (with_reducible apply ev_ret) | (with_reducible apply ev_raise) | (with_reducible apply ev_expr) | (with_reducible apply ev_e2) | (with_reducible apply ev_asB) | (with_reducible apply ev_asT) | (with_reducible apply ev_not) | (with_reducible apply ev_and) | (with_reducible apply ev_or) | (with_reducible apply ev_eAnd) | (with_reducible apply ev_eOr) | (with_reducible apply ev_eNot) | (with_reducible apply ev_eIf) | (with_reducible apply ev_neg) | (with_reducible apply ev_lst) | (with_reducible apply ev_tup) | (with_reducible apply ev_dCons) | (with_reducible apply ev_uCons) | (with_reducible apply ev_blt) | (with_reducible apply ev_call) | (with_reducible apply ev_callK) | (with_reducible apply ev_new) | (with_reducible apply ev_wCons) | (with_reducible apply ev_par) | (with_reducible apply ev_asg) | (with_reducible apply ev_m1) | (with_reducible apply ev_m0) | (with_reducible apply ev_repl) | (with_reducible apply ev_pInt) | (with_reducible apply ev_slice) | (with_reducible apply ev_iSeq) | (with_reducible apply ev_iR1) | (with_reducible apply ev_iR2) | (with_reducible apply ev_mut) | (with_reducible apply ev_put) | (with_reducible apply ev_chain))) | ((with_reducible apply Exists.intro); (repeat (with_reducible apply Exists.intro)); (first | refine ⟨rfl, rfl, rfl, ?_⟩ | (refine ⟨rfl, rfl, ?_, ?_⟩; · (first | exact ix_ref e rfl | exact tgt_ref e | exact ix_ref e2 rfl | exact o_mod h0 | exact o_mul (smul_l ⟨by decide, by decide⟩) | exact p24 | exact p25 | exact o_mod (by decide +kernel) | exact o_pow (pow2 hc (by omega)) | exact o_pow (cpow_ok (by decide) (by decide) (by omega) (by omega)) | exact o_div (cdiv_ok (by decide) (by decide)))) | refine ⟨rfl, rfl, ?_⟩ | (refine ⟨?_, rfl, rfl, ?_⟩; · (first | exact ix_ref e rfl | exact tgt_ref e | exact ix_ref e2 rfl | exact o_mod h0 | exact o_mul (smul_l ⟨by decide, by decide⟩) | exact p24 | exact p25 | exact o_mod (by decide +kernel) | exact o_pow (pow2 hc (by omega)) | exact o_pow (cpow_ok (by decide) (by decide) (by omega) (by omega)) | exact o_div (cdiv_ok (by decide) (by decide)))) | (refine ⟨rfl, ?_, ?_⟩; · (first | exact ix_ref e rfl | exact tgt_ref e | exact ix_ref e2 rfl | exact o_mod h0 | exact o_mul (smul_l ⟨by decide, by decide⟩) | exact p24 | exact p25 | exact o_mod (by decide +kernel) | exact o_pow (pow2 hc (by omega)) | exact o_pow (cpow_ok (by decide) (by decide) (by omega) (by omega)) | exact o_div (cdiv_ok (by decide) (by decide)))) | refine ⟨rfl, ?_⟩ | (refine ⟨?_, ?_⟩; · (first | exact ix_ref e rfl | exact tgt_ref e | exact ix_ref e2 rfl | exact o_mod h0 | exact o_mul (smul_l ⟨by decide, by decide⟩) | exact p24 | exact p25 | exact o_mod (by decide +kernel) | exact o_pow (pow2 hc (by omega)) | exact o_pow (cpow_ok (by decide) (by decide) (by omega) (by omega)) | exact o_div (cdiv_ok (by decide) (by decide)))))) | ((with_reducible refine And.intro ?_ ?_); · (first | exact rfl | exact ix_ref e rfl | exact tgt_ref e | exact ix_ref e2 rfl | exact o_mod h0 | exact o_mul (smul_l ⟨by decide, by decide⟩) | exact p24 | exact p25 | exact o_mod (by decide +kernel) | exact o_pow (pow2 hc (by omega)) | exact o_pow (cpow_ok (by decide) (by decide) (by omega) (by omega)) | exact o_div (cdiv_ok (by decide) (by decide))))))
    exact ⟨Int.emod_nonneg _ (by omega), Int.emod_lt_of_pos _ h0, a, b, c + 1, e2, ha, hb, hb2, by omega, by omega⟩
end K55
namespace K55
open PySem PySem.Spec L2 Ow
theorem purse {M : Mem} {ns : List Int} {p : Int} (h0 : 0 ≤ p) (h1 : p < 64) : EvF (f_law_purse [.scr ns, .int p] M) (fun w m => m = M ∧ ∃ a b : Int, w = .o (.lst [.int a, .int b, .int 0]) ∧ 0 ≤ a ∧ 0 ≤ b ∧ b < 10 ^ 24 + 7) F0 := by
  refine evf ?_
  unfold g_law_purse
  (repeat (first | ((with_reducible show Ev _ _ _); (first | ((with_reducible apply ev_var); · exact rfl) | ((with_reducible apply ev_own); · exact rfl) | (with_reducible apply ev_c) | (with_reducible apply ev_dNil) | (with_reducible apply ev_uNil) | (with_reducible apply ev_wNil) | (with_reducible apply ev_nop) | (with_reducible apply ev_pNo) | (with_reducible apply ev_retN) | (with_reducible apply ev_seq) | (with_reducible apply ev_if) | (with_reducible apply ev_setv) | (with_reducible apply ev_ret) | (with_reducible apply ev_raise) | (with_reducible apply ev_expr) | (with_reducible apply ev_e2) | (with_reducible apply ev_asB) | (with_reducible apply ev_asT) | (with_reducible apply ev_not) | (with_reducible apply ev_and) | (with_reducible apply ev_or) | (with_reducible apply ev_eAnd) | (with_reducible apply ev_eOr) | (with_reducible apply ev_eNot) | (with_reducible apply ev_eIf) | (with_reducible apply ev_neg) | (with_reducible apply ev_lst) | (with_reducible apply ev_tup) | (with_reducible apply ev_dCons) | (with_reducible apply ev_uCons) | (with_reducible apply ev_blt) | (with_reducible apply ev_call) | (with_reducible apply ev_callK) | (with_reducible apply ev_new) | (with_reducible apply ev_wCons) | (with_reducible apply ev_par) | (with_reducible apply ev_asg) | (with_reducible apply ev_m1) | (with_reducible apply ev_m0) | (with_reducible apply ev_repl) | (with_reducible apply ev_pInt) | (with_reducible apply ev_slice) | (with_reducible apply ev_iSeq) | (with_reducible apply ev_iR1) | (with_reducible apply ev_iR2) | (with_reducible apply ev_mut) | (with_reducible apply ev_put) | (with_reducible apply ev_chain))) | ((with_reducible apply Exists.intro); (repeat (with_reducible apply Exists.intro)); (first | refine ⟨rfl, rfl, rfl, ?_⟩ | refine ⟨rfl, rfl, ?_⟩ | refine ⟨rfl, ?_⟩)) | ((with_reducible refine And.intro ?_ ?_); · (first | exact rfl))))
  have fin : ∀ c x : Int, 0 ≤ max 0 (c - 10 ^ Int.toNat 18) ∧ 0 ≤ x % (10 ^ Int.toNat 24 + 7) ∧ x % (10 ^ Int.toNat 24 + 7) < 10 ^ 24 + 7 := fun c x => by
    have e : (10 : Int) ^ Int.toNat 24 + 7 = 1000000000000000000000007 := by decide +kernel
    rw [e]
    omega
  refine ⟨fun hp => ?_, fun hp => ?_⟩
  · have hp := of_decide_eq_true hp
    obtain ⟨x, hx⟩ : ∃ x, gIx M (.scr ns) (.int p) = some (.v (.int x)) := by
      obtain ⟨j, rfl⟩ : ∃ j : Nat, p = j := ⟨p.toNat, by omega⟩
      have hj : j < ns.length := by omega
      refine ⟨ns[j], ?_⟩
      show (atI ns j).map _ = _
      have : atI ns (j : Int) = some ns[j] := by
        unfold atI ixN
        simp [hj]
      rw [this] <;> rfl
    (repeat (first | ((with_reducible show Ev _ _ _); (first | ((with_reducible apply ev_var); · exact rfl) | ((with_reducible apply ev_own); · exact rfl) | (with_reducible apply ev_c) | (with_reducible apply ev_dNil) | (with_reducible apply ev_uNil) | (with_reducible apply ev_wNil) | (with_reducible apply ev_nop) | (with_reducible apply ev_pNo) | (with_reducible apply ev_retN) | (with_reducible apply ev_seq) | (with_reducible apply ev_if) | (with_reducible apply ev_setv) | (with_reducible apply ev_ret) | (with_reducible apply ev_raise) | (with_reducible apply ev_expr) | (with_reducible apply ev_e2) | (with_reducible apply ev_asB) | (with_reducible apply ev_asT) | (with_reducible apply ev_not) | (with_reducible apply ev_and) | (with_reducible apply ev_or) | (with_reducible apply ev_eAnd) | (with_reducible apply ev_eOr) | (with_reducible apply ev_eNot) | (with_reducible apply ev_eIf) | (with_reducible apply ev_neg) | (with_reducible apply ev_lst) | (with_reducible apply ev_tup) | (with_reducible apply ev_dCons) | (with_reducible apply ev_uCons) | (with_reducible apply ev_blt) | (with_reducible apply ev_call) | (with_reducible apply ev_callK) | (with_reducible apply ev_new) | (with_reducible apply ev_wCons) | (with_reducible apply ev_par) | (with_reducible apply ev_asg) | (with_reducible apply ev_m1) | (with_reducible apply ev_m0) | (with_reducible apply ev_repl) | (with_reducible apply ev_pInt) | (with_reducible apply ev_slice) | (with_reducible apply ev_iSeq) | (with_reducible apply ev_iR1) | (with_reducible apply ev_iR2) | (with_reducible apply ev_mut) | (with_reducible apply ev_put) | (with_reducible apply ev_chain))) | ((with_reducible apply Exists.intro); (repeat (with_reducible apply Exists.intro)); (first | refine ⟨rfl, rfl, rfl, ?_⟩ | (refine ⟨rfl, rfl, ?_, ?_⟩; · (first | exact hx | exact p18 | exact p24 | exact o_mul (smul_r ⟨by decide, by decide⟩) | exact o_mod (by decide +kernel) | exact (show (3 : Nat) ≤ sizeLine by decide))) | refine ⟨rfl, rfl, ?_⟩ | (refine ⟨?_, rfl, rfl, ?_⟩; · (first | exact hx | exact p18 | exact p24 | exact o_mul (smul_r ⟨by decide, by decide⟩) | exact o_mod (by decide +kernel) | exact (show (3 : Nat) ≤ sizeLine by decide))) | (refine ⟨rfl, ?_, ?_⟩; · (first | exact hx | exact p18 | exact p24 | exact o_mul (smul_r ⟨by decide, by decide⟩) | exact o_mod (by decide +kernel) | exact (show (3 : Nat) ≤ sizeLine by decide))) | refine ⟨rfl, ?_⟩ | (refine ⟨?_, ?_⟩; · (first | exact hx | exact p18 | exact p24 | exact o_mul (smul_r ⟨by decide, by decide⟩) | exact o_mod (by decide +kernel) | exact (show (3 : Nat) ≤ sizeLine by decide))))) | ((with_reducible refine And.intro ?_ ?_); · (first | exact rfl | exact hx | exact p18 | exact p24 | exact o_mul (smul_r ⟨by decide, by decide⟩) | exact o_mod (by decide +kernel) | exact (show (3 : Nat) ≤ sizeLine by decide)))))
    exact fin _ _
  · (repeat (first | ((with_reducible show Ev _ _ _); (first | ((with_reducible apply ev_var); · exact rfl) | ((with_reducible apply ev_own); · exact rfl) | (with_reducible apply ev_c) | (with_reducible apply ev_dNil) | (with_reducible apply ev_uNil) | (with_reducible apply ev_wNil) | (with_reducible apply ev_nop) | (with_reducible apply ev_pNo) | (with_reducible apply ev_retN) | (with_reducible apply ev_seq) | (with_reducible apply ev_if) | (with_reducible apply ev_setv) | (with_reducible apply ev_ret) | (with_reducible apply ev_raise) | (with_reducible apply ev_expr) | (with_reducible apply ev_e2) | (with_reducible apply ev_asB) | (with_reducible apply ev_asT) | (with_reducible apply ev_not) | (with_reducible apply ev_and) | (with_reducible apply ev_or) | (with_reducible apply ev_eAnd) | (with_reducible apply ev_eOr) | (with_reducible apply ev_eNot) | (with_reducible apply ev_eIf) | (with_reducible apply ev_neg) | (with_reducible apply ev_lst) | (with_reducible apply ev_tup) | (with_reducible apply ev_dCons) | (with_reducible apply ev_uCons) | (with_reducible apply ev_blt) | (with_reducible apply ev_call) | (with_reducible apply ev_callK) | (with_reducible apply ev_new) | (with_reducible apply ev_wCons) | (with_reducible apply ev_par) | (with_reducible apply ev_asg) | (with_reducible apply ev_m1) | (with_reducible apply ev_m0) | (with_reducible apply ev_repl) | (with_reducible apply ev_pInt) | (with_reducible apply ev_slice) | (with_reducible apply ev_iSeq) | (with_reducible apply ev_iR1) | (with_reducible apply ev_iR2) | (with_reducible apply ev_mut) | (with_reducible apply ev_put) | (with_reducible apply ev_chain))) | ((with_reducible apply Exists.intro); (repeat (with_reducible apply Exists.intro)); (first | refine ⟨rfl, rfl, rfl, ?_⟩ | (refine ⟨rfl, rfl, ?_, ?_⟩; · (first | exact p18 | exact p24 | exact o_mul (smul_r ⟨by decide, by decide⟩) | exact o_mod (by decide +kernel) | exact (show (3 : Nat) ≤ sizeLine by decide))) | refine ⟨rfl, rfl, ?_⟩ | (refine ⟨?_, rfl, rfl, ?_⟩; · (first | exact p18 | exact p24 | exact o_mul (smul_r ⟨by decide, by decide⟩) | exact o_mod (by decide +kernel) | exact (show (3 : Nat) ≤ sizeLine by decide))) | (refine ⟨rfl, ?_, ?_⟩; · (first | exact p18 | exact p24 | exact o_mul (smul_r ⟨by decide, by decide⟩) | exact o_mod (by decide +kernel) | exact (show (3 : Nat) ≤ sizeLine by decide))) | refine ⟨rfl, ?_⟩ | (refine ⟨?_, ?_⟩; · (first | exact p18 | exact p24 | exact o_mul (smul_r ⟨by decide, by decide⟩) | exact o_mod (by decide +kernel) | exact (show (3 : Nat) ≤ sizeLine by decide))))) | ((with_reducible refine And.intro ?_ ?_); · (first | exact rfl | exact p18 | exact p24 | exact o_mul (smul_r ⟨by decide, by decide⟩) | exact o_mod (by decide +kernel) | exact (show (3 : Nat) ≤ sizeLine by decide)))))
    exact fin _ _
end K55
namespace K55
open PySem PySem.Spec L2 Ow
abbrev dI (vs : List Int) : List D := vs.map D.int
theorem gStr_int {M : Mem} {v : Int} (h : v.natAbs < 10 ^ 6) : gStr M [.int v] = some (.v (.str (tos v))) := by
  show (if v.natAbs.log2 < 1920 then some (W.v (.str (toString v))) else none) = _
  have h2 : v.natAbs.log2 < 1920 := by
    by_cases h0 : v.natAbs = 0
    · rw [h0]; decide
    · have := (Nat.log2_lt h0).mpr (Nat.lt_of_lt_of_le h (by decide : 10 ^ 6 ≤ 2 ^ 20))
      omega
  rw [if_pos h2] <;> rfl
theorem tos_len {v : Int} (h : v.natAbs < 10 ^ 6) : (tos v).length ≤ 7 := by
  rw [TL.len_tl]
  cases v with
  | ofNat n =>
    rw [show Int.ofNat n = (n : Int) from rfl, tos_nat]
    have := TL.numL_len (n := n) (k := 6) (by decide) h
    omega
  | negSucc m =>
    rw [show Int.negSucc m = -((m + 1 : Nat) : Int) from rfl, tos_neg (by omega), List.length_cons]
    have := TL.numL_len (n := m + 1) (k := 6) (by decide) (by simpa using h)
    omega
theorem join_fits : ∀ {vs : List Int}, (∀ v ∈ vs, v.natAbs < 10 ^ 6) → ((vs.map tos).map (·.length)).sum ≤ 7 * vs.length
  | [], _ => Nat.le_refl _
  | v :: r, h => by
    have h1 := tos_len (h v (by simp))
    have h2 := join_fits fun w hw => h w (List.mem_cons_of_mem _ hw)
    simp only [List.map_cons, List.sum_cons, List.length_cons] at h2 ⊢
    omega
theorem shows {M : Mem} {vs : List Int} (hv : ∀ v ∈ vs, v.natAbs < 10 ^ 6) (hl : vs.length ≤ 1000000) : EvF (f_show_bills [.lst (dI vs)] M) (fun w m => m = M ∧ w = .v (.str (Txt.join " " (vs.map tos)))) F0 := by
  refine evf ?_
  unfold g_show_bills
  refine ev_ret (ev_m1 (ev_c ⟨_, rfl, ev_map (fun d => match d with
    | .int v => .str (tos v)
    | d => d) ?_⟩))
  (repeat (first | ((with_reducible show Ev _ _ _); (first | ((with_reducible apply ev_var); · exact rfl) | ((with_reducible apply ev_own); · exact rfl) | (with_reducible apply ev_c) | (with_reducible apply ev_dNil) | (with_reducible apply ev_uNil) | (with_reducible apply ev_wNil) | (with_reducible apply ev_nop) | (with_reducible apply ev_pNo) | (with_reducible apply ev_retN) | (with_reducible apply ev_seq) | (with_reducible apply ev_if) | (with_reducible apply ev_setv) | (with_reducible apply ev_ret) | (with_reducible apply ev_raise) | (with_reducible apply ev_expr) | (with_reducible apply ev_e2) | (with_reducible apply ev_asB) | (with_reducible apply ev_asT) | (with_reducible apply ev_not) | (with_reducible apply ev_and) | (with_reducible apply ev_or) | (with_reducible apply ev_eAnd) | (with_reducible apply ev_eOr) | (with_reducible apply ev_eNot) | (with_reducible apply ev_eIf) | (with_reducible apply ev_neg) | (with_reducible apply ev_lst) | (with_reducible apply ev_tup) | (with_reducible apply ev_dCons) | (with_reducible apply ev_uCons) | (with_reducible apply ev_blt) | (with_reducible apply ev_call) | (with_reducible apply ev_callK) | (with_reducible apply ev_new) | (with_reducible apply ev_wCons) | (with_reducible apply ev_par) | (with_reducible apply ev_asg) | (with_reducible apply ev_m1) | (with_reducible apply ev_m0) | (with_reducible apply ev_repl) | (with_reducible apply ev_pInt) | (with_reducible apply ev_slice) | (with_reducible apply ev_iSeq) | (with_reducible apply ev_iR1) | (with_reducible apply ev_iR2) | (with_reducible apply ev_mut) | (with_reducible apply ev_put) | (with_reducible apply ev_chain))) | ((with_reducible apply Exists.intro); (repeat (with_reducible apply Exists.intro)); (first | refine ⟨rfl, rfl, rfl, ?_⟩ | refine ⟨rfl, rfl, ?_⟩ | refine ⟨rfl, ?_⟩)) | ((with_reducible refine And.intro ?_ ?_); · (first | exact rfl))))
  refine ⟨memOk_nil, ?_, ?_, ?_⟩
  · rw [List.length_map]
    exact Nat.le_trans hl (by decide)
  · intro x hx
    obtain ⟨v, hv', rfl⟩ := List.mem_map.mp hx
    refine ⟨_, rfl, ?_⟩
    (repeat (first | ((with_reducible show Ev _ _ _); (first | ((with_reducible apply ev_var); · exact rfl) | ((with_reducible apply ev_own); · exact rfl) | (with_reducible apply ev_c) | (with_reducible apply ev_dNil) | (with_reducible apply ev_uNil) | (with_reducible apply ev_wNil) | (with_reducible apply ev_nop) | (with_reducible apply ev_pNo) | (with_reducible apply ev_retN) | (with_reducible apply ev_seq) | (with_reducible apply ev_if) | (with_reducible apply ev_setv) | (with_reducible apply ev_ret) | (with_reducible apply ev_raise) | (with_reducible apply ev_expr) | (with_reducible apply ev_e2) | (with_reducible apply ev_asB) | (with_reducible apply ev_asT) | (with_reducible apply ev_not) | (with_reducible apply ev_and) | (with_reducible apply ev_or) | (with_reducible apply ev_eAnd) | (with_reducible apply ev_eOr) | (with_reducible apply ev_eNot) | (with_reducible apply ev_eIf) | (with_reducible apply ev_neg) | (with_reducible apply ev_lst) | (with_reducible apply ev_tup) | (with_reducible apply ev_dCons) | (with_reducible apply ev_uCons) | (with_reducible apply ev_blt) | (with_reducible apply ev_call) | (with_reducible apply ev_callK) | (with_reducible apply ev_new) | (with_reducible apply ev_wCons) | (with_reducible apply ev_par) | (with_reducible apply ev_asg) | (with_reducible apply ev_m1) | (with_reducible apply ev_m0) | (with_reducible apply ev_repl) | (with_reducible apply ev_pInt) | (with_reducible apply ev_slice) | (with_reducible apply ev_iSeq) | (with_reducible apply ev_iR1) | (with_reducible apply ev_iR2) | (with_reducible apply ev_mut) | (with_reducible apply ev_put) | (with_reducible apply ev_chain))) | ((with_reducible apply Exists.intro); (repeat (with_reducible apply Exists.intro)); (first | refine ⟨rfl, rfl, rfl, ?_⟩ | (refine ⟨rfl, rfl, ?_, ?_⟩; · (first | exact gStr_int (hv v hv'))) | refine ⟨rfl, rfl, ?_⟩ | (refine ⟨?_, rfl, rfl, ?_⟩; · (first | exact gStr_int (hv v hv'))) | (refine ⟨rfl, ?_, ?_⟩; · (first | exact gStr_int (hv v hv'))) | refine ⟨rfl, ?_⟩ | (refine ⟨?_, ?_⟩; · (first | exact gStr_int (hv v hv'))))) | ((with_reducible refine And.intro ?_ ?_); · (first | exact rfl | exact gStr_int (hv v hv')))))
    rfl
  · have e : (dI vs).map (fun d => match d with
      | .int v => .str (tos v)
      | d => d) = (vs.map tos).map D.str := by
      rw [List.map_map, List.map_map]
      exact List.map_congr_left fun v _ => rfl
    rw [e]
    have hj : gJoin M " " (.lst ((vs.map tos).map D.str)) = some (.v (.str (Txt.join " " (vs.map tos)))) := by
      show (strsD _).bind _ = _
      rw [strsD_map]
      show (if joinOk " " (vs.map tos) = true then _ else none) = _
      rw [if_pos]
      unfold joinOk
      rw [decide_eq_true_eq, List.length_map]
      have := join_fits hv
      have e1 : (" " : Str).length = 1 := by decide
      rw [e1, Nat.mul_one]
      omega
    (repeat (first | ((with_reducible show Ev _ _ _); (first | ((with_reducible apply ev_var); · exact rfl) | ((with_reducible apply ev_own); · exact rfl) | (with_reducible apply ev_c) | (with_reducible apply ev_dNil) | (with_reducible apply ev_uNil) | (with_reducible apply ev_wNil) | (with_reducible apply ev_nop) | (with_reducible apply ev_pNo) | (with_reducible apply ev_retN) | (with_reducible apply ev_seq) | (with_reducible apply ev_if) | (with_reducible apply ev_setv) | (with_reducible apply ev_ret) | (with_reducible apply ev_raise) | (with_reducible apply ev_expr) | (with_reducible apply ev_e2) | (with_reducible apply ev_asB) | (with_reducible apply ev_asT) | (with_reducible apply ev_not) | (with_reducible apply ev_and) | (with_reducible apply ev_or) | (with_reducible apply ev_eAnd) | (with_reducible apply ev_eOr) | (with_reducible apply ev_eNot) | (with_reducible apply ev_eIf) | (with_reducible apply ev_neg) | (with_reducible apply ev_lst) | (with_reducible apply ev_tup) | (with_reducible apply ev_dCons) | (with_reducible apply ev_uCons) | (with_reducible apply ev_blt) | (with_reducible apply ev_call) | (with_reducible apply ev_callK) | (with_reducible apply ev_new) | (with_reducible apply ev_wCons) | (with_reducible apply ev_par) | (with_reducible apply ev_asg) | (with_reducible apply ev_m1) | (with_reducible apply ev_m0) | (with_reducible apply ev_repl) | (with_reducible apply ev_pInt) | (with_reducible apply ev_slice) | (with_reducible apply ev_iSeq) | (with_reducible apply ev_iR1) | (with_reducible apply ev_iR2) | (with_reducible apply ev_mut) | (with_reducible apply ev_put) | (with_reducible apply ev_chain))) | ((with_reducible apply Exists.intro); (repeat (with_reducible apply Exists.intro)); (first | refine ⟨rfl, rfl, rfl, ?_⟩ | (refine ⟨rfl, rfl, ?_, ?_⟩; · (first | exact hj)) | refine ⟨rfl, rfl, ?_⟩ | (refine ⟨?_, rfl, rfl, ?_⟩; · (first | exact hj)) | (refine ⟨rfl, ?_, ?_⟩; · (first | exact hj)) | refine ⟨rfl, ?_⟩ | (refine ⟨?_, ?_⟩; · (first | exact hj)))) | ((with_reducible refine And.intro ?_ ?_); · (first | exact rfl | exact hj))))
    rfl
/-- one sign in a written text -/
theorem in_sign {M : Mem} {c : Nat} {z : Str} : gIn false M (.str ⟨#[c]⟩) (.str z) = some (.v (.bl (decide (c ∈ TL.tl z)))) := by
  have := PySem.StrLaws.found_one z c
  show some (W.v (.bl (!(Builtin.Str.occurrences z ⟨#[c]⟩ 0 z.length 1).isEmpty))) = _
  rw [this] <;> rfl
theorem notin_sign {M : Mem} {c : Nat} {z : Str} : gIn true M (.str ⟨#[c]⟩) (.str z) = some (.v (.bl (!decide (c ∈ TL.tl z)))) := by
  have := PySem.StrLaws.found_one z c
  show some (W.v (.bl (!(!(Builtin.Str.occurrences z ⟨#[c]⟩ 0 z.length 1).isEmpty)))) = _
  rw [this] <;> rfl
theorem digit_iff (c : Nat) : c ∈ TL.tl "0123456789" ↔ 48 ≤ c ∧ c ≤ 57 := by
  have e : TL.tl "0123456789" = [48, 49, 50, 51, 52, 53, 54, 55, 56, 57] := by decide
  rw [e]
  simp
  omega
/-- the text of the digits -/
def dig (p : Str) : Str := if (TL.tl p).head? = some 45 then cutS p (some 1) none else p
theorem dig_tl (p : Str) : TL.tl (dig p) = dgs p := by
  unfold dig dgs
  split
  · exact tl_cut2 p
  · rfl
theorem dig_len (p : Str) : (dig p).length = (dgs p).length := by rw [TL.len_tl, dig_tl]
def okd (p : Str) : Prop := 1 ≤ (dgs p).length ∧ (dgs p).length ≤ 6 ∧ NumText.AllDigits (dgs p)
theorem dig_ev {M : Mem} {p : Str} {env : En} {P : W → En → Mem → Prop} {X : Nat → D → En → Mem → Prop} (h0 : env[0]? = some (.val (.str p))) (hl : p.length ≤ sizeLine) (h : P (.v (.str (dig p))) env M) :
    Ev (eIf (asB (e2 gEq (eSlice (eVar 0) (pNo) (pInt (eC (.int 1)))) (eC (.str "-")))) (eSlice (eVar 0) (pInt (eC (.int 1))) (pNo)) (eVar 0) env M) P X := by
  have s1 : gSlice (deref M (.str p)) none (some 1) = some (.v (.str (cutS p none (some 1)))) := by
    show (if p.length ≤ sizeLine then _ else none) = _
    rw [if_pos hl]
  have s2 : gSlice (deref M (.str p)) (some 1) none = some (.v (.str (cutS p (some 1) none))) := by
    show (if p.length ≤ sizeLine then _ else none) = _
    rw [if_pos hl]
  refine ev_eIf (ev_asB (ev_e2 (ev_slice (ev_var h0 (ev_pNo (ev_pInt (ev_c ⟨1, rfl, _, _, rfl, s1, ev_c ⟨_, _, _, rfl, rfl, rfl, _, rfl, fun hb => ?_, fun hb => ?_⟩⟩)))))))
  · have hb := of_decide_eq_true hb
    have hb : cutS p none (some 1) = Str.ofString "-" := by simpa using hb
    have hq := (sign_iff p).mp hb
    refine ev_slice (ev_var h0 (ev_pInt (ev_c ⟨1, rfl, ev_pNo ⟨_, _, rfl, s2, ?_⟩⟩)))
    unfold dig at h
    rw [if_pos hq] at h
    exact h
  · have hb := of_decide_eq_false hb
    have hb : ¬ cutS p none (some 1) = Str.ofString "-" := fun z => hb (by rw [z])
    have hq : ¬ (TL.tl p).head? = some 45 := fun z => hb ((sign_iff p).mpr z)
    refine ev_var h0 ?_
    unfold dig at h
    rw [if_neg hq] at h
    exact h
theorem len_ev {M : Mem} {z : Str} (h : z.length ≤ sizeLine) : gLen M [.str z] = some (.v (.int (z.length : Int))) := by
  show (if z.length ≤ sizeLine then some (W.v (.int (z.length : Int))) else none) = _
  rw [if_pos h]
theorem gInt_text {M : Mem} {p : Str} {v : Int} (h : intText? p = some v) (hl : p.length ≤ 640) : gIntA M [.str p] = some (.v (.int v)) := by
  show (none.or (if p.length ≤ 640 then (intText? p).map fun n => W.v (.int n) else none)) = _
  rw [if_pos hl, h] <;> rfl
theorem okd_len {p : Str} (h : okd p) : p.length ≤ 7 := by
  have := h.2.1
  rw [TL.len_tl]
  unfold dgs at this
  split at this
  · rw [List.length_drop] at this; omega
  · omega
def chD : D → D := fun d => match d with
  | .str s => .bl ((TL.tl s).all fun c => decide (c ∈ TL.tl "0123456789"))
  | d => d
theorem chD_one {c : Nat} : chD (.str ⟨#[c]⟩) = .bl (decide (c ∈ TL.tl "0123456789")) := by
  show D.bl ([c].all _) = _
  rw [List.all_cons, List.all_nil, Bool.and_true]
theorem chD_signs (z : Str) : (signs z).map chD = ((TL.tl z).map fun c => decide (c ∈ TL.tl "0123456789")).map D.bl := by
  unfold signs
  rw [List.map_map, List.map_map]
  exact List.map_congr_left fun c _ => chD_one
theorem gAll_map {M : Mem} (bs : List Bool) : gAll M [.lst (bs.map D.bl)] = some (.v (.bl (bs.all id))) := by
  show (blsD (bs.map D.bl)).bind _ = _
  rw [blsD_map] <;> rfl
theorem all_dig (z : Str) : (((TL.tl z).map fun c => decide (c ∈ TL.tl "0123456789")).all id = true) ↔ NumText.AllDigits (TL.tl z) := by
  rw [List.all_map, List.all_eq_true]
  constructor
  · intro h c hc
    exact (digit_iff c).mp (of_decide_eq_true (h c hc))
  · intro h c hc
    exact decide_eq_true ((digit_iff c).mpr (h c hc))
/-- what a piece reads as -/
def NumR (p : Str) (r : Option Int) : Prop := (¬ okd p ∧ r = none) ∨ (okd p ∧ ∃ v : Int, intText? p = some v ∧ v.natAbs < 10 ^ 6 ∧ (r = some v ∨ (r = none ∧ tos v ≠ p)))
def oD : Option Int → D
  | none => .non
  | some v => .int v
theorem okd_int {p : Str} (h : okd p) : ∃ v : Int, intText? p = some v ∧ v.natAbs < 10 ^ 6 := by
  obtain ⟨v, h1, h2⟩ := int_of h.2.2 (fun z => by have := h.1; rw [z] at this; cases this) (Nat.le_trans (okd_len h) (by decide))
  exact ⟨v, h1, Nat.lt_of_lt_of_le h2 (Nat.pow_le_pow_right (by decide) h.2.1)⟩
theorem number {M : Mem} {p : Str} (hp : p.length ≤ 1000000) : EvF (f_number_in [.str p, .int 6] M) (fun w m => m = M ∧ ∃ r, w = .v (oD r) ∧ NumR p r) F0 := by
  have hs : p.length ≤ sizeLine := Nat.le_trans hp (by decide)
  have hd : (dig p).length ≤ sizeLine := by
    rw [dig_len]
    have : (dgs p).length ≤ p.length := by
      rw [TL.len_tl]; unfold dgs; split
      · rw [List.length_drop]; omega
      · exact Nat.le_refl _
    omega
  refine evf ?_
  unfold g_number_in
  refine ev_seq (ev_setv (dig_ev rfl hs ⟨_, rfl, ?_⟩))
  refine ev_seq (ev_if (ev_or (ev_not (ev_asB (ev_chain (ev_c (ev_blt (ev_uCons (ev_var rfl (ev_uNil ⟨_, _, rfl, len_ev hd, _, _, _, rfl, rfl, rfl, fun hb => ?_, fun hb => ?_⟩))))))))))
  · refine ev_var rfl ⟨_, _, _, rfl, rfl, rfl, _, rfl, fun h2 => ?_, fun h2 => ?_⟩
    · refine ⟨fun _ => ?_, fun z => by cases z⟩
      (repeat (first | ((with_reducible show Ev _ _ _); (first | ((with_reducible apply ev_var); · exact rfl) | ((with_reducible apply ev_own); · exact rfl) | (with_reducible apply ev_c) | (with_reducible apply ev_dNil) | (with_reducible apply ev_uNil) | (with_reducible apply ev_wNil) | (with_reducible apply ev_nop) | (with_reducible apply ev_pNo) | (with_reducible apply ev_retN) | (with_reducible apply ev_seq) | (with_reducible apply ev_if) | (with_reducible apply ev_setv) | (with_reducible apply ev_ret) | (with_reducible apply ev_raise) | (with_reducible apply ev_expr) | (with_reducible apply ev_e2) | (with_reducible apply ev_asB) | (with_reducible apply ev_asT) | (with_reducible apply ev_not) | (with_reducible apply ev_and) | (with_reducible apply ev_or) | (with_reducible apply ev_eAnd) | (with_reducible apply ev_eOr) | (with_reducible apply ev_eNot) | (with_reducible apply ev_eIf) | (with_reducible apply ev_neg) | (with_reducible apply ev_lst) | (with_reducible apply ev_tup) | (with_reducible apply ev_dCons) | (with_reducible apply ev_uCons) | (with_reducible apply ev_blt) | (with_reducible apply ev_call) | (with_reducible apply ev_callK) | (with_reducible apply ev_new) | (with_reducible apply ev_wCons) | (with_reducible apply ev_par) | (with_reducible apply ev_asg) | (with_reducible apply ev_m1) | (with_reducible apply ev_m0) | (with_reducible apply ev_repl) | (with_reducible apply ev_pInt) | (with_reducible apply ev_slice) | (with_reducible apply ev_iSeq) | (with_reducible apply ev_iR1) | (with_reducible apply ev_iR2) | (with_reducible apply ev_mut) | (with_reducible apply ev_put) | (with_reducible apply ev_chain))) | ((with_reducible apply Exists.intro); (repeat (with_reducible apply Exists.intro)); (first | refine ⟨rfl, rfl, rfl, ?_⟩ | refine ⟨rfl, rfl, ?_⟩ | refine ⟨rfl, ?_⟩)) | ((with_reducible refine And.intro ?_ ?_); · (first | exact rfl))))
      refine ⟨_, rfl, Or.inl ⟨fun z => ?_, rfl⟩⟩
      have h2 : decide (((dig p).length : Int) ≤ 6) = false := by simpa using h2
      have h2 := of_decide_eq_false h2
      rw [dig_len] at h2
      have := z.2.1
      omega
    · have h2 : decide (((dig p).length : Int) ≤ 6) = true := by simpa using h2
      have h2 := of_decide_eq_true h2
      have hb := of_decide_eq_true hb
      rw [dig_len] at h2 hb
      refine ev_not (ev_asT (ev_blt (ev_uCons (ev_map chD (ev_iSeq (ev_var rfl ⟨_, _, _, rfl, rfl, rfl, memOk_nil, ?_, ?_, ?_⟩))))))
      · show (signs (dig p)).length ≤ sizeLine
        unfold signs
        rw [List.length_map]
        show (TL.tl (dig p)).length ≤ sizeLine
        rw [dig_tl]
        exact Nat.le_trans (by omega : (dgs p).length ≤ 6) (by decide)
      · intro x hx
        obtain ⟨c, _, rfl⟩ := List.mem_map.mp (show x ∈ (TL.tl (dig p)).map fun c => D.str ⟨#[c]⟩ from hx)
        refine ⟨_, rfl, ev_e2 (ev_var rfl (ev_c ⟨_, _, _, rfl, rfl, in_sign, rfl, ?_⟩))⟩
        rw [chD_one]
        exact ⟨_, rfl, rfl⟩
      · have hall : gAll M [.lst ((signs (dig p)).map chD)] = some (.v (.bl (((TL.tl (dig p)).map fun c => decide (c ∈ TL.tl "0123456789")).all id))) := by
          rw [chD_signs]
          exact gAll_map _
        refine ev_uNil ⟨_, _, rfl, hall, _, _, rfl, rfl, fun hz => ?_, fun hz => ?_⟩
        · have hn : ¬ NumText.AllDigits (dgs p) := fun z => by
            rw [← dig_tl] at z
            rw [(all_dig (dig p)).mpr z] at hz
            cases hz
          (repeat (first | ((with_reducible show Ev _ _ _); (first | ((with_reducible apply ev_var); · exact rfl) | ((with_reducible apply ev_own); · exact rfl) | (with_reducible apply ev_c) | (with_reducible apply ev_dNil) | (with_reducible apply ev_uNil) | (with_reducible apply ev_wNil) | (with_reducible apply ev_nop) | (with_reducible apply ev_pNo) | (with_reducible apply ev_retN) | (with_reducible apply ev_seq) | (with_reducible apply ev_if) | (with_reducible apply ev_setv) | (with_reducible apply ev_ret) | (with_reducible apply ev_raise) | (with_reducible apply ev_expr) | (with_reducible apply ev_e2) | (with_reducible apply ev_asB) | (with_reducible apply ev_asT) | (with_reducible apply ev_not) | (with_reducible apply ev_and) | (with_reducible apply ev_or) | (with_reducible apply ev_eAnd) | (with_reducible apply ev_eOr) | (with_reducible apply ev_eNot) | (with_reducible apply ev_eIf) | (with_reducible apply ev_neg) | (with_reducible apply ev_lst) | (with_reducible apply ev_tup) | (with_reducible apply ev_dCons) | (with_reducible apply ev_uCons) | (with_reducible apply ev_blt) | (with_reducible apply ev_call) | (with_reducible apply ev_callK) | (with_reducible apply ev_new) | (with_reducible apply ev_wCons) | (with_reducible apply ev_par) | (with_reducible apply ev_asg) | (with_reducible apply ev_m1) | (with_reducible apply ev_m0) | (with_reducible apply ev_repl) | (with_reducible apply ev_pInt) | (with_reducible apply ev_slice) | (with_reducible apply ev_iSeq) | (with_reducible apply ev_iR1) | (with_reducible apply ev_iR2) | (with_reducible apply ev_mut) | (with_reducible apply ev_put) | (with_reducible apply ev_chain))) | ((with_reducible apply Exists.intro); (repeat (with_reducible apply Exists.intro)); (first | refine ⟨rfl, rfl, rfl, ?_⟩ | refine ⟨rfl, rfl, ?_⟩ | refine ⟨rfl, ?_⟩)) | ((with_reducible refine And.intro ?_ ?_); · (first | exact rfl))))
          exact ⟨_, rfl, Or.inl ⟨fun z => hn z.2.2, rfl⟩⟩
        · have ha : NumText.AllDigits (dgs p) := by
            rw [← dig_tl]
            refine (all_dig (dig p)).mp ?_
            cases q : ((TL.tl (dig p)).map fun c => decide (c ∈ TL.tl "0123456789")).all id with
            | true => rfl
            | false => rw [q] at hz; cases hz
          have hok : okd p := ⟨by omega, by omega, ha⟩
          obtain ⟨v, hv, hv2⟩ := okd_int hok
          have hlp := okd_len hok
          obtain ⟨c, r, hcr⟩ : ∃ c r, dgs p = c :: r := by
            cases q : dgs p with
            | nil => rw [q] at hb; simp at hb
            | cons c r => exact ⟨c, r, rfl⟩
          have hx : gIx M (.str (dig p)) (.int 0) = some (.v (.str ⟨#[c]⟩)) := by
            show (if (dig p).length ≤ sizeLine then (atI (TL.tl (dig p)) 0).map fun c => W.v (.str ⟨#[c]⟩) else none) = _
            have e0 : atI (c :: r) 0 = some c := by
              unfold atI ixN
              simp
            rw [if_pos hd, dig_tl, hcr, e0] <;> rfl
          (repeat (first | ((with_reducible show Ev _ _ _); (first | ((with_reducible apply ev_var); · exact rfl) | ((with_reducible apply ev_own); · exact rfl) | (with_reducible apply ev_c) | (with_reducible apply ev_dNil) | (with_reducible apply ev_uNil) | (with_reducible apply ev_wNil) | (with_reducible apply ev_nop) | (with_reducible apply ev_pNo) | (with_reducible apply ev_retN) | (with_reducible apply ev_seq) | (with_reducible apply ev_if) | (with_reducible apply ev_setv) | (with_reducible apply ev_ret) | (with_reducible apply ev_raise) | (with_reducible apply ev_expr) | (with_reducible apply ev_e2) | (with_reducible apply ev_asB) | (with_reducible apply ev_asT) | (with_reducible apply ev_not) | (with_reducible apply ev_and) | (with_reducible apply ev_or) | (with_reducible apply ev_eAnd) | (with_reducible apply ev_eOr) | (with_reducible apply ev_eNot) | (with_reducible apply ev_eIf) | (with_reducible apply ev_neg) | (with_reducible apply ev_lst) | (with_reducible apply ev_tup) | (with_reducible apply ev_dCons) | (with_reducible apply ev_uCons) | (with_reducible apply ev_blt) | (with_reducible apply ev_call) | (with_reducible apply ev_callK) | (with_reducible apply ev_new) | (with_reducible apply ev_wCons) | (with_reducible apply ev_par) | (with_reducible apply ev_asg) | (with_reducible apply ev_m1) | (with_reducible apply ev_m0) | (with_reducible apply ev_repl) | (with_reducible apply ev_pInt) | (with_reducible apply ev_slice) | (with_reducible apply ev_iSeq) | (with_reducible apply ev_iR1) | (with_reducible apply ev_iR2) | (with_reducible apply ev_mut) | (with_reducible apply ev_put) | (with_reducible apply ev_chain))) | ((with_reducible apply Exists.intro); (repeat (with_reducible apply Exists.intro)); (first | refine ⟨rfl, rfl, rfl, ?_⟩ | (refine ⟨rfl, rfl, ?_, ?_⟩; · (first | exact hx)) | refine ⟨rfl, rfl, ?_⟩ | (refine ⟨?_, rfl, rfl, ?_⟩; · (first | exact hx)) | (refine ⟨rfl, ?_, ?_⟩; · (first | exact hx)) | refine ⟨rfl, ?_⟩ | (refine ⟨?_, ?_⟩; · (first | exact hx)))) | ((with_reducible refine And.intro ?_ ?_); · (first | exact rfl | exact hx))))
          refine ⟨fun h0 => ?_, fun h0 => ?_⟩
          · have h0 : (⟨#[c]⟩ : Str) = "0" := by simpa using h0
            (repeat (first | ((with_reducible show Ev _ _ _); (first | ((with_reducible apply ev_var); · exact rfl) | ((with_reducible apply ev_own); · exact rfl) | (with_reducible apply ev_c) | (with_reducible apply ev_dNil) | (with_reducible apply ev_uNil) | (with_reducible apply ev_wNil) | (with_reducible apply ev_nop) | (with_reducible apply ev_pNo) | (with_reducible apply ev_retN) | (with_reducible apply ev_seq) | (with_reducible apply ev_if) | (with_reducible apply ev_setv) | (with_reducible apply ev_ret) | (with_reducible apply ev_raise) | (with_reducible apply ev_expr) | (with_reducible apply ev_e2) | (with_reducible apply ev_asB) | (with_reducible apply ev_asT) | (with_reducible apply ev_not) | (with_reducible apply ev_and) | (with_reducible apply ev_or) | (with_reducible apply ev_eAnd) | (with_reducible apply ev_eOr) | (with_reducible apply ev_eNot) | (with_reducible apply ev_eIf) | (with_reducible apply ev_neg) | (with_reducible apply ev_lst) | (with_reducible apply ev_tup) | (with_reducible apply ev_dCons) | (with_reducible apply ev_uCons) | (with_reducible apply ev_blt) | (with_reducible apply ev_call) | (with_reducible apply ev_callK) | (with_reducible apply ev_new) | (with_reducible apply ev_wCons) | (with_reducible apply ev_par) | (with_reducible apply ev_asg) | (with_reducible apply ev_m1) | (with_reducible apply ev_m0) | (with_reducible apply ev_repl) | (with_reducible apply ev_pInt) | (with_reducible apply ev_slice) | (with_reducible apply ev_iSeq) | (with_reducible apply ev_iR1) | (with_reducible apply ev_iR2) | (with_reducible apply ev_mut) | (with_reducible apply ev_put) | (with_reducible apply ev_chain))) | ((with_reducible apply Exists.intro); (repeat (with_reducible apply Exists.intro)); (first | refine ⟨rfl, rfl, rfl, ?_⟩ | refine ⟨rfl, rfl, ?_⟩ | refine ⟨rfl, ?_⟩)) | ((with_reducible refine And.intro ?_ ?_); · (first | exact rfl))))
            refine ⟨fun h1 => ?_, fun h1 => ?_⟩
            · (repeat (first | ((with_reducible show Ev _ _ _); (first | ((with_reducible apply ev_var); · exact rfl) | ((with_reducible apply ev_own); · exact rfl) | (with_reducible apply ev_c) | (with_reducible apply ev_dNil) | (with_reducible apply ev_uNil) | (with_reducible apply ev_wNil) | (with_reducible apply ev_nop) | (with_reducible apply ev_pNo) | (with_reducible apply ev_retN) | (with_reducible apply ev_seq) | (with_reducible apply ev_if) | (with_reducible apply ev_setv) | (with_reducible apply ev_ret) | (with_reducible apply ev_raise) | (with_reducible apply ev_expr) | (with_reducible apply ev_e2) | (with_reducible apply ev_asB) | (with_reducible apply ev_asT) | (with_reducible apply ev_not) | (with_reducible apply ev_and) | (with_reducible apply ev_or) | (with_reducible apply ev_eAnd) | (with_reducible apply ev_eOr) | (with_reducible apply ev_eNot) | (with_reducible apply ev_eIf) | (with_reducible apply ev_neg) | (with_reducible apply ev_lst) | (with_reducible apply ev_tup) | (with_reducible apply ev_dCons) | (with_reducible apply ev_uCons) | (with_reducible apply ev_blt) | (with_reducible apply ev_call) | (with_reducible apply ev_callK) | (with_reducible apply ev_new) | (with_reducible apply ev_wCons) | (with_reducible apply ev_par) | (with_reducible apply ev_asg) | (with_reducible apply ev_m1) | (with_reducible apply ev_m0) | (with_reducible apply ev_repl) | (with_reducible apply ev_pInt) | (with_reducible apply ev_slice) | (with_reducible apply ev_iSeq) | (with_reducible apply ev_iR1) | (with_reducible apply ev_iR2) | (with_reducible apply ev_mut) | (with_reducible apply ev_put) | (with_reducible apply ev_chain))) | ((with_reducible apply Exists.intro); (repeat (with_reducible apply Exists.intro)); (first | refine ⟨rfl, rfl, rfl, ?_⟩ | refine ⟨rfl, rfl, ?_⟩ | refine ⟨rfl, ?_⟩)) | ((with_reducible refine And.intro ?_ ?_); · (first | exact rfl))))
              refine ⟨none, rfl, Or.inr ⟨hok, v, hv, hv2, Or.inr ⟨rfl, fun hz => ?_⟩⟩⟩
              have h1 : ¬ p = Str.ofString "0" := by simpa using h1
              have hc : c = 48 := by
                have := congrArg TL.tl h0
                have : [c] = [48] := this
                cases this; rfl
              exact h1 (no_zero ha (by rw [hcr]; exact List.cons_ne_nil _ _) (Nat.le_trans hlp (by decide)) hv hz (by rw [hcr, hc]; rfl))
            · (repeat (first | ((with_reducible show Ev _ _ _); (first | ((with_reducible apply ev_var); · exact rfl) | ((with_reducible apply ev_own); · exact rfl) | (with_reducible apply ev_c) | (with_reducible apply ev_dNil) | (with_reducible apply ev_uNil) | (with_reducible apply ev_wNil) | (with_reducible apply ev_nop) | (with_reducible apply ev_pNo) | (with_reducible apply ev_retN) | (with_reducible apply ev_seq) | (with_reducible apply ev_if) | (with_reducible apply ev_setv) | (with_reducible apply ev_ret) | (with_reducible apply ev_raise) | (with_reducible apply ev_expr) | (with_reducible apply ev_e2) | (with_reducible apply ev_asB) | (with_reducible apply ev_asT) | (with_reducible apply ev_not) | (with_reducible apply ev_and) | (with_reducible apply ev_or) | (with_reducible apply ev_eAnd) | (with_reducible apply ev_eOr) | (with_reducible apply ev_eNot) | (with_reducible apply ev_eIf) | (with_reducible apply ev_neg) | (with_reducible apply ev_lst) | (with_reducible apply ev_tup) | (with_reducible apply ev_dCons) | (with_reducible apply ev_uCons) | (with_reducible apply ev_blt) | (with_reducible apply ev_call) | (with_reducible apply ev_callK) | (with_reducible apply ev_new) | (with_reducible apply ev_wCons) | (with_reducible apply ev_par) | (with_reducible apply ev_asg) | (with_reducible apply ev_m1) | (with_reducible apply ev_m0) | (with_reducible apply ev_repl) | (with_reducible apply ev_pInt) | (with_reducible apply ev_slice) | (with_reducible apply ev_iSeq) | (with_reducible apply ev_iR1) | (with_reducible apply ev_iR2) | (with_reducible apply ev_mut) | (with_reducible apply ev_put) | (with_reducible apply ev_chain))) | ((with_reducible apply Exists.intro); (repeat (with_reducible apply Exists.intro)); (first | refine ⟨rfl, rfl, rfl, ?_⟩ | (refine ⟨rfl, rfl, ?_, ?_⟩; · (first | exact gInt_text hv (Nat.le_trans hlp (by decide)))) | refine ⟨rfl, rfl, ?_⟩ | (refine ⟨?_, rfl, rfl, ?_⟩; · (first | exact gInt_text hv (Nat.le_trans hlp (by decide)))) | (refine ⟨rfl, ?_, ?_⟩; · (first | exact gInt_text hv (Nat.le_trans hlp (by decide)))) | refine ⟨rfl, ?_⟩ | (refine ⟨?_, ?_⟩; · (first | exact gInt_text hv (Nat.le_trans hlp (by decide)))))) | ((with_reducible refine And.intro ?_ ?_); · (first | exact rfl | exact gInt_text hv (Nat.le_trans hlp (by decide))))))
              exact ⟨some v, rfl, Or.inr ⟨hok, v, hv, hv2, Or.inl rfl⟩⟩
          · refine ⟨fun z => (by cases z), fun _ => ?_⟩
            (repeat (first | ((with_reducible show Ev _ _ _); (first | ((with_reducible apply ev_var); · exact rfl) | ((with_reducible apply ev_own); · exact rfl) | (with_reducible apply ev_c) | (with_reducible apply ev_dNil) | (with_reducible apply ev_uNil) | (with_reducible apply ev_wNil) | (with_reducible apply ev_nop) | (with_reducible apply ev_pNo) | (with_reducible apply ev_retN) | (with_reducible apply ev_seq) | (with_reducible apply ev_if) | (with_reducible apply ev_setv) | (with_reducible apply ev_ret) | (with_reducible apply ev_raise) | (with_reducible apply ev_expr) | (with_reducible apply ev_e2) | (with_reducible apply ev_asB) | (with_reducible apply ev_asT) | (with_reducible apply ev_not) | (with_reducible apply ev_and) | (with_reducible apply ev_or) | (with_reducible apply ev_eAnd) | (with_reducible apply ev_eOr) | (with_reducible apply ev_eNot) | (with_reducible apply ev_eIf) | (with_reducible apply ev_neg) | (with_reducible apply ev_lst) | (with_reducible apply ev_tup) | (with_reducible apply ev_dCons) | (with_reducible apply ev_uCons) | (with_reducible apply ev_blt) | (with_reducible apply ev_call) | (with_reducible apply ev_callK) | (with_reducible apply ev_new) | (with_reducible apply ev_wCons) | (with_reducible apply ev_par) | (with_reducible apply ev_asg) | (with_reducible apply ev_m1) | (with_reducible apply ev_m0) | (with_reducible apply ev_repl) | (with_reducible apply ev_pInt) | (with_reducible apply ev_slice) | (with_reducible apply ev_iSeq) | (with_reducible apply ev_iR1) | (with_reducible apply ev_iR2) | (with_reducible apply ev_mut) | (with_reducible apply ev_put) | (with_reducible apply ev_chain))) | ((with_reducible apply Exists.intro); (repeat (with_reducible apply Exists.intro)); (first | refine ⟨rfl, rfl, rfl, ?_⟩ | (refine ⟨rfl, rfl, ?_, ?_⟩; · (first | exact gInt_text hv (Nat.le_trans hlp (by decide)))) | refine ⟨rfl, rfl, ?_⟩ | (refine ⟨?_, rfl, rfl, ?_⟩; · (first | exact gInt_text hv (Nat.le_trans hlp (by decide)))) | (refine ⟨rfl, ?_, ?_⟩; · (first | exact gInt_text hv (Nat.le_trans hlp (by decide)))) | refine ⟨rfl, ?_⟩ | (refine ⟨?_, ?_⟩; · (first | exact gInt_text hv (Nat.le_trans hlp (by decide)))))) | ((with_reducible refine And.intro ?_ ?_); · (first | exact rfl | exact gInt_text hv (Nat.le_trans hlp (by decide))))))
            exact ⟨some v, rfl, Or.inr ⟨hok, v, hv, hv2, Or.inl rfl⟩⟩
  · refine ⟨_, rfl, fun _ => ⟨fun _ => ?_, fun z => by cases z⟩, fun z => by cases z⟩
    (repeat (first | ((with_reducible show Ev _ _ _); (first | ((with_reducible apply ev_var); · exact rfl) | ((with_reducible apply ev_own); · exact rfl) | (with_reducible apply ev_c) | (with_reducible apply ev_dNil) | (with_reducible apply ev_uNil) | (with_reducible apply ev_wNil) | (with_reducible apply ev_nop) | (with_reducible apply ev_pNo) | (with_reducible apply ev_retN) | (with_reducible apply ev_seq) | (with_reducible apply ev_if) | (with_reducible apply ev_setv) | (with_reducible apply ev_ret) | (with_reducible apply ev_raise) | (with_reducible apply ev_expr) | (with_reducible apply ev_e2) | (with_reducible apply ev_asB) | (with_reducible apply ev_asT) | (with_reducible apply ev_not) | (with_reducible apply ev_and) | (with_reducible apply ev_or) | (with_reducible apply ev_eAnd) | (with_reducible apply ev_eOr) | (with_reducible apply ev_eNot) | (with_reducible apply ev_eIf) | (with_reducible apply ev_neg) | (with_reducible apply ev_lst) | (with_reducible apply ev_tup) | (with_reducible apply ev_dCons) | (with_reducible apply ev_uCons) | (with_reducible apply ev_blt) | (with_reducible apply ev_call) | (with_reducible apply ev_callK) | (with_reducible apply ev_new) | (with_reducible apply ev_wCons) | (with_reducible apply ev_par) | (with_reducible apply ev_asg) | (with_reducible apply ev_m1) | (with_reducible apply ev_m0) | (with_reducible apply ev_repl) | (with_reducible apply ev_pInt) | (with_reducible apply ev_slice) | (with_reducible apply ev_iSeq) | (with_reducible apply ev_iR1) | (with_reducible apply ev_iR2) | (with_reducible apply ev_mut) | (with_reducible apply ev_put) | (with_reducible apply ev_chain))) | ((with_reducible apply Exists.intro); (repeat (with_reducible apply Exists.intro)); (first | refine ⟨rfl, rfl, rfl, ?_⟩ | refine ⟨rfl, rfl, ?_⟩ | refine ⟨rfl, ?_⟩)) | ((with_reducible refine And.intro ?_ ?_); · (first | exact rfl))))
    refine ⟨_, rfl, Or.inl ⟨fun z => ?_, rfl⟩⟩
    have hb := of_decide_eq_false hb
    rw [dig_len] at hb
    have := z.1
    omega
end K55
namespace K55
open PySem PySem.Spec L2 Ow
def badD : D → Bool := fun d => match d with
  | .str s => !((TL.tl s).all fun c => decide (c ∈ TL.tl "0123456789"))
  | _ => false
open Classical in
/-- the law's own reading of a piece -/
theorem amount {M : Mem} {p : Str} (hp : p.length ≤ 1000000) (hk : PyData.strOk p = true) : EvF (f_law_amount [.str p] M) (fun w m => m = M ∧ ((∃ v, w = .o (.lst [.int v]) ∧ okd p ∧ intText? p = some v ∧ v.natAbs < 10 ^ 6 ∧ tos v = p) ∨ (w = .o (.lst []) ∧ ¬ (okd p ∧ ∃ v, intText? p = some v ∧ tos v = p)))) F0 := by
  have hs : p.length ≤ sizeLine := Nat.le_trans hp (by decide)
  have hd : (dig p).length ≤ sizeLine := by
    rw [dig_len]
    have : (dgs p).length ≤ p.length := by
      rw [TL.len_tl]; unfold dgs; split
      · rw [List.length_drop]; omega
      · exact Nat.le_refl _
    omega
  refine evf ?_
  unfold g_law_amount
  refine ev_seq (ev_setv (dig_ev rfl hs ⟨_, rfl, ?_⟩))
  refine ev_seq (ev_if (ev_or (ev_not (ev_asB (ev_chain (ev_c (ev_blt (ev_uCons (ev_var rfl (ev_uNil ⟨_, _, rfl, len_ev hd, _, _, _, rfl, rfl, rfl, fun hb => ?_, fun hb => ?_⟩))))))))))
  · have hb := of_decide_eq_true hb
    rw [dig_len] at hb
    refine ev_c ⟨_, _, _, rfl, rfl, rfl, _, rfl, fun h2 => ⟨fun _ => ?_, fun z => by cases z⟩, fun h2 => ?_⟩
    · have h2 : decide (((dig p).length : Int) < 7) = false := by simpa using h2
      have h2 := of_decide_eq_false h2
      rw [dig_len] at h2
      (repeat (first | ((with_reducible show Ev _ _ _); (first | ((with_reducible apply ev_var); · exact rfl) | ((with_reducible apply ev_own); · exact rfl) | (with_reducible apply ev_c) | (with_reducible apply ev_dNil) | (with_reducible apply ev_uNil) | (with_reducible apply ev_wNil) | (with_reducible apply ev_nop) | (with_reducible apply ev_pNo) | (with_reducible apply ev_retN) | (with_reducible apply ev_seq) | (with_reducible apply ev_if) | (with_reducible apply ev_setv) | (with_reducible apply ev_ret) | (with_reducible apply ev_raise) | (with_reducible apply ev_expr) | (with_reducible apply ev_e2) | (with_reducible apply ev_asB) | (with_reducible apply ev_asT) | (with_reducible apply ev_not) | (with_reducible apply ev_and) | (with_reducible apply ev_or) | (with_reducible apply ev_eAnd) | (with_reducible apply ev_eOr) | (with_reducible apply ev_eNot) | (with_reducible apply ev_eIf) | (with_reducible apply ev_neg) | (with_reducible apply ev_lst) | (with_reducible apply ev_tup) | (with_reducible apply ev_dCons) | (with_reducible apply ev_uCons) | (with_reducible apply ev_blt) | (with_reducible apply ev_call) | (with_reducible apply ev_callK) | (with_reducible apply ev_new) | (with_reducible apply ev_wCons) | (with_reducible apply ev_par) | (with_reducible apply ev_asg) | (with_reducible apply ev_m1) | (with_reducible apply ev_m0) | (with_reducible apply ev_repl) | (with_reducible apply ev_pInt) | (with_reducible apply ev_slice) | (with_reducible apply ev_iSeq) | (with_reducible apply ev_iR1) | (with_reducible apply ev_iR2) | (with_reducible apply ev_mut) | (with_reducible apply ev_put) | (with_reducible apply ev_chain))) | ((with_reducible apply Exists.intro); (repeat (with_reducible apply Exists.intro)); (first | refine ⟨rfl, rfl, rfl, ?_⟩ | (refine ⟨rfl, rfl, ?_, ?_⟩; · (first | exact (show (0 : Nat) ≤ sizeLine by decide))) | refine ⟨rfl, rfl, ?_⟩ | (refine ⟨?_, rfl, rfl, ?_⟩; · (first | exact (show (0 : Nat) ≤ sizeLine by decide))) | (refine ⟨rfl, ?_, ?_⟩; · (first | exact (show (0 : Nat) ≤ sizeLine by decide))) | refine ⟨rfl, ?_⟩ | (refine ⟨?_, ?_⟩; · (first | exact (show (0 : Nat) ≤ sizeLine by decide))))) | ((with_reducible refine And.intro ?_ ?_); · (first | exact rfl | exact (show (0 : Nat) ≤ sizeLine by decide)))))
      refine Or.inr ⟨rfl, fun z => ?_⟩
      have := z.1.2.1
      omega
    · have h2 : decide (((dig p).length : Int) < 7) = true := by simpa using h2
      have h2 := of_decide_eq_true h2
      rw [dig_len] at h2
      have hlen : (signs (dig p)).length ≤ sizeLine := by
        unfold signs
        rw [List.length_map]
        show (TL.tl (dig p)).length ≤ sizeLine
        rw [dig_tl]
        exact Nat.le_trans (by omega : (dgs p).length ≤ 6) (by decide)
      have hbad : ∀ x ∈ (signs (dig p)).filter badD, ∃ c, c ∈ dgs p ∧ x = .str ⟨#[c]⟩ := fun x hx => by
        obtain ⟨c, hc, rfl⟩ := List.mem_map.mp (show x ∈ (TL.tl (dig p)).map fun c => D.str ⟨#[c]⟩ from (List.mem_filter.mp hx).1)
        exact ⟨c, by rw [← dig_tl]; exact hc, rfl⟩
      have hdp : ∀ c ∈ dgs p, c < 0x110000 := fun c hc => by
        refine strOk_iff.mp hk c ?_
        unfold dgs at hc
        split at hc
        · exact List.mem_of_mem_drop hc
        · exact hc
      have hne : gNe M (.lst ((signs (dig p)).filter badD)) (.lst []) = some (.v (.bl (!decide (D.lst ((signs (dig p)).filter badD) = .lst [])))) := by
        refine o_neP rfl rfl ?_ (by simp [plns]) (Nat.le_trans (depth_lst (n := 0) fun x hx => ?_) (by decide)) (Nat.le_trans (depth_lst (n := 0) fun x hx => by cases hx) (by decide))
        · rw [pln_lst]
          refine plns_all fun x hx => ?_
          obtain ⟨c, hc, rfl⟩ := hbad x hx
          rw [pln_str]
          refine strOk_iff.mpr fun d hd => ?_
          have : d ∈ [c] := hd
          rw [List.mem_singleton] at this
          subst this
          exact hdp d hc
        · obtain ⟨c, hc, rfl⟩ := hbad x hx
          simp
      refine ev_asB (ev_e2 (ev_filter badD id (ev_iSeq (ev_var rfl ⟨_, _, _, rfl, rfl, rfl, memOk_nil, hlen, ?_, ?_⟩))))
      · intro x hx
        obtain ⟨c, _, rfl⟩ := List.mem_map.mp (show x ∈ (TL.tl (dig p)).map fun c => D.str ⟨#[c]⟩ from hx)
        refine ⟨_, rfl, ev_asB (ev_e2 (ev_var rfl (ev_c ⟨_, _, _, rfl, rfl, notin_sign, _, rfl, rfl, ?_, fun hx1 => ?_, fun _ => rfl⟩)))⟩
        · show (!decide (c ∈ TL.tl "0123456789")) = !([c].all _)
          rw [List.all_cons, List.all_nil, Bool.and_true]
        · exact ev_var rfl ⟨rfl, _, rfl, rfl⟩
      · rw [List.map_id]
        refine ev_lst (ev_dNil ⟨by decide, _, _, _, rfl, rfl, hne, _, rfl, fun hz => ?_, fun hz => ?_⟩)
        · have hn : ¬ NumText.AllDigits (dgs p) := fun z => by
            have : (signs (dig p)).filter badD = [] := by
              rw [List.filter_eq_nil_iff]
              intro x hx
              obtain ⟨c, hc, rfl⟩ := List.mem_map.mp (show x ∈ (TL.tl (dig p)).map fun c => D.str ⟨#[c]⟩ from hx)
              show ¬ (!([c].all fun c => decide (c ∈ TL.tl "0123456789"))) = true
              rw [List.all_cons, List.all_nil, Bool.and_true, decide_eq_true ((digit_iff c).mpr (z c (by rw [← dig_tl]; exact hc)))]
              exact Bool.false_ne_true
            rw [this] at hz
            simp at hz
          (repeat (first | ((with_reducible show Ev _ _ _); (first | ((with_reducible apply ev_var); · exact rfl) | ((with_reducible apply ev_own); · exact rfl) | (with_reducible apply ev_c) | (with_reducible apply ev_dNil) | (with_reducible apply ev_uNil) | (with_reducible apply ev_wNil) | (with_reducible apply ev_nop) | (with_reducible apply ev_pNo) | (with_reducible apply ev_retN) | (with_reducible apply ev_seq) | (with_reducible apply ev_if) | (with_reducible apply ev_setv) | (with_reducible apply ev_ret) | (with_reducible apply ev_raise) | (with_reducible apply ev_expr) | (with_reducible apply ev_e2) | (with_reducible apply ev_asB) | (with_reducible apply ev_asT) | (with_reducible apply ev_not) | (with_reducible apply ev_and) | (with_reducible apply ev_or) | (with_reducible apply ev_eAnd) | (with_reducible apply ev_eOr) | (with_reducible apply ev_eNot) | (with_reducible apply ev_eIf) | (with_reducible apply ev_neg) | (with_reducible apply ev_lst) | (with_reducible apply ev_tup) | (with_reducible apply ev_dCons) | (with_reducible apply ev_uCons) | (with_reducible apply ev_blt) | (with_reducible apply ev_call) | (with_reducible apply ev_callK) | (with_reducible apply ev_new) | (with_reducible apply ev_wCons) | (with_reducible apply ev_par) | (with_reducible apply ev_asg) | (with_reducible apply ev_m1) | (with_reducible apply ev_m0) | (with_reducible apply ev_repl) | (with_reducible apply ev_pInt) | (with_reducible apply ev_slice) | (with_reducible apply ev_iSeq) | (with_reducible apply ev_iR1) | (with_reducible apply ev_iR2) | (with_reducible apply ev_mut) | (with_reducible apply ev_put) | (with_reducible apply ev_chain))) | ((with_reducible apply Exists.intro); (repeat (with_reducible apply Exists.intro)); (first | refine ⟨rfl, rfl, rfl, ?_⟩ | (refine ⟨rfl, rfl, ?_, ?_⟩; · (first | exact (show (0 : Nat) ≤ sizeLine by decide))) | refine ⟨rfl, rfl, ?_⟩ | (refine ⟨?_, rfl, rfl, ?_⟩; · (first | exact (show (0 : Nat) ≤ sizeLine by decide))) | (refine ⟨rfl, ?_, ?_⟩; · (first | exact (show (0 : Nat) ≤ sizeLine by decide))) | refine ⟨rfl, ?_⟩ | (refine ⟨?_, ?_⟩; · (first | exact (show (0 : Nat) ≤ sizeLine by decide))))) | ((with_reducible refine And.intro ?_ ?_); · (first | exact rfl | exact (show (0 : Nat) ≤ sizeLine by decide)))))
          exact Or.inr ⟨rfl, fun z => hn z.1.2.2⟩
        · have ha : NumText.AllDigits (dgs p) := fun c hc => by
            have h0 : (signs (dig p)).filter badD = [] := by simpa using hz
            have := (List.filter_eq_nil_iff.mp h0) (.str ⟨#[c]⟩) (List.mem_map.mpr ⟨c, by rw [← dig_tl] at hc; exact hc, rfl⟩)
            have : ¬ (!([c].all fun c => decide (c ∈ TL.tl "0123456789"))) = true := this
            rw [List.all_cons, List.all_nil, Bool.and_true] at this
            refine (digit_iff c).mp ?_
            simpa using this
          have hok : okd p := ⟨by omega, by omega, ha⟩
          obtain ⟨v, hv, hv2⟩ := okd_int hok
          have hlp := okd_len hok
          have hi : ∀ M, gIntA M [.str p] = some (.v (.int v)) := fun M => gInt_text hv (Nat.le_trans hlp (by decide))
          (repeat (first | ((with_reducible show Ev _ _ _); (first | ((with_reducible apply ev_var); · exact rfl) | ((with_reducible apply ev_own); · exact rfl) | (with_reducible apply ev_c) | (with_reducible apply ev_dNil) | (with_reducible apply ev_uNil) | (with_reducible apply ev_wNil) | (with_reducible apply ev_nop) | (with_reducible apply ev_pNo) | (with_reducible apply ev_retN) | (with_reducible apply ev_seq) | (with_reducible apply ev_if) | (with_reducible apply ev_setv) | (with_reducible apply ev_ret) | (with_reducible apply ev_raise) | (with_reducible apply ev_expr) | (with_reducible apply ev_e2) | (with_reducible apply ev_asB) | (with_reducible apply ev_asT) | (with_reducible apply ev_not) | (with_reducible apply ev_and) | (with_reducible apply ev_or) | (with_reducible apply ev_eAnd) | (with_reducible apply ev_eOr) | (with_reducible apply ev_eNot) | (with_reducible apply ev_eIf) | (with_reducible apply ev_neg) | (with_reducible apply ev_lst) | (with_reducible apply ev_tup) | (with_reducible apply ev_dCons) | (with_reducible apply ev_uCons) | (with_reducible apply ev_blt) | (with_reducible apply ev_call) | (with_reducible apply ev_callK) | (with_reducible apply ev_new) | (with_reducible apply ev_wCons) | (with_reducible apply ev_par) | (with_reducible apply ev_asg) | (with_reducible apply ev_m1) | (with_reducible apply ev_m0) | (with_reducible apply ev_repl) | (with_reducible apply ev_pInt) | (with_reducible apply ev_slice) | (with_reducible apply ev_iSeq) | (with_reducible apply ev_iR1) | (with_reducible apply ev_iR2) | (with_reducible apply ev_mut) | (with_reducible apply ev_put) | (with_reducible apply ev_chain))) | ((with_reducible apply Exists.intro); (repeat (with_reducible apply Exists.intro)); (first | refine ⟨rfl, rfl, rfl, ?_⟩ | (refine ⟨rfl, rfl, ?_, ?_⟩; · (first | exact hi _ | exact gStr_int hv2)) | refine ⟨rfl, rfl, ?_⟩ | (refine ⟨?_, rfl, rfl, ?_⟩; · (first | exact hi _ | exact gStr_int hv2)) | (refine ⟨rfl, ?_, ?_⟩; · (first | exact hi _ | exact gStr_int hv2)) | refine ⟨rfl, ?_⟩ | (refine ⟨?_, ?_⟩; · (first | exact hi _ | exact gStr_int hv2)))) | ((with_reducible refine And.intro ?_ ?_); · (first | exact rfl | exact hi _ | exact gStr_int hv2))))
          refine ⟨fun h1 => ?_, fun h1 => ?_⟩
          · have h1 : tos v = p := by simpa using h1
            (repeat (first | ((with_reducible show Ev _ _ _); (first | ((with_reducible apply ev_var); · exact rfl) | ((with_reducible apply ev_own); · exact rfl) | (with_reducible apply ev_c) | (with_reducible apply ev_dNil) | (with_reducible apply ev_uNil) | (with_reducible apply ev_wNil) | (with_reducible apply ev_nop) | (with_reducible apply ev_pNo) | (with_reducible apply ev_retN) | (with_reducible apply ev_seq) | (with_reducible apply ev_if) | (with_reducible apply ev_setv) | (with_reducible apply ev_ret) | (with_reducible apply ev_raise) | (with_reducible apply ev_expr) | (with_reducible apply ev_e2) | (with_reducible apply ev_asB) | (with_reducible apply ev_asT) | (with_reducible apply ev_not) | (with_reducible apply ev_and) | (with_reducible apply ev_or) | (with_reducible apply ev_eAnd) | (with_reducible apply ev_eOr) | (with_reducible apply ev_eNot) | (with_reducible apply ev_eIf) | (with_reducible apply ev_neg) | (with_reducible apply ev_lst) | (with_reducible apply ev_tup) | (with_reducible apply ev_dCons) | (with_reducible apply ev_uCons) | (with_reducible apply ev_blt) | (with_reducible apply ev_call) | (with_reducible apply ev_callK) | (with_reducible apply ev_new) | (with_reducible apply ev_wCons) | (with_reducible apply ev_par) | (with_reducible apply ev_asg) | (with_reducible apply ev_m1) | (with_reducible apply ev_m0) | (with_reducible apply ev_repl) | (with_reducible apply ev_pInt) | (with_reducible apply ev_slice) | (with_reducible apply ev_iSeq) | (with_reducible apply ev_iR1) | (with_reducible apply ev_iR2) | (with_reducible apply ev_mut) | (with_reducible apply ev_put) | (with_reducible apply ev_chain))) | ((with_reducible apply Exists.intro); (repeat (with_reducible apply Exists.intro)); (first | refine ⟨rfl, rfl, rfl, ?_⟩ | (refine ⟨rfl, rfl, ?_, ?_⟩; · (first | exact hi _ | exact (show (1 : Nat) ≤ sizeLine by decide))) | refine ⟨rfl, rfl, ?_⟩ | (refine ⟨?_, rfl, rfl, ?_⟩; · (first | exact hi _ | exact (show (1 : Nat) ≤ sizeLine by decide))) | (refine ⟨rfl, ?_, ?_⟩; · (first | exact hi _ | exact (show (1 : Nat) ≤ sizeLine by decide))) | refine ⟨rfl, ?_⟩ | (refine ⟨?_, ?_⟩; · (first | exact hi _ | exact (show (1 : Nat) ≤ sizeLine by decide))))) | ((with_reducible refine And.intro ?_ ?_); · (first | exact rfl | exact hi _ | exact (show (1 : Nat) ≤ sizeLine by decide)))))
            exact Or.inl ⟨v, rfl, hok, hv, hv2, h1⟩
          · have h1 : ¬ tos v = p := by simpa using h1
            (repeat (first | ((with_reducible show Ev _ _ _); (first | ((with_reducible apply ev_var); · exact rfl) | ((with_reducible apply ev_own); · exact rfl) | (with_reducible apply ev_c) | (with_reducible apply ev_dNil) | (with_reducible apply ev_uNil) | (with_reducible apply ev_wNil) | (with_reducible apply ev_nop) | (with_reducible apply ev_pNo) | (with_reducible apply ev_retN) | (with_reducible apply ev_seq) | (with_reducible apply ev_if) | (with_reducible apply ev_setv) | (with_reducible apply ev_ret) | (with_reducible apply ev_raise) | (with_reducible apply ev_expr) | (with_reducible apply ev_e2) | (with_reducible apply ev_asB) | (with_reducible apply ev_asT) | (with_reducible apply ev_not) | (with_reducible apply ev_and) | (with_reducible apply ev_or) | (with_reducible apply ev_eAnd) | (with_reducible apply ev_eOr) | (with_reducible apply ev_eNot) | (with_reducible apply ev_eIf) | (with_reducible apply ev_neg) | (with_reducible apply ev_lst) | (with_reducible apply ev_tup) | (with_reducible apply ev_dCons) | (with_reducible apply ev_uCons) | (with_reducible apply ev_blt) | (with_reducible apply ev_call) | (with_reducible apply ev_callK) | (with_reducible apply ev_new) | (with_reducible apply ev_wCons) | (with_reducible apply ev_par) | (with_reducible apply ev_asg) | (with_reducible apply ev_m1) | (with_reducible apply ev_m0) | (with_reducible apply ev_repl) | (with_reducible apply ev_pInt) | (with_reducible apply ev_slice) | (with_reducible apply ev_iSeq) | (with_reducible apply ev_iR1) | (with_reducible apply ev_iR2) | (with_reducible apply ev_mut) | (with_reducible apply ev_put) | (with_reducible apply ev_chain))) | ((with_reducible apply Exists.intro); (repeat (with_reducible apply Exists.intro)); (first | refine ⟨rfl, rfl, rfl, ?_⟩ | (refine ⟨rfl, rfl, ?_, ?_⟩; · (first | exact (show (0 : Nat) ≤ sizeLine by decide))) | refine ⟨rfl, rfl, ?_⟩ | (refine ⟨?_, rfl, rfl, ?_⟩; · (first | exact (show (0 : Nat) ≤ sizeLine by decide))) | (refine ⟨rfl, ?_, ?_⟩; · (first | exact (show (0 : Nat) ≤ sizeLine by decide))) | refine ⟨rfl, ?_⟩ | (refine ⟨?_, ?_⟩; · (first | exact (show (0 : Nat) ≤ sizeLine by decide))))) | ((with_reducible refine And.intro ?_ ?_); · (first | exact rfl | exact (show (0 : Nat) ≤ sizeLine by decide)))))
            refine Or.inr ⟨rfl, fun z => ?_⟩
            obtain ⟨_, u, hu, hu2⟩ := z
            rw [hv] at hu
            cases hu
            exact h1 hu2
  · refine ⟨_, rfl, fun _ => ⟨fun _ => ?_, fun z => by cases z⟩, fun z => by cases z⟩
    (repeat (first | ((with_reducible show Ev _ _ _); (first | ((with_reducible apply ev_var); · exact rfl) | ((with_reducible apply ev_own); · exact rfl) | (with_reducible apply ev_c) | (with_reducible apply ev_dNil) | (with_reducible apply ev_uNil) | (with_reducible apply ev_wNil) | (with_reducible apply ev_nop) | (with_reducible apply ev_pNo) | (with_reducible apply ev_retN) | (with_reducible apply ev_seq) | (with_reducible apply ev_if) | (with_reducible apply ev_setv) | (with_reducible apply ev_ret) | (with_reducible apply ev_raise) | (with_reducible apply ev_expr) | (with_reducible apply ev_e2) | (with_reducible apply ev_asB) | (with_reducible apply ev_asT) | (with_reducible apply ev_not) | (with_reducible apply ev_and) | (with_reducible apply ev_or) | (with_reducible apply ev_eAnd) | (with_reducible apply ev_eOr) | (with_reducible apply ev_eNot) | (with_reducible apply ev_eIf) | (with_reducible apply ev_neg) | (with_reducible apply ev_lst) | (with_reducible apply ev_tup) | (with_reducible apply ev_dCons) | (with_reducible apply ev_uCons) | (with_reducible apply ev_blt) | (with_reducible apply ev_call) | (with_reducible apply ev_callK) | (with_reducible apply ev_new) | (with_reducible apply ev_wCons) | (with_reducible apply ev_par) | (with_reducible apply ev_asg) | (with_reducible apply ev_m1) | (with_reducible apply ev_m0) | (with_reducible apply ev_repl) | (with_reducible apply ev_pInt) | (with_reducible apply ev_slice) | (with_reducible apply ev_iSeq) | (with_reducible apply ev_iR1) | (with_reducible apply ev_iR2) | (with_reducible apply ev_mut) | (with_reducible apply ev_put) | (with_reducible apply ev_chain))) | ((with_reducible apply Exists.intro); (repeat (with_reducible apply Exists.intro)); (first | refine ⟨rfl, rfl, rfl, ?_⟩ | (refine ⟨rfl, rfl, ?_, ?_⟩; · (first | exact (show (0 : Nat) ≤ sizeLine by decide))) | refine ⟨rfl, rfl, ?_⟩ | (refine ⟨?_, rfl, rfl, ?_⟩; · (first | exact (show (0 : Nat) ≤ sizeLine by decide))) | (refine ⟨rfl, ?_, ?_⟩; · (first | exact (show (0 : Nat) ≤ sizeLine by decide))) | refine ⟨rfl, ?_⟩ | (refine ⟨?_, ?_⟩; · (first | exact (show (0 : Nat) ≤ sizeLine by decide))))) | ((with_reducible refine And.intro ?_ ?_); · (first | exact rfl | exact (show (0 : Nat) ≤ sizeLine by decide)))))
    refine Or.inr ⟨rfl, fun z => ?_⟩
    have hb := of_decide_eq_false hb
    rw [dig_len] at hb
    have := z.1.1
    omega
end K55
namespace K55
open PySem PySem.Spec L2 Ow
theorem joinL_mem {S : List Nat} : ∀ {ps : List (List Nat)} {p : List Nat}, p ∈ ps → p.length ≤ (TL.joinL S ps).length ∧ ∀ c ∈ p, c ∈ TL.joinL S ps
  | [], _, h => by cases h
  | [q], p, h => by
    rw [List.mem_singleton] at h
    subst h
    exact ⟨Nat.le_refl _, fun c hc => hc⟩
  | q :: r :: t, p, h => by
    show p.length ≤ (q ++ (S ++ TL.joinL S (r :: t))).length ∧ ∀ c ∈ p, c ∈ q ++ (S ++ TL.joinL S (r :: t))
    rcases List.mem_cons.mp h with e | e
    · subst e
      exact ⟨by rw [List.length_append]; omega, fun c hc => List.mem_append_left _ hc⟩
    · have ih := joinL_mem (S := S) e
      refine ⟨by rw [List.length_append, List.length_append]; omega, fun c hc => List.mem_append_right _ (List.mem_append_right _ (ih.2 c hc))⟩
def POk (z : Str) : Prop := z.length ≤ 20000 ∧ PyData.strOk z = true
theorem part_ok {z p : Str} (h : POk z) (hp : p ∈ Txt.split z " ") : POk p := by
  have e := PySem.StrLaws.join_split z " "
  have := joinL_mem (S := TL.tl " ") (List.mem_map_of_mem (f := TL.tl) hp)
  rw [← TL.tl_join, e] at this
  refine ⟨?_, strOk_iff.mpr fun c hc => strOk_iff.mp h.2 c (this.2 c hc)⟩
  rw [TL.len_tl]
  exact Nat.le_trans this.1 (by rw [← TL.len_tl]; exact h.1)
def pieces (z : Str) : List Str := if z = "" then [] else Txt.split z " "
def Fine (v : Int) : Prop := okd (tos v) ∧ intText? (tos v) = some v ∧ v.natAbs < 10 ^ 6
def Good (z : Str) (vs : List Int) : Prop := pieces z = vs.map tos ∧ ∀ v ∈ vs, Fine v
theorem split_g {M : Mem} {z : Str} (h : POk z) : gSplit M z (.str " ") = some (.o (.lst ((Txt.split z " ").map D.str))) := by
  show (if ((" " : Str).length == 0) = false ∧ z.length + 2 ≤ sizeLine then _ else none) = _
  rw [if_pos ⟨by decide, Nat.le_trans (Nat.add_le_add_right h.1 2) (by decide)⟩]
theorem split_len {z : Str} (h : POk z) : (Txt.split z " ").length ≤ 20002 := by
  have := PyProof.Rows.split_le z " "
  have := h.1
  omega
theorem pieces_ok {z p : Str} (h : POk z) (hp : p ∈ pieces z) : POk p := by
  unfold pieces at hp
  split at hp
  · cases hp
  · exact part_ok h hp
theorem src_ev {M : Mem} {z : Str} (h : POk z) {env : En} {PI : Src → En → Mem → Prop} {X : Nat → D → En → Mem → Prop} (h0 : env[0]? = some (.val (.str z))) (k : PI ⟨(pieces z).map D.str, []⟩ env M) :
    Ev (iSeq (eIf (asB (e2 gNe (eVar 0) (eC (.str "")))) (eM1 gSplit (eVar 0) (eC (.str " "))) (eLst (dNil))) env M) PI X := by
  refine ev_iSeq (ev_eIf (ev_asB (ev_e2 (ev_var h0 (ev_c ⟨_, _, _, rfl, rfl, by rw [o_ne, deref_str, deref_str, deq_str]; rfl, _, rfl, fun hz => ?_, fun hz => ?_⟩)))))
  · have hz : ¬ z = "" := by simpa using hz
    refine ev_m1 (ev_var h0 ⟨z, rfl, ev_c ⟨_, _, rfl, split_g h, _, _, _, rfl, rfl, ?_⟩⟩)
    unfold pieces at k
    rw [if_neg hz] at k
    exact k
  · have hz : z = "" := by simpa using hz
    refine ev_lst (ev_dNil ⟨by decide, _, _, _, rfl, rfl, ?_⟩)
    unfold pieces at k
    rw [if_pos hz] at k
    exact k
open Classical in
theorem bills_of {M : Mem} {z : Str} (h : POk z) : EvF (f_law_bills_of [.str z] M) (fun w m => m = M ∧ ((∃ vs, w = .o (.lst (dI vs)) ∧ Good z vs) ∨ (w = .v .non ∧ ¬ ∃ vs, Good z vs))) F0 := by
  refine evf ?_
  unfold g_law_bills_of
  have hlen : (pieces z).length ≤ 20002 := by
    unfold pieces
    split
    · exact Nat.zero_le _
    · exact split_len h
  refine ev_seq (ev_setv (ev_lst (ev_dNil ⟨by decide, _, rfl, ?_⟩)))
  refine ev_seq (ev_for (src_ev h rfl ⟨fun j e m => m = M ∧ ∃ vs x, e = [.val (.str z), .own (.lst (dI vs)), x] ∧ (pieces z).take j = vs.map tos ∧ ∀ v ∈ vs, Fine v, ⟨rfl, [], _, rfl, rfl, fun v hv => by cases hv⟩, ?_, ?_⟩))
  · intro j x e m hx ⟨em, vs, y, ee, ht, hf⟩
    subst em ee
    have hx' : ((pieces z).map D.str)[j]? = some x := hx
    rw [List.getElem?_map] at hx'
    obtain ⟨p, hp, rfl⟩ := Option.map_eq_some_iff.mp hx'
    have hpm : p ∈ pieces z := List.mem_of_getElem? hp
    have pok := pieces_ok h hpm
    have am := amount (M := m) (p := p) (Nat.le_trans pok.1 (by decide)) pok.2
    have hvl : vs.length ≤ 20002 := by
      have := congrArg List.length ht
      rw [List.length_take, List.length_map] at this
      omega
    refine ⟨memOk_nil, _, rfl, ?_⟩
    refine ev_seq (ev_if (ev_asB (ev_e2 (ev_call (ev_dCons (ev_var rfl ⟨_, _, rfl, ev_dNil ⟨rfl, am.imp fun w m2 ⟨em, hw⟩ => ?_⟩⟩))))))
    subst em
    rcases hw with ⟨v, rfl, w1, w2, w3, w4⟩ | ⟨rfl, hn⟩
    · refine ev_lst (ev_dNil ⟨by decide, _, _, _, rfl, rfl, o_eqP rfl rfl (by simp [plns]) (by simp [plns]) (Nat.le_trans (depth_lst (n := 0) fun x hx => ?_) (by decide)) (Nat.le_trans (depth_lst (n := 0) fun x hx => by cases hx) (by decide)), _, rfl, fun hz => ?_, fun hz => ?_⟩)
      · rw [List.mem_singleton] at hx; subst hx; simp
      · simp at hz
      · refine ev_nop ?_
        refine ev_setv (ev_e2 (ev_own rfl (ev_call (ev_dCons (ev_var rfl ⟨_, _, rfl, ev_dNil ⟨rfl, am.imp fun w m2 ⟨em, hw⟩ => ?_⟩⟩)))))
        subst em
        rcases hw with ⟨v', rfl, u1, u2, u3, u4⟩ | ⟨rfl, hn⟩
        · rw [w2] at u2
          cases u2
          refine ⟨_, _, _, rfl, rfl, o_addL ?_, _, rfl, rfl, vs ++ [v], .val (.str p), ?_, ?_, ?_⟩
          · rw [List.length_map]
            exact Nat.le_trans (Nat.add_le_add_right hvl 1) (by decide)
          · show [_, Sl.own (.lst (dI vs ++ [.int v])), _] = _
            rw [show dI (vs ++ [v]) = dI vs ++ [.int v] from List.map_append] <;> rfl
          · rw [List.take_succ, hp, ht, List.map_append]
            show _ ++ [p] = _ ++ [tos v]
            rw [w4]
          · intro u hu
            rcases List.mem_append.mp hu with hu | hu
            · exact hf u hu
            · rw [List.mem_singleton] at hu
              subst hu
              unfold Fine
              rw [w4]
              exact ⟨w1, w2, w3⟩
        · exact absurd ⟨w1, v, w2, w4⟩ hn
    · refine ev_lst (ev_dNil ⟨by decide, _, _, _, rfl, rfl, o_eqP rfl rfl (by simp [plns]) (by simp [plns]) (Nat.le_trans (depth_lst (n := 0) fun x hx => by cases hx) (by decide)) (Nat.le_trans (depth_lst (n := 0) fun x hx => by cases hx) (by decide)), _, rfl, fun hz => ?_, fun hz => ?_⟩)
      · refine ev_ret (ev_c ⟨_, _, rfl, rfl, Or.inr ⟨rfl, fun ⟨us, hu, hg⟩ => ?_⟩⟩)
        rw [hu] at hpm
        obtain ⟨v, hv, rfl⟩ := List.mem_map.mp hpm
        exact hn ⟨(hg v hv).1, v, (hg v hv).2.1, rfl⟩
      · simp at hz
  · intro e m ⟨em, vs, y, ee, ht, hf⟩
    subst em ee
    refine ⟨memOk_nil, ev_ret (ev_own rfl ⟨_, _, rfl, rfl, Or.inl ⟨vs, rfl, ?_, hf⟩⟩)⟩
    have : ((pieces z).map D.str).length = (pieces z).length := List.length_map ..
    rw [← ht]
    show _ = (pieces z).take ((pieces z).map D.str).length
    rw [this, List.take_length]
end K55
namespace K55
open PySem PySem.Spec L2 Ow
def Reads (z : Str) (rs : List (Option Int)) : Prop := rs.length = (pieces z).length ∧ ∀ (i : Nat) (p : Str) (r : Option Int), (pieces z)[i]? = some p → rs[i]? = some r → NumR p r
theorem reads_ev {M : Mem} {z : Str} (h : POk z) {env : En} {P : W → En → Mem → Prop} {X : Nat → D → En → Mem → Prop} (he : env = [.val (.str z), .un, .un]) (k : ∀ rs, Reads z rs → P (.o (.lst (rs.map oD))) env M) :
    Ev (eIf (asB (e2 gNe (eVar 0) (eC (.str "")))) (eComp [2] (iSeq (eM1 gSplit (eVar 0) (eC (.str " ")))) (tgN 2) (bYes) (eCall 2 f_number_in (dCons (eVar 2) (dCons (eC (.int 6)) (dNil))))) (eLst (dNil)) env M) P X := by
  subst he
  refine ev_eIf (ev_asB (ev_e2 (ev_var rfl (ev_c ⟨_, _, _, rfl, rfl, by rw [o_ne, deref_str, deref_str, deq_str]; rfl, _, rfl, fun hz => ?_, fun hz => ?_⟩))))
  · have hz : ¬ z = "" := by simpa using hz
    have hp : pieces z = Txt.split z " " := by unfold pieces; rw [if_neg hz]
    refine ev_comp (ev_iSeq (ev_m1 (ev_var rfl ⟨z, rfl, ev_c ⟨_, _, rfl, split_g h, _, _, _, rfl, rfl, rfl, fun j acc m => m = M ∧ ∃ rs : List (Option Int), acc = rs.map oD ∧ rs.length = min j (pieces z).length ∧ ∀ (i : Nat) (p : Str) (r : Option Int), (pieces z)[i]? = some p → rs[i]? = some r → NumR p r, ⟨rfl, [], rfl, by simp, fun i p r _ hr => by simp at hr⟩, ?_, ?_⟩⟩)))
    · intro j acc m x hx ⟨em, rs, ea, hl, hr⟩
      subst em ea
      have hx' : ((Txt.split z " ").map D.str)[j]? = some x := hx
      rw [← hp, List.getElem?_map] at hx'
      obtain ⟨p, hpj, rfl⟩ := Option.map_eq_some_iff.mp hx'
      have hjl : j < (pieces z).length := (List.getElem?_eq_some_iff.mp hpj).1
      have pok := pieces_ok h (List.mem_of_getElem? hpj)
      have nm := number (M := m) (p := p) (Nat.le_trans pok.1 (by decide))
      refine ⟨memOk_nil, _, rfl, ⟨fun _ => ?_, fun z => by cases z⟩⟩
      refine ev_call (ev_dCons (ev_var rfl ⟨_, _, rfl, ev_dCons (ev_c ⟨_, _, rfl, ev_dNil ⟨rfl, nm.imp fun w m2 ⟨em, r, ew, hn⟩ => ?_⟩⟩)⟩))
      subst em ew
      refine ⟨oD r, _, rfl, ?_, rfl, rfl, rs ++ [r], by rw [List.map_append] <;> rfl, by rw [List.length_append, hl, List.length_singleton]; omega, fun i q u hq hu => ?_⟩
      · have := split_len h
        rw [List.length_map, hl]
        rw [hp]
        exact Nat.lt_of_le_of_lt (Nat.le_trans (Nat.min_le_right _ _) this) (by decide)
      · by_cases hi : i < rs.length
        · rw [List.getElem?_append_left hi] at hu
          exact hr i q u hq hu
        · rw [List.getElem?_append_right (by omega)] at hu
          have hi2 : i = j := by
            have := (List.getElem?_eq_some_iff.mp hu).1
            rw [List.length_singleton] at this
            omega
          subst hi2
          rw [show i - rs.length = 0 by omega] at hu
          cases hu
          rw [hpj] at hq
          cases hq
          exact hn
    · intro acc m ⟨em, rs, ea, hl, hr⟩
      subst em ea
      refine ⟨memOk_nil, k rs ⟨?_, hr⟩⟩
      have e1 : ((Txt.split z " ").map D.str).length = (pieces z).length := by rw [List.length_map, hp]
      rw [hl]
      show min ((Txt.split z " ").map D.str).length (pieces z).length = _
      rw [e1, Nat.min_self]
  · have hz : z = "" := by simpa using hz
    have hp : pieces z = [] := by unfold pieces; rw [if_pos hz]
    refine ev_lst (ev_dNil ⟨by decide, k [] ⟨by rw [hp] <;> rfl, fun i p r h1 => by rw [hp] at h1; simp at h1⟩⟩)
theorem non_in {M : Mem} (rs : List (Option Int)) : gIn false M .non (.lst (rs.map oD)) = some (.v (.bl (rs.any Option.isNone))) := by
  have h1 : (rs.map oD).all flD = true := by
    rw [List.all_map, List.all_eq_true]
    intro r _
    cases r <;> rfl
  have h2 : din .non (rs.map oD) = rs.any Option.isNone := by
    unfold din
    rw [List.any_map]
    congr 1
    funext r
    cases r <;> rfl
  show (if flD .non && (rs.map oD).all flD then some (W.v (.bl (if false = true then !din .non (rs.map oD) else din .non (rs.map oD)))) else none) = _
  rw [h1, h2] <;> rfl
theorem good_reads {z : Str} {rs : List (Option Int)} {vs : List Int} (h : Reads z rs) (g : Good z vs) : rs = vs.map some := by
  obtain ⟨hl, hr⟩ := h
  obtain ⟨gp, gf⟩ := g
  refine List.ext_getElem? fun i => ?_
  by_cases hi : i < rs.length
  · have hi2 : i < vs.length := by rw [hl, gp, List.length_map] at hi; exact hi
    have e1 : rs[i]? = some rs[i] := List.getElem?_eq_getElem hi
    have e2 : vs[i]? = some vs[i] := List.getElem?_eq_getElem hi2
    have e3 : (pieces z)[i]? = some (tos vs[i]) := by rw [gp, List.getElem?_map, e2] <;> rfl
    have nr := hr i _ _ e3 e1
    have fv := gf vs[i] (List.getElem_mem hi2)
    rw [e1, List.getElem?_map, e2]
    rcases nr with ⟨n1, _⟩ | ⟨_, v, n2, _, n3⟩
    · exact absurd fv.1 n1
    · rw [fv.2.1] at n2
      cases n2
      rcases n3 with n3 | ⟨_, n3⟩
      · rw [n3] <;> rfl
      · exact absurd rfl n3
  · rw [List.getElem?_eq_none (by omega), List.getElem?_eq_none (by rw [List.length_map]; rw [hl, gp, List.length_map] at hi; omega)]
theorem join_pieces {z : Str} {vs : List Int} (g : Good z vs) : Txt.join " " (vs.map tos) = z := by
  rw [← g.1]
  unfold pieces
  split
  · next h => rw [h] <;> rfl
  · rw [TL.join_eq]; exact PySem.StrLaws.join_split z " "
theorem good_of {z : Str} {vs : List Int} (h : Reads z (vs.map some)) (e : Txt.join " " (vs.map tos) = z) : Good z vs := by
  have hp : pieces z = vs.map tos := by
    unfold pieces
    split
    · next hz =>
      have := h.1
      unfold pieces at this
      rw [if_pos hz, List.length_map] at this
      rw [List.eq_nil_of_length_eq_zero this] <;> rfl
    · next hz =>
      have hne : vs.map tos ≠ [] := fun z0 => hz (by rw [← e, z0] <;> rfl)
      rw [← e]
      exact TL.split_join (y := " ") (s := 32) (S := []) (by decide) (by decide +kernel) hne fun p hp => by
        obtain ⟨v, _, rfl⟩ := List.mem_map.mp hp
        exact tos_free
  refine ⟨hp, fun v hv => ?_⟩
  obtain ⟨i, hi, rfl⟩ := List.mem_iff_getElem.mp hv
  have nr := h.2 i (tos vs[i]) (some vs[i]) (by rw [hp, List.getElem?_map, List.getElem?_eq_getElem hi] <;> rfl) (by rw [List.getElem?_map, List.getElem?_eq_getElem hi] <;> rfl)
  rcases nr with ⟨_, n⟩ | ⟨n1, u, n2, n4, n3⟩
  · cases n
  · rcases n3 with n3 | ⟨n3, _⟩
    · cases n3
      exact ⟨n1, n2, n4⟩
    · cases n3
theorem read_bills {M : Mem} {z : Str} (h : POk z) : EvF (f_read_bills [.str z] M) (fun w m => m = M ∧ ∃ vs, w = .v (.lst (dI vs)) ∧ Good z vs) (fun c d m => c = 3 ∧ d = .str z ∧ m = M ∧ ¬ ∃ vs, Good z vs) := by
  refine evf ?_
  unfold g_read_bills
  refine ev_seq (ev_setv (reads_ev h rfl fun rs hr => ⟨_, rfl, ?_⟩))
  refine ev_seq (ev_if (ev_or (ev_asB (ev_e2 (ev_c (ev_own rfl ⟨_, _, _, rfl, rfl, non_in rs, _, rfl, fun hz => ?_, fun hz => ?_⟩))))))
  · refine ⟨fun _ => ev_raise (ev_var rfl ⟨_, _, rfl, rfl, rfl, rfl, fun ⟨vs, g⟩ => ?_⟩), fun z => by cases z⟩
    rw [good_reads hr g] at hz
    rw [List.any_map] at hz
    obtain ⟨v, _, hv⟩ := List.any_eq_true.mp hz
    cases hv
  · obtain ⟨vs, rfl⟩ : ∃ vs : List Int, rs = vs.map some := by
      clear hr
      induction rs with
      | nil => exact ⟨[], rfl⟩
      | cons r rs ih =>
        rw [List.any_cons, Bool.or_eq_false_iff] at hz
        obtain ⟨vs, rfl⟩ := ih hz.2
        cases r with
        | none => cases hz.1
        | some v => exact ⟨v :: vs, rfl⟩
    have em : (vs.map some).map oD = dI vs := by rw [List.map_map] <;> rfl
    rw [em]
    have hv : ∀ v ∈ vs, v.natAbs < 10 ^ 6 := fun v hv => by
      obtain ⟨i, hi, rfl⟩ := List.mem_iff_getElem.mp hv
      have hi2 : i < (pieces z).length := by rw [← hr.1, List.length_map]; exact hi
      have nr := hr.2 i _ (some vs[i]) (List.getElem?_eq_getElem hi2) (by rw [List.getElem?_map, List.getElem?_eq_getElem hi] <;> rfl)
      rcases nr with ⟨_, n⟩ | ⟨n1, u, n2, n4, n3⟩
      · cases n
      · rcases n3 with n3 | ⟨n3, _⟩
        · cases n3; exact n4
        · cases n3
    have hl : vs.length ≤ 1000000 := by
      have h1 := hr.1
      rw [List.length_map] at h1
      rw [h1]
      unfold pieces
      split
      · exact Nat.zero_le _
      · exact Nat.le_trans (split_len h) (by decide)
    refine ev_asB (ev_e2 (ev_call (ev_dCons (ev_own rfl ⟨_, _, rfl, ev_dNil ⟨rfl, (shows hv hl).imp fun w m ⟨em, ew⟩ => ?_⟩⟩))))
    subst em ew
    refine ev_var rfl ⟨_, _, _, rfl, rfl, by rw [o_ne, deref_str, deref_str, deq_str]; rfl, _, rfl, fun h1 => ?_, fun h1 => ?_⟩
    · have h1 : ¬ Txt.join " " (vs.map tos) = z := by simpa using h1
      refine ev_raise (ev_var rfl ⟨_, _, rfl, rfl, rfl, rfl, fun ⟨us, g⟩ => ?_⟩)
      have := good_reads hr g
      have : vs = us := by
        have := congrArg (List.filterMap id) this
        simpa using this
      subst this
      exact h1 (join_pieces g)
    · have h1 : Txt.join " " (vs.map tos) = z := by simpa using h1
      exact ev_nop (ev_ret (ev_var rfl ⟨_, _, rfl, rfl, vs, rfl, good_of hr h1⟩))
end K55
namespace K55
open PySem PySem.Spec L2 Ow
theorem good_uniq {z : Str} {vs us : List Int} (g : Good z vs) (g2 : Good z us) : vs = us := by
  have h : vs.map tos = us.map tos := g.1.symm.trans g2.1
  refine List.ext_getElem? fun i => ?_
  have h1 := congrArg (fun l => l[i]?) h
  simp only [List.getElem?_map] at h1
  cases q : vs[i]? with
  | none => rw [q] at h1; cases q2 : us[i]? with
    | none => rfl
    | some u => rw [q2] at h1; cases h1
  | some v =>
    rw [q] at h1
    cases q2 : us[i]? with
    | none => rw [q2] at h1; cases h1
    | some u =>
      rw [q2] at h1
      have e : tos v = tos u := Option.some.inj h1
      have f1 := (g.2 v (List.mem_of_getElem? q)).2.1
      have f2 := (g2.2 u (List.mem_of_getElem? q2)).2.1
      rw [e, f2] at f1
      rw [Option.some.inj f1]
theorem good_len {z : Str} {vs : List Int} (h : POk z) (g : Good z vs) : vs.length ≤ 1000000 := by
  have h1 := congrArg List.length g.1
  rw [List.length_map] at h1
  rw [← h1]
  unfold pieces
  split
  · exact Nat.zero_le _
  · exact Nat.le_trans (split_len h) (by decide)
theorem caught {M : Mem} {z : Str} {way : Int} (h : POk z) : EvF (f_law_caught [.str z, .int way] M) (fun w m => m = M ∧ ((∃ vs, Good z vs ∧ w = .o (.lst [.lst (dI vs)])) ∨ ((¬ ∃ vs, Good z vs) ∧ w = .o (.lst [])))) F0 := by
  refine evf ?_
  unfold g_law_caught
  refine ev_seq (ev_setv (ev_lst (ev_dNil ⟨by decide, _, rfl, ?_⟩)))
  have exc : ∀ {m : Mem} (a dd : Addr), Ev (sSeq (sSet 5 (eOr (eIs a 3 dd (ist_InvalidRow_NotEven 3) (eVar 4)) (eNot (eIs a 3 dd (is_Unreadable 3) (eVar 4))))) (sSet 2 (eIf (bOr (asT (eVar 5)) (asB (e2 gNe (eVal a 3 dd (eVar 4)) (eVar 0)))) (eLst (dCons (eC (.str "odd")) (dNil))) (eLst (dNil)))) [.val (.str z), .val (.int way), .own (.lst []), .un, .val (.exc a 3 dd (.str z)), .un] m) (fun fl2 e2 m2 => fl2 = .nx ∧ e2.set 4 .un = [.val (.str z), .val (.int way), .own (.lst []), .un, .un, .val (.bl false)] ∧ m2 = m) X0 := fun {m} a dd => by
    refine ev_seq (ev_setv (ev_eOr (ev_asB (ev_is (ev_var rfl ⟨⟨_, rfl⟩, _, rfl, fun z => (by cases z), fun _ => ?_⟩)))))
    refine ev_eNot (ev_asB (ev_is (ev_var rfl ⟨⟨_, rfl⟩, _, rfl, _, rfl, ?_⟩)))
    refine ev_setv (ev_eIf (ev_or (ev_asT (ev_var rfl ⟨_, _, rfl, rfl, fun z => (by cases z), fun _ => ?_⟩))))
    refine ev_asB (ev_e2 (ev_val (ev_var rfl ⟨_, rfl, ev_var rfl ⟨_, _, _, rfl, rfl, by simp only [o_ne, deref_str, deq_str]; rfl, _, rfl, fun h1 => ?_, fun h1 => ?_⟩⟩)))
    · simp at h1
    · exact ev_lst (ev_dNil ⟨by decide, _, rfl, rfl, rfl, rfl⟩)
  refine ev_seq (ev_try ?_)
  have told : ∀ vs, Good z vs → Ev (sSet 2 (eIf (asB (e2 gEq (eCall 1 f_show_bills (dCons (eVar 3) (dNil))) (eVar 0))) (eLst (dCons (eVar 3) (dNil))) (eLst (dCons (eC (.str "other")) (dNil)))) [.val (.str z), .val (.int way), .own (.lst []), .val (.lst (dI vs)), .un, .un] M) (fun fl e m => match fl with
      | .nx => Ev (sRet (eVar 2) e m) (fun fl _ m => match fl with
        | .nx => m = M ∧ ((∃ vs, Good z vs ∧ W.v .non = .o (.lst [.lst (dI vs)])) ∨ ((¬ ∃ vs, Good z vs) ∧ W.v .non = .o (.lst [])))
        | .rt (.s _) => False
        | .rt w => m = M ∧ ((∃ vs, Good z vs ∧ w = .o (.lst [.lst (dI vs)])) ∨ ((¬ ∃ vs, Good z vs) ∧ w = .o (.lst [])))
        | _ => False) X0
      | fl => False) X0 := fun vs g => by
    refine ev_setv (ev_eIf (ev_asB (ev_e2 (ev_call (ev_dCons (ev_var rfl ⟨_, _, rfl, ev_dNil ⟨rfl, (shows (fun v hv => (g.2 v hv).2.2) (good_len h g)).imp fun w m ⟨em, ew⟩ => ?_⟩⟩))))))
    subst em ew
    refine ev_var rfl ⟨_, _, _, rfl, rfl, by simp only [o_eq, deref_str, deq_str]; rfl, _, rfl, fun h1 => ?_, fun h1 => ?_⟩
    · exact ev_lst (ev_dCons (ev_var rfl ⟨_, _, rfl, ev_dNil ⟨show (1 : Nat) ≤ sizeLine by decide, _, rfl, ev_ret (ev_own rfl ⟨_, _, rfl, rfl, Or.inl ⟨vs, g, rfl⟩⟩)⟩⟩))
    · have h1 : ¬ Txt.join " " (vs.map tos) = z := by simpa using h1
      exact absurd (join_pieces g) h1
  refine ev_seq (ev_setv (ev_eIf (ev_asB (ev_e2 (ev_var rfl (ev_c ⟨_, _, _, rfl, rfl, by simp only [o_eq, deref_int, deq_int]; rfl, _, rfl, fun _ => ?_, fun _ => ?_⟩))))))
  · refine ev_call (ev_dCons (ev_var rfl ⟨_, _, rfl, ev_dNil ⟨rfl, (read_bills h).mono (fun w m ⟨em, vs, ew, g⟩ => ?_) fun c d m ⟨ec, ed, em, hn⟩ => ?_⟩⟩))
    · subst em ew
      exact ⟨_, rfl, (told vs g).mono (fun fl e m z => by cases fl <;> first | exact z | exact z.elim) fun _ _ _ _ z => z.elim⟩
    · subst ec ed em
      exact ⟨rfl, show 4 < 6 by decide, .nx, _, _, fun a dd => exc a dd, fun j z => (by cases z), ev_ret (ev_own rfl ⟨_, _, rfl, rfl, Or.inr ⟨hn, rfl⟩⟩)⟩
  · refine ev_callK (ev_dCons (ev_var rfl ⟨_, _, rfl, ev_dNil ⟨⟨rfl, rfl⟩, (read_bills h).mono (fun w m ⟨em, vs, ew, g⟩ => ?_) fun c d m ⟨ec, ed, em, hn⟩ => ?_⟩⟩))
    · subst em ew
      exact ⟨_, rfl, (told vs g).mono (fun fl e m z => by cases fl <;> first | exact z | exact z.elim) fun _ _ _ _ z => z.elim⟩
    · subst ec ed em
      exact ⟨rfl, show 4 < 6 by decide, .nx, _, _, fun a dd => exc a dd, fun j z => (by cases z), ev_ret (ev_own rfl ⟨_, _, rfl, rfl, Or.inr ⟨hn, rfl⟩⟩)⟩
end K55
namespace K55
open PySem PySem.Spec L2 Ow
def okS (d : D) : Bool := match d with
  | .str s => decide (s.length ≤ 20000) && PyData.strOk s
  | _ => false
theorem okS_iff {d : D} : okS d = true ↔ ∃ y, d = .str y ∧ POk y := by
  cases d with
  | str s =>
    show (decide (s.length ≤ 20000) && PyData.strOk s) = true ↔ _
    rw [Bool.and_eq_true, decide_eq_true_eq]
    exact ⟨fun h => ⟨s, rfl, h⟩, fun ⟨y, e, h⟩ => by cases e; exact h⟩
  | _ => exact ⟨fun h => (by cases h), fun ⟨y, e, _⟩ => (by cases e)⟩
theorem joinL_sub {S : List Nat} : ∀ {ps : List (List Nat)} {c : Nat}, c ∈ TL.joinL S ps → c ∈ S ∨ ∃ p ∈ ps, c ∈ p
  | [], _, h => by cases h
  | [q], c, h => Or.inr ⟨q, List.mem_singleton.mpr rfl, h⟩
  | q :: r :: t, c, h => by
    rcases List.mem_append.mp (show c ∈ q ++ (S ++ TL.joinL S (r :: t)) from h) with h | h
    · exact Or.inr ⟨q, List.mem_cons_self, h⟩
    · rcases List.mem_append.mp h with h | h
      · exact Or.inl h
      · rcases joinL_sub h with h | ⟨p, hp, hc⟩
        · exact Or.inl h
        · exact Or.inr ⟨p, List.mem_cons_of_mem _ hp, hc⟩
theorem sum_le {B : Nat} : ∀ {ps : List Str}, (∀ p ∈ ps, p.length ≤ B) → (ps.map (·.length)).sum ≤ ps.length * B
  | [], _ => Nat.zero_le _
  | p :: ps, h => by
    have h1 := h p List.mem_cons_self
    have h2 := sum_le (B := B) fun q hq => h q (List.mem_cons_of_mem _ hq)
    simp only [List.map_cons, List.sum_cons, List.length_cons, Nat.succ_mul]
    omega
theorem join_ok {sep : Str} {ps : List Str} {B : Nat} (hs : sep.length ≤ 1) (hs2 : PyData.strOk sep = true) (h : ∀ p ∈ ps, p.length ≤ B ∧ PyData.strOk p = true) (hb : ps.length * B + ps.length ≤ 20000) : POk (Txt.join sep ps) ∧ joinOk sep ps = true := by
  have h1 := sum_le (B := B) fun p hp => (h p hp).1
  have h2 : ps.length * sep.length ≤ ps.length * 1 := Nat.mul_le_mul_left _ hs
  refine ⟨⟨?_, strOk_iff.mpr fun c hc => ?_⟩, ?_⟩
  · rw [TL.join_eq]
    have := PySem.StrLaws.join_length_le sep ps
    omega
  · rw [TL.join_eq, TL.tl_join] at hc
    rcases joinL_sub hc with hc | ⟨p, hp, hc⟩
    · exact strOk_iff.mp hs2 c hc
    · obtain ⟨q, hq, rfl⟩ := List.mem_map.mp hp
      exact strOk_iff.mp (h q hq).2 c hc
  · unfold joinOk
    rw [decide_eq_true_eq]
    omega
theorem gJoin_strs {M : Mem} {sep : Str} {ps : List Str} (h : joinOk sep ps = true) : gJoin M sep (.lst (ps.map D.str)) = some (.v (.str (Txt.join sep ps))) := by
  show (strsD _).bind _ = _
  rw [strsD_map]
  show (if joinOk sep ps = true then _ else none) = _
  rw [if_pos h]
theorem flat_rep {α : Type} (x : α) : ∀ n : Nat, (List.replicate n [x]).flatten = List.replicate n x
  | 0 => rfl
  | n + 1 => by rw [List.replicate_succ, List.flatten_cons, flat_rep x n] <;> rfl
theorem o_rep {M : Mem} {x : D} {k : Int} (h : 0 ≤ k) (h2 : k ≤ 1000) : gMul M (.lst [x]) (.int k) = some (.o (.lst (List.replicate k.toNat x))) := by
  show (none.or (if k < 2 ^ 63 ∧ -(2 ^ 63) ≤ k ∧ [x].length * k.toNat ≤ sizeLine then some (W.o (.lst (List.replicate k.toNat [x]).flatten)) else none)) = _
  rw [if_pos ⟨by omega, by omega, by
    show 1 * k.toNat ≤ sizeLine
    exact Nat.le_trans (by omega : 1 * k.toNat ≤ 1000) (by decide)⟩, flat_rep] <;> rfl
theorem rep_join {M : Mem} {s : Str} {k : Int} (h : 0 ≤ k) (h2 : k ≤ 1000) (hs : s.length ≤ 2) (hs2 : PyData.strOk s = true) : ∃ y, gJoin M " " (.lst (List.replicate k.toNat (.str s))) = some (.v (.str y)) ∧ y.length ≤ 3000 ∧ PyData.strOk y = true := by
  have e : List.replicate k.toNat (D.str s) = (List.replicate k.toNat s).map D.str := by rw [List.map_replicate]
  have hp : ∀ p ∈ List.replicate k.toNat s, p.length ≤ 2 ∧ PyData.strOk p = true := fun p hp => by
    rw [(List.mem_replicate.mp hp).2]
    exact ⟨hs, hs2⟩
  have j := join_ok (sep := " ") (ps := List.replicate k.toNat s) (B := 2) (by decide) (by decide +kernel) hp (by rw [List.length_replicate]; omega)
  refine ⟨_, by rw [e]; exact gJoin_strs j.2, ?_, j.1.2⟩
  have h1 := sum_le (B := 2) fun p hq => (hp p hq).1
  have := PySem.StrLaws.join_length_le " " (List.replicate k.toNat s)
  rw [TL.join_eq]
  rw [List.length_replicate] at h1 this
  have e1 : (" " : Str).length = 1 := by decide
  rw [e1] at this
  omega
/-- a step of the menu -/
theorem addm {fs : En → Mem → Res (List D)} {env : En} {M : Mem} {PS : Fl → En → Mem → Prop} {X : Nat → D → En → Mem → Prop} {xs : List D} (h2 : env[2]? = some (.own (.lst xs))) (hl : xs.length ≤ 100) (hx : xs.all okS = true)
    (hf : Ev (fs env M) (fun ds e m => (e = env ∧ m = M) ∧ ds.length ≤ 20 ∧ ds.all okS = true) X0) (k : ∀ ys : List D, ys.all okS = true → xs.length ≤ ys.length → ys.length ≤ xs.length + 20 → PS .nx (env.set 2 (.own (.lst ys))) M) : Ev (sSet 2 (e2 gAdd (eVar 2) (eLst fs)) env M) PS X := by
  have hi : 2 < env.length := (List.getElem?_eq_some_iff.mp h2).1
  refine ev_setv (ev_e2 (ev_own h2 (ev_lst (hf.mono (fun ds e m ⟨⟨e1, e2⟩, h3, h4⟩ => ?_) fun _ _ _ _ z => z.elim))))
  subst e1 e2
  refine ⟨Nat.le_trans h3 (by decide), _, _, _, by show U.get e (.s 2) = _; rw [get_s, h2], rfl, o_addL ?_, ?_⟩
  · exact Nat.le_trans (Nat.add_le_add hl h3) (by decide)
  · refine ⟨_, by rw [put_o, if_pos hi], k (xs ++ ds) (by rw [List.all_append, hx, h4] <;> rfl) (by rw [List.length_append]; omega) (by rw [List.length_append]; omega)⟩
end K55
namespace K55
open PySem PySem.Spec L2 Ow
/-- a text of some length -/
def Lk (B : Nat) (z : Str) : Prop := z.length ≤ B ∧ PyData.strOk z = true
theorem lk_app {a b : Nat} {x y : Str} (h : Lk a x) (h' : Lk b y) : Lk (a + b) (x ++ y) := by
  refine ⟨by rw [Str.length_append]; exact Nat.add_le_add h.1 h'.1, strOk_iff.mpr fun c hc => ?_⟩
  rw [TL.tl_append] at hc
  rcases List.mem_append.mp hc with hc | hc
  · exact strOk_iff.mp h.2 c hc
  · exact strOk_iff.mp h'.2 c hc
theorem lk_okS {B : Nat} {z : Str} (h : Lk B z) (hb : B ≤ 20000) : okS (.str z) = true := okS_iff.mpr ⟨z, rfl, Nat.le_trans h.1 hb, h.2⟩
theorem add_lk {M : Mem} {a b : Nat} {x y : Str} (h : Lk a x) (h' : Lk b y) (hb : a + b ≤ 100000) : gAdd M (.str x) (.str y) = some (.v (.str (x ++ y))) :=
  o_addS (Nat.le_trans (Nat.add_le_add h.1 h'.1) (Nat.le_trans hb (by decide)))
theorem addS_lk {M : Mem} {a b : Nat} {x y : Str} (h : Lk a x) (h' : Lk b y) (hb : a + b ≤ 100000) : gAddS M (.str x) (.str y) = some (.v (.str (x ++ y))) := by
  show (if x.length + y.length ≤ sizeLine then some (W.v (.str (x ++ y))) else none) = _
  rw [if_pos (Nat.le_trans (Nat.add_le_add h.1 h'.1) (Nat.le_trans hb (by decide)))]
theorem rep_lk {z : Str} (h : Lk 100 z) : Lk 400 (Txt.replace z " " "  ") := by
  have e : (" " : Str) = ⟨#[32]⟩ := by decide
  rw [e, PySem.StrLaws.replace_one]
  refine ⟨?_, strOk_iff.mpr fun c hc => ?_⟩
  · rw [← PySem.StrLaws.replace_one]
    have := TK.replace_len z ⟨#[32]⟩ "  "
    have e2 : ("  " : Str).length = 2 := by decide
    rw [e2] at this
    have := h.1
    omega
  · rw [TL.tl_join] at hc
    rcases joinL_sub hc with hc | ⟨p, hp, hc⟩
    · exact strOk_iff.mp (by decide +kernel : PyData.strOk "  " = true) c hc
    · obtain ⟨q, hq, rfl⟩ := List.mem_map.mp hp
      have e3 := PySem.StrLaws.join_split z ⟨#[32]⟩
      have := joinL_mem (S := TL.tl ⟨#[32]⟩) (List.mem_map_of_mem (f := TL.tl) hq)
      rw [← TL.tl_join, e3] at this
      exact strOk_iff.mp h.2 c (this.2 c hc)
theorem lk_c {B : Nat} {z : Str} (h : (decide (z.length ≤ B) && PyData.strOk z) = true) : Lk B z := by
  rw [Bool.and_eq_true, decide_eq_true_eq] at h
  exact h
theorem ix_all {M : Mem} {xs : List D} {r : Int} (hx : xs.all okS = true) (h0 : 0 ≤ r) (h1 : r < xs.length) : ∃ y, gIx M (.lst xs) (.int r) = some (.v (.str y)) ∧ POk y := by
  obtain ⟨j, rfl⟩ : ∃ j : Nat, r = j := ⟨r.toNat, by omega⟩
  have hj : j < xs.length := by omega
  obtain ⟨y, e, h⟩ := okS_iff.mp (List.all_eq_true.mp hx xs[j] (List.getElem_mem hj))
  refine ⟨y, ?_, h⟩
  have : atI xs (j : Int) = some (.str y) := by
    unfold atI ixN
    simp [hj, e]
  show (atI xs j).map W.v = _
  rw [this] <;> rfl
theorem odd {M : Mem} {n : Nat} {k : Int} {z : Str} (h : Pu M n k) (hk : k ≤ 2 ^ 59) (hz : Lk 100 z) : EvF (f_law_odd [.ref n, .str z] M) (fun w M' => Pu M' n (k + 2) ∧ ∃ y, w = .v (.str y) ∧ POk y) F0 := by
  refine evf ?_
  unfold g_law_odd
  (repeat (first | ((with_reducible show Ev _ _ _); (first | ((with_reducible apply ev_var); · exact rfl) | ((with_reducible apply ev_own); · exact rfl) | (with_reducible apply ev_c) | (with_reducible apply ev_dNil) | (with_reducible apply ev_uNil) | (with_reducible apply ev_wNil) | (with_reducible apply ev_nop) | (with_reducible apply ev_pNo) | (with_reducible apply ev_retN) | (with_reducible apply ev_seq) | (with_reducible apply ev_if) | (with_reducible apply ev_setv) | (with_reducible apply ev_ret) | (with_reducible apply ev_raise) | (with_reducible apply ev_expr) | (with_reducible apply ev_e2) | (with_reducible apply ev_asB) | (with_reducible apply ev_asT) | (with_reducible apply ev_not) | (with_reducible apply ev_and) | (with_reducible apply ev_or) | (with_reducible apply ev_eAnd) | (with_reducible apply ev_eOr) | (with_reducible apply ev_eNot) | (with_reducible apply ev_eIf) | (with_reducible apply ev_neg) | (with_reducible apply ev_lst) | (with_reducible apply ev_tup) | (with_reducible apply ev_dCons) | (with_reducible apply ev_uCons) | (with_reducible apply ev_blt) | (with_reducible apply ev_call) | (with_reducible apply ev_callK) | (with_reducible apply ev_new) | (with_reducible apply ev_wCons) | (with_reducible apply ev_par) | (with_reducible apply ev_asg) | (with_reducible apply ev_m1) | (with_reducible apply ev_m0) | (with_reducible apply ev_repl) | (with_reducible apply ev_pInt) | (with_reducible apply ev_slice) | (with_reducible apply ev_iSeq) | (with_reducible apply ev_iR1) | (with_reducible apply ev_iR2) | (with_reducible apply ev_mut) | (with_reducible apply ev_put) | (with_reducible apply ev_chain))) | ((with_reducible apply Exists.intro); (repeat (with_reducible apply Exists.intro)); (first | refine ⟨rfl, rfl, rfl, ?_⟩ | (refine ⟨rfl, rfl, ?_, ?_⟩; · (first | exact (show (13 : Nat) ≤ sizeLine by decide) | exact (show (4 : Nat) ≤ sizeLine by decide) | exact (show (10 : Nat) ≤ sizeLine by decide))) | refine ⟨rfl, rfl, ?_⟩ | (refine ⟨?_, rfl, rfl, ?_⟩; · (first | exact (show (13 : Nat) ≤ sizeLine by decide) | exact (show (4 : Nat) ≤ sizeLine by decide) | exact (show (10 : Nat) ≤ sizeLine by decide))) | (refine ⟨rfl, ?_, ?_⟩; · (first | exact (show (13 : Nat) ≤ sizeLine by decide) | exact (show (4 : Nat) ≤ sizeLine by decide) | exact (show (10 : Nat) ≤ sizeLine by decide))) | refine ⟨rfl, ?_⟩ | (refine ⟨?_, ?_⟩; · (first | exact (show (13 : Nat) ≤ sizeLine by decide) | exact (show (4 : Nat) ≤ sizeLine by decide) | exact (show (10 : Nat) ≤ sizeLine by decide))))) | ((with_reducible refine And.intro ?_ ?_); · (first | exact rfl | exact (show (13 : Nat) ≤ sizeLine by decide) | exact (show (4 : Nat) ≤ sizeLine by decide) | exact (show (10 : Nat) ≤ sizeLine by decide)))))
  refine (coin h (by omega) (by decide) (by decide)).imp fun w M1 ⟨r, ew, r0, r1, p1⟩ => ?_
  subst ew
  refine ⟨_, _, _, rfl, rfl, rfl, _, rfl, ?_⟩
  obtain ⟨j1, q1, m1⟩ := rep_join (M := M1) (s := "7") (k := 2 + r) (by omega) (by omega) (by decide) (by decide +kernel)
  obtain ⟨j2, q2, m2⟩ := rep_join (M := M1) (s := "-9") (k := 2 + r) (by omega) (by omega) (by decide) (by decide +kernel)
  obtain ⟨j4, q4, m4⟩ := rep_join (M := M1) (s := "1") (k := 2 + r) (by omega) (by omega) (by decide) (by decide +kernel)
  have hrep : ∀ x : D, gMul M1 (.lst [x]) (.int (2 + r)) = some (.o (.lst (List.replicate (2 + r).toNat x))) := fun x => o_rep (by omega) (by omega)
  refine ev_seq (addm rfl (by decide) (by decide +kernel) ?_ fun y1 a1 b1 c1 => ?_)
  · have j3 : ∃ y, gJoin M1 " " (.lst (List.replicate (2 + r).toNat (.str "0") ++ [.str "-0"])) = some (.v (.str y)) ∧ POk y := by
      have e : List.replicate (2 + r).toNat (D.str "0") ++ [.str "-0"] = (List.replicate (2 + r).toNat ("0" : Str) ++ [("-0" : Str)]).map D.str := by rw [List.map_append, List.map_replicate] <;> rfl
      have j := join_ok (sep := " ") (ps := List.replicate (2 + r).toNat ("0" : Str) ++ [("-0" : Str)]) (B := 2) (by decide) (by decide +kernel) (fun p hp => by
        rcases List.mem_append.mp hp with hp | hp
        · rw [(List.mem_replicate.mp hp).2]; exact ⟨by decide, by decide +kernel⟩
        · rw [List.mem_singleton.mp hp]; exact ⟨by decide, by decide +kernel⟩) (by rw [List.length_append, List.length_replicate, List.length_singleton]; omega)
      exact ⟨_, by rw [e]; exact gJoin_strs j.2, j.1⟩
    obtain ⟨j3, q3, m3⟩ := j3
    have hcat : gAdd M1 (.lst (List.replicate (2 + r).toNat (.str "0"))) (.lst [.str "-0"]) = some (.o (.lst (List.replicate (2 + r).toNat (.str "0") ++ [.str "-0"]))) := o_addL (by
      rw [List.length_replicate, List.length_singleton]
      exact Nat.le_trans (by omega : (2 + r).toNat + 1 ≤ 1000) (by decide))
    (repeat (first | ((with_reducible show Ev _ _ _); (first | ((with_reducible apply ev_var); · exact rfl) | ((with_reducible apply ev_own); · exact rfl) | (with_reducible apply ev_c) | (with_reducible apply ev_dNil) | (with_reducible apply ev_uNil) | (with_reducible apply ev_wNil) | (with_reducible apply ev_nop) | (with_reducible apply ev_pNo) | (with_reducible apply ev_retN) | (with_reducible apply ev_seq) | (with_reducible apply ev_if) | (with_reducible apply ev_setv) | (with_reducible apply ev_ret) | (with_reducible apply ev_raise) | (with_reducible apply ev_expr) | (with_reducible apply ev_e2) | (with_reducible apply ev_asB) | (with_reducible apply ev_asT) | (with_reducible apply ev_not) | (with_reducible apply ev_and) | (with_reducible apply ev_or) | (with_reducible apply ev_eAnd) | (with_reducible apply ev_eOr) | (with_reducible apply ev_eNot) | (with_reducible apply ev_eIf) | (with_reducible apply ev_neg) | (with_reducible apply ev_lst) | (with_reducible apply ev_tup) | (with_reducible apply ev_dCons) | (with_reducible apply ev_uCons) | (with_reducible apply ev_blt) | (with_reducible apply ev_call) | (with_reducible apply ev_callK) | (with_reducible apply ev_new) | (with_reducible apply ev_wCons) | (with_reducible apply ev_par) | (with_reducible apply ev_asg) | (with_reducible apply ev_m1) | (with_reducible apply ev_m0) | (with_reducible apply ev_repl) | (with_reducible apply ev_pInt) | (with_reducible apply ev_slice) | (with_reducible apply ev_iSeq) | (with_reducible apply ev_iR1) | (with_reducible apply ev_iR2) | (with_reducible apply ev_mut) | (with_reducible apply ev_put) | (with_reducible apply ev_chain))) | ((with_reducible apply Exists.intro); (repeat (with_reducible apply Exists.intro)); (first | refine ⟨rfl, rfl, rfl, ?_⟩ | (refine ⟨rfl, rfl, ?_, ?_⟩; · (first | exact (show (1 : Nat) ≤ sizeLine by decide) | exact hrep _ | exact q1 | exact q2 | exact q3 | exact hcat)) | refine ⟨rfl, rfl, ?_⟩ | (refine ⟨?_, rfl, rfl, ?_⟩; · (first | exact (show (1 : Nat) ≤ sizeLine by decide) | exact hrep _ | exact q1 | exact q2 | exact q3 | exact hcat)) | (refine ⟨rfl, ?_, ?_⟩; · (first | exact (show (1 : Nat) ≤ sizeLine by decide) | exact hrep _ | exact q1 | exact q2 | exact q3 | exact hcat)) | refine ⟨rfl, ?_⟩ | (refine ⟨?_, ?_⟩; · (first | exact (show (1 : Nat) ≤ sizeLine by decide) | exact hrep _ | exact q1 | exact q2 | exact q3 | exact hcat)))) | ((with_reducible refine And.intro ?_ ?_); · (first | exact rfl | exact (show (1 : Nat) ≤ sizeLine by decide) | exact hrep _ | exact q1 | exact q2 | exact q3 | exact hcat))))
    refine ⟨⟨rfl, rfl⟩, show (3 : Nat) ≤ 20 by decide, ?_⟩
    simp only [List.all_cons, List.all_nil, Bool.and_true, Bool.and_eq_true]
    exact ⟨okS_iff.mpr ⟨_, rfl, Nat.le_trans m1.1 (by decide), m1.2⟩, okS_iff.mpr ⟨_, rfl, Nat.le_trans m2.1 (by decide), m2.2⟩, okS_iff.mpr ⟨_, rfl, m3⟩⟩
  have c1' : y1.length ≤ 51 := c1
  refine ev_seq (addm rfl (by omega) a1 ?_ fun y2 a2 b2 c2 => ?_)
  · have hc := add_lk (M := M1) (x := j4) (y := " ") (a := 3000) (b := 1) ⟨m4.1, m4.2⟩ (lk_c (by decide +kernel)) (by decide)
    (repeat (first | ((with_reducible show Ev _ _ _); (first | ((with_reducible apply ev_var); · exact rfl) | ((with_reducible apply ev_own); · exact rfl) | (with_reducible apply ev_c) | (with_reducible apply ev_dNil) | (with_reducible apply ev_uNil) | (with_reducible apply ev_wNil) | (with_reducible apply ev_nop) | (with_reducible apply ev_pNo) | (with_reducible apply ev_retN) | (with_reducible apply ev_seq) | (with_reducible apply ev_if) | (with_reducible apply ev_setv) | (with_reducible apply ev_ret) | (with_reducible apply ev_raise) | (with_reducible apply ev_expr) | (with_reducible apply ev_e2) | (with_reducible apply ev_asB) | (with_reducible apply ev_asT) | (with_reducible apply ev_not) | (with_reducible apply ev_and) | (with_reducible apply ev_or) | (with_reducible apply ev_eAnd) | (with_reducible apply ev_eOr) | (with_reducible apply ev_eNot) | (with_reducible apply ev_eIf) | (with_reducible apply ev_neg) | (with_reducible apply ev_lst) | (with_reducible apply ev_tup) | (with_reducible apply ev_dCons) | (with_reducible apply ev_uCons) | (with_reducible apply ev_blt) | (with_reducible apply ev_call) | (with_reducible apply ev_callK) | (with_reducible apply ev_new) | (with_reducible apply ev_wCons) | (with_reducible apply ev_par) | (with_reducible apply ev_asg) | (with_reducible apply ev_m1) | (with_reducible apply ev_m0) | (with_reducible apply ev_repl) | (with_reducible apply ev_pInt) | (with_reducible apply ev_slice) | (with_reducible apply ev_iSeq) | (with_reducible apply ev_iR1) | (with_reducible apply ev_iR2) | (with_reducible apply ev_mut) | (with_reducible apply ev_put) | (with_reducible apply ev_chain))) | ((with_reducible apply Exists.intro); (repeat (with_reducible apply Exists.intro)); (first | refine ⟨rfl, rfl, rfl, ?_⟩ | (refine ⟨rfl, rfl, ?_, ?_⟩; · (first | exact (show (1 : Nat) ≤ sizeLine by decide) | exact hrep _ | exact q4 | exact hc)) | refine ⟨rfl, rfl, ?_⟩ | (refine ⟨?_, rfl, rfl, ?_⟩; · (first | exact (show (1 : Nat) ≤ sizeLine by decide) | exact hrep _ | exact q4 | exact hc)) | (refine ⟨rfl, ?_, ?_⟩; · (first | exact (show (1 : Nat) ≤ sizeLine by decide) | exact hrep _ | exact q4 | exact hc)) | refine ⟨rfl, ?_⟩ | (refine ⟨?_, ?_⟩; · (first | exact (show (1 : Nat) ≤ sizeLine by decide) | exact hrep _ | exact q4 | exact hc)))) | ((with_reducible refine And.intro ?_ ?_); · (first | exact rfl | exact (show (1 : Nat) ≤ sizeLine by decide) | exact hrep _ | exact q4 | exact hc))))
    refine ⟨⟨rfl, rfl⟩, show (1 : Nat) ≤ 20 by decide, ?_⟩
    rw [List.all_cons, List.all_nil, Bool.and_true]
    exact lk_okS (lk_app (a := 3000) (b := 1) ⟨m4.1, m4.2⟩ (lk_c (by decide +kernel))) (by decide)
  refine ev_seq (addm rfl (by omega) a2 ?_ fun y3 a3 b3 c3 => ?_)
  · have h5 : Lk 2 (" 5" : Str) := lk_c (by decide +kernel)
    have h6 : Lk 2 (" -" : Str) := lk_c (by decide +kernel)
    have h7 : Lk 1 ("0" : Str) := lk_c (by decide +kernel)
    have s5 := addS_lk (M := M1) hz h5 (by decide)
    have s6 := add_lk (M := M1) hz h6 (by decide)
    have s7 := add_lk (M := M1) h7 hz (by decide)
    have e2 : ("  " : Str).length = 2 := by decide
    refine ev_dCons (ev_e2 (ev_var rfl (ev_c ⟨_, _, _, rfl, rfl, s5, _, _, rfl, ?_⟩)))
    refine ev_dCons (ev_e2 (ev_var rfl (ev_c ⟨_, _, _, rfl, rfl, s6, _, _, rfl, ?_⟩)))
    refine ev_dCons (ev_e2 (ev_c (ev_var rfl ⟨_, _, _, rfl, rfl, s7, _, _, rfl, ?_⟩)))
    refine ev_dCons (ev_repl (ev_var rfl ⟨_, rfl, by rw [e2]; have := hz.1; omega, _, _, rfl, ev_dNil ⟨⟨rfl, rfl⟩, show (4 : Nat) ≤ 20 by decide, ?_⟩⟩))
    simp only [List.all_cons, List.all_nil, Bool.and_true, Bool.and_eq_true]
    exact ⟨lk_okS (lk_app hz h5) (by decide), lk_okS (lk_app hz h6) (by decide), lk_okS (lk_app h7 hz) (by decide), lk_okS (rep_lk hz) (by decide)⟩
  refine ev_seq (addm rfl (by omega) a3 ?_ fun y4 a4 b4 c4 => ?_)
  · have h5 : Lk 1 ("," : Str) := lk_c (by decide +kernel)
    have h6 : Lk 8 (" 1000000" : Str) := lk_c (by decide +kernel)
    have s5 := add_lk (M := M1) hz h5 (by decide)
    have s6 := add_lk (M := M1) hz h6 (by decide)
    (repeat (first | ((with_reducible show Ev _ _ _); (first | ((with_reducible apply ev_var); · exact rfl) | ((with_reducible apply ev_own); · exact rfl) | (with_reducible apply ev_c) | (with_reducible apply ev_dNil) | (with_reducible apply ev_uNil) | (with_reducible apply ev_wNil) | (with_reducible apply ev_nop) | (with_reducible apply ev_pNo) | (with_reducible apply ev_retN) | (with_reducible apply ev_seq) | (with_reducible apply ev_if) | (with_reducible apply ev_setv) | (with_reducible apply ev_ret) | (with_reducible apply ev_raise) | (with_reducible apply ev_expr) | (with_reducible apply ev_e2) | (with_reducible apply ev_asB) | (with_reducible apply ev_asT) | (with_reducible apply ev_not) | (with_reducible apply ev_and) | (with_reducible apply ev_or) | (with_reducible apply ev_eAnd) | (with_reducible apply ev_eOr) | (with_reducible apply ev_eNot) | (with_reducible apply ev_eIf) | (with_reducible apply ev_neg) | (with_reducible apply ev_lst) | (with_reducible apply ev_tup) | (with_reducible apply ev_dCons) | (with_reducible apply ev_uCons) | (with_reducible apply ev_blt) | (with_reducible apply ev_call) | (with_reducible apply ev_callK) | (with_reducible apply ev_new) | (with_reducible apply ev_wCons) | (with_reducible apply ev_par) | (with_reducible apply ev_asg) | (with_reducible apply ev_m1) | (with_reducible apply ev_m0) | (with_reducible apply ev_repl) | (with_reducible apply ev_pInt) | (with_reducible apply ev_slice) | (with_reducible apply ev_iSeq) | (with_reducible apply ev_iR1) | (with_reducible apply ev_iR2) | (with_reducible apply ev_mut) | (with_reducible apply ev_put) | (with_reducible apply ev_chain))) | ((with_reducible apply Exists.intro); (repeat (with_reducible apply Exists.intro)); (first | refine ⟨rfl, rfl, rfl, ?_⟩ | (refine ⟨rfl, rfl, ?_, ?_⟩; · (first | exact s5 | exact s6)) | refine ⟨rfl, rfl, ?_⟩ | (refine ⟨?_, rfl, rfl, ?_⟩; · (first | exact s5 | exact s6)) | (refine ⟨rfl, ?_, ?_⟩; · (first | exact s5 | exact s6)) | refine ⟨rfl, ?_⟩ | (refine ⟨?_, ?_⟩; · (first | exact s5 | exact s6)))) | ((with_reducible refine And.intro ?_ ?_); · (first | exact rfl | exact s5 | exact s6))))
    refine ⟨⟨rfl, rfl⟩, show (2 : Nat) ≤ 20 by decide, ?_⟩
    simp only [List.all_cons, List.all_nil, Bool.and_true, Bool.and_eq_true]
    exact ⟨lk_okS (lk_app hz h5) (by decide), lk_okS (lk_app hz h6) (by decide)⟩
  have hlen : 0 < y4.length := by
    have b1' : 31 ≤ y1.length := b1
    omega
  have hle : gLen M1 [.lst y4] = some (.v (.int (y4.length : Int))) := rfl
  refine ev_ret (ev_e2 (ev_own rfl (ev_call (ev_dCons (ev_var rfl ⟨_, _, rfl, ev_dCons (ev_blt (ev_uCons (ev_own rfl (ev_uNil ⟨_, _, rfl, hle, _, _, rfl, ev_dNil ⟨rfl, ?_⟩⟩))))⟩)))))
  refine (coin p1 (by omega) (by omega) (by omega)).imp fun w M2 ⟨u, ew, u0, u1, p2⟩ => ?_
  subst ew
  obtain ⟨y, hy, py⟩ := ix_all (M := M2) a4 u0 u1
  exact ⟨_, _, _, rfl, rfl, hy, _, _, rfl, by have e : k + 1 + 1 = k + 2 := by omega
                                              rw [e] at p2; exact p2, y, rfl, py⟩
end K55
namespace K55
open PySem PySem.Spec L2 Ow
theorem ix_two {M : Mem} {a b : Str} {r : Int} (h0 : 0 ≤ r) (h1 : r < 2) : ∃ y, gIx M (.lst [.str a, .str b]) (.int r) = some (.v (.str y)) ∧ (y = a ∨ y = b) := by
  rcases (by omega : r = 0 ∨ r = 1) with rfl | rfl
  · exact ⟨a, rfl, Or.inl rfl⟩
  · exact ⟨b, rfl, Or.inr rfl⟩
theorem ix_sign {M : Mem} {y : Str} {r : Int} (h0 : 0 ≤ r) (h1 : r < (y.length : Int)) (hl : y.length ≤ 1000) (hk : PyData.strOk y = true) : ∃ s, gIx M (.str y) (.int r) = some (.v (.str s)) ∧ Lk 1 s := by
  obtain ⟨j, rfl⟩ : ∃ j : Nat, r = j := ⟨r.toNat, by omega⟩
  have hj : j < (TL.tl y).length := by rw [← TL.len_tl]; omega
  refine ⟨⟨#[(TL.tl y)[j]]⟩, ?_, by show 1 ≤ 1; decide, strOk_iff.mpr fun c hc => ?_⟩
  · show (if y.length ≤ sizeLine then (atI (TL.tl y) j).map fun c => W.v (.str ⟨#[c]⟩) else none) = _
    have gen : ∀ (l : List Nat) (h : j < l.length), atI l (j : Int) = some l[j] := fun l h => by
      unfold atI ixN
      simp [h]
    have : atI (TL.tl y) (j : Int) = some (TL.tl y)[j] := gen _ hj
    rw [if_pos (Nat.le_trans hl (by decide)), this] <;> rfl
  · have : c ∈ [(TL.tl y)[j]] := hc
    rw [List.mem_singleton] at this
    subst this
    exact strOk_iff.mp hk _ (List.getElem_mem hj)
theorem lk_cut {B : Nat} {z : Str} (h : Lk B z) (a b : Option Int) : Lk B (cutS z a b) := by
  refine ⟨Nat.le_trans (cutS_length z a b) h.1, strOk_iff.mpr fun c hc => strOk_iff.mp h.2 c ?_⟩
  have : c ∈ ((z.cps.toList.drop (HT.sIx z.length 0 a)).take (HT.sIx z.length z.length b - HT.sIx z.length 0 a)) := hc
  exact List.mem_of_mem_drop (List.mem_of_mem_take this)
theorem slice_lk {M : Mem} {B : Nat} {z : Str} (h : Lk B z) (hb : B ≤ 100000) (a b : Option Int) : gSlice (deref M (.str z)) a b = some (.v (.str (cutS z a b))) := by
  show (if z.length ≤ sizeLine then some (W.v (.str (cutS z a b))) else none) = _
  rw [if_pos (Nat.le_trans h.1 (Nat.le_trans hb (by decide)))]
def okB (B : Nat) (d : D) : Bool := match d with
  | .str s => decide (s.length ≤ B) && PyData.strOk s
  | _ => false
theorem okB_iff {B : Nat} {d : D} : okB B d = true ↔ ∃ y, d = .str y ∧ Lk B y := by
  cases d with
  | str s =>
    show (decide (s.length ≤ B) && PyData.strOk s) = true ↔ _
    rw [Bool.and_eq_true, decide_eq_true_eq]
    exact ⟨fun h => ⟨s, rfl, h⟩, fun ⟨y, e, h⟩ => by cases e; exact h⟩
  | _ => exact ⟨fun h => (by cases h), fun ⟨y, e, _⟩ => (by cases e)⟩
theorem strs_of {B : Nat} : ∀ {xs : List D}, xs.all (okB B) = true → ∃ ps : List Str, xs = ps.map D.str ∧ ∀ p ∈ ps, Lk B p
  | [], _ => ⟨[], rfl, fun p hp => by cases hp⟩
  | x :: xs, h => by
    rw [List.all_cons, Bool.and_eq_true] at h
    obtain ⟨y, rfl, hy⟩ := okB_iff.mp h.1
    obtain ⟨ps, rfl, hp⟩ := strs_of h.2
    exact ⟨y :: ps, rfl, fun p hq => by
      rcases List.mem_cons.mp hq with e | e
      · subst e; exact hy
      · exact hp p e⟩
theorem ix_B {M : Mem} {B : Nat} {xs : List D} {r : Int} (hx : xs.all (okB B) = true) (h0 : 0 ≤ r) (h1 : r < xs.length) : ∃ y, gIx M (.lst xs) (.int r) = some (.v (.str y)) ∧ Lk B y ∧ ∃ j : Nat, ixN xs.length r = some j := by
  obtain ⟨j, rfl⟩ : ∃ j : Nat, r = j := ⟨r.toNat, by omega⟩
  have hj : j < xs.length := by omega
  obtain ⟨y, e, h⟩ := okB_iff.mp (List.all_eq_true.mp hx xs[j] (List.getElem_mem hj))
  refine ⟨y, ?_, h, j, ?_⟩
  · have : atI xs (j : Int) = some (.str y) := by
      unfold atI ixN
      simp [hj, e]
    show (atI xs j).map W.v = _
    rw [this] <;> rfl
  · unfold ixN
    simp [hj]
theorem set_all {B : Nat} {xs : List D} {j : Nat} {y : Str} (hx : xs.all (okB B) = true) (hy : Lk B y) : (xs.set j (.str y)).all (okB B) = true := by
  rw [List.all_eq_true] at hx ⊢
  intro x hm
  rcases List.mem_or_eq_of_mem_set hm with h | h
  · exact hx x h
  · subst h; exact okB_iff.mpr ⟨y, rfl, hy⟩
theorem split_B {M : Mem} {z s : Str} (hz : Lk 100 z) (hs : (s.length == 0) = false) : gSplit M z (.str s) = some (.o (.lst ((Txt.split z s).map D.str))) ∧ ((Txt.split z s).map D.str).all (okB 100) = true ∧ ((Txt.split z s).map D.str).length ≤ 102 ∧ 0 < ((Txt.split z s).map D.str).length := by
  refine ⟨?_, ?_, ?_, ?_⟩
  · show (if (s.length == 0) = false ∧ z.length + 2 ≤ sizeLine then _ else none) = _
    rw [if_pos ⟨hs, Nat.le_trans (Nat.add_le_add_right hz.1 2) (by decide)⟩]
  · rw [List.all_map, List.all_eq_true]
    intro p hp
    refine okB_iff.mpr ⟨p, rfl, ?_⟩
    have e := PySem.StrLaws.join_split z s
    have := joinL_mem (S := TL.tl s) (List.mem_map_of_mem (f := TL.tl) hp)
    rw [← TL.tl_join, e] at this
    refine ⟨?_, strOk_iff.mpr fun c hc => strOk_iff.mp hz.2 c (this.2 c hc)⟩
    rw [TL.len_tl]
    exact Nat.le_trans this.1 (by rw [← TL.len_tl]; exact hz.1)
  · rw [List.length_map]
    have := PyProof.Rows.split_le z s
    have := hz.1
    omega
  · rw [List.length_map]
    have hne : Txt.split z s ≠ [] := by
      unfold Txt.split
      split
      · exact List.cons_ne_nil _ _
      · split
        · exact List.cons_ne_nil _ _
        · intro h
          have := congrArg List.length h
          rw [length_partsBetween] at this
          simp at this
    cases h : Txt.split z s with
    | nil => exact absurd h hne
    | cons a b => exact Nat.succ_pos _
end K55
namespace K55
open PySem PySem.Spec L2 Ow
theorem lenB {M : Mem} {B : Nat} {z : Str} (h : Lk B z) (hb : B ≤ 100000) : gLen M [.str z] = some (.v (.int (z.length : Int))) := len_ev (Nat.le_trans h.1 (Nat.le_trans hb (by decide)))
theorem swap {M : Mem} {a0 s1 s2 s3 s4 s5 s6 : Sl} {bt : Str} {xs : List D} {l r : Int} {PS : Fl → En → Mem → Prop} {X : Nat → D → En → Mem → Prop} (hb : bt.length ≤ 1 ∧ PyData.strOk bt = true) (hx : xs.all (okB 100) = true) (hn : xs.length ≤ 102) (l0 : 0 ≤ l) (l1 : l < xs.length) (r0 : 0 ≤ r) (r1 : r < xs.length)
    (k : ∀ e y, POk y → PS (.rt (.v (.str y))) e M) : Ev (sSeq (sSet 11 (e2 gIx (eVar 8) (eVar 9))) (sSeq (sPut (eVar 8) (eVar 9) (e2 gIx (eVar 8) (eVar 10))) (sSeq (sPut (eVar 8) (eVar 10) (eVar 11)) (sRet (eM1 gJoin (eVar 7) (eVar 8)))))
      [a0, s1, s2, s3, s4, s5, s6, .val (.str bt), .own (.lst xs), .val (.int l), .val (.int r), .un] M) PS X := by
  obtain ⟨yl, hyl, lyl, j1, hj1⟩ := ix_B (M := M) hx l0 l1
  obtain ⟨yr, hyr, lyr, j2, hj2⟩ := ix_B (M := M) hx r0 r1
  have hj3 : ixN (xs.set j1 (.str yr)).length r = some j2 := by rw [List.length_set]; exact hj2
  obtain ⟨ps, hps, hpl⟩ := strs_of (set_all (j := j2) (set_all (j := j1) hx lyr) lyl)
  have hlen : ps.length ≤ 102 := by
    have := congrArg List.length hps
    rw [List.length_set, List.length_set, List.length_map] at this
    omega
  have jo := join_ok (sep := bt) (ps := ps) (B := 100) hb.1 hb.2 hpl (by omega)
  have hjn : gJoin M bt (.lst ((xs.set j1 (.str yr)).set j2 (.str yl))) = some (.v (.str (Txt.join bt ps))) := by
    rw [hps]; exact gJoin_strs jo.2
  refine ev_seq (ev_setv (ev_e2 (ev_own rfl (ev_var rfl ⟨_, _, _, rfl, rfl, hyl, _, rfl, ?_⟩))))
  refine ev_seq (ev_put (ev_e2 (ev_own rfl (ev_var rfl ⟨_, _, _, rfl, rfl, hyr, _, _, rfl, ev_own rfl (ev_var rfl ⟨.own 8 xs, l, j1, rfl, rfl, hj1, ?_⟩)⟩))))
  refine ev_seq (ev_put (ev_var rfl ⟨_, _, rfl, ev_own rfl (ev_var rfl ⟨.own 8 (xs.set j1 (.str yr)), r, j2, rfl, rfl, hj3, ?_⟩)⟩))
  exact ev_ret (ev_m1 (ev_var rfl ⟨bt, rfl, ev_own rfl ⟨_, _, rfl, hjn, _, _, rfl, k _ _ jo.1⟩⟩))
theorem marred {M : Mem} {n : Nat} {k : Int} {z : Str} (h : Pu M n k) (hk : k ≤ 2 ^ 58) (hz : Lk 100 z) : EvF (f_law_marred [.ref n, .str z] M) (fun w M' => Pu M' n (k + 6) ∧ ∃ y, w = .v (.str y) ∧ POk y) F0 := by
  have up : ∀ {M : Mem} {a b : Int}, Pu M n a → a ≤ b → Pu M n b := fun ⟨x, y, c, e, h1, h2, h3, h4, h5⟩ hab => ⟨x, y, c, e, h1, h2, h3, h4, by omega⟩
  refine evf ?_
  unfold g_law_marred
  have hzl := hz.1
  (repeat (first | ((with_reducible show Ev _ _ _); (first | ((with_reducible apply ev_var); · exact rfl) | ((with_reducible apply ev_own); · exact rfl) | (with_reducible apply ev_c) | (with_reducible apply ev_dNil) | (with_reducible apply ev_uNil) | (with_reducible apply ev_wNil) | (with_reducible apply ev_nop) | (with_reducible apply ev_pNo) | (with_reducible apply ev_retN) | (with_reducible apply ev_seq) | (with_reducible apply ev_if) | (with_reducible apply ev_setv) | (with_reducible apply ev_ret) | (with_reducible apply ev_raise) | (with_reducible apply ev_expr) | (with_reducible apply ev_e2) | (with_reducible apply ev_asB) | (with_reducible apply ev_asT) | (with_reducible apply ev_not) | (with_reducible apply ev_and) | (with_reducible apply ev_or) | (with_reducible apply ev_eAnd) | (with_reducible apply ev_eOr) | (with_reducible apply ev_eNot) | (with_reducible apply ev_eIf) | (with_reducible apply ev_neg) | (with_reducible apply ev_lst) | (with_reducible apply ev_tup) | (with_reducible apply ev_dCons) | (with_reducible apply ev_uCons) | (with_reducible apply ev_blt) | (with_reducible apply ev_call) | (with_reducible apply ev_callK) | (with_reducible apply ev_new) | (with_reducible apply ev_wCons) | (with_reducible apply ev_par) | (with_reducible apply ev_asg) | (with_reducible apply ev_m1) | (with_reducible apply ev_m0) | (with_reducible apply ev_repl) | (with_reducible apply ev_pInt) | (with_reducible apply ev_slice) | (with_reducible apply ev_iSeq) | (with_reducible apply ev_iR1) | (with_reducible apply ev_iR2) | (with_reducible apply ev_mut) | (with_reducible apply ev_put) | (with_reducible apply ev_chain))) | ((with_reducible apply Exists.intro); (repeat (with_reducible apply Exists.intro)); (first | refine ⟨rfl, rfl, rfl, ?_⟩ | (refine ⟨rfl, rfl, ?_, ?_⟩; · (first | exact lenB hz (by decide))) | refine ⟨rfl, rfl, ?_⟩ | (refine ⟨?_, rfl, rfl, ?_⟩; · (first | exact lenB hz (by decide))) | (refine ⟨rfl, ?_, ?_⟩; · (first | exact lenB hz (by decide))) | refine ⟨rfl, ?_⟩ | (refine ⟨?_, ?_⟩; · (first | exact lenB hz (by decide))))) | ((with_reducible refine And.intro ?_ ?_); · (first | exact rfl | exact lenB hz (by decide)))))
  refine (coin h (by omega) (by omega) (by omega)).imp fun w M1 ⟨u, ew, u0, u1, p1⟩ => ?_
  subst ew
  (repeat (first | ((with_reducible show Ev _ _ _); (first | ((with_reducible apply ev_var); · exact rfl) | ((with_reducible apply ev_own); · exact rfl) | (with_reducible apply ev_c) | (with_reducible apply ev_dNil) | (with_reducible apply ev_uNil) | (with_reducible apply ev_wNil) | (with_reducible apply ev_nop) | (with_reducible apply ev_pNo) | (with_reducible apply ev_retN) | (with_reducible apply ev_seq) | (with_reducible apply ev_if) | (with_reducible apply ev_setv) | (with_reducible apply ev_ret) | (with_reducible apply ev_raise) | (with_reducible apply ev_expr) | (with_reducible apply ev_e2) | (with_reducible apply ev_asB) | (with_reducible apply ev_asT) | (with_reducible apply ev_not) | (with_reducible apply ev_and) | (with_reducible apply ev_or) | (with_reducible apply ev_eAnd) | (with_reducible apply ev_eOr) | (with_reducible apply ev_eNot) | (with_reducible apply ev_eIf) | (with_reducible apply ev_neg) | (with_reducible apply ev_lst) | (with_reducible apply ev_tup) | (with_reducible apply ev_dCons) | (with_reducible apply ev_uCons) | (with_reducible apply ev_blt) | (with_reducible apply ev_call) | (with_reducible apply ev_callK) | (with_reducible apply ev_new) | (with_reducible apply ev_wCons) | (with_reducible apply ev_par) | (with_reducible apply ev_asg) | (with_reducible apply ev_m1) | (with_reducible apply ev_m0) | (with_reducible apply ev_repl) | (with_reducible apply ev_pInt) | (with_reducible apply ev_slice) | (with_reducible apply ev_iSeq) | (with_reducible apply ev_iR1) | (with_reducible apply ev_iR2) | (with_reducible apply ev_mut) | (with_reducible apply ev_put) | (with_reducible apply ev_chain))) | ((with_reducible apply Exists.intro); (repeat (with_reducible apply Exists.intro)); (first | refine ⟨rfl, rfl, rfl, ?_⟩ | refine ⟨rfl, rfl, ?_⟩ | refine ⟨rfl, ?_⟩)) | ((with_reducible refine And.intro ?_ ?_); · (first | exact rfl))))
  refine (coin p1 (by omega) (by decide) (by decide)).imp fun w M2 ⟨v, ew, v0, v1, p2⟩ => ?_
  subst ew
  (repeat (first | ((with_reducible show Ev _ _ _); (first | ((with_reducible apply ev_var); · exact rfl) | ((with_reducible apply ev_own); · exact rfl) | (with_reducible apply ev_c) | (with_reducible apply ev_dNil) | (with_reducible apply ev_uNil) | (with_reducible apply ev_wNil) | (with_reducible apply ev_nop) | (with_reducible apply ev_pNo) | (with_reducible apply ev_retN) | (with_reducible apply ev_seq) | (with_reducible apply ev_if) | (with_reducible apply ev_setv) | (with_reducible apply ev_ret) | (with_reducible apply ev_raise) | (with_reducible apply ev_expr) | (with_reducible apply ev_e2) | (with_reducible apply ev_asB) | (with_reducible apply ev_asT) | (with_reducible apply ev_not) | (with_reducible apply ev_and) | (with_reducible apply ev_or) | (with_reducible apply ev_eAnd) | (with_reducible apply ev_eOr) | (with_reducible apply ev_eNot) | (with_reducible apply ev_eIf) | (with_reducible apply ev_neg) | (with_reducible apply ev_lst) | (with_reducible apply ev_tup) | (with_reducible apply ev_dCons) | (with_reducible apply ev_uCons) | (with_reducible apply ev_blt) | (with_reducible apply ev_call) | (with_reducible apply ev_callK) | (with_reducible apply ev_new) | (with_reducible apply ev_wCons) | (with_reducible apply ev_par) | (with_reducible apply ev_asg) | (with_reducible apply ev_m1) | (with_reducible apply ev_m0) | (with_reducible apply ev_repl) | (with_reducible apply ev_pInt) | (with_reducible apply ev_slice) | (with_reducible apply ev_iSeq) | (with_reducible apply ev_iR1) | (with_reducible apply ev_iR2) | (with_reducible apply ev_mut) | (with_reducible apply ev_put) | (with_reducible apply ev_chain))) | ((with_reducible apply Exists.intro); (repeat (with_reducible apply Exists.intro)); (first | refine ⟨rfl, rfl, rfl, ?_⟩ | (refine ⟨rfl, rfl, ?_, ?_⟩; · (first | exact (show (2 : Nat) ≤ sizeLine by decide))) | refine ⟨rfl, rfl, ?_⟩ | (refine ⟨?_, rfl, rfl, ?_⟩; · (first | exact (show (2 : Nat) ≤ sizeLine by decide))) | (refine ⟨rfl, ?_, ?_⟩; · (first | exact (show (2 : Nat) ≤ sizeLine by decide))) | refine ⟨rfl, ?_⟩ | (refine ⟨?_, ?_⟩; · (first | exact (show (2 : Nat) ≤ sizeLine by decide))))) | ((with_reducible refine And.intro ?_ ?_); · (first | exact rfl | exact (show (2 : Nat) ≤ sizeLine by decide)))))
  refine (coin p2 (by omega) (by decide) (by decide)).imp fun w M3 ⟨t, ew, t0, t1, p3⟩ => ?_
  subst ew
  obtain ⟨y, hy, hyy⟩ := ix_two (M := M3) (a := "0123456789 -") (b := "ABCDEFGHIJKLMNOPQRSTUVWXYZ0123456789abcdefghijklmnopqrstuvwxyz !#$&'()*+,-./:;<=>?\x40[]^_`{|}~\"\\") t0 t1
  have yl : (decide (0 < y.length) && (decide (y.length ≤ 100) && PyData.strOk y)) = true := by
    rcases hyy with rfl | rfl <;> decide +kernel
  rw [Bool.and_eq_true, decide_eq_true_eq] at yl
  have ylk : Lk 100 y := lk_c yl.2
  have yl2 := ylk.1
  (repeat (first | ((with_reducible show Ev _ _ _); (first | ((with_reducible apply ev_var); · exact rfl) | ((with_reducible apply ev_own); · exact rfl) | (with_reducible apply ev_c) | (with_reducible apply ev_dNil) | (with_reducible apply ev_uNil) | (with_reducible apply ev_wNil) | (with_reducible apply ev_nop) | (with_reducible apply ev_pNo) | (with_reducible apply ev_retN) | (with_reducible apply ev_seq) | (with_reducible apply ev_if) | (with_reducible apply ev_setv) | (with_reducible apply ev_ret) | (with_reducible apply ev_raise) | (with_reducible apply ev_expr) | (with_reducible apply ev_e2) | (with_reducible apply ev_asB) | (with_reducible apply ev_asT) | (with_reducible apply ev_not) | (with_reducible apply ev_and) | (with_reducible apply ev_or) | (with_reducible apply ev_eAnd) | (with_reducible apply ev_eOr) | (with_reducible apply ev_eNot) | (with_reducible apply ev_eIf) | (with_reducible apply ev_neg) | (with_reducible apply ev_lst) | (with_reducible apply ev_tup) | (with_reducible apply ev_dCons) | (with_reducible apply ev_uCons) | (with_reducible apply ev_blt) | (with_reducible apply ev_call) | (with_reducible apply ev_callK) | (with_reducible apply ev_new) | (with_reducible apply ev_wCons) | (with_reducible apply ev_par) | (with_reducible apply ev_asg) | (with_reducible apply ev_m1) | (with_reducible apply ev_m0) | (with_reducible apply ev_repl) | (with_reducible apply ev_pInt) | (with_reducible apply ev_slice) | (with_reducible apply ev_iSeq) | (with_reducible apply ev_iR1) | (with_reducible apply ev_iR2) | (with_reducible apply ev_mut) | (with_reducible apply ev_put) | (with_reducible apply ev_chain))) | ((with_reducible apply Exists.intro); (repeat (with_reducible apply Exists.intro)); (first | refine ⟨rfl, rfl, rfl, ?_⟩ | (refine ⟨rfl, rfl, ?_, ?_⟩; · (first | exact hy | exact lenB ylk (by decide))) | refine ⟨rfl, rfl, ?_⟩ | (refine ⟨?_, rfl, rfl, ?_⟩; · (first | exact hy | exact lenB ylk (by decide))) | (refine ⟨rfl, ?_, ?_⟩; · (first | exact hy | exact lenB ylk (by decide))) | refine ⟨rfl, ?_⟩ | (refine ⟨?_, ?_⟩; · (first | exact hy | exact lenB ylk (by decide))))) | ((with_reducible refine And.intro ?_ ?_); · (first | exact rfl | exact hy | exact lenB ylk (by decide)))))
  refine (coin p3 (by omega) (by omega) (by omega)).imp fun w M4 ⟨s, ew, s0, s1, p4⟩ => ?_
  subst ew
  obtain ⟨g, hg, lg⟩ := ix_sign (M := M4) s0 s1 (by omega) ylk.2
  have sl := fun a b => slice_lk (M := M4) hz (by decide) a b
  have p6 : Pu M4 n (k + 6) := up p4 (by omega)
  have cc := fun a b => lk_cut hz a b
  have fin : ∀ {B : Nat} {q : Str}, Lk B q → B ≤ 20000 → ∃ y, W.v (.str q) = .v (.str y) ∧ POk y := fun {B q} h hb => ⟨q, rfl, Nat.le_trans h.1 hb, h.2⟩
  have ad1 : ∀ a b c d, gAdd M4 (.str (cutS z a b)) (.str (cutS z c d)) = some (.v (.str (cutS z a b ++ cutS z c d))) := fun a b c d => add_lk (cc a b) (cc c d) (by decide)
  have ad2 : ∀ a b, gAdd M4 (.str (cutS z a b)) (.str g) = some (.v (.str (cutS z a b ++ g))) := fun a b => add_lk (cc a b) lg (by decide)
  have ad3 : ∀ a b c d, gAdd M4 (.str (cutS z a b ++ g)) (.str (cutS z c d)) = some (.v (.str (cutS z a b ++ g ++ cutS z c d))) := fun a b c d => add_lk (lk_app (cc a b) lg) (cc c d) (by decide)
  (repeat (first | ((with_reducible show Ev _ _ _); (first | ((with_reducible apply ev_var); · exact rfl) | ((with_reducible apply ev_own); · exact rfl) | (with_reducible apply ev_c) | (with_reducible apply ev_dNil) | (with_reducible apply ev_uNil) | (with_reducible apply ev_wNil) | (with_reducible apply ev_nop) | (with_reducible apply ev_pNo) | (with_reducible apply ev_retN) | (with_reducible apply ev_seq) | (with_reducible apply ev_if) | (with_reducible apply ev_setv) | (with_reducible apply ev_ret) | (with_reducible apply ev_raise) | (with_reducible apply ev_expr) | (with_reducible apply ev_e2) | (with_reducible apply ev_asB) | (with_reducible apply ev_asT) | (with_reducible apply ev_not) | (with_reducible apply ev_and) | (with_reducible apply ev_or) | (with_reducible apply ev_eAnd) | (with_reducible apply ev_eOr) | (with_reducible apply ev_eNot) | (with_reducible apply ev_eIf) | (with_reducible apply ev_neg) | (with_reducible apply ev_lst) | (with_reducible apply ev_tup) | (with_reducible apply ev_dCons) | (with_reducible apply ev_uCons) | (with_reducible apply ev_blt) | (with_reducible apply ev_call) | (with_reducible apply ev_callK) | (with_reducible apply ev_new) | (with_reducible apply ev_wCons) | (with_reducible apply ev_par) | (with_reducible apply ev_asg) | (with_reducible apply ev_m1) | (with_reducible apply ev_m0) | (with_reducible apply ev_repl) | (with_reducible apply ev_pInt) | (with_reducible apply ev_slice) | (with_reducible apply ev_iSeq) | (with_reducible apply ev_iR1) | (with_reducible apply ev_iR2) | (with_reducible apply ev_mut) | (with_reducible apply ev_put) | (with_reducible apply ev_chain))) | ((with_reducible apply Exists.intro); (repeat (with_reducible apply Exists.intro)); (first | refine ⟨rfl, rfl, rfl, ?_⟩ | (refine ⟨rfl, rfl, ?_, ?_⟩; · (first | exact hg)) | refine ⟨rfl, rfl, ?_⟩ | (refine ⟨?_, rfl, rfl, ?_⟩; · (first | exact hg)) | (refine ⟨rfl, ?_, ?_⟩; · (first | exact hg)) | refine ⟨rfl, ?_⟩ | (refine ⟨?_, ?_⟩; · (first | exact hg)))) | ((with_reducible refine And.intro ?_ ?_); · (first | exact rfl | exact hg))))
  refine ⟨fun w0 => ?_, fun w0 => ?_⟩
  · (repeat (first | ((with_reducible show Ev _ _ _); (first | ((with_reducible apply ev_var); · exact rfl) | ((with_reducible apply ev_own); · exact rfl) | (with_reducible apply ev_c) | (with_reducible apply ev_dNil) | (with_reducible apply ev_uNil) | (with_reducible apply ev_wNil) | (with_reducible apply ev_nop) | (with_reducible apply ev_pNo) | (with_reducible apply ev_retN) | (with_reducible apply ev_seq) | (with_reducible apply ev_if) | (with_reducible apply ev_setv) | (with_reducible apply ev_ret) | (with_reducible apply ev_raise) | (with_reducible apply ev_expr) | (with_reducible apply ev_e2) | (with_reducible apply ev_asB) | (with_reducible apply ev_asT) | (with_reducible apply ev_not) | (with_reducible apply ev_and) | (with_reducible apply ev_or) | (with_reducible apply ev_eAnd) | (with_reducible apply ev_eOr) | (with_reducible apply ev_eNot) | (with_reducible apply ev_eIf) | (with_reducible apply ev_neg) | (with_reducible apply ev_lst) | (with_reducible apply ev_tup) | (with_reducible apply ev_dCons) | (with_reducible apply ev_uCons) | (with_reducible apply ev_blt) | (with_reducible apply ev_call) | (with_reducible apply ev_callK) | (with_reducible apply ev_new) | (with_reducible apply ev_wCons) | (with_reducible apply ev_par) | (with_reducible apply ev_asg) | (with_reducible apply ev_m1) | (with_reducible apply ev_m0) | (with_reducible apply ev_repl) | (with_reducible apply ev_pInt) | (with_reducible apply ev_slice) | (with_reducible apply ev_iSeq) | (with_reducible apply ev_iR1) | (with_reducible apply ev_iR2) | (with_reducible apply ev_mut) | (with_reducible apply ev_put) | (with_reducible apply ev_chain))) | ((with_reducible apply Exists.intro); (repeat (with_reducible apply Exists.intro)); (first | refine ⟨rfl, rfl, rfl, ?_⟩ | (refine ⟨rfl, rfl, ?_, ?_⟩; · (first | exact sl _ _ | exact ad1 _ _ _ _ | exact ad2 _ _ | exact ad3 _ _ _ _)) | refine ⟨rfl, rfl, ?_⟩ | (refine ⟨?_, rfl, rfl, ?_⟩; · (first | exact sl _ _ | exact ad1 _ _ _ _ | exact ad2 _ _ | exact ad3 _ _ _ _)) | (refine ⟨rfl, ?_, ?_⟩; · (first | exact sl _ _ | exact ad1 _ _ _ _ | exact ad2 _ _ | exact ad3 _ _ _ _)) | refine ⟨rfl, ?_⟩ | (refine ⟨?_, ?_⟩; · (first | exact sl _ _ | exact ad1 _ _ _ _ | exact ad2 _ _ | exact ad3 _ _ _ _)))) | ((with_reducible refine And.intro ?_ ?_); · (first | exact rfl | exact sl _ _ | exact ad1 _ _ _ _ | exact ad2 _ _ | exact ad3 _ _ _ _))))
    exact ⟨p6, fin (lk_app (lk_app (cc _ _) lg) (cc _ _)) (by decide)⟩
  (repeat (first | ((with_reducible show Ev _ _ _); (first | ((with_reducible apply ev_var); · exact rfl) | ((with_reducible apply ev_own); · exact rfl) | (with_reducible apply ev_c) | (with_reducible apply ev_dNil) | (with_reducible apply ev_uNil) | (with_reducible apply ev_wNil) | (with_reducible apply ev_nop) | (with_reducible apply ev_pNo) | (with_reducible apply ev_retN) | (with_reducible apply ev_seq) | (with_reducible apply ev_if) | (with_reducible apply ev_setv) | (with_reducible apply ev_ret) | (with_reducible apply ev_raise) | (with_reducible apply ev_expr) | (with_reducible apply ev_e2) | (with_reducible apply ev_asB) | (with_reducible apply ev_asT) | (with_reducible apply ev_not) | (with_reducible apply ev_and) | (with_reducible apply ev_or) | (with_reducible apply ev_eAnd) | (with_reducible apply ev_eOr) | (with_reducible apply ev_eNot) | (with_reducible apply ev_eIf) | (with_reducible apply ev_neg) | (with_reducible apply ev_lst) | (with_reducible apply ev_tup) | (with_reducible apply ev_dCons) | (with_reducible apply ev_uCons) | (with_reducible apply ev_blt) | (with_reducible apply ev_call) | (with_reducible apply ev_callK) | (with_reducible apply ev_new) | (with_reducible apply ev_wCons) | (with_reducible apply ev_par) | (with_reducible apply ev_asg) | (with_reducible apply ev_m1) | (with_reducible apply ev_m0) | (with_reducible apply ev_repl) | (with_reducible apply ev_pInt) | (with_reducible apply ev_slice) | (with_reducible apply ev_iSeq) | (with_reducible apply ev_iR1) | (with_reducible apply ev_iR2) | (with_reducible apply ev_mut) | (with_reducible apply ev_put) | (with_reducible apply ev_chain))) | ((with_reducible apply Exists.intro); (repeat (with_reducible apply Exists.intro)); (first | refine ⟨rfl, rfl, rfl, ?_⟩ | refine ⟨rfl, rfl, ?_⟩ | refine ⟨rfl, ?_⟩)) | ((with_reducible refine And.intro ?_ ?_); · (first | exact rfl))))
  refine ⟨fun w1 => ?_, fun w1 => ?_⟩
  · (repeat (first | ((with_reducible show Ev _ _ _); (first | ((with_reducible apply ev_var); · exact rfl) | ((with_reducible apply ev_own); · exact rfl) | (with_reducible apply ev_c) | (with_reducible apply ev_dNil) | (with_reducible apply ev_uNil) | (with_reducible apply ev_wNil) | (with_reducible apply ev_nop) | (with_reducible apply ev_pNo) | (with_reducible apply ev_retN) | (with_reducible apply ev_seq) | (with_reducible apply ev_if) | (with_reducible apply ev_setv) | (with_reducible apply ev_ret) | (with_reducible apply ev_raise) | (with_reducible apply ev_expr) | (with_reducible apply ev_e2) | (with_reducible apply ev_asB) | (with_reducible apply ev_asT) | (with_reducible apply ev_not) | (with_reducible apply ev_and) | (with_reducible apply ev_or) | (with_reducible apply ev_eAnd) | (with_reducible apply ev_eOr) | (with_reducible apply ev_eNot) | (with_reducible apply ev_eIf) | (with_reducible apply ev_neg) | (with_reducible apply ev_lst) | (with_reducible apply ev_tup) | (with_reducible apply ev_dCons) | (with_reducible apply ev_uCons) | (with_reducible apply ev_blt) | (with_reducible apply ev_call) | (with_reducible apply ev_callK) | (with_reducible apply ev_new) | (with_reducible apply ev_wCons) | (with_reducible apply ev_par) | (with_reducible apply ev_asg) | (with_reducible apply ev_m1) | (with_reducible apply ev_m0) | (with_reducible apply ev_repl) | (with_reducible apply ev_pInt) | (with_reducible apply ev_slice) | (with_reducible apply ev_iSeq) | (with_reducible apply ev_iR1) | (with_reducible apply ev_iR2) | (with_reducible apply ev_mut) | (with_reducible apply ev_put) | (with_reducible apply ev_chain))) | ((with_reducible apply Exists.intro); (repeat (with_reducible apply Exists.intro)); (first | refine ⟨rfl, rfl, rfl, ?_⟩ | (refine ⟨rfl, rfl, ?_, ?_⟩; · (first | exact sl _ _ | exact ad1 _ _ _ _ | exact ad2 _ _ | exact ad3 _ _ _ _)) | refine ⟨rfl, rfl, ?_⟩ | (refine ⟨?_, rfl, rfl, ?_⟩; · (first | exact sl _ _ | exact ad1 _ _ _ _ | exact ad2 _ _ | exact ad3 _ _ _ _)) | (refine ⟨rfl, ?_, ?_⟩; · (first | exact sl _ _ | exact ad1 _ _ _ _ | exact ad2 _ _ | exact ad3 _ _ _ _)) | refine ⟨rfl, ?_⟩ | (refine ⟨?_, ?_⟩; · (first | exact sl _ _ | exact ad1 _ _ _ _ | exact ad2 _ _ | exact ad3 _ _ _ _)))) | ((with_reducible refine And.intro ?_ ?_); · (first | exact rfl | exact sl _ _ | exact ad1 _ _ _ _ | exact ad2 _ _ | exact ad3 _ _ _ _))))
    exact ⟨p6, fin (lk_app (cc _ _) (cc _ _)) (by decide)⟩
  (repeat (first | ((with_reducible show Ev _ _ _); (first | ((with_reducible apply ev_var); · exact rfl) | ((with_reducible apply ev_own); · exact rfl) | (with_reducible apply ev_c) | (with_reducible apply ev_dNil) | (with_reducible apply ev_uNil) | (with_reducible apply ev_wNil) | (with_reducible apply ev_nop) | (with_reducible apply ev_pNo) | (with_reducible apply ev_retN) | (with_reducible apply ev_seq) | (with_reducible apply ev_if) | (with_reducible apply ev_setv) | (with_reducible apply ev_ret) | (with_reducible apply ev_raise) | (with_reducible apply ev_expr) | (with_reducible apply ev_e2) | (with_reducible apply ev_asB) | (with_reducible apply ev_asT) | (with_reducible apply ev_not) | (with_reducible apply ev_and) | (with_reducible apply ev_or) | (with_reducible apply ev_eAnd) | (with_reducible apply ev_eOr) | (with_reducible apply ev_eNot) | (with_reducible apply ev_eIf) | (with_reducible apply ev_neg) | (with_reducible apply ev_lst) | (with_reducible apply ev_tup) | (with_reducible apply ev_dCons) | (with_reducible apply ev_uCons) | (with_reducible apply ev_blt) | (with_reducible apply ev_call) | (with_reducible apply ev_callK) | (with_reducible apply ev_new) | (with_reducible apply ev_wCons) | (with_reducible apply ev_par) | (with_reducible apply ev_asg) | (with_reducible apply ev_m1) | (with_reducible apply ev_m0) | (with_reducible apply ev_repl) | (with_reducible apply ev_pInt) | (with_reducible apply ev_slice) | (with_reducible apply ev_iSeq) | (with_reducible apply ev_iR1) | (with_reducible apply ev_iR2) | (with_reducible apply ev_mut) | (with_reducible apply ev_put) | (with_reducible apply ev_chain))) | ((with_reducible apply Exists.intro); (repeat (with_reducible apply Exists.intro)); (first | refine ⟨rfl, rfl, rfl, ?_⟩ | refine ⟨rfl, rfl, ?_⟩ | refine ⟨rfl, ?_⟩)) | ((with_reducible refine And.intro ?_ ?_); · (first | exact rfl))))
  refine ⟨fun w2 => ?_, fun w2 => ?_⟩
  · (repeat (first | ((with_reducible show Ev _ _ _); (first | ((with_reducible apply ev_var); · exact rfl) | ((with_reducible apply ev_own); · exact rfl) | (with_reducible apply ev_c) | (with_reducible apply ev_dNil) | (with_reducible apply ev_uNil) | (with_reducible apply ev_wNil) | (with_reducible apply ev_nop) | (with_reducible apply ev_pNo) | (with_reducible apply ev_retN) | (with_reducible apply ev_seq) | (with_reducible apply ev_if) | (with_reducible apply ev_setv) | (with_reducible apply ev_ret) | (with_reducible apply ev_raise) | (with_reducible apply ev_expr) | (with_reducible apply ev_e2) | (with_reducible apply ev_asB) | (with_reducible apply ev_asT) | (with_reducible apply ev_not) | (with_reducible apply ev_and) | (with_reducible apply ev_or) | (with_reducible apply ev_eAnd) | (with_reducible apply ev_eOr) | (with_reducible apply ev_eNot) | (with_reducible apply ev_eIf) | (with_reducible apply ev_neg) | (with_reducible apply ev_lst) | (with_reducible apply ev_tup) | (with_reducible apply ev_dCons) | (with_reducible apply ev_uCons) | (with_reducible apply ev_blt) | (with_reducible apply ev_call) | (with_reducible apply ev_callK) | (with_reducible apply ev_new) | (with_reducible apply ev_wCons) | (with_reducible apply ev_par) | (with_reducible apply ev_asg) | (with_reducible apply ev_m1) | (with_reducible apply ev_m0) | (with_reducible apply ev_repl) | (with_reducible apply ev_pInt) | (with_reducible apply ev_slice) | (with_reducible apply ev_iSeq) | (with_reducible apply ev_iR1) | (with_reducible apply ev_iR2) | (with_reducible apply ev_mut) | (with_reducible apply ev_put) | (with_reducible apply ev_chain))) | ((with_reducible apply Exists.intro); (repeat (with_reducible apply Exists.intro)); (first | refine ⟨rfl, rfl, rfl, ?_⟩ | (refine ⟨rfl, rfl, ?_, ?_⟩; · (first | exact sl _ _ | exact ad1 _ _ _ _ | exact ad2 _ _ | exact ad3 _ _ _ _)) | refine ⟨rfl, rfl, ?_⟩ | (refine ⟨?_, rfl, rfl, ?_⟩; · (first | exact sl _ _ | exact ad1 _ _ _ _ | exact ad2 _ _ | exact ad3 _ _ _ _)) | (refine ⟨rfl, ?_, ?_⟩; · (first | exact sl _ _ | exact ad1 _ _ _ _ | exact ad2 _ _ | exact ad3 _ _ _ _)) | refine ⟨rfl, ?_⟩ | (refine ⟨?_, ?_⟩; · (first | exact sl _ _ | exact ad1 _ _ _ _ | exact ad2 _ _ | exact ad3 _ _ _ _)))) | ((with_reducible refine And.intro ?_ ?_); · (first | exact rfl | exact sl _ _ | exact ad1 _ _ _ _ | exact ad2 _ _ | exact ad3 _ _ _ _))))
    exact ⟨p6, fin (lk_app (lk_app (cc _ _) lg) (cc _ _)) (by decide)⟩
  (repeat (first | ((with_reducible show Ev _ _ _); (first | ((with_reducible apply ev_var); · exact rfl) | ((with_reducible apply ev_own); · exact rfl) | (with_reducible apply ev_c) | (with_reducible apply ev_dNil) | (with_reducible apply ev_uNil) | (with_reducible apply ev_wNil) | (with_reducible apply ev_nop) | (with_reducible apply ev_pNo) | (with_reducible apply ev_retN) | (with_reducible apply ev_seq) | (with_reducible apply ev_if) | (with_reducible apply ev_setv) | (with_reducible apply ev_ret) | (with_reducible apply ev_raise) | (with_reducible apply ev_expr) | (with_reducible apply ev_e2) | (with_reducible apply ev_asB) | (with_reducible apply ev_asT) | (with_reducible apply ev_not) | (with_reducible apply ev_and) | (with_reducible apply ev_or) | (with_reducible apply ev_eAnd) | (with_reducible apply ev_eOr) | (with_reducible apply ev_eNot) | (with_reducible apply ev_eIf) | (with_reducible apply ev_neg) | (with_reducible apply ev_lst) | (with_reducible apply ev_tup) | (with_reducible apply ev_dCons) | (with_reducible apply ev_uCons) | (with_reducible apply ev_blt) | (with_reducible apply ev_call) | (with_reducible apply ev_callK) | (with_reducible apply ev_new) | (with_reducible apply ev_wCons) | (with_reducible apply ev_par) | (with_reducible apply ev_asg) | (with_reducible apply ev_m1) | (with_reducible apply ev_m0) | (with_reducible apply ev_repl) | (with_reducible apply ev_pInt) | (with_reducible apply ev_slice) | (with_reducible apply ev_iSeq) | (with_reducible apply ev_iR1) | (with_reducible apply ev_iR2) | (with_reducible apply ev_mut) | (with_reducible apply ev_put) | (with_reducible apply ev_chain))) | ((with_reducible apply Exists.intro); (repeat (with_reducible apply Exists.intro)); (first | refine ⟨rfl, rfl, rfl, ?_⟩ | refine ⟨rfl, rfl, ?_⟩ | refine ⟨rfl, ?_⟩)) | ((with_reducible refine And.intro ?_ ?_); · (first | exact rfl))))
  refine ⟨fun w3 => ?_, fun w3 => ?_⟩
  · (repeat (first | ((with_reducible show Ev _ _ _); (first | ((with_reducible apply ev_var); · exact rfl) | ((with_reducible apply ev_own); · exact rfl) | (with_reducible apply ev_c) | (with_reducible apply ev_dNil) | (with_reducible apply ev_uNil) | (with_reducible apply ev_wNil) | (with_reducible apply ev_nop) | (with_reducible apply ev_pNo) | (with_reducible apply ev_retN) | (with_reducible apply ev_seq) | (with_reducible apply ev_if) | (with_reducible apply ev_setv) | (with_reducible apply ev_ret) | (with_reducible apply ev_raise) | (with_reducible apply ev_expr) | (with_reducible apply ev_e2) | (with_reducible apply ev_asB) | (with_reducible apply ev_asT) | (with_reducible apply ev_not) | (with_reducible apply ev_and) | (with_reducible apply ev_or) | (with_reducible apply ev_eAnd) | (with_reducible apply ev_eOr) | (with_reducible apply ev_eNot) | (with_reducible apply ev_eIf) | (with_reducible apply ev_neg) | (with_reducible apply ev_lst) | (with_reducible apply ev_tup) | (with_reducible apply ev_dCons) | (with_reducible apply ev_uCons) | (with_reducible apply ev_blt) | (with_reducible apply ev_call) | (with_reducible apply ev_callK) | (with_reducible apply ev_new) | (with_reducible apply ev_wCons) | (with_reducible apply ev_par) | (with_reducible apply ev_asg) | (with_reducible apply ev_m1) | (with_reducible apply ev_m0) | (with_reducible apply ev_repl) | (with_reducible apply ev_pInt) | (with_reducible apply ev_slice) | (with_reducible apply ev_iSeq) | (with_reducible apply ev_iR1) | (with_reducible apply ev_iR2) | (with_reducible apply ev_mut) | (with_reducible apply ev_put) | (with_reducible apply ev_chain))) | ((with_reducible apply Exists.intro); (repeat (with_reducible apply Exists.intro)); (first | refine ⟨rfl, rfl, rfl, ?_⟩ | refine ⟨rfl, rfl, ?_⟩ | refine ⟨rfl, ?_⟩)) | ((with_reducible refine And.intro ?_ ?_); · (first | exact rfl))))
    refine (odd p4 (by omega) hz).imp fun w M5 ⟨q5, y5, ew, hy5⟩ => ?_
    subst ew
    (repeat (first | ((with_reducible show Ev _ _ _); (first | ((with_reducible apply ev_var); · exact rfl) | ((with_reducible apply ev_own); · exact rfl) | (with_reducible apply ev_c) | (with_reducible apply ev_dNil) | (with_reducible apply ev_uNil) | (with_reducible apply ev_wNil) | (with_reducible apply ev_nop) | (with_reducible apply ev_pNo) | (with_reducible apply ev_retN) | (with_reducible apply ev_seq) | (with_reducible apply ev_if) | (with_reducible apply ev_setv) | (with_reducible apply ev_ret) | (with_reducible apply ev_raise) | (with_reducible apply ev_expr) | (with_reducible apply ev_e2) | (with_reducible apply ev_asB) | (with_reducible apply ev_asT) | (with_reducible apply ev_not) | (with_reducible apply ev_and) | (with_reducible apply ev_or) | (with_reducible apply ev_eAnd) | (with_reducible apply ev_eOr) | (with_reducible apply ev_eNot) | (with_reducible apply ev_eIf) | (with_reducible apply ev_neg) | (with_reducible apply ev_lst) | (with_reducible apply ev_tup) | (with_reducible apply ev_dCons) | (with_reducible apply ev_uCons) | (with_reducible apply ev_blt) | (with_reducible apply ev_call) | (with_reducible apply ev_callK) | (with_reducible apply ev_new) | (with_reducible apply ev_wCons) | (with_reducible apply ev_par) | (with_reducible apply ev_asg) | (with_reducible apply ev_m1) | (with_reducible apply ev_m0) | (with_reducible apply ev_repl) | (with_reducible apply ev_pInt) | (with_reducible apply ev_slice) | (with_reducible apply ev_iSeq) | (with_reducible apply ev_iR1) | (with_reducible apply ev_iR2) | (with_reducible apply ev_mut) | (with_reducible apply ev_put) | (with_reducible apply ev_chain))) | ((with_reducible apply Exists.intro); (repeat (with_reducible apply Exists.intro)); (first | refine ⟨rfl, rfl, rfl, ?_⟩ | refine ⟨rfl, rfl, ?_⟩ | refine ⟨rfl, ?_⟩)) | ((with_reducible refine And.intro ?_ ?_); · (first | exact rfl))))
    exact ⟨up q5 (by omega), y5, rfl, hy5⟩
  (repeat (first | ((with_reducible show Ev _ _ _); (first | ((with_reducible apply ev_var); · exact rfl) | ((with_reducible apply ev_own); · exact rfl) | (with_reducible apply ev_c) | (with_reducible apply ev_dNil) | (with_reducible apply ev_uNil) | (with_reducible apply ev_wNil) | (with_reducible apply ev_nop) | (with_reducible apply ev_pNo) | (with_reducible apply ev_retN) | (with_reducible apply ev_seq) | (with_reducible apply ev_if) | (with_reducible apply ev_setv) | (with_reducible apply ev_ret) | (with_reducible apply ev_raise) | (with_reducible apply ev_expr) | (with_reducible apply ev_e2) | (with_reducible apply ev_asB) | (with_reducible apply ev_asT) | (with_reducible apply ev_not) | (with_reducible apply ev_and) | (with_reducible apply ev_or) | (with_reducible apply ev_eAnd) | (with_reducible apply ev_eOr) | (with_reducible apply ev_eNot) | (with_reducible apply ev_eIf) | (with_reducible apply ev_neg) | (with_reducible apply ev_lst) | (with_reducible apply ev_tup) | (with_reducible apply ev_dCons) | (with_reducible apply ev_uCons) | (with_reducible apply ev_blt) | (with_reducible apply ev_call) | (with_reducible apply ev_callK) | (with_reducible apply ev_new) | (with_reducible apply ev_wCons) | (with_reducible apply ev_par) | (with_reducible apply ev_asg) | (with_reducible apply ev_m1) | (with_reducible apply ev_m0) | (with_reducible apply ev_repl) | (with_reducible apply ev_pInt) | (with_reducible apply ev_slice) | (with_reducible apply ev_iSeq) | (with_reducible apply ev_iR1) | (with_reducible apply ev_iR2) | (with_reducible apply ev_mut) | (with_reducible apply ev_put) | (with_reducible apply ev_chain))) | ((with_reducible apply Exists.intro); (repeat (with_reducible apply Exists.intro)); (first | refine ⟨rfl, rfl, rfl, ?_⟩ | (refine ⟨rfl, rfl, ?_, ?_⟩; · (first | exact (show (2 : Nat) ≤ sizeLine by decide))) | refine ⟨rfl, rfl, ?_⟩ | (refine ⟨?_, rfl, rfl, ?_⟩; · (first | exact (show (2 : Nat) ≤ sizeLine by decide))) | (refine ⟨rfl, ?_, ?_⟩; · (first | exact (show (2 : Nat) ≤ sizeLine by decide))) | refine ⟨rfl, ?_⟩ | (refine ⟨?_, ?_⟩; · (first | exact (show (2 : Nat) ≤ sizeLine by decide))))) | ((with_reducible refine And.intro ?_ ?_); · (first | exact rfl | exact (show (2 : Nat) ≤ sizeLine by decide)))))
  refine ⟨fun w4 => ?_, fun w4 => ?_⟩
  · have hv : v = 4 ∨ v = 5 := by
      have w5 : (((4 : Int) == v) || (((5 : Int) == v) || false)) = true := w4
      rw [Bool.or_false, Bool.or_eq_true, beq_iff_eq, beq_iff_eq] at w5
      omega
    obtain ⟨bt, hbt, hbt2⟩ := ix_two (M := M4) (a := " ") (b := "-") (r := v - 4) (by omega) (by omega)
    have hb1 : (bt.length == 0) = false ∧ bt.length ≤ 1 ∧ PyData.strOk bt = true := by
      rcases hbt2 with rfl | rfl <;> exact ⟨by decide, by decide, by decide +kernel⟩
    obtain ⟨sp1, sp2, sp3, sp4⟩ := split_B (M := M4) hz hb1.1
    generalize (Txt.split z bt).map D.str = xs at sp1 sp2 sp3 sp4
    (repeat (first | ((with_reducible show Ev _ _ _); (first | ((with_reducible apply ev_var); · exact rfl) | ((with_reducible apply ev_own); · exact rfl) | (with_reducible apply ev_c) | (with_reducible apply ev_dNil) | (with_reducible apply ev_uNil) | (with_reducible apply ev_wNil) | (with_reducible apply ev_nop) | (with_reducible apply ev_pNo) | (with_reducible apply ev_retN) | (with_reducible apply ev_seq) | (with_reducible apply ev_if) | (with_reducible apply ev_setv) | (with_reducible apply ev_ret) | (with_reducible apply ev_raise) | (with_reducible apply ev_expr) | (with_reducible apply ev_e2) | (with_reducible apply ev_asB) | (with_reducible apply ev_asT) | (with_reducible apply ev_not) | (with_reducible apply ev_and) | (with_reducible apply ev_or) | (with_reducible apply ev_eAnd) | (with_reducible apply ev_eOr) | (with_reducible apply ev_eNot) | (with_reducible apply ev_eIf) | (with_reducible apply ev_neg) | (with_reducible apply ev_lst) | (with_reducible apply ev_tup) | (with_reducible apply ev_dCons) | (with_reducible apply ev_uCons) | (with_reducible apply ev_blt) | (with_reducible apply ev_call) | (with_reducible apply ev_callK) | (with_reducible apply ev_new) | (with_reducible apply ev_wCons) | (with_reducible apply ev_par) | (with_reducible apply ev_asg) | (with_reducible apply ev_m1) | (with_reducible apply ev_m0) | (with_reducible apply ev_repl) | (with_reducible apply ev_pInt) | (with_reducible apply ev_slice) | (with_reducible apply ev_iSeq) | (with_reducible apply ev_iR1) | (with_reducible apply ev_iR2) | (with_reducible apply ev_mut) | (with_reducible apply ev_put) | (with_reducible apply ev_chain))) | ((with_reducible apply Exists.intro); (repeat (with_reducible apply Exists.intro)); (first | refine ⟨rfl, rfl, rfl, ?_⟩ | (refine ⟨rfl, rfl, ?_, ?_⟩; · (first | exact hbt | exact sp1 | exact (show (2 : Nat) ≤ sizeLine by decide))) | refine ⟨rfl, rfl, ?_⟩ | (refine ⟨?_, rfl, rfl, ?_⟩; · (first | exact hbt | exact sp1 | exact (show (2 : Nat) ≤ sizeLine by decide))) | (refine ⟨rfl, ?_, ?_⟩; · (first | exact hbt | exact sp1 | exact (show (2 : Nat) ≤ sizeLine by decide))) | refine ⟨rfl, ?_⟩ | (refine ⟨?_, ?_⟩; · (first | exact hbt | exact sp1 | exact (show (2 : Nat) ≤ sizeLine by decide))))) | ((with_reducible refine And.intro ?_ ?_); · (first | exact rfl | exact hbt | exact sp1 | exact (show (2 : Nat) ≤ sizeLine by decide)))))
    refine (coin p4 (by omega) (by omega) (by omega)).imp fun w M5 ⟨l, ew, l0, l1, p5⟩ => ?_
    subst ew
    (repeat (first | ((with_reducible show Ev _ _ _); (first | ((with_reducible apply ev_var); · exact rfl) | ((with_reducible apply ev_own); · exact rfl) | (with_reducible apply ev_c) | (with_reducible apply ev_dNil) | (with_reducible apply ev_uNil) | (with_reducible apply ev_wNil) | (with_reducible apply ev_nop) | (with_reducible apply ev_pNo) | (with_reducible apply ev_retN) | (with_reducible apply ev_seq) | (with_reducible apply ev_if) | (with_reducible apply ev_setv) | (with_reducible apply ev_ret) | (with_reducible apply ev_raise) | (with_reducible apply ev_expr) | (with_reducible apply ev_e2) | (with_reducible apply ev_asB) | (with_reducible apply ev_asT) | (with_reducible apply ev_not) | (with_reducible apply ev_and) | (with_reducible apply ev_or) | (with_reducible apply ev_eAnd) | (with_reducible apply ev_eOr) | (with_reducible apply ev_eNot) | (with_reducible apply ev_eIf) | (with_reducible apply ev_neg) | (with_reducible apply ev_lst) | (with_reducible apply ev_tup) | (with_reducible apply ev_dCons) | (with_reducible apply ev_uCons) | (with_reducible apply ev_blt) | (with_reducible apply ev_call) | (with_reducible apply ev_callK) | (with_reducible apply ev_new) | (with_reducible apply ev_wCons) | (with_reducible apply ev_par) | (with_reducible apply ev_asg) | (with_reducible apply ev_m1) | (with_reducible apply ev_m0) | (with_reducible apply ev_repl) | (with_reducible apply ev_pInt) | (with_reducible apply ev_slice) | (with_reducible apply ev_iSeq) | (with_reducible apply ev_iR1) | (with_reducible apply ev_iR2) | (with_reducible apply ev_mut) | (with_reducible apply ev_put) | (with_reducible apply ev_chain))) | ((with_reducible apply Exists.intro); (repeat (with_reducible apply Exists.intro)); (first | refine ⟨rfl, rfl, rfl, ?_⟩ | refine ⟨rfl, rfl, ?_⟩ | refine ⟨rfl, ?_⟩)) | ((with_reducible refine And.intro ?_ ?_); · (first | exact rfl))))
    refine (coin p5 (by omega) (by omega) (by omega)).imp fun w M6 ⟨r, ew, r0, r1, p7⟩ => ?_
    subst ew
    refine ⟨_, _, rfl, ev_wNil ⟨_, rfl, ?_⟩⟩
    exact swap hb1.2 sp2 sp3 l0 l1 r0 r1 fun e y hy => ⟨up p7 (by omega), y, rfl, hy⟩
  · (repeat (first | ((with_reducible show Ev _ _ _); (first | ((with_reducible apply ev_var); · exact rfl) | ((with_reducible apply ev_own); · exact rfl) | (with_reducible apply ev_c) | (with_reducible apply ev_dNil) | (with_reducible apply ev_uNil) | (with_reducible apply ev_wNil) | (with_reducible apply ev_nop) | (with_reducible apply ev_pNo) | (with_reducible apply ev_retN) | (with_reducible apply ev_seq) | (with_reducible apply ev_if) | (with_reducible apply ev_setv) | (with_reducible apply ev_ret) | (with_reducible apply ev_raise) | (with_reducible apply ev_expr) | (with_reducible apply ev_e2) | (with_reducible apply ev_asB) | (with_reducible apply ev_asT) | (with_reducible apply ev_not) | (with_reducible apply ev_and) | (with_reducible apply ev_or) | (with_reducible apply ev_eAnd) | (with_reducible apply ev_eOr) | (with_reducible apply ev_eNot) | (with_reducible apply ev_eIf) | (with_reducible apply ev_neg) | (with_reducible apply ev_lst) | (with_reducible apply ev_tup) | (with_reducible apply ev_dCons) | (with_reducible apply ev_uCons) | (with_reducible apply ev_blt) | (with_reducible apply ev_call) | (with_reducible apply ev_callK) | (with_reducible apply ev_new) | (with_reducible apply ev_wCons) | (with_reducible apply ev_par) | (with_reducible apply ev_asg) | (with_reducible apply ev_m1) | (with_reducible apply ev_m0) | (with_reducible apply ev_repl) | (with_reducible apply ev_pInt) | (with_reducible apply ev_slice) | (with_reducible apply ev_iSeq) | (with_reducible apply ev_iR1) | (with_reducible apply ev_iR2) | (with_reducible apply ev_mut) | (with_reducible apply ev_put) | (with_reducible apply ev_chain))) | ((with_reducible apply Exists.intro); (repeat (with_reducible apply Exists.intro)); (first | refine ⟨rfl, rfl, rfl, ?_⟩ | refine ⟨rfl, rfl, ?_⟩ | refine ⟨rfl, ?_⟩)) | ((with_reducible refine And.intro ?_ ?_); · (first | exact rfl))))
    exact ⟨p6, fin hz (by decide)⟩
end K55
namespace K55
open PySem PySem.Spec L2 Ow
theorem up {M : Mem} {n : Nat} {a b : Int} : Pu M n a → a ≤ b → Pu M n b := fun ⟨x, y, c, e, h1, h2, h3, h4, h5⟩ hab => ⟨x, y, c, e, h1, h2, h3, h4, by omega⟩
theorem tos_ok {v : Int} : PyData.strOk (tos v) = true := by
  refine strOk_iff.mpr fun c hc => ?_
  have dg : ∀ n : Nat, ∀ c ∈ TL.numL n, c < 0x110000 := fun n c hc => by
    have := TL.numL_digits n c hc
    omega
  cases v with
  | ofNat m => rw [show Int.ofNat m = (m : Int) from rfl, tos_nat] at hc; exact dg m c hc
  | negSucc m =>
    rw [show Int.negSucc m = -((m + 1 : Nat) : Int) from rfl, tos_neg (by omega)] at hc
    rcases List.mem_cons.mp hc with h | h
    · omega
    · exact dg _ c h
/-- one of the law's trials: the part behind the bills -/
theorem right {M : Mem} {n : Nat} {k : Int} (h : Pu M n k) (hk : k ≤ 2 ^ 57) : EvF (f_law_right [.ref n] M) (fun w M' => Pu M' n (k + 200) ∧ w = .v (.bl true)) F0 := by
  refine evf ?_
  unfold g_law_right
  refine ev_seq (ev_setv (ev_lst (ev_dNil ⟨by decide, _, rfl, ?_⟩)))
  refine ev_seq (ev_for (ev_iR1 (ev_uCons (ev_call (ev_dCons (ev_var rfl ⟨_, _, rfl, ev_dCons (ev_c ⟨_, _, rfl, ev_dNil ⟨rfl, (coin h (by omega) (by decide) (by decide)).imp fun w M1 ⟨u, ew, u0, u1, p1⟩ => ?_⟩⟩)⟩))))))
  subst ew
  refine ev_uNil ⟨u, rfl, by unfold inR; simp; omega, fun j e m => Pu m n (k + 1 + 3 * j) ∧ ∃ (vs : List Int) (x y : Sl), e = [.val (.ref n), .own (.lst ((vs.map tos).map D.str)), x, y, .un, .un, .un] ∧ vs.length = j ∧ ∀ v ∈ vs, v.natAbs < 10 ^ 6, ⟨?_, [], .un, .un, rfl, rfl, fun v hv => by cases hv⟩, ?_, ?_⟩
  · exact up p1 (by omega)
  · intro j x e m hx ⟨pj, vs, s2, s3, ee, hl, hv⟩
    subst ee
    have hj : j < u.toNat := by
      have := (List.getElem?_eq_some_iff.mp hx).1
      have e1 : (rng 0 u.toNat).length = u.toNat := by simp [rng]
      exact e1 ▸ this
    refine ⟨memOk_nil, _, rfl, ?_⟩
    refine ev_seq (ev_setv (ev_call (ev_dCons (ev_var rfl ⟨_, _, rfl, ev_dCons (ev_e2 ?_)⟩))))
    refine ev_lst ?_
    (repeat (first | ((with_reducible show Ev _ _ _); (first | ((with_reducible apply ev_var); · exact rfl) | ((with_reducible apply ev_own); · exact rfl) | (with_reducible apply ev_c) | (with_reducible apply ev_dNil) | (with_reducible apply ev_uNil) | (with_reducible apply ev_wNil) | (with_reducible apply ev_nop) | (with_reducible apply ev_pNo) | (with_reducible apply ev_retN) | (with_reducible apply ev_seq) | (with_reducible apply ev_if) | (with_reducible apply ev_setv) | (with_reducible apply ev_ret) | (with_reducible apply ev_raise) | (with_reducible apply ev_expr) | (with_reducible apply ev_e2) | (with_reducible apply ev_asB) | (with_reducible apply ev_asT) | (with_reducible apply ev_not) | (with_reducible apply ev_and) | (with_reducible apply ev_or) | (with_reducible apply ev_eAnd) | (with_reducible apply ev_eOr) | (with_reducible apply ev_eNot) | (with_reducible apply ev_eIf) | (with_reducible apply ev_neg) | (with_reducible apply ev_lst) | (with_reducible apply ev_tup) | (with_reducible apply ev_dCons) | (with_reducible apply ev_uCons) | (with_reducible apply ev_blt) | (with_reducible apply ev_call) | (with_reducible apply ev_callK) | (with_reducible apply ev_new) | (with_reducible apply ev_wCons) | (with_reducible apply ev_par) | (with_reducible apply ev_asg) | (with_reducible apply ev_m1) | (with_reducible apply ev_m0) | (with_reducible apply ev_repl) | (with_reducible apply ev_pInt) | (with_reducible apply ev_slice) | (with_reducible apply ev_iSeq) | (with_reducible apply ev_iR1) | (with_reducible apply ev_iR2) | (with_reducible apply ev_mut) | (with_reducible apply ev_put) | (with_reducible apply ev_chain))) | ((with_reducible apply Exists.intro); (repeat (with_reducible apply Exists.intro)); (first | refine ⟨rfl, rfl, rfl, ?_⟩ | (refine ⟨rfl, rfl, ?_, ?_⟩; · (first | exact (show (3 : Nat) ≤ sizeLine by decide))) | refine ⟨rfl, rfl, ?_⟩ | (refine ⟨?_, rfl, rfl, ?_⟩; · (first | exact (show (3 : Nat) ≤ sizeLine by decide))) | (refine ⟨rfl, ?_, ?_⟩; · (first | exact (show (3 : Nat) ≤ sizeLine by decide))) | refine ⟨rfl, ?_⟩ | (refine ⟨?_, ?_⟩; · (first | exact (show (3 : Nat) ≤ sizeLine by decide))))) | ((with_reducible refine And.intro ?_ ?_); · (first | exact rfl | exact (show (3 : Nat) ≤ sizeLine by decide)))))
    refine (coin pj (by omega) (by decide) (by decide)).imp fun w M1 ⟨r, ew, r0, r1, p1⟩ => ?_
    subst ew
    obtain ⟨q, hq, q0, q1⟩ : ∃ q : Int, gIx M1 (.lst [.int 3, .int 100, .int 1000000]) (.int r) = some (.v (.int q)) ∧ 0 < q ∧ q ≤ 1000000 := by
      rcases (by omega : r = 0 ∨ r = 1 ∨ r = 2) with rfl | rfl | rfl
      · exact ⟨3, rfl, by decide, by decide⟩
      · exact ⟨100, rfl, by decide, by decide⟩
      · exact ⟨1000000, rfl, by decide, by decide⟩
    refine ⟨_, _, _, rfl, rfl, hq, _, _, rfl, ev_dNil ⟨rfl, (coin p1 (by omega) q0 (by omega)).imp fun w M2 ⟨a, ew, a0, a1, p2⟩ => ?_⟩⟩
    subst ew
    refine ⟨_, rfl, ev_expr (ev_mut (ev_own rfl ⟨rfl, ?_⟩))⟩
    (repeat (first | ((with_reducible show Ev _ _ _); (first | ((with_reducible apply ev_var); · exact rfl) | ((with_reducible apply ev_own); · exact rfl) | (with_reducible apply ev_c) | (with_reducible apply ev_dNil) | (with_reducible apply ev_uNil) | (with_reducible apply ev_wNil) | (with_reducible apply ev_nop) | (with_reducible apply ev_pNo) | (with_reducible apply ev_retN) | (with_reducible apply ev_seq) | (with_reducible apply ev_if) | (with_reducible apply ev_setv) | (with_reducible apply ev_ret) | (with_reducible apply ev_raise) | (with_reducible apply ev_expr) | (with_reducible apply ev_e2) | (with_reducible apply ev_asB) | (with_reducible apply ev_asT) | (with_reducible apply ev_not) | (with_reducible apply ev_and) | (with_reducible apply ev_or) | (with_reducible apply ev_eAnd) | (with_reducible apply ev_eOr) | (with_reducible apply ev_eNot) | (with_reducible apply ev_eIf) | (with_reducible apply ev_neg) | (with_reducible apply ev_lst) | (with_reducible apply ev_tup) | (with_reducible apply ev_dCons) | (with_reducible apply ev_uCons) | (with_reducible apply ev_blt) | (with_reducible apply ev_call) | (with_reducible apply ev_callK) | (with_reducible apply ev_new) | (with_reducible apply ev_wCons) | (with_reducible apply ev_par) | (with_reducible apply ev_asg) | (with_reducible apply ev_m1) | (with_reducible apply ev_m0) | (with_reducible apply ev_repl) | (with_reducible apply ev_pInt) | (with_reducible apply ev_slice) | (with_reducible apply ev_iSeq) | (with_reducible apply ev_iR1) | (with_reducible apply ev_iR2) | (with_reducible apply ev_mut) | (with_reducible apply ev_put) | (with_reducible apply ev_chain))) | ((with_reducible apply Exists.intro); (repeat (with_reducible apply Exists.intro)); (first | refine ⟨rfl, rfl, rfl, ?_⟩ | refine ⟨rfl, rfl, ?_⟩ | refine ⟨rfl, ?_⟩)) | ((with_reducible refine And.intro ?_ ?_); · (first | exact rfl))))
    refine (coin p2 (by omega) (by decide) (by decide)).imp fun w M3 ⟨t, ew, t0, t1, p3⟩ => ?_
    subst ew
    have key : ∀ b : Bool, (a * (1 - 2 * (if b then 1 else 0) : Int)).natAbs < 10 ^ 6 := fun b => by
      cases b
      · simp; omega
      · simp; omega
    have hmu : ∀ z : Str, muApp ((vs.map tos).map D.str) [.str z] = some ((vs.map tos).map D.str ++ [.str z], .non) := fun z => by
      show (if ((vs.map tos).map D.str).length < sizeLine then some _ else none) = _
      rw [if_pos]
      rw [List.length_map, List.length_map, hl]
      exact Nat.lt_of_le_of_lt (by omega : j ≤ 9) (by decide)
    have heq : ∀ M : Mem, gEq M (.int t) (.int 0) = some (.v (.bl (decide (t = 0)))) := fun M => by simp only [o_eq, deref_int, deq_int]; rfl
    (repeat (first | ((with_reducible show Ev _ _ _); (first | ((with_reducible apply ev_var); · exact rfl) | ((with_reducible apply ev_own); · exact rfl) | (with_reducible apply ev_c) | (with_reducible apply ev_dNil) | (with_reducible apply ev_uNil) | (with_reducible apply ev_wNil) | (with_reducible apply ev_nop) | (with_reducible apply ev_pNo) | (with_reducible apply ev_retN) | (with_reducible apply ev_seq) | (with_reducible apply ev_if) | (with_reducible apply ev_setv) | (with_reducible apply ev_ret) | (with_reducible apply ev_raise) | (with_reducible apply ev_expr) | (with_reducible apply ev_e2) | (with_reducible apply ev_asB) | (with_reducible apply ev_asT) | (with_reducible apply ev_not) | (with_reducible apply ev_and) | (with_reducible apply ev_or) | (with_reducible apply ev_eAnd) | (with_reducible apply ev_eOr) | (with_reducible apply ev_eNot) | (with_reducible apply ev_eIf) | (with_reducible apply ev_neg) | (with_reducible apply ev_lst) | (with_reducible apply ev_tup) | (with_reducible apply ev_dCons) | (with_reducible apply ev_uCons) | (with_reducible apply ev_blt) | (with_reducible apply ev_call) | (with_reducible apply ev_callK) | (with_reducible apply ev_new) | (with_reducible apply ev_wCons) | (with_reducible apply ev_par) | (with_reducible apply ev_asg) | (with_reducible apply ev_m1) | (with_reducible apply ev_m0) | (with_reducible apply ev_repl) | (with_reducible apply ev_pInt) | (with_reducible apply ev_slice) | (with_reducible apply ev_iSeq) | (with_reducible apply ev_iR1) | (with_reducible apply ev_iR2) | (with_reducible apply ev_mut) | (with_reducible apply ev_put) | (with_reducible apply ev_chain))) | ((with_reducible apply Exists.intro); (repeat (with_reducible apply Exists.intro)); (first | refine ⟨rfl, rfl, rfl, ?_⟩ | (refine ⟨rfl, rfl, ?_, ?_⟩; · (first | exact heq _ | exact o_mul (smul_l ⟨by decide, by decide⟩) | exact o_mul (smul_l ⟨by omega, by omega⟩) | exact gStr_int (key _) | exact hmu _)) | refine ⟨rfl, rfl, ?_⟩ | (refine ⟨?_, rfl, rfl, ?_⟩; · (first | exact heq _ | exact o_mul (smul_l ⟨by decide, by decide⟩) | exact o_mul (smul_l ⟨by omega, by omega⟩) | exact gStr_int (key _) | exact hmu _)) | (refine ⟨rfl, ?_, ?_⟩; · (first | exact heq _ | exact o_mul (smul_l ⟨by decide, by decide⟩) | exact o_mul (smul_l ⟨by omega, by omega⟩) | exact gStr_int (key _) | exact hmu _)) | refine ⟨rfl, ?_⟩ | (refine ⟨?_, ?_⟩; · (first | exact heq _ | exact o_mul (smul_l ⟨by decide, by decide⟩) | exact o_mul (smul_l ⟨by omega, by omega⟩) | exact gStr_int (key _) | exact hmu _)))) | ((with_reducible refine And.intro ?_ ?_); · (first | exact rfl | exact heq _ | exact o_mul (smul_l ⟨by decide, by decide⟩) | exact o_mul (smul_l ⟨by omega, by omega⟩) | exact gStr_int (key _) | exact hmu _))))
    refine ⟨up p3 (by omega), vs ++ [a * (1 - 2 * (if decide (V.int t = V.int 0) = true then 1 else 0) : Int)], .val x, .val (.int a), ?_, by rw [List.length_append, hl] <;> rfl, fun v hv' => ?_⟩
    · show [Sl.val (.ref n), Sl.own (.lst (_ ++ [_])), _, _, _, _, _] = _
      rw [List.map_append, List.map_append] <;> rfl
    · rcases List.mem_append.mp hv' with hm | hm
      · exact hv v hm
      · rw [List.mem_singleton] at hm
        subst hm
        exact key _
  · intro e m ⟨pj, vs, s2, s3, ee, hl, hv⟩
    subst ee
    have hl9 : vs.length ≤ 9 := by
      have e1 : (rng 0 u.toNat).length = u.toNat := by simp [rng]
      have : vs.length = u.toNat := hl.trans e1
      omega
    have pj : Pu m n (k + 28) := up pj (by
      have e1 : (rng 0 u.toNat).length = u.toNat := by simp [rng]
      have e2 : ((⟨rng 0 u.toNat, []⟩ : Src).items.length : Int) = u.toNat := by rw [show (⟨rng 0 u.toNat, []⟩ : Src).items.length = u.toNat from e1]
      rw [e2]
      omega)
    refine ⟨memOk_nil, ?_⟩
    have hp : ∀ p ∈ vs.map tos, p.length ≤ 7 ∧ PyData.strOk p = true := fun p hp => by
      obtain ⟨v, hv', rfl⟩ := List.mem_map.mp hp
      exact ⟨tos_len (hv v hv'), tos_ok⟩
    have jo := join_ok (sep := " ") (ps := vs.map tos) (B := 7) (by decide) (by decide +kernel) hp (by rw [List.length_map]; omega)
    have hz : Lk 100 (Txt.join " " (vs.map tos)) := by
      refine ⟨?_, jo.1.2⟩
      have h1 := sum_le (B := 7) fun p hq => (hp p hq).1
      have := PySem.StrLaws.join_length_le " " (vs.map tos)
      have e1 : (" " : Str).length = 1 := by decide
      rw [TL.join_eq]
      rw [e1] at this
      rw [List.length_map] at h1 this
      omega
    generalize hzz : Txt.join " " (vs.map tos) = z at hz
    have hj : ∀ M : Mem, gJoin M " " (.lst ((vs.map tos).map D.str)) = some (.v (.str z)) := fun M => by rw [← hzz]; exact gJoin_strs jo.2
    refine ev_seq (ev_for (ev_iR1 (ev_uCons (ev_c (ev_uNil ⟨8, rfl, by decide, fun j e m => Pu m n (k + 28 + 7 * j) ∧ ∃ x s4 s5 s6, e = [.val (.ref n), .own (.lst ((vs.map tos).map D.str)), x, s3, s4, s5, s6], ⟨up pj (by omega), _, _, _, _, rfl⟩, ?_, ?_⟩)))))
    · intro j x e m hx ⟨pj, x2, s4, s5, s6, ee⟩
      subst ee
      have hj8 : j < 8 := by
        have := (List.getElem?_eq_some_iff.mp hx).1
        exact this
      refine ⟨memOk_nil, _, rfl, ?_⟩
      refine ev_seq (ev_setv (ev_call (ev_dCons (ev_var rfl ⟨_, _, rfl, ev_dCons (ev_m1 (ev_c ⟨_, rfl, ev_own rfl ⟨_, _, rfl, hj _, _, _, rfl, ev_dNil ⟨rfl, (marred pj (by omega) hz).imp fun w M1 ⟨p1, y, ew, hy⟩ => ?_⟩⟩⟩))⟩))))
      subst ew
      refine ⟨_, rfl, ?_⟩
      refine ev_seq (ev_setv (ev_call (ev_dCons (ev_var rfl ⟨_, _, rfl, ev_dNil ⟨rfl, (bills_of hy).imp fun w M2 ⟨em, hw⟩ => ?_⟩⟩))))
      subst em
      have hle : gLen M2 [.str y] = some (.v (.int (y.length : Int))) := lenB (B := 20000) hy (by decide)
      have done : ∀ {M3 : Mem}, Pu M3 n (k + 28 + 7 * j + 7) → Pu M3 n (k + 28 + 7 * ((j + 1 : Nat) : Int)) := fun h => up h (by omega)
      have pd : ∀ us : List Int, pln (.lst [.lst (dI us)]) = true ∧ shal (.lst [.lst (dI us)]) := fun us => by
        refine ⟨?_, Nat.le_trans (depth_lst (n := 1) fun x hx => ?_) (by decide)⟩
        · rw [pln_lst]
          refine plns_all fun x hx => ?_
          rw [List.mem_singleton] at hx
          subst hx
          rw [pln_lst]
          exact plns_all fun x hx => by
            obtain ⟨v, _, rfl⟩ := List.mem_map.mp hx
            exact pln_int
        · rw [List.mem_singleton] at hx
          subst hx
          refine depth_lst (n := 0) fun x hx => ?_
          obtain ⟨v, _, rfl⟩ := List.mem_map.mp hx
          simp
      have pn : pln (.lst []) = true ∧ shal (.lst []) := ⟨by simp [plns], Nat.le_trans (depth_lst (n := 0) fun x hx => by cases hx) (by decide)⟩
      rcases hw with ⟨us, rfl, g⟩ | ⟨rfl, hn⟩
      · refine ⟨_, rfl, ?_⟩
        refine ev_seq (ev_setv (ev_eIf (ev_asB (ev_e2 (ev_own rfl (ev_c ⟨_, _, _, rfl, rfl, rfl, _, rfl, fun _ => ?_, fun z => (by cases z)⟩))))))
        refine ev_lst (ev_dCons (ev_own rfl ⟨_, _, rfl, ev_dNil ⟨show (1 : Nat) ≤ sizeLine by decide, _, rfl, ?_⟩⟩))
        refine ev_if (ev_and (ev_asB (ev_e2 (ev_blt (ev_uCons (ev_var rfl (ev_uNil ⟨_, _, rfl, hle, ev_c ⟨_, _, _, rfl, rfl, rfl, _, rfl, fun _ => ?_, fun _ => ⟨fun z => (by cases z), fun _ => ?_⟩⟩⟩)))))))
        · refine ev_asB (ev_e2 (ev_call (ev_dCons (ev_var rfl ⟨_, _, rfl, ev_dCons (ev_call (ev_dCons (ev_var rfl ⟨_, _, rfl, ev_dCons (ev_c ⟨_, _, rfl, ev_dNil ⟨rfl, (coin p1 (by omega) (by decide) (by decide)).imp fun w M3 ⟨t, ew, t0, t1, p3⟩ => ?_⟩⟩)⟩)))⟩))))
          subst ew
          refine ⟨_, _, rfl, ev_dNil ⟨rfl, (caught hy).imp fun w M4 ⟨em, hw⟩ => ?_⟩⟩
          subst em
          rcases hw with ⟨us2, g2, rfl⟩ | ⟨hn, _⟩
          · cases good_uniq g g2
            refine ev_own rfl ⟨_, _, _, rfl, rfl, o_neP rfl rfl (pd us).1 (pd us).1 (pd us).2 (pd us).2, _, rfl, fun z => ?_, fun _ => ev_nop ⟨up p3 (by omega), _, _, _, _, rfl⟩⟩
            simp at z
          · exact absurd ⟨us, g⟩ hn
        · exact ev_nop ⟨up p1 (by omega), _, _, _, _, rfl⟩
      · refine ⟨_, rfl, ?_⟩
        refine ev_seq (ev_setv (ev_eIf (ev_asB (ev_e2 (ev_var rfl (ev_c ⟨_, _, _, rfl, rfl, rfl, _, rfl, fun z => (by cases z), fun _ => ?_⟩))))))
        refine ev_lst (ev_dNil ⟨show (0 : Nat) ≤ sizeLine by decide, _, rfl, ?_⟩)
        refine ev_if (ev_and (ev_asB (ev_e2 (ev_blt (ev_uCons (ev_var rfl (ev_uNil ⟨_, _, rfl, hle, ev_c ⟨_, _, _, rfl, rfl, rfl, _, rfl, fun _ => ?_, fun _ => ⟨fun z => (by cases z), fun _ => ?_⟩⟩⟩)))))))
        · refine ev_asB (ev_e2 (ev_call (ev_dCons (ev_var rfl ⟨_, _, rfl, ev_dCons (ev_call (ev_dCons (ev_var rfl ⟨_, _, rfl, ev_dCons (ev_c ⟨_, _, rfl, ev_dNil ⟨rfl, (coin p1 (by omega) (by decide) (by decide)).imp fun w M3 ⟨t, ew, t0, t1, p3⟩ => ?_⟩⟩)⟩)))⟩))))
          subst ew
          refine ⟨_, _, rfl, ev_dNil ⟨rfl, (caught hy).imp fun w M4 ⟨em, hw⟩ => ?_⟩⟩
          subst em
          rcases hw with ⟨us2, g2, rfl⟩ | ⟨_, rfl⟩
          · exact absurd ⟨us2, g2⟩ hn
          · refine ev_own rfl ⟨_, _, _, rfl, rfl, o_neP rfl rfl pn.1 pn.1 pn.2 pn.2, _, rfl, fun z => ?_, fun _ => ev_nop ⟨up p3 (by omega), _, _, _, _, rfl⟩⟩
            simp at z
        · exact ev_nop ⟨up p1 (by omega), _, _, _, _, rfl⟩
    · intro e m ⟨pj, x2, s4, s5, s6, ee⟩
      subst ee
      exact ⟨memOk_nil, ev_ret (ev_c ⟨_, _, rfl, up pj (by
        show k + 28 + 7 * ((8 : Nat) : Int) ≤ k + 200
        omega), rfl⟩)⟩
theorem law_ev {ns : List Int} : EvF (f_law [.scr ns] []) (fun w _ => w = .v (.bl true)) F0 := by
  refine evf ?_
  unfold g_law
  have hlen : gLen [] [.scr ns] = some (.v (.int (ns.length : Int))) := rfl
  refine ev_seq (ev_for (ev_iR1 (ev_uCons (ev_blt (ev_uCons (ev_c (ev_uCons (ev_blt (ev_uCons (ev_c (ev_uCons (ev_blt (ev_uCons (ev_var rfl (ev_uNil ⟨_, _, rfl, hlen, ev_uNil ⟨_, _, rfl, rfl, ev_uNil ⟨_, _, rfl, rfl, ev_uNil ⟨_, rfl, ?_, fun j e m => ∃ x y z, e = [.val (.scr ns), x, y, z], ⟨_, _, _, rfl⟩, ?_, ?_⟩⟩⟩⟩)))))))))))))))
  · show inR (max 1 (min 6 (ns.length : Int))) = true
    unfold inR
    rw [Bool.and_eq_true, decide_eq_true_eq, decide_eq_true_eq]
    omega
  · intro j x e m hx ⟨x1, x2, x3, ee⟩
    subst ee
    have hx' : (rng 0 (max 1 (min 6 (ns.length : Int))).toNat)[j]? = some x := hx
    obtain ⟨hj, hxx⟩ : j < 6 ∧ x = .int j := by
      unfold rng at hx'
      rw [List.getElem?_map] at hx'
      obtain ⟨q, hq, rfl⟩ := Option.map_eq_some_iff.mp hx'
      obtain ⟨h1, h2⟩ := List.getElem?_eq_some_iff.mp hq
      rw [List.length_range] at h1
      rw [List.getElem_range] at h2
      subst h2
      exact ⟨by omega, by rw [Int.zero_add]⟩
    subst hxx
    refine ⟨memOk_nil, _, rfl, ?_⟩
    refine ev_seq (ev_setv (ev_new (ev_call (ev_dCons (ev_var rfl ⟨_, _, rfl, ev_dCons (ev_var rfl ⟨_, _, rfl, ev_dNil ⟨rfl, (purse (by omega) (by omega)).imp fun w M1 ⟨em, a, b, ew, ha, hb, hb2⟩ => ?_⟩⟩)⟩)))))
    subst em ew
    refine ⟨_, rfl, _, rfl, ?_⟩
    have p0 : Pu (M1 ++ [.lst [.int a, .int b, .int 0]]) M1.length 0 := ⟨a, b, 0, by rw [List.getElem?_append_right (Nat.le_refl _), Nat.sub_self] <;> rfl, ha, hb, hb2, Int.le_refl _, Int.le_refl _⟩
    refine ev_for (ev_iR1 (ev_uCons (ev_c (ev_uNil ⟨2, rfl, by decide, fun i e m => Pu m M1.length (200 * i) ∧ ∃ z, e = [.val (.scr ns), .val (.int j), .val (.ref M1.length), z], ⟨up p0 (by omega), _, rfl⟩, ?_, ?_⟩))))
    · intro i y e m hy ⟨pi, z, ee⟩
      subst ee
      have hi : i < 2 := (List.getElem?_eq_some_iff.mp hy).1
      refine ⟨memOk_nil, _, rfl, ?_⟩
      refine ev_if (ev_not (ev_asT (ev_call (ev_dCons (ev_var rfl ⟨_, _, rfl, ev_dNil ⟨rfl, (right pi (by omega)).imp fun w M2 ⟨p2, ew⟩ => ?_⟩⟩)))))
      subst ew
      exact ⟨_, _, rfl, rfl, fun z => (by cases z), fun _ => ev_nop ⟨up p2 (by omega), _, rfl⟩⟩
    · intro e m ⟨_, z, ee⟩
      subst ee
      exact ⟨memOk_nil, _, _, _, rfl⟩
  · intro e m ⟨x1, x2, x3, ee⟩
    subst ee
    exact ⟨memOk_nil, ev_ret (ev_c ⟨_, _, rfl, rfl⟩)⟩
theorem good (ns : List Int) (_ : ns.length ≤ 63) : ∃ m, f_law [.scr ns] [] = .ok (.v (.bl true)) m := by
  obtain ⟨w, m, h, e⟩ := (law_ev (ns := ns)).get
  subst e
  exact ⟨m, h⟩
end K55
theorem PySem.Challenge.cw_owedafresh_k55_bills_that_are_none_holds : PySem.Challenge.rw_owedafresh_k55_bills_that_are_none.Holds := by
  exact K55.holds_of K55.good
