import PyProof.Rows.All
import Wide.All
import OpenK.AllK
import Wide.FinOn
import HandS.Base
import HandS.Call
import HandS.List
import HandS.Comp
import HandS.Dict
import HandS.Exc
import HandS.Wide
import HandS.Defaults
import HandS.Words
import HandS.IsInst
import HandS.CallSlots
import HandS.TryOnly
import HandS.TryMany
import HandS.Style
import HandS.Ends
import HandS.HeadEnd
import KE.KStateDown
import Lean
import HandS.More
import HandS.WordsExc
import HandS.Head0
import HandS.Head1
import HandS.Head2
import HandS.HeadHook1
import HandS.HeadHook2
import PySem.Challenge.RW_outleap_k70_inverse_and_compose
set_option Elab.async false
set_option linter.all false
set_option maxRecDepth 100000
set_option maxHeartbeats 0
set_option exponentiation.threshold 3000
namespace OB
open PySem PySem.Spec PyProof.Rows L2

/-! ## data -/
inductive D where
  | non | bl (b : Bool) | int (i : Int) | str (s : Str)
  | tup (xs : List D) | lst (xs : List D)
  | ins (c : Nat) (fs : List (Str × D))
  | ref (i : Nat)
  | ty (n : String)
  | fn (i : Nat)
  deriving Inhabited

/-- a mutable object -/
inductive MO where
  | lst (xs : List D) | dct (kvs : List (Key × D)) | ins (c : Nat) (fs : List (Str × D)) | dead
  deriving Inhabited
abbrev Mem := List MO
abbrev Env' := List (Option D)

inductive Res (A : Type) where
  | ok (a : A) (m : Mem) | exn (c : Nat) (fs : List (Str × D)) (m : Mem) | bad

def Res.bind {A B : Type} (r : Res A) (f : A → Mem → Res B) : Res B := match r with
  | .ok a m => f a m
  | .exn c fs m => .exn c fs m
  | .bad => .bad
theorem bind_ok {A B : Type} (a : A) (m : Mem) (f : A → Mem → Res B) : (Res.ok a m).bind f = f a m := rfl
theorem bind_exn {A B : Type} (c : Nat) (fs : List (Str × D)) (m : Mem) (f : A → Mem → Res B) : (Res.exn c fs m : Res A).bind f = .exn c fs m := rfl
theorem bind_bad {A B : Type} (f : A → Mem → Res B) : (Res.bad : Res A).bind f = .bad := rfl

/-! ## what a value stands for -/
/-- the fixed surroundings: the written part, classes' and functions' addresses -/
structure Sys where
  P : Program
  w : World
  K : PySem.W.Frag
  mg : Str → Option Value
  base : Heap
  cls : Nat → Addr
  fna : Nat → Addr

mutual
def Rep (S : Sys) (G : Hp) (α : List Addr) : D → V → Prop
  | .non, v => v = .non
  | .bl b, v => v = .bl b
  | .int i, v => v = .int i
  | .str s, v => v = .str s
  | .tup ds, v => ∃ a vs, v = .ref a ∧ SqT S.K G a vs ∧ Reps S G α ds vs
  | .lst ds, v => ∃ a vs, v = .ref a ∧ SqL S.K G a vs ∧ Reps S G α ds vs
  | .ins c fs, v => ∃ a dx vs, v = .ref a ∧ G a = some (.ins (S.cls c) dx vs) ∧ RepF S G α fs vs
  | .ref i, v => ∃ a, v = .ref a ∧ α[i]? = some a
  | .ty n, v => v = .ty n
  | .fn i, v => v = .ref (S.fna i)
def Reps (S : Sys) (G : Hp) (α : List Addr) : List D → List V → Prop
  | [], vs => vs = []
  | d :: ds, vs => ∃ v r, vs = v :: r ∧ Rep S G α d v ∧ Reps S G α ds r
def RepF (S : Sys) (G : Hp) (α : List Addr) : List (Str × D) → List (Str × V) → Prop
  | [], vs => vs = []
  | (x, d) :: ds, vs => ∃ v r, vs = (x, v) :: r ∧ Rep S G α d v ∧ RepF S G α ds r
end

section
variable {S : Sys} {G G' : Hp} {α α' : List Addr}
theorem SameT {K : PySem.W.Frag} {H H' : Hp} {a : Addr} {xs : List V} (e : Same H H') (h : SqT K H a xs) : SqT K H' a xs := by
  rcases h with h | h
  · rcases h with h | ⟨o, h⟩
    · exact .inl (.inl (e _ _ h))
    · exact .inl (.inr ⟨o, e _ _ h⟩)
  · exact .inr h
theorem SameR {H H' : Hp} {a : Addr} {u : HO} (e : Same H H') (h : Rd H a u) : Rd H' a u := by
  rcases h with h | ⟨o, h⟩
  · exact .inl (e _ _ h)
  · exact .inr ⟨o, e _ _ h⟩
theorem pre_get {α α' : List Addr} (h : α <+: α') {i : Nat} {a : Addr} (e : α[i]? = some a) : α'[i]? = some a := by
  obtain ⟨t, rfl⟩ := h
  rw [List.getElem?_append_left (List.getElem?_eq_some_iff.mp e).1]
  exact e
mutual
theorem Rep.mono (sg : Same G G') (sa : α <+: α') : ∀ (d : D) (v : V), Rep S G α d v → Rep S G' α' d v
  | .non, _, h => by rw [Rep] at h ⊢; exact h
  | .bl _, _, h => by rw [Rep] at h ⊢; exact h
  | .int _, _, h => by rw [Rep] at h ⊢; exact h
  | .str _, _, h => by rw [Rep] at h ⊢; exact h
  | .tup ds, _, h => by
    rw [Rep] at h ⊢
    obtain ⟨a, vs, e, h1, h2⟩ := h
    exact ⟨a, vs, e, SameT sg h1, Reps.mono sg sa ds vs h2⟩
  | .lst ds, _, h => by
    rw [Rep] at h ⊢
    obtain ⟨a, vs, e, h1, h2⟩ := h
    exact ⟨a, vs, e, sg.seq h1, Reps.mono sg sa ds vs h2⟩
  | .ins c fs, _, h => by
    rw [Rep] at h ⊢
    obtain ⟨a, dx, vs, e, h1, h2⟩ := h
    exact ⟨a, dx, vs, e, sg _ _ h1, RepF.mono sg sa fs vs h2⟩
  | .ref i, _, h => by
    rw [Rep] at h ⊢
    obtain ⟨a, e, h1⟩ := h
    exact ⟨a, e, pre_get sa h1⟩
  | .ty _, _, h => by rw [Rep] at h ⊢; exact h
  | .fn _, _, h => by rw [Rep] at h ⊢; exact h
theorem Reps.mono (sg : Same G G') (sa : α <+: α') : ∀ (ds : List D) (vs : List V), Reps S G α ds vs → Reps S G' α' ds vs
  | [], _, h => by rw [Reps] at h ⊢; exact h
  | d :: ds, _, h => by
    rw [Reps] at h ⊢
    obtain ⟨v, r, e, h1, h2⟩ := h
    exact ⟨v, r, e, Rep.mono sg sa d v h1, Reps.mono sg sa ds r h2⟩
theorem RepF.mono (sg : Same G G') (sa : α <+: α') : ∀ (ds : List (Str × D)) (vs : List (Str × V)), RepF S G α ds vs → RepF S G' α' ds vs
  | [], _, h => by rw [RepF] at h ⊢; exact h
  | (x, d) :: ds, _, h => by
    rw [RepF] at h ⊢
    obtain ⟨v, r, e, h1, h2⟩ := h
    exact ⟨v, r, e, Rep.mono sg sa d v h1, RepF.mono sg sa ds r h2⟩
end
theorem Reps.length : ∀ {ds : List D} {vs : List V}, Reps S G α ds vs → vs.length = ds.length
  | [], _, h => by rw [Reps] at h; rw [h]; rfl
  | d :: ds, _, h => by
    rw [Reps] at h
    obtain ⟨v, r, rfl, _, h2⟩ := h
    simp [Reps.length h2]
theorem Reps.get : ∀ {ds : List D} {vs : List V} {i : Nat} {d : D}, Reps S G α ds vs → ds[i]? = some d → ∃ v, vs[i]? = some v ∧ Rep S G α d v
  | [], _, _, _, _, e => by simp at e
  | d :: ds, _, 0, _, h, e => by
    rw [Reps] at h
    obtain ⟨v, r, rfl, h1, _⟩ := h
    simp at e; subst e
    exact ⟨v, rfl, h1⟩
  | d :: ds, _, i + 1, _, h, e => by
    rw [Reps] at h
    obtain ⟨v, r, rfl, _, h2⟩ := h
    obtain ⟨u, e1, e2⟩ := Reps.get (i := i) h2 (by simpa using e)
    exact ⟨u, by simpa using e1, e2⟩
theorem Reps.append : ∀ {ds es : List D} {vs us : List V}, Reps S G α ds vs → Reps S G α es us → Reps S G α (ds ++ es) (vs ++ us)
  | [], _, _, _, h, k => by rw [Reps] at h; subst h; exact k
  | d :: ds, _, _, _, h, k => by
    rw [Reps] at h
    obtain ⟨v, r, rfl, h1, h2⟩ := h
    rw [List.cons_append, Reps]
    exact ⟨v, _, rfl, h1, Reps.append h2 k⟩
theorem Reps.take : ∀ (n : Nat) {ds : List D} {vs : List V}, Reps S G α ds vs → Reps S G α (ds.take n) (vs.take n)
  | 0, _, _, _ => by rw [List.take_zero, List.take_zero, Reps]
  | _ + 1, [], _, h => by rw [Reps] at h; subst h; rw [List.take_nil, List.take_nil, Reps]
  | n + 1, d :: ds, _, h => by
    rw [Reps] at h
    obtain ⟨v, r, rfl, h1, h2⟩ := h
    rw [List.take_succ_cons, List.take_succ_cons, Reps]
    exact ⟨v, _, rfl, h1, Reps.take n h2⟩
theorem Reps.drop : ∀ (n : Nat) {ds : List D} {vs : List V}, Reps S G α ds vs → Reps S G α (ds.drop n) (vs.drop n)
  | 0, _, _, h => h
  | _ + 1, [], _, h => by rw [Reps] at h; subst h; rw [List.drop_nil, List.drop_nil, Reps]
  | n + 1, d :: ds, _, h => by
    rw [Reps] at h
    obtain ⟨v, r, rfl, h1, h2⟩ := h
    exact Reps.drop n h2
theorem Reps.one {d : D} {v : V} (h : Rep S G α d v) : Reps S G α [d] [v] := by
  rw [Reps]; exact ⟨v, [], rfl, h, by rw [Reps]⟩
theorem Reps.cons {d : D} {v : V} {ds : List D} {vs : List V} (h : Rep S G α d v) (k : Reps S G α ds vs) : Reps S G α (d :: ds) (v :: vs) := by
  rw [Reps]; exact ⟨v, vs, rfl, h, k⟩
theorem Reps.nil : Reps S G α [] [] := by rw [Reps]
theorem Reps.nil_iff {vs : List V} (h : Reps S G α [] vs) : vs = [] := by rw [Reps] at h; exact h
theorem Reps.cons_iff {d : D} {ds : List D} {vs : List V} (h : Reps S G α (d :: ds) vs) : ∃ v r, vs = v :: r ∧ Rep S G α d v ∧ Reps S G α ds r := by rw [Reps] at h; exact h
theorem Reps.set {d : D} {v : V} (h : Rep S G α d v) : ∀ {ds : List D} {vs : List V} (i : Nat), Reps S G α ds vs → Reps S G α (ds.set i d) (vs.set i v)
  | [], _, _, k => by rw [Reps] at k; subst k; simp [Reps]
  | e :: ds, _, 0, k => by
    rw [Reps] at k
    obtain ⟨u, r, rfl, _, h2⟩ := k
    exact Reps.cons h h2
  | e :: ds, _, i + 1, k => by
    rw [Reps] at k
    obtain ⟨u, r, rfl, h1, h2⟩ := k
    exact Reps.cons h1 (Reps.set h i h2)
theorem Reps.reverse : ∀ {ds : List D} {vs : List V}, Reps S G α ds vs → Reps S G α ds.reverse vs.reverse
  | [], _, k => by rw [Reps] at k; subst k; exact Reps.nil
  | e :: ds, _, k => by
    rw [Reps] at k
    obtain ⟨u, r, rfl, h1, h2⟩ := k
    rw [List.reverse_cons, List.reverse_cons]
    exact (Reps.reverse h2).append (Reps.one h1)
theorem RepF.look : ∀ {ds : List (Str × D)} {vs : List (Str × V)}, RepF S G α ds vs → ∀ x, (∀ d, ds.lookup x = some d → ∃ v, vs.lookup x = some v ∧ Rep S G α d v) ∧ (ds.lookup x = none → vs.lookup x = none)
  | [], _, h, x => by rw [RepF] at h; subst h; simp
  | (y, d) :: ds, _, h, x => by
    rw [RepF] at h
    obtain ⟨v, r, rfl, h1, h2⟩ := h
    obtain ⟨k1, k2⟩ := RepF.look h2 x
    cases e : x == y with
    | true => simp only [List.lookup, e]; exact ⟨fun _ q => by cases q; exact ⟨v, rfl, h1⟩, fun q => by cases q⟩
    | false => simp only [List.lookup, e]; exact ⟨k1, k2⟩
theorem RepF.length : ∀ {ds : List (Str × D)} {vs : List (Str × V)}, RepF S G α ds vs → vs.length = ds.length
  | [], _, h => by rw [RepF] at h; rw [h]; rfl
  | (x, d) :: ds, _, h => by
    rw [RepF] at h
    obtain ⟨v, r, rfl, _, h2⟩ := h
    simp [RepF.length h2]
def putD (f : Str) (d : D) : List (Str × D) → List (Str × D)
  | [] => [(f, d)]
  | (g, e) :: r => if g = f then (f, d) :: r else (g, e) :: putD f d r
end

/-! ## the state -/
/-- a dict's pairs -/
def RepK (S : Sys) (G : Hp) (α : List Addr) : List (Key × D) → List (Key × V) → Prop
  | [], vs => vs = []
  | (x, d) :: ds, vs => ∃ v r, vs = (x, v) :: r ∧ Rep S G α d v ∧ RepK S G α ds r
def MOk (S : Sys) (G H : Hp) (α : List Addr) (a : Addr) : MO → Prop
  | .lst ds => ∃ vs, H a = some (.lst vs) ∧ Reps S G α ds vs
  | .dct kvs => ∃ vs, H a = some (.dK vs) ∧ RepK S G α kvs vs
  | .ins c fs => ∃ dx vs, H a = some (.ins (S.cls c) dx vs) ∧ RepF S G α fs vs
  | .dead => True
def MO.live : MO → Bool
  | .dead => false
  | _ => true
/-- G: what stays as it is; T: what lies aside; μ's objects at α -/
structure Abs (S : Sys) (T G H : Hp) (α : List Addr) (μ : Mem) : Prop where
  same : Same G H
  aside : ∀ a o, T a = some o → H a = some o ∧ G a = none
  len : α.length = μ.length
  cell : ∀ (i : Nat) mo a, μ[i]? = some mo → α[i]? = some a → mo.live = true → G a = none ∧ T a = none ∧ MOk S G H α a mo
  inj : ∀ (i j : Nat) mo mo' a, μ[i]? = some mo → μ[j]? = some mo' → mo.live = true → mo'.live = true → α[i]? = some a → α[j]? = some a → i = j
def EnvR (S : Sys) (G : Hp) (α : List Addr) (ρ : Env') (σ : L2.St) : Prop := ρ.length = σ.length ∧ ∀ (i : Nat) d, ρ[i]? = some (some d) → ∃ v, σ[i]? = some (some v) ∧ Rep S G α d v
section
variable {S : Sys} {T G G' H H' : Hp} {α α' : List Addr} {μ : Mem} {ρ : Env'} {σ : L2.St}
theorem RepK.mono (sg : Same G G') (sa : α <+: α') : ∀ {ds : List (Key × D)} {vs : List (Key × V)}, RepK S G α ds vs → RepK S G' α' ds vs
  | [], _, h => by rw [RepK] at h ⊢; exact h
  | (x, d) :: ds, _, h => by
    rw [RepK] at h ⊢
    obtain ⟨v, r, e, h1, h2⟩ := h
    exact ⟨v, r, e, Rep.mono sg sa d v h1, RepK.mono sg sa h2⟩
theorem EnvR.mono (sg : Same G G') (sa : α <+: α') (h : EnvR S G α ρ σ) : EnvR S G' α' ρ σ := ⟨h.1, fun i d e => let ⟨v, e1, r⟩ := h.2 i d e; ⟨v, e1, r.mono sg sa _ _⟩⟩
theorem EnvR.set {d : D} {v : V} (h : EnvR S G α ρ σ) (i : Nat) (r : Rep S G α d v) : EnvR S G α (ρ.set i (some d)) (σ.set i (some v)) := by
  refine ⟨by simp [h.1], fun j e he => ?_⟩
  by_cases q : j = i
  · subst q
    have hj : j < ρ.length := by
      have := (List.getElem?_eq_some_iff.mp he).1
      simpa using this
    rw [List.getElem?_set_self hj] at he
    cases he
    exact ⟨v, List.getElem?_set_self (by rw [← h.1]; exact hj), r⟩
  · rw [List.getElem?_set_ne (Ne.symm q)] at he ⊢
    exact h.2 j e he
theorem MOk.mono (sg : Same G G') (sa : α <+: α') {a : Addr} {mo : MO} (h : MOk S G H α a mo) (e : H' a = H a) : MOk S G' H' α' a mo := by
  cases mo with
  | lst ds => obtain ⟨vs, h1, h2⟩ := h; exact ⟨vs, e.trans h1, Reps.mono sg sa _ _ h2⟩
  | dct kvs => obtain ⟨vs, h1, h2⟩ := h; exact ⟨vs, e.trans h1, RepK.mono sg sa h2⟩
  | ins c fs => obtain ⟨dx, vs, h1, h2⟩ := h; exact ⟨dx, vs, e.trans h1, RepF.mono sg sa _ _ h2⟩
  | dead => trivial
theorem Abs.there (A : Abs S T G H α μ) {i : Nat} {mo : MO} {a : Addr} (h : μ[i]? = some mo) (ha : α[i]? = some a) (l : mo.live = true) : ∃ o, H a = some o := by
  obtain ⟨_, _, m⟩ := A.cell i mo a h ha l
  cases mo with
  | lst ds => obtain ⟨vs, h1, _⟩ := m; exact ⟨_, h1⟩
  | dct kvs => obtain ⟨vs, h1, _⟩ := m; exact ⟨_, h1⟩
  | ins c fs => obtain ⟨dx, vs, h1, _⟩ := m; exact ⟨_, h1⟩
  | dead => cases l
theorem Abs.addr (A : Abs S T G H α μ) {i : Nat} {mo : MO} (h : μ[i]? = some mo) : ∃ a, α[i]? = some a := by
  have hi := (List.getElem?_eq_some_iff.mp h).1
  rw [← A.len] at hi
  exact ⟨α[i], List.getElem?_eq_getElem hi⟩
/-- a new object that will not change -/
theorem Abs.new (A : Abs S T G H α μ) {p : Addr} {o : HO} (np : H p = none) : Abs S T (upd G p o) (upd H p o) α μ ∧ Same G (upd G p o) := by
  have gp : G p = none := A.same.free np
  have sg : Same G (upd G p o) := fun b u e => by rw [upd_ne (ne_of_none e gp)]; exact e
  refine ⟨⟨fun b u e => ?_, fun b u e => ?_, A.len, fun i mo a h ha l => ?_, A.inj⟩, sg⟩
  · by_cases q : b = p
    · subst q; rw [upd_same] at e ⊢; exact e
    · rw [upd_ne q] at e ⊢; exact A.same _ _ e
  · obtain ⟨h1, h2⟩ := A.aside b u e
    have q : b ≠ p := ne_of_none h1 np
    rw [upd_ne q, upd_ne q]; exact ⟨h1, h2⟩
  · obtain ⟨u, hu⟩ := A.there h ha l
    have q : a ≠ p := ne_of_none hu np
    obtain ⟨h1, h2, h3⟩ := A.cell i mo a h ha l
    rw [upd_ne q]
    exact ⟨h1, h2, h3.mono sg (List.prefix_refl _) (upd_ne q)⟩
/-- a new object of the memory -/
theorem Abs.alloc (A : Abs S T G H α μ) {p : Addr} {o : HO} {mo : MO} (np : H p = none) (m : MOk S G (upd H p o) (α ++ [p]) p mo) : Abs S T G (upd H p o) (α ++ [p]) (μ ++ [mo]) := by
  have gp : G p = none := A.same.free np
  have tp : T p = none := by
    cases e : T p with
    | none => rfl
    | some u => rw [(A.aside p u e).1] at np; cases np
  have old : ∀ {i : Nat} {mo' : MO}, (μ ++ [mo])[i]? = some mo' → (i < μ.length ∧ μ[i]? = some mo') ∨ (i = μ.length ∧ mo' = mo) := fun {i mo'} h => by
    by_cases q : i < μ.length
    · rw [List.getElem?_append_left q] at h; exact .inl ⟨q, h⟩
    · rw [List.getElem?_append_right (by omega)] at h
      have : i - μ.length = 0 := by
        have := (List.getElem?_eq_some_iff.mp h).1
        simp at this; omega
      rw [this] at h
      simp at h
      exact .inr ⟨by omega, h.symm⟩
  have adr : ∀ {i : Nat} {a : Addr}, (α ++ [p])[i]? = some a → (i < μ.length ∧ α[i]? = some a) ∨ (i = μ.length ∧ a = p) := fun {i a} h => by
    rw [← A.len]
    by_cases q : i < α.length
    · rw [List.getElem?_append_left q] at h; exact .inl ⟨q, h⟩
    · rw [List.getElem?_append_right (by omega)] at h
      have : i - α.length = 0 := by
        have := (List.getElem?_eq_some_iff.mp h).1
        simp at this; omega
      rw [this] at h
      simp at h
      exact .inr ⟨by omega, h.symm⟩
  refine ⟨fun b u e => ?_, fun b u e => ?_, by simp [A.len], fun i mo' a h ha l => ?_, fun i j mo1 mo2 a h1 h2 l1 l2 a1 a2 => ?_⟩
  · rw [upd_ne (ne_of_none e gp)]; exact A.same _ _ e
  · obtain ⟨h1, h2⟩ := A.aside b u e
    rw [upd_ne (ne_of_none h1 np)]; exact ⟨h1, h2⟩
  · rcases old h with ⟨hi, h'⟩ | ⟨hi, rfl⟩
    · rcases adr ha with ⟨_, ha'⟩ | ⟨z, _⟩
      · obtain ⟨h1, h2, h3⟩ := A.cell i mo' a h' ha' l
        obtain ⟨u, hu⟩ := A.there h' ha' l
        exact ⟨h1, h2, h3.mono (Same.refl _) (List.prefix_append _ _) (upd_ne (ne_of_none hu np))⟩
      · omega
    · rcases adr ha with ⟨z, _⟩ | ⟨_, rfl⟩
      · omega
      · exact ⟨gp, tp, m⟩
  · rcases old h1 with ⟨i1, k1⟩ | ⟨i1, rfl⟩ <;> rcases old h2 with ⟨i2, k2⟩ | ⟨i2, rfl⟩
    · rcases adr a1 with ⟨_, b1⟩ | ⟨z, _⟩
      · rcases adr a2 with ⟨_, b2⟩ | ⟨z, _⟩
        · exact A.inj i j _ _ a k1 k2 l1 l2 b1 b2
        · omega
      · omega
    · rcases adr a1 with ⟨_, b1⟩ | ⟨z, _⟩
      · rcases adr a2 with ⟨z, _⟩ | ⟨_, rfl⟩
        · omega
        · obtain ⟨u, hu⟩ := A.there k1 b1 l1
          rw [np] at hu; cases hu
      · omega
    · rcases adr a2 with ⟨_, b2⟩ | ⟨z, _⟩
      · rcases adr a1 with ⟨z, _⟩ | ⟨_, rfl⟩
        · omega
        · obtain ⟨u, hu⟩ := A.there k2 b2 l2
          rw [np] at hu; cases hu
      · omega
    · omega
/-- an object of the memory is written -/
theorem Abs.write (A : Abs S T G H α μ) {i : Nat} {mo mo' : MO} {a : Addr} {o : HO} (h : μ[i]? = some mo) (ha : α[i]? = some a) (l : mo.live = true) (m : MOk S G (upd H a o) α a mo') : Abs S T G (upd H a o) α (μ.set i mo') := by
  obtain ⟨g1, t1, _⟩ := A.cell i mo a h ha l
  have hi := (List.getElem?_eq_some_iff.mp h).1
  have get : ∀ {j : Nat} {x : MO}, (μ.set i mo')[j]? = some x → (j = i ∧ x = mo') ∨ (j ≠ i ∧ μ[j]? = some x) := fun {j x} e => by
    by_cases q : j = i
    · subst q
      rw [List.getElem?_set_self hi] at e
      cases e
      exact .inl ⟨rfl, rfl⟩
    · rw [List.getElem?_set_ne (Ne.symm q)] at e
      exact .inr ⟨q, e⟩
  refine ⟨fun b u e => ?_, fun b u e => ?_, by simp [A.len], fun j x b e hb l' => ?_, fun j k x y b e1 e2 l1 l2 b1 b2 => ?_⟩
  · rw [upd_ne (ne_of_none e g1)]; exact A.same _ _ e
  · obtain ⟨h1, h2⟩ := A.aside b u e
    rw [upd_ne (ne_of_none e t1)]; exact ⟨h1, h2⟩
  · rcases get e with ⟨rfl, rfl⟩ | ⟨ne, e'⟩
    · rw [ha] at hb; cases hb
      exact ⟨g1, t1, m⟩
    · obtain ⟨h1, h2, h3⟩ := A.cell j x b e' hb l'
      have nab : b ≠ a := fun z => ne (A.inj j i x mo a e' h l' l (by rw [← z]; exact hb) ha)
      exact ⟨h1, h2, h3.mono (Same.refl _) (List.prefix_refl _) (upd_ne nab)⟩
  · rcases get e1 with ⟨rfl, rfl⟩ | ⟨n1, e1'⟩ <;> rcases get e2 with ⟨rfl, rfl⟩ | ⟨n2, e2'⟩
    · rfl
    · exact A.inj _ _ mo y b h e2' l l2 b1 b2
    · exact A.inj _ _ x mo b e1' h l1 l b1 b2
    · exact A.inj _ _ x y b e1' e2' l1 l2 b1 b2
end
end OB
namespace OB
open PySem PySem.Spec PyProof.Rows L2

/-! ## the small language -/
/-- built-in functions and types that are called -/
inductive Blt where
  | len | abs | all | any | list | tuple | sum | max | min | repr | str | int | sorted
  deriving DecidableEq
mutual
inductive Ex where
  | var (i : Nat)
  | int (i : Int) | bl (b : Bool) | non | str (s : String)
  | glob (x : String) (i : Int)
  | bin (op : Operator) (a b : Ex)
  | neg (a : Ex)
  | cmp (op : CmpOp) (a b : Ex)
  | chain (o1 o2 : CmpOp) (a b c : Ex)
  | and (a b : Ex) | or (a b : Ex) | not (a : Ex)
  | ite (t : Ts) (a b : Ex)
  | tup (es : Exs) | lst (es : Exs) | newl (es : Exs)
  | idx (a i : Ex)
  | slc (a : Ex) (lo hi : Oe)
  | call (f k : Nat) (es : Exs)
  | blt (f : Blt) (es : Exs)
  | isi (a : Ex) (tys : List String) (one : Bool)
  | lc (elt : Ex) (own : List Nat) (tg : Tg) (it : Iw) (ifs : Tss)
  | dget (d : Ex) (k : String)
  | disp (kvs : Kvs)
inductive Exs where
  | nil | cons (e : Ex) (r : Exs)
inductive Ts where
  | val (e : Ex) | not (t : Ts) | and (a b : Ts) | or (a b : Ts)
inductive Tss where
  | nil | one (t : Ts)
inductive Oe where
  | none | some (e : Ex)
inductive Iw where
  | lst (e : Ex) | tup (e : Ex) | rng1 (e : Ex) | rng2 (a b : Ex)
inductive Tg where
  | nm (i : Nat) | tup (ts : Tgs) | ltup (ts : Tgs)
inductive Tgs where
  | nil | cons (t : Tg) (r : Tgs)
inductive Kvs where
  | nil | cons (k : String) (e : Ex) (r : Kvs)
end
mutual
inductive Sm where
  | asg (t : Tg) (e : Ex)
  | par2 (i j : Nat) (a b : Ex)
  | expr (e : Ex)
  | ifs (c : Ts) (a b : Sms)
  | forr (t : Tg) (it : Iw) (b : Sms)
  | whl (c : Ts) (b : Sms)
  | ret (e : Ex) | retN
  | raise (c : Nat) (es : Exs)
  | brk | cnt | pass | nev
  | app (i : Nat) (e : Ex)
  | dset (d : Ex) (k : String) (e : Ex)
  | frz (i : Nat)
inductive Sms where
  | nil | cons (s : Sm) (r : Sms)
end

mutual
/-- the places that a target stores -/
def Tg.ix : Tg → List Nat
  | .nm i => [i]
  | .tup ts => Tgs.ix ts
  | .ltup ts => Tgs.ix ts
def Tgs.ix : Tgs → List Nat
  | .nil => []
  | .cons t r => Tg.ix t ++ Tgs.ix r
end

/-! ## data: what Python says of them -/
mutual
def D.toPy : D → Option PyData
  | .non => some .none
  | .bl b => some (.bool b)
  | .int i => some (.int i)
  | .str s => some (.str s)
  | .tup ds => (D.toPys ds).map .tuple
  | .lst ds => (D.toPys ds).map .list
  | .ins _ _ => none
  | .ref _ => none
  | .ty _ => none
  | .fn _ => none
def D.toPys : List D → Option (List PyData)
  | [] => some []
  | d :: ds => match D.toPy d with
    | none => none
    | some p => (D.toPys ds).map (p :: ·)
end
mutual
/-- every reference in it is below n -/
def D.lt (n : Nat) : D → Bool
  | .tup ds => D.lts n ds
  | .lst ds => D.lts n ds
  | .ins _ fs => D.ltf n fs
  | .ref i => decide (i < n)
  | _ => true
def D.lts (n : Nat) : List D → Bool
  | [] => true
  | d :: ds => D.lt n d && D.lts n ds
def D.ltf (n : Nat) : List (Str × D) → Bool
  | [] => true
  | (_, d) :: ds => D.lt n d && D.ltf n ds
end
def ltk (n : Nat) : List (Key × D) → Bool
  | [] => true
  | (_, d) :: ds => D.lt n d && ltk n ds
def MO.lt (n : Nat) : MO → Bool
  | .lst ds => D.lts n ds
  | .dct kvs => ltk n kvs
  | .ins _ fs => D.ltf n fs
  | .dead => true
def Mem.lt (n : Nat) : Mem → Bool
  | [] => true
  | m :: ms => m.lt n && Mem.lt n ms

/-- == -/
def eqD : D → D → Option Bool
  | .str x, .str y => some (decide (x = y))
  | a, b => match a.toPy, b.toPy with
    | some p, some q => if SeqAt.shaped p && SeqAt.shaped q then some (PyData.eqv p q) else none
    | _, _ => none
/-- repr of data -/
def reprD (a : D) : Option Str := match a.toPy with
  | some p => if p.showable && !p.hasDict && decide (p.shown.length ≤ sizeLine) && decide (p.depth ≤ 64) then some p.shown else none
  | none => none
def flatD : D → Bool
  | .non => true
  | .bl _ => true
  | .int _ => true
  | .str _ => true
  | _ => false
def eqF : D → D → Bool
  | .non, .non => true
  | .bl a, .bl b => a == b
  | .bl a, .int b => (if a then 1 else 0) == b
  | .int a, .bl b => a == (if b then 1 else 0)
  | .int a, .int b => a == b
  | .str a, .str b => a == b
  | _, _ => false
def isNon : D → Bool
  | .non => true
  | _ => false
/-- a product that the model's line allows -/
def mulOk (i j : Int) : Bool := (decide (-(2 ^ 64) < i) && decide (i < 2 ^ 64)) || (decide (-(2 ^ 64) < j) && decide (j < 2 ^ 64)) || decide (i.natAbs.log2 + j.natAbs.log2 < 1000000)
def divOk (j : Int) : Bool := decide (0 < j) && decide (j.natAbs.log2 < 9000)
def binD : Operator → D → D → Option D
  | .Add, .int i, .int j => some (.int (i + j))
  | .Add, .tup xs, .tup ys => if decide (xs ≠ []) && decide (ys ≠ []) && decide (xs.length + ys.length ≤ sizeLine) then some (.tup (xs ++ ys)) else none
  | .Add, .lst xs, .lst ys => if decide (xs.length + ys.length ≤ sizeLine) then some (.lst (xs ++ ys)) else none
  | .Add, .str x, .str y => if decide (x.length + y.length ≤ sizeLine) then some (.str (x ++ y)) else none
  | .Sub, .int i, .int j => some (.int (i - j))
  | .Mult, .int i, .int j => if mulOk i j then some (.int (i * j)) else none
  | .FloorDiv, .int i, .int j => if divOk j then some (.int (i / j)) else none
  | .Mod, .int i, .int j => if decide (0 < j) then some (.int (i % j)) else none
  | .Pow, .int i, .int j => if decide (0 ≤ j) && decide (j ≤ 1000000) && decide (i.natAbs < 2 ^ 64) then some (.int (i ^ j.toNat)) else none
  | _, _, _ => none
def cmpD : CmpOp → D → D → Option Bool
  | .Eq, a, b => eqD a b
  | .NotEq, a, b => (eqD a b).map (!·)
  | .Lt, .int i, .int j => some (decide (i < j))
  | .LtE, .int i, .int j => some (decide (i ≤ j))
  | .Gt, .int i, .int j => some (decide (j < i))
  | .GtE, .int i, .int j => some (decide (j ≤ i))
  | .Is, a, .non => some (isNon a)
  | .IsNot, a, .non => some (!isNon a)
  | .In, a, .lst xs => if flatD a && xs.all flatD then some (xs.any fun y => eqF y a) else none
  | .In, a, .tup xs => if flatD a && xs.all flatD then some (xs.any fun y => eqF y a) else none
  | .NotIn, a, .lst xs => if flatD a && xs.all flatD then some (!xs.any fun y => eqF y a) else none
  | .NotIn, a, .tup xs => if flatD a && xs.all flatD then some (!xs.any fun y => eqF y a) else none
  | _, _, _ => none
def truD (μ : Mem) : D → Option Bool
  | .non => some false
  | .bl b => some b
  | .int i => some (i != 0)
  | .str s => if decide (s.length ≤ sizeLine) then some (s.length != 0) else none
  | .lst xs => some (!xs.isEmpty)
  | .tup xs => some (!xs.isEmpty)
  | .ref i => match μ[i]? with
    | some (.lst xs) => some (!xs.isEmpty)
    | some (.dct kvs) => some (!kvs.isEmpty)
    | _ => none
  | _ => none
/-- the built-in type -/
def tyD : D → Option String
  | .non => some "NoneType"
  | .bl _ => some "bool"
  | .int _ => some "int"
  | .str _ => some "str"
  | .lst _ => some "list"
  | .tup _ => some "tuple"
  | _ => none
def isiD : String → String → Bool
  | "bool", "bool" => true
  | "bool", "int" => true
  | "int", "int" => true
  | "str", "str" => true
  | "list", "list" => true
  | "tuple", "tuple" => true
  | _, _ => false
def isiTypes : List String := ["bool", "int", "str", "list", "tuple", "dict"]
def idxD (a : D) (i : D) : Option D := match a, i with
  | .tup xs, .int i => atI xs i
  | .lst xs, .int i => atI xs i
  | _, _ => none
def cutL {A : Type} (xs : List A) (lo hi : Option Int) : List A := (xs.drop (HT.sIx xs.length 0 lo)).take (HT.sIx xs.length xs.length hi - HT.sIx xs.length 0 lo)
def slcD (a : D) (lo hi : Option Int) : Option D := match a with
  | .lst xs => some (.lst (cutL xs lo hi))
  | .tup xs => if HT.sIx xs.length 0 lo = 0 ∧ HT.sIx xs.length xs.length hi = xs.length then none else some (.tup (cutL xs lo hi))
  | _ => none
def intOf? : D → Option Int
  | .int i => some i
  | _ => none
def blOf? : D → Option Bool
  | .bl i => some i
  | _ => none
def absI (i : Int) : Int := if i < 0 then -i else i
def bltD (μ : Mem) : Blt → List D → Option D
  | .len, [.lst xs] => some (.int xs.length)
  | .len, [.tup xs] => some (.int xs.length)
  | .len, [.str s] => if decide (s.length ≤ sizeLine) then some (.int s.length) else none
  | .len, [.ref i] => match μ[i]? with
    | some (.lst xs) => some (.int xs.length)
    | _ => none
  | .abs, [.int i] => some (.int (absI i))
  | .all, [.lst xs] => (xs.mapM blOf?).map fun bs => .bl (bs.all id)
  | .any, [.lst xs] => (xs.mapM blOf?).map fun bs => .bl (bs.any id)
  | .list, [.lst xs] => some (.lst xs)
  | .list, [.tup xs] => some (.lst xs)
  | .tuple, [.lst xs] => some (.tup xs)
  | .tuple, [.tup xs] => some (.tup xs)
  | .sum, [.lst xs] => (xs.mapM intOf?).map fun bs => .int bs.sum
  | .max, [.int i, .int j] => some (.int (if j > i then j else i))
  | .min, [.int i, .int j] => some (.int (if j < i then j else i))
  | .repr, [d] => (reprD d).map .str
  | _, _ => none
def keyS (k : String) : Key := Sum.inr (Str.ofString k)
def valD (kvs : List (Key × D)) (k : Key) : Option D := (kvs.find? fun kv => decide (kv.1 = k)).map (·.2)
def putKD (kvs : List (Key × D)) (k : Key) (d : D) : List (Key × D) :=
  if kvs.any fun kv => decide (kv.1 = k) then kvs.map fun kv => if kv.1 = k then (kv.1, d) else kv else kvs ++ [(k, d)]
def wipeD (ρ : Env') : List Nat → Env'
  | [] => ρ
  | v :: vs => (wipeD ρ vs).set v none
def rangeD (lo : Int) (n : Nat) : List D := (List.range n).map fun (i : Nat) => D.int (lo + (i : Int))

/-! ## the evaluator -/
def lift {A : Type} (o : Option A) (m : Mem) : Res A := match o with
  | some a => .ok a m
  | none => .bad
inductive SR where
  | nx (ρ : Env') (m : Mem) | rt (d : D) (m : Mem) | bk (ρ : Env') (m : Mem) | ct (ρ : Env') (m : Mem)
  | exn (ρ : Env') (c : Nat) (fs : List (Str × D)) (m : Mem) | bad
/-- a comprehension's turns -/
def lcLoop (g : D → Env' → Mem → Res Env') (t : Env' → Mem → Res Bool) (e : Env' → Mem → Res D) (ρ : Env') : List D → List D → Mem → Res (List D)
  | [], acc, μ => .ok acc μ
  | x :: xs, acc, μ => match g x ρ μ with
    | .ok ρ1 μ1 => match t ρ1 μ1 with
      | .ok true μ2 => match e ρ1 μ2 with
        | .ok d μ3 => if acc.length < sizeLine then lcLoop g t e ρ xs (acc ++ [d]) μ3 else .bad
        | _ => .bad
      | .ok false μ2 => lcLoop g t e ρ xs acc μ2
      | _ => .bad
    | _ => .bad
/-- the def's semantics by number -/
abbrev Fns := Nat → List D → Mem → Res D
section
variable (Φ : Fns)
mutual
def evE : Ex → Env' → Mem → Res D
  | .var i, ρ, μ => match ρ[i]? with
    | some (some d) => .ok d μ
    | _ => .bad
  | .int i, _, μ => .ok (.int i) μ
  | .bl b, _, μ => .ok (.bl b) μ
  | .non, _, μ => .ok .non μ
  | .str s, _, μ => .ok (.str (Str.ofString s)) μ
  | .glob _ i, _, μ => .ok (.int i) μ
  | .bin op a b, ρ, μ => (evE a ρ μ).bind fun x μ1 => (evE b ρ μ1).bind fun y μ2 => lift (binD op x y) μ2
  | .neg a, ρ, μ => (evE a ρ μ).bind fun x μ1 => lift ((intOf? x).map fun i => .int (-i)) μ1
  | .cmp op a b, ρ, μ => (evE a ρ μ).bind fun x μ1 => (evE b ρ μ1).bind fun y μ2 => lift ((cmpD op x y).map .bl) μ2
  | .chain o1 o2 a b c, ρ, μ => (evE a ρ μ).bind fun x μ1 => (evE b ρ μ1).bind fun y μ2 => match cmpD o1 x y with
    | some true => (evE c ρ μ2).bind fun z μ3 => lift ((cmpD o2 y z).map .bl) μ3
    | some false => .ok (.bl false) μ2
    | none => .bad
  | .and a b, ρ, μ => (evE a ρ μ).bind fun x μ1 => match x with
    | .bl true => evE b ρ μ1
    | .bl false => .ok (.bl false) μ1
    | _ => .bad
  | .or a b, ρ, μ => (evE a ρ μ).bind fun x μ1 => match x with
    | .bl false => evE b ρ μ1
    | .bl true => .ok (.bl true) μ1
    | _ => .bad
  | .not a, ρ, μ => (evE a ρ μ).bind fun x μ1 => lift ((blOf? x).map fun b => .bl (!b)) μ1
  | .ite t a b, ρ, μ => (evT t ρ μ).bind fun c μ1 => if c = true then evE a ρ μ1 else evE b ρ μ1
  | .tup es, ρ, μ => (evEs es ρ μ).bind fun xs μ1 => if xs.length ≤ sizeLine then .ok (.tup xs) μ1 else .bad
  | .lst es, ρ, μ => (evEs es ρ μ).bind fun xs μ1 => if xs.length ≤ sizeLine then .ok (.lst xs) μ1 else .bad
  | .newl es, ρ, μ => (evEs es ρ μ).bind fun xs μ1 => if xs.length ≤ sizeLine then .ok (.ref μ1.length) (μ1 ++ [.lst xs]) else .bad
  | .idx a i, ρ, μ => (evE a ρ μ).bind fun x μ1 => (evE i ρ μ1).bind fun y μ2 => lift (idxD x y) μ2
  | .slc a lo hi, ρ, μ => (evE a ρ μ).bind fun x μ1 => (evO lo ρ μ1).bind fun l μ2 => (evO hi ρ μ2).bind fun h μ3 => lift (slcD x l h) μ3
  | .call f k es, ρ, μ => (evEs es ρ μ).bind fun xs μ1 => if (decide (k ≤ μ1.length) && D.lts k xs && Mem.lt k (μ1.take k)) = true then (match Φ f xs (μ1.take k) with
    | .ok d μ2 => if μ2.length = k then .ok d (μ2 ++ μ1.drop k) else if k = μ1.length then .ok d μ2 else .bad
    | .exn c fs μ2 => if μ2.length = k then .exn c fs (μ2 ++ μ1.drop k) else .bad
    | .bad => .bad) else .bad
  | .blt f es, ρ, μ => (evEs es ρ μ).bind fun xs μ1 => lift (bltD μ1 f xs) μ1
  | .isi a tys _, ρ, μ => (evE a ρ μ).bind fun x μ1 => lift ((tyD x).map fun t => .bl (tys.any (isiD t))) μ1
  | .lc elt own tg it ifs, ρ, μ => (evI it ρ μ).bind fun xs μ1 => match lcLoop (evG tg) (evC ifs) (evE elt) (wipeD ρ own) xs [] μ1 with
    | .ok ds μ2 => .ok (.lst ds) μ2
    | _ => .bad
  | .dget d k, ρ, μ => (evE d ρ μ).bind fun x μ1 => match x with
    | .ref i => match μ1[i]? with
      | some (.dct kvs) => lift (valD kvs (keyS k)) μ1
      | _ => .bad
    | _ => .bad
  | .disp kvs, ρ, μ => (evK kvs ρ (μ ++ [.dct []])).bind fun ps μ1 => match μ1[μ.length]? with
    | some (.dct []) => if ps.length ≤ 15 then .ok (.ref μ.length) (μ1.set μ.length (.dct (ps.foldl (fun m kv => putKD m kv.1 kv.2) []))) else .bad
    | _ => .bad
def evEs : Exs → Env' → Mem → Res (List D)
  | .nil, _, μ => .ok [] μ
  | .cons e r, ρ, μ => (evE e ρ μ).bind fun x μ1 => (evEs r ρ μ1).bind fun xs μ2 => .ok (x :: xs) μ2
def evT : Ts → Env' → Mem → Res Bool
  | .val e, ρ, μ => (evE e ρ μ).bind fun x μ1 => lift (truD μ1 x) μ1
  | .not t, ρ, μ => (evT t ρ μ).bind fun b μ1 => .ok (!b) μ1
  | .and a b, ρ, μ => (evT a ρ μ).bind fun c μ1 => if c = true then evT b ρ μ1 else .ok false μ1
  | .or a b, ρ, μ => (evT a ρ μ).bind fun c μ1 => if c = true then .ok true μ1 else evT b ρ μ1
def evC : Tss → Env' → Mem → Res Bool
  | .nil, _, μ => .ok true μ
  | .one t, ρ, μ => evT t ρ μ
def evO : Oe → Env' → Mem → Res (Option Int)
  | .none, _, μ => .ok none μ
  | .some e, ρ, μ => (evE e ρ μ).bind fun x μ1 => lift ((intOf? x).map some) μ1
def evI : Iw → Env' → Mem → Res (List D)
  | .lst e, ρ, μ => (evE e ρ μ).bind fun x μ1 => match x with
    | .lst xs => .ok xs μ1
    | _ => .bad
  | .tup e, ρ, μ => (evE e ρ μ).bind fun x μ1 => match x with
    | .tup xs => .ok xs μ1
    | _ => .bad
  | .rng1 e, ρ, μ => (evE e ρ μ).bind fun x μ1 => match x with
    | .int j => if -(2 ^ 62) ≤ j ∧ j < 2 ^ 62 then .ok (rangeD 0 j.toNat) μ1 else .bad
    | _ => .bad
  | .rng2 a b, ρ, μ => (evE a ρ μ).bind fun x μ1 => (evE b ρ μ1).bind fun y μ2 => match x, y with
    | .int i, .int j => if (-(2 ^ 62) ≤ i ∧ i < 2 ^ 62) ∧ (-(2 ^ 62) ≤ j ∧ j < 2 ^ 62) then .ok (rangeD i (j - i).toNat) μ2 else .bad
    | _, _ => .bad
def evG : Tg → D → Env' → Mem → Res Env'
  | .nm i, d, ρ, μ => .ok (ρ.set i (some d)) μ
  | .tup ts, d, ρ, μ => match d with
    | .tup xs => evGs ts xs ρ μ
    | _ => .bad
  | .ltup ts, d, ρ, μ => match d with
    | .lst xs => evGs ts xs ρ μ
    | _ => .bad
def evGs : Tgs → List D → Env' → Mem → Res Env'
  | .nil, ds, ρ, μ => match ds with
    | [] => .ok ρ μ
    | _ => .bad
  | .cons t r, ds, ρ, μ => match ds with
    | d :: ds => (evG t d ρ μ).bind fun ρ1 μ1 => evGs r ds ρ1 μ1
    | [] => .bad
def evK : Kvs → Env' → Mem → Res (List (Key × D))
  | .nil, _, μ => .ok [] μ
  | .cons k e r, ρ, μ => (evE e ρ μ).bind fun x μ1 => (evK r ρ μ1).bind fun ps μ2 => .ok ((keyS k, x) :: ps) μ2
end
end
def Res.toS {A : Type} (ρ : Env') (r : Res A) (f : A → Mem → SR) : SR := match r with
  | .ok a m => f a m
  | .exn c fs m => .exn ρ c fs m
  | .bad => .bad
def forLoop (g : D → Env' → Mem → Res Env') (b : Env' → Mem → SR) : List D → Env' → Mem → SR
  | [], ρ, μ => .nx ρ μ
  | x :: xs, ρ, μ => match g x ρ μ with
    | .ok ρ1 μ1 => match b ρ1 μ1 with
      | .nx ρ2 μ2 => forLoop g b xs ρ2 μ2
      | .ct ρ2 μ2 => forLoop g b xs ρ2 μ2
      | .bk ρ2 μ2 => .nx ρ2 μ2
      | r => r
    | _ => .bad
def whileN (t : Env' → Mem → Res Bool) (b : Env' → Mem → SR) : Nat → Env' → Mem → SR
  | 0, _, _ => .bad
  | n + 1, ρ, μ => match t ρ μ with
    | .ok true μ1 => match b ρ μ1 with
      | .nx ρ2 μ2 => whileN t b n ρ2 μ2
      | .ct ρ2 μ2 => whileN t b n ρ2 μ2
      | .bk ρ2 μ2 => .nx ρ2 μ2
      | r => r
    | .ok false μ1 => .nx ρ μ1
    | .exn c fs m => .exn ρ c fs m
    | .bad => .bad
open Classical in
noncomputable def whileL (t : Env' → Mem → Res Bool) (b : Env' → Mem → SR) (ρ : Env') (μ : Mem) : SR :=
  if h : ∃ n, whileN t b n ρ μ ≠ .bad then whileN t b (choose h) ρ μ else .bad
section
variable (Φ : Fns)
mutual
noncomputable def evS : Sm → Env' → Mem → SR
  | .asg t e, ρ, μ => (evE Φ e ρ μ).toS ρ fun d μ1 => (evG Φ t d ρ μ1).toS ρ fun ρ1 μ2 => .nx ρ1 μ2
  | .par2 i j a b, ρ, μ => (evE Φ a ρ μ).toS ρ fun x μ1 => (evE Φ b ρ μ1).toS ρ fun y μ2 => .nx ((ρ.set i (some x)).set j (some y)) μ2
  | .expr e, ρ, μ => (evE Φ e ρ μ).toS ρ fun _ μ1 => .nx ρ μ1
  | .ifs c a b, ρ, μ => (evT Φ c ρ μ).toS ρ fun k μ1 => if k = true then evSs a ρ μ1 else evSs b ρ μ1
  | .forr t it b, ρ, μ => (evI Φ it ρ μ).toS ρ fun xs μ1 => forLoop (evG Φ t) (evSs b) xs ρ μ1
  | .whl c b, ρ, μ => whileL (evT Φ c) (evSs b) ρ μ
  | .ret e, ρ, μ => (evE Φ e ρ μ).toS ρ fun d μ1 => .rt d μ1
  | .retN, _, μ => .rt .non μ
  | .raise c es, ρ, μ => (evEs Φ es ρ μ).toS ρ fun xs μ1 => match xs with
    | [x] => .exn ρ c [(Str.ofString "value", x)] μ1
    | _ => .bad
  | .brk, ρ, μ => .bk ρ μ
  | .cnt, ρ, μ => .ct ρ μ
  | .pass, ρ, μ => .nx ρ μ
  | .nev, _, _ => .bad
  | .app i e, ρ, μ => match ρ[i]? with
    | some (some (.ref j)) => match μ[j]? with
      | some (.lst _) => (evE Φ e ρ μ).toS ρ fun x μ1 => match μ1[j]? with
        | some (.lst xs) => if xs.length < sizeLine then .nx ρ (μ1.set j (.lst (xs ++ [x]))) else .bad
        | _ => .bad
      | _ => .bad
    | _ => .bad
  | .dset d k e, ρ, μ => (evE Φ e ρ μ).toS ρ fun x μ1 => (evE Φ d ρ μ1).toS ρ fun o μ2 => match o with
    | .ref j => match μ2[j]? with
      | some (.dct kvs) => if kvs.length < sizeLine then .nx ρ (μ2.set j (.dct (putKD kvs (keyS k) x))) else .bad
      | _ => .bad
    | _ => .bad
  | .frz i, ρ, μ => match ρ[i]? with
    | some (some (.ref j)) => match μ[j]? with
      | some (.lst xs) => .nx (ρ.set i (some (.lst xs))) (μ.set j .dead)
      | _ => .bad
    | _ => .bad
noncomputable def evSs : Sms → Env' → Mem → SR
  | .nil, ρ, μ => .nx ρ μ
  | .cons s r, ρ, μ => match evS s ρ μ with
    | .nx ρ1 μ1 => evSs r ρ1 μ1
    | x => x
end
end
structure FD where
  np : Nat
  ns : Nat
  body : Sms
def fin (n : Nat) (d : D) (μ : Mem) : Res D := if n ≤ μ.length && d.lt n && Mem.lt n (μ.take n) then .ok d (μ.take n) else if n ≤ μ.length then .ok d μ else .bad
def finX (n : Nat) (c : Nat) (fs : List (Str × D)) (μ : Mem) : Res D := if n ≤ μ.length && D.ltf n fs && Mem.lt n (μ.take n) then .exn c fs (μ.take n) else .bad
noncomputable def runF (Φ : Fns) (f : FD) (args : List D) (μ : Mem) : Res D :=
  if args.length = f.np then (match evSs Φ f.body (args.map some ++ List.replicate (f.ns - f.np) none) μ with
    | .nx _ m => fin μ.length .non m
    | .rt d m => fin μ.length d m
    | .exn _ c fs m => finX μ.length c fs m
    | _ => .bad) else .bad
end OB
namespace OB
open PySem PySem.Spec PyProof.Rows L2

/-! ## judgements over the data -/
theorem PEimp {X : Cx} {e : Expr} {t t' : TE} (h : PE X e t) (i : ∀ σ H Q, t' σ H Q → t σ H Q) : PE X e t' := ⟨fun pins s σ H Q I q => h.run pins s σ H Q I (i σ H Q q)⟩
theorem PTimp {X : Cx} {e : Expr} {t t' : TT} (h : PT X e t) (i : ∀ σ H Q, t' σ H Q → t σ H Q) : PT X e t' := ⟨fun pins s σ H Q I q => h.run pins s σ H Q I (i σ H Q q)⟩
theorem PWimp {X : Cx} {e : Expr} {t t' : TT} (h : PW X e t) (i : ∀ σ H Q, t' σ H Q → t σ H Q) : PW X e t' := ⟨fun wh pins s σ H Q I q => h.run wh pins s σ H Q I (i σ H Q q)⟩
theorem PAimp {X : Cx} {e : List Expr} {t t' : TA} (h : PA X e t) (i : ∀ σ H Q, t' σ H Q → t σ H Q) : PA X e t' := ⟨fun pos pins s σ H Q I q => h.run pos pins s σ H Q I (i σ H Q q)⟩
theorem PSimp {X : Cx} {e : Stmt} {t t' : TS} (h : PS X e t) (i : ∀ D σ H, t' D σ H → t D σ H) : PS X e t' := ⟨fun pins s σ H D I q => h.run pins s σ H D I (i D σ H q)⟩
theorem PSsimp {X : Cx} {e : List Stmt} {t t' : TS} (h : PSs X e t) (i : ∀ D σ H, t' D σ H → t D σ H) : PSs X e t' := ⟨fun pins s σ H D I q => h.run pins s σ H D I (i D σ H q)⟩
theorem POimp {X : Cx} {e : Option Expr} {t t' : TO} (h : PO X e t) (i : ∀ σ H Q, t' σ H Q → t σ H Q) : PO X e t' := ⟨fun pins s σ H Q I q => h.run pins s σ H Q I (i σ H Q q)⟩
theorem PIimp {X : Cx} {tg e : Expr} {t t' : TI} (h : PI X tg e t) (i : ∀ σ H Q, t' σ H Q → t σ H Q) : PI X tg e t' := ⟨fun pins s σ H Q I q => h.run pins s σ H Q I (i σ H Q q)⟩
theorem PGimp {X : Cx} {tg : Expr} {t t' : TG} (h : PG X tg t) (i : ∀ v σ H Q, t' v σ H Q → t v σ H Q) : PG X tg t' := ⟨fun pins s σ H v u Q I r q => h.run pins s σ H v u Q I r (i v σ H Q q)⟩
theorem PGsimp {X : Cx} {tg : List Expr} {t t' : TGs} (h : PGs X tg t) (i : ∀ v σ H Q, t' v σ H Q → t v σ H Q) : PGs X tg t' := ⟨fun pins s σ H v u Q I r q => h.run pins s σ H v u Q I r (i v σ H Q q)⟩

section
variable (S : Sys) (T G : Hp) (α : List Addr)
abbrev RelA (A B : Type) := Hp → List Addr → A → B → Prop
/-- what is wanted behind a result -/
def Post {A B : Type} (R : RelA A B) (r : Res A) (Q : B → Hp → Prop) (E : XK) : Prop := match r with
  | .ok a μ' => ∀ G' α' H' b, Same G G' → α <+: α' → Abs S T G' H' α' μ' → R G' α' a b → Q b H'
  | .exn c fs μ' => ∀ G' α' H' a vs, Same G G' → α <+: α' → Abs S T G' H' α' μ' → H' a = some (.xd vs) → RepF S G' α' fs vs → E (.ref (S.cls c)) (some a) H'
  | .bad => False
end
section
variable {S : Sys} {T G G' H H' : Hp} {α α' : List Addr} {μ : Mem} {ρ : Env'} {σ : L2.St} {A B A2 B2 : Type} {R : RelA A B} {R2 : RelA A2 B2} {E : XK}
theorem Post.mono {r : Res A} {Q : B → Hp → Prop} (h : Post S T G α R r Q E) (sg : Same G G') (sa : α <+: α') : Post S T G' α' R r Q E := by
  cases r with
  | ok a m => exact fun G2 α2 H2 b s1 s2 A1 r1 => h G2 α2 H2 b (sg.trans s1) (sa.trans s2) A1 r1
  | exn c fs m => exact fun G2 α2 H2 a vs s1 s2 A1 e r1 => h G2 α2 H2 a vs (sg.trans s1) (sa.trans s2) A1 e r1
  | bad => exact h
/-- a result's part first -/
theorem Post.step {r : Res A} {f : A → Mem → Res A2} {Q : B2 → Hp → Prop} {Q' : B → Hp → Prop} (h : Post S T G α R2 (r.bind f) Q E)
    (k : ∀ a μ1 G1 α1 H1 b, Same G G1 → α <+: α1 → Abs S T G1 H1 α1 μ1 → R G1 α1 a b → Post S T G1 α1 R2 (f a μ1) Q E → Q' b H1) : Post S T G α R r Q' E := by
  cases r with
  | ok a m => exact fun G2 α2 H2 b s1 s2 A1 r1 => k a m G2 α2 H2 b s1 s2 A1 r1 (Post.mono h s1 s2)
  | exn c fs m => exact h
  | bad => exact h
theorem Post.imp {r : Res A} {Q Q' : B → Hp → Prop} (h : Post S T G α R r Q E) (k : ∀ b H', Q b H' → Q' b H') : Post S T G α R r Q' E := by
  cases r with
  | ok a m => exact fun G2 α2 H2 b s1 s2 A1 r1 => k _ _ (h G2 α2 H2 b s1 s2 A1 r1)
  | exn c fs m => exact h
  | bad => exact h
/-- the result is there -/
theorem Post.here {a : A} {b : B} {Q : B → Hp → Prop} (h : Post S T G α R (.ok a μ) Q E) (Ab : Abs S T G H α μ) (r : R G α a b) : Q b H := h G α H b (Same.refl _) (List.prefix_refl _) Ab r
theorem Post.at {a : A} {b : B} {Q : B → Hp → Prop} (h : Post S T G α R (.ok a μ) Q E) (sg : Same G G') (Ab : Abs S T G' H α μ) (r : R G' α a b) : Q b H := h G' α H b sg (List.prefix_refl _) Ab r
theorem Post.lift {o : Option A} {Q : B → Hp → Prop} (h : Post S T G α R (lift o μ) Q E) : ∃ a, o = some a ∧ Post S T G α R (.ok a μ) Q E := by
  cases o with
  | none => exact h.elim
  | some a => exact ⟨a, rfl, h⟩
end
abbrev RD (S : Sys) : RelA D V := fun G α d v => Rep S G α d v
abbrev RDs (S : Sys) : RelA (List D) (List V) := fun G α d v => Reps S G α d v
abbrev REq (A : Type) : RelA A A := fun _ _ a b => a = b

/-! ## the readings -/
section
variable (S : Sys) (Φ : Fns) (W : WX)
def tE (ir : Ex) : TE := fun σ H Q => ∃ T G α μ ρ, Abs S T G H α μ ∧ EnvR S G α ρ σ ∧ Post S T G α (RD S) (evE Φ ir ρ μ) Q (fun c d H' => W c d σ H')
def tEs (ir : Exs) : TA := fun σ H Q => ∃ T G α μ ρ, Abs S T G H α μ ∧ EnvR S G α ρ σ ∧ Post S T G α (RDs S) (evEs Φ ir ρ μ) Q (fun c d H' => W c d σ H')
def tTs (ir : Ts) : TT := fun σ H Q => ∃ T G α μ ρ, Abs S T G H α μ ∧ EnvR S G α ρ σ ∧ Post S T G α (REq Bool) (evT Φ ir ρ μ) Q (fun c d H' => W c d σ H')
def tCs (ir : Tss) : TT := fun σ H Q => ∃ T G α μ ρ, Abs S T G H α μ ∧ EnvR S G α ρ σ ∧ Post S T G α (REq Bool) (evC Φ ir ρ μ) Q (fun c d H' => W c d σ H')
def tOe (ir : Oe) : TO := fun σ H Q => ∃ T G α μ ρ, Abs S T G H α μ ∧ EnvR S G α ρ σ ∧ Post S T G α (REq (Option Int)) (evO Φ ir ρ μ) Q (fun c d H' => W c d σ H')
end
/-- the iterator J yields the data -/
def Walks (S : Sys) : RelA (List D) L2.It := fun G α ds J => ∀ T G1 α1 H μ, Same G G1 → α <+: α1 → Abs S T G1 H α1 μ →
  (∀ (i : Nat) d, ds[i]? = some d → J.go i H ∧ ∀ x H', J.yld i H x H' → ∃ G2, Same G1 G2 ∧ Abs S T G2 H' α1 μ ∧ Rep S G2 α1 d x) ∧ J.stop ds.length H
end OB
namespace OB
open PySem PySem.Spec PyProof.Rows L2

/-! ## does the small text say what the program's text says -/
structure Tb where
  fn : List (Str × Nat)
  gi : List (Str × Int)
  fv : List Str
  cl : List Str
structure Wh where
  N : List Str
  sc : Scope
  fa : Bool
  k : Nat
def dunder (x : Str) : Bool := (x == ("__debug__" : Str)) || (x == ("__classdict__" : Str)) || decide (x = ("__name__" : Str))
def visB (sc : Scope) (x : Str) : Bool := match sc.names.lookup x with
  | some .local => true
  | some .cell => true
  | some .free => true
  | _ => false
def glB (sc : Scope) (x : Str) : Bool := decide (sc.names.lookup x = some .globalImplicit)
def locB (sc : Scope) (x : Str) : Bool := decide (sc.names.lookup x = some .local)
def stoB (wh : Wh) (i : Nat) (x : Str) : Bool := decide (wh.N[i]? = some x) && !dunder x && (locB wh.sc x || (wh.fa && decide (wh.sc.names.lookup x = some .cell)))
def bltN (tb : Tb) (sc : Scope) (x : Str) : Bool := glB sc x && tb.fv.contains x && !dunder x
def Blt.name : Blt → String
  | .len => "len" | .abs => "abs" | .all => "all" | .any => "any" | .list => "list" | .tuple => "tuple" | .sum => "sum" | .max => "max" | .min => "min"
  | .repr => "repr" | .str => "str" | .int => "int" | .sorted => "sorted"
def ownP (wh : Wh) (own : List Nat) : List (Str × Nat) := own.map fun i => (wh.N.getD i (Str.ofString ""), i)
def Wh.blk (wh : Wh) (scope : Scope) : Wh := ⟨wh.N, relS scope wh.sc, false, wh.k⟩
def plainB : Expr → Bool
  | .Starred .. => false
  | .ListComp .. => true
  | _ => true
def tyNames (tb : Tb) (sc : Scope) : List Expr → List String → Bool
  | [], [] => true
  | .Name x _ :: es, t :: ts => decide (x = Str.ofString t) && bltN tb sc x && isiTypes.contains t && tyNames tb sc es ts
  | _, _ => false
section
variable (tb : Tb)
mutual
def chkE : Wh → Ex → Expr → Bool
  | wh, .var i, e => match e with
    | .Name x _ => decide (wh.N[i]? = some x) && visB wh.sc x && !dunder x
    | _ => false
  | _, .int i, e => match e with
    | .Constant (.int j) _ _ => decide (i = j)
    | _ => false
  | _, .bl b, e => match e with
    | .Constant (.bool c) _ _ => b == c
    | _ => false
  | _, .non, e => match e with
    | .Constant .none _ _ => true
    | _ => false
  | _, .str s, e => match e with
    | .Constant (.str z) _ _ => decide (Str.ofString s = z)
    | _ => false
  | wh, .glob s i, e => match e with
    | .Name x _ => decide (x = Str.ofString s) && glB wh.sc x && tb.gi.contains (x, i) && !dunder x
    | _ => false
  | wh, .bin op a b, e => match e with
    | .BinOp x o y _ => decide (op = o) && chkE wh a x && chkE wh b y
    | _ => false
  | wh, .neg a, e => match e with
    | .UnaryOp .USub x _ => chkE wh a x
    | _ => false
  | wh, .cmp op a b, e => match e with
    | .Compare x [o] [y] _ => decide (op = o) && !behindInMarks op y && chkE wh a x && chkE wh b y
    | _ => false
  | wh, .chain o1 o2 a b c, e => match e with
    | .Compare x [p1, p2] [y, z] _ => decide (o1 = p1) && decide (o2 = p2) && decide (o1 ≠ .In) && decide (o1 ≠ .NotIn) && decide (o2 ≠ .In) && decide (o2 ≠ .NotIn) && chkE wh a x && chkE wh b y && chkE wh c z
    | _ => false
  | wh, .and a b, e => match e with
    | .BoolOp .And (x :: y :: r) p => chkE wh a x && (match r with
      | [] => chkE wh b y
      | _ => chkE wh b (.BoolOp .And (y :: r) p))
    | _ => false
  | wh, .or a b, e => match e with
    | .BoolOp .Or (x :: y :: r) p => chkE wh a x && (match r with
      | [] => chkE wh b y
      | _ => chkE wh b (.BoolOp .Or (y :: r) p))
    | _ => false
  | wh, .not a, e => match e with
    | .UnaryOp .Not x _ => chkE wh a x
    | _ => false
  | wh, .ite t a b, e => match e with
    | .IfExp c x y _ => chkT wh t c && chkE wh a x && chkE wh b y
    | _ => false
  | wh, .tup es, e => match e with
    | .Tuple xs _ _ => chkEs wh es xs
    | _ => false
  | wh, .lst es, e => match e with
    | .List xs _ => chkEs wh es xs
    | _ => false
  | wh, .newl es, e => match e with
    | .List xs _ => chkEs wh es xs
    | _ => false
  | wh, .idx a i, e => match e with
    | .Subscript x y _ => chkE wh a x && chkE wh i y && (match y with
      | .Slice .. => false
      | _ => true)
    | _ => false
  | wh, .slc a lo hi, e => match e with
    | .Subscript x (.Slice l h none _) _ => chkE wh a x && chkO wh lo l && chkO wh hi h
    | _ => false
  | wh, .call f _ es, e => match e with
    | .Call (.Name x _) (y :: ys) [] _ => glB wh.sc x && !dunder x && chkEs wh es (y :: ys) && (match tb.fn[f]? with
      | some (z, j) => decide (x = z) && decide (j ≤ wh.k)
      | none => false)
    | _ => false
  | wh, .blt f es, e => match e with
    | .Call (.Name x _) (y :: ys) [] _ => decide (x = Str.ofString f.name) && bltN tb wh.sc x && chkEs wh es (y :: ys)
    | _ => false
  | wh, .isi a tys one, e => match e with
    | .Call (.Name x _) [y, t] [] _ => decide (tys.length ≤ 10) && decide (x = Str.ofString "isinstance") && bltN tb wh.sc x && chkE wh a y && (match one, t with
      | true, t => tyNames tb wh.sc [t] tys
      | false, .Tuple ts _ _ => tyNames tb wh.sc ts tys
      | _, _ => false)
    | _ => false
  | wh, .lc elt own tg it ifs, e => match e with
    | .ListComp x [⟨t, i, c, a⟩] scope _ => decide (a = 0) && blkC wh.N wh.sc scope (ownP wh own) && chkI wh it i && chkG (wh.blk scope) tg t && own.all (fun i => decide (i < wh.N.length)) && tg.ix.all (fun i => own.contains i) && chkC (wh.blk scope) ifs c && chkE (wh.blk scope) elt x
    | _ => false
  | wh, .dget d k, e => match e with
    | .Subscript x (.Constant (.str z) _ _) _ => chkE wh d x && decide (Str.ofString k = z)
    | _ => false
  | wh, .disp kvs, e => match e with
    | .Dict (k :: ks) vs _ => chkK wh kvs (k :: ks) vs && decide ((k :: ks).length ≤ 15)
    | _ => false
def chkEs : Wh → Exs → List Expr → Bool
  | wh, .nil, es => match es with
    | [] => true
    | _ => false
  | wh, .cons a r, es => match es with
    | e :: es => chkE wh a e && chkEs wh r es
    | [] => false
def chkT : Wh → Ts → Expr → Bool
  | wh, .val a, e => chkE wh a e && (match e with
    | .UnaryOp .Not _ _ => false
    | .BoolOp .. => false
    | .IfExp .. => false
    | .Compare _ (_ :: _ :: _ :: _) _ _ => false
    | _ => true)
  | wh, .not t, e => match e with
    | .UnaryOp .Not x _ => chkT wh t x
    | _ => false
  | wh, .and a b, e => match e with
    | .BoolOp .And (x :: y :: r) p => chkT wh a x && (match r with
      | [] => chkT wh b y
      | _ => chkT wh b (.BoolOp .And (y :: r) p))
    | _ => false
  | wh, .or a b, e => match e with
    | .BoolOp .Or (x :: y :: r) p => chkT wh a x && (match r with
      | [] => chkT wh b y
      | _ => chkT wh b (.BoolOp .Or (y :: r) p))
    | _ => false
def chkC : Wh → Tss → List Expr → Bool
  | wh, .nil, es => match es with
    | [] => true
    | _ => false
  | wh, .one t, es => match es with
    | [e] => chkT wh t e
    | _ => false
def chkO : Wh → Oe → Option Expr → Bool
  | wh, .none, e => match e with
    | none => true
    | _ => false
  | wh, .some a, e => match e with
    | some e => chkE wh a e
    | _ => false
def chkI : Wh → Iw → Expr → Bool
  | wh, .lst a, e => chkE wh a e && (match e with
    | .Set .. => false
    | _ => true)
  | wh, .tup a, e => chkE wh a e && (match e with
    | .Set .. => false
    | _ => true)
  | wh, .rng1 a, e => match e with
    | .Call (.Name x _) [y] [] _ => decide (x = Str.ofString "range") && bltN tb wh.sc x && chkE wh a y
    | _ => false
  | wh, .rng2 a b, e => match e with
    | .Call (.Name x _) [y, z] [] _ => decide (x = Str.ofString "range") && bltN tb wh.sc x && chkE wh a y && chkE wh b z
    | _ => false
def chkG : Wh → Tg → Expr → Bool
  | wh, .nm i, e => match e with
    | .Name x _ => stoB wh i x
    | _ => false
  | wh, .tup ts, e => match e with
    | .Tuple es _ _ => chkGs wh ts es
    | _ => false
  | wh, .ltup ts, e => match e with
    | .Tuple es _ _ => chkGs wh ts es
    | _ => false
def chkGs : Wh → Tgs → List Expr → Bool
  | wh, .nil, es => match es with
    | [] => true
    | _ => false
  | wh, .cons a r, es => match es with
    | e :: es => chkG wh a e && chkGs wh r es
    | [] => false
def chkK : Wh → Kvs → List (Option Expr) → List Expr → Bool
  | wh, .nil, ks, vs => match ks, vs with
    | [], [] => true
    | _, _ => false
  | wh, .cons k a r, ks, vs => match ks, vs with
    | some (.Constant (.str z) _ _) :: ks, v :: vs => decide (Str.ofString k = z) && chkE wh a v && chkK wh r ks vs
    | _, _ => false
end
/-- the right side of an assignment that is stored as a whole -/
def isLc : Expr → Bool
  | .ListComp .. => true
  | .SetComp .. => true
  | .DictComp .. => true
  | _ => false
def isTup : Expr → Bool
  | .Tuple .. => true
  | .List .. => true
  | _ => false
/-- the stores are not swapped -/
def noSw : Expr → Expr → Bool
  | .Tuple ts _ _, .Tuple vs _ _ => !(ts.length == 2 || ts.length == 3) || vs.length != ts.length || vs.all (foldedForSure 8)
  | t, _ => match t with
    | .Name .. => true
    | .Tuple .. => true
    | _ => false
def noSw2 : Expr → Expr → Bool
  | .Tuple .., .Tuple .. => false
  | _, _ => true
def swap2 (a b : Expr) : Bool := !([a, b].all (foldedForSure 8)) && !([a, b].all (constantsAlone 8)) && !([a, b].any fun | .Starred .. => true | _ => false)
mutual
def chkS : Wh → Sm → Stmt → Bool
  | wh, .asg t e, s => match s with
    | .Assign [tg] v pos => chkE tb wh e v && chkG tb wh t tg && (match tg, v with
      | .Name y py, .ListComp _ _ scope lp => locB wh.sc y && (py.line == lp.line) && !(scope.names.any fun (n, k) => n == y && (k == .local || k == .cell))
      | .Name .., _ => !isLc v
      | .Tuple ts _ _, v => noSw tg v
      | _, _ => false)
    | _ => false
  | wh, .par2 i j a b, s => match s with
    | .Assign [.Tuple [.Name x px, .Name y py] _ _] (.Tuple [e, f] _ _) _ => stoB wh i x && stoB wh j y && locB wh.sc x && locB wh.sc y && decide (i ≠ j) && (py.line == px.line) && swap2 e f && chkE tb wh a e && chkE tb wh b f
    | _ => false
  | wh, .expr a, s => match s with
    | .Expr e _ => chkE tb wh a e && !isLc e
    | _ => false
  | wh, .ifs c a b, s => match s with
    | .If t x y _ => chkT tb wh c t && chkSs wh a x && chkSs wh b y
    | _ => false
  | wh, .forr t it b, s => match s with
    | .For tg i x [] _ => chkG tb wh t tg && chkI tb wh it i && chkSs wh b x
    | _ => false
  | wh, .whl c b, s => match s with
    | .While t x [] _ => chkT tb wh c t && chkSs wh b x
    | _ => false
  | wh, .ret a, s => match s with
    | .Return (some e) _ => chkE tb wh a e
    | _ => false
  | _, .retN, s => match s with
    | .Return none _ => true
    | _ => false
  | _, .raise _ _, _ => false
  | _, .brk, s => match s with
    | .Break _ => true
    | _ => false
  | _, .cnt, s => match s with
    | .Continue _ => true
    | _ => false
  | _, .pass, s => match s with
    | .Pass _ => true
    | _ => false
  | _, .nev, _ => true
  | wh, .app i a, s => match s with
    | .Expr (.Call (.Attribute (.Name x _) m ap) [e] [] cp) _ => decide (wh.N[i]? = some x) && visB wh.sc x && !dunder x && decide (m = Str.ofString "append") && (ap.endLine == cp.line) && chkE tb wh a e && (match e with
      | .Starred .. => false
      | _ => true)
    | _ => false
  | wh, .dset d k a, s => match s with
    | .Assign [.Subscript x (.Constant (.str z) _ _) _] v _ => chkE tb wh d x && decide (Str.ofString k = z) && chkE tb wh a v && !isLc v
    | _ => false
  | _, .frz _, _ => false
def chkSs : Wh → Sms → List Stmt → Bool
  | wh, .nil, ss => match ss with
    | [] => true
    | _ => false
  | wh, .cons a r, ss => match a with
    | .frz i => decide (i < wh.N.length) && chkSs wh r ss
    | a => match ss with
      | s :: ss => chkS wh a s && chkSs wh r ss
      | [] => false
end
end
end OB
namespace OB
open PySem PySem.Spec PyProof.Rows L2

/-! ## where one stands -/
structure GX (S : Sys) (wh : Wh) (W : WX) (X : Cx) : Prop where
  P : X.prog = S.P
  w : X.w = S.w
  K : X.K = S.K
  mg : X.mg = S.mg
  base : X.base = S.base
  N : X.N = wh.N
  nd : X.N.Nodup
  sc : X.env.scope = wh.sc
  kd : X.env.scope.kind = .function
  calm : X.calm = true
  room : Room wh.k X.A
  gd : X.A.guards = some []
  fa : wh.fa = true → ∀ x, X.fn x = true
  tk : Takes X W
def spD (S : Sys) (F : List D → Mem → Res D) : Sp := fun vs H Q E => ∃ T G α μ ds, Abs S T G H α μ ∧ Reps S G α ds vs ∧ Post S T G α (RD S) (F ds μ) Q E
structure FnG (S : Sys) (k : Nat) (f : Addr) (fd : FuncData) (ps : List Str) (sp : Sp) : Prop where
  len : ∀ vs H Q E, sp vs H Q E → vs.length = ps.length
  run : ∀ (A : Around) (outer : List Env) (s : Shared) (H : Hp) (args : Args) (us : List Value) (vs : List V) (Q : VK) (E : XK), Room k A → A.guards = some [] →
    Env0 S.P S.w S.K S.mg S.base A outer s H → BindsTo s fd args (ps.zip us) → Vals vs us → sp vs H Q E →
    codeAny (model S.P S.w) A (.call (.ref f) args) (CR (CX S.P S.w) outer S.P S.w H s Q E) s
structure Fx (S : Sys) (tb : Tb) (Φ : Fns) : Prop where
  fns : ∀ i x k, tb.fn[i]? = some (x, k) → ∃ fd ps, S.mg x = some (.ref (S.fna i)) ∧ PySem.W.keepIn S.K (.ref (S.fna i)) = true ∧ FnG S k (S.fna i) fd ps (spD S (Φ i)) ∧ Binds S.K fd ps []
  gi : ∀ p ∈ tb.gi, ∃ t, S.mg p.1 = some (.int p.2 t)
  fv : ∀ x ∈ tb.fv, S.mg x = none

section
variable {S : Sys} {wh : Wh} {W : WX} {X : Cx} {tb : Tb} {Φ : Fns}
theorem ba2 {a b : Bool} (h : (a && b) = true) : a = true ∧ b = true := Bool.and_eq_true_iff.mp h
theorem bn {a : Bool} (h : (!a) = true) : a = false := by cases a <;> simp_all
theorem dunder_no {x : Str} (h : dunder x = false) : (x == ("__debug__" : Str)) = false ∧ (x == ("__classdict__" : Str)) = false ∧ x ≠ "__name__" := by
  unfold dunder at h
  simp only [Bool.or_eq_false_iff, decide_eq_false_iff_not] at h
  exact ⟨h.1.1, h.1.2, h.2⟩
theorem GX.vis (g : GX S wh W X) {x : Str} (h : visB wh.sc x = true) : Vis X.env.scope x := by
  rw [g.sc]
  unfold visB at h
  unfold Vis
  split at h <;> first | exact .inl (by assumption) | exact .inr (.inl (by assumption)) | exact .inr (.inr (by assumption)) | cases h
theorem GX.gl (g : GX S wh W X) {x : Str} (h : glB wh.sc x = true) : Gl X x := by
  unfold glB at h
  have h2 := of_decide_eq_true h
  show X.env.scope.names.lookup x = _
  rw [g.sc]; exact h2
theorem GX.blt (g : GX S wh W X) (F : Fx S tb Φ) {x : Str} (h : bltN tb wh.sc x = true) : Gl X x ∧ X.mg x = none ∧ (x == ("__debug__" : Str)) = false ∧ x ≠ "__name__" := by
  unfold bltN at h
  obtain ⟨h1, h2⟩ := ba2 h
  obtain ⟨h3, h4⟩ := ba2 h1
  obtain ⟨d1, _, d3⟩ := dunder_no (bn h2)
  refine ⟨g.gl h3, ?_, d1, d3⟩
  rw [g.mg]
  exact F.fv x (by simpa using h4)
theorem GX.sl (g : GX S wh W X) {T G H : Hp} {α : List Addr} {μ : Mem} {a : Addr} {vs : List V} (A : Abs S T G H α μ) (h : SqL S.K G a vs) : SqL X.K H a vs := by rw [g.K]; exact A.same.seq h
theorem GX.st (g : GX S wh W X) {T G H : Hp} {α : List Addr} {μ : Mem} {a : Addr} {vs : List V} (A : Abs S T G H α μ) (h : SqT S.K G a vs) : SqT X.K H a vs := by rw [g.K]; exact SameT A.same h
theorem GX.hu (g : GX S wh W X) : X.A.units + 64 < cLine := g.room.units

/-! ## operators -/
/-- the weakest of what a two-place operation may ask -/
def WpOp (X : Cx) (f : Value → Value → Sem Value) : R2 := fun x y H Q => ∀ (pins : List (Addr × Obj)) (s : Shared) (σ : L2.St) (v u : Value), Inv X pins σ H s → RelV x v → RelV y u → wpAny (model X.prog X.w) X.A (f v u) (EP X pins σ Q) X.xe s
theorem WpOp.op {f : Value → Value → Sem Value} : OpR X f (WpOp X f) := fun pins s σ H x y v u Q I rx ry h => h pins s σ v u I rx ry
theorem WpOp.of {f : Value → Value → Sem Value} {r : R2} (o : OpR X f r) {x y : V} {H : Hp} {Q : VK} (h : r x y H Q) : WpOp X f x y H Q := fun pins s σ v u I rx ry => o pins s σ H x y v u Q I rx ry h
theorem mulOk_ok {i j : Int} (h : mulOk i j = true) : CMul i j ∨ CMulW i j := by
  unfold mulOk at h
  simp only [Bool.or_eq_true, Bool.and_eq_true, decide_eq_true_eq] at h
  rcases h with (h | h) | h
  · exact .inl (.inl h)
  · exact .inl (.inr h)
  · exact .inr h
/-- list + list, any two lists -/
theorem op_catL : OpR X (binaryOp .Add) (fun x y H Q => ∃ l b xs zs, x = .ref l ∧ y = .ref b ∧ SqL X.K H l xs ∧ SqL X.K H b zs ∧ xs.length + zs.length ≤ sizeLine ∧ ∀ p, H p = none → Q (.ref p) (upd H p (.lst (xs ++ zs)))) := by
  intro pins s σ H x y v u Q I rx ry h
  obtain ⟨l, b, xs, zs, rfl, rfl, hl, hb, hz, q⟩ := h
  cases rx
  cases ry
  obtain ⟨i1, r1, ⟨⟨c1, d1, t1, s1⟩, n1, e1, z1, _, y1⟩, _⟩ := I.list hl
  obtain ⟨i2, r2, ⟨⟨c2, d2, t2, s2⟩, n2, e2, z2, _, y2⟩, _⟩ := I.list hb
  have h1 := r1.length
  have h2 := r2.length
  simp only at z1 y1 z2 y2
  subst z1 y1 z2 y2
  refine concat_meets ⟨_, e1, rfl⟩ ⟨_, e2, rfl⟩ noFill_list_add seq_list_add PySem.F.slot_list_add PySem.F.entry_list_add (PySem.F.args_list_add_2 _ _) (list_addW l b i1.toArray i2.toArray n1 n2 d1 d2 s1 s2 (by simp; omega)) ⟨e1, e2, ?_⟩
  rw [show i1.toArray ++ i2.toArray = (i1 ++ i2).toArray by simp]
  exact ⟨.ref _, _, I.lnew (t' := s.toks) (r1.append r2) (by simp; omega), rfl, q _ I.fresh⟩
mutual
theorem dp_of {G H : Hp} {α : List Addr} (sg : Same G H) : ∀ (d : D) (v : V) (p : PyData), Rep S G α d v → d.toPy = some p → Dp S.K H v p
  | .non, _, _, h, e => by rw [Rep] at h; rw [D.toPy] at e; cases e; subst h; exact .non
  | .bl b, _, _, h, e => by rw [Rep] at h; rw [D.toPy] at e; cases e; subst h; exact .bl b
  | .int i, _, _, h, e => by rw [Rep] at h; rw [D.toPy] at e; cases e; subst h; exact .int i
  | .str x, _, _, h, e => by rw [Rep] at h; rw [D.toPy] at e; cases e; subst h; exact .str x
  | .tup ds, _, _, h, e => by
    rw [Rep] at h; rw [D.toPy] at e
    obtain ⟨a, vs, rfl, h1, h2⟩ := h
    cases q : D.toPys ds with
    | none => rw [q] at e; cases e
    | some ps => rw [q] at e; cases e; exact .tup (SameT sg h1) (dps_of sg ds vs ps h2 q)
  | .lst ds, _, _, h, e => by
    rw [Rep] at h; rw [D.toPy] at e
    obtain ⟨a, vs, rfl, h1, h2⟩ := h
    cases q : D.toPys ds with
    | none => rw [q] at e; cases e
    | some ps => rw [q] at e; cases e; exact .lst (sg.seq h1) (dps_of sg ds vs ps h2 q)
  | .ins _ _, _, _, _, e => by rw [D.toPy] at e; cases e
  | .ref _, _, _, _, e => by rw [D.toPy] at e; cases e
  | .ty _, _, _, _, e => by rw [D.toPy] at e; cases e
  | .fn _, _, _, _, e => by rw [D.toPy] at e; cases e
theorem dps_of {G H : Hp} {α : List Addr} (sg : Same G H) : ∀ (ds : List D) (vs : List V) (ps : List PyData), Reps S G α ds vs → D.toPys ds = some ps → DpAll S.K H vs ps
  | [], _, _, h, e => by rw [Reps] at h; rw [D.toPys] at e; cases e; subst h; exact .nil
  | d :: ds, _, _, h, e => by
    rw [Reps] at h; rw [D.toPys] at e
    obtain ⟨v, r, rfl, h1, h2⟩ := h
    cases q : D.toPy d with
    | none => rw [q] at e; cases e
    | some p =>
      rw [q] at e
      cases q2 : D.toPys ds with
      | none => rw [q2] at e; cases e
      | some ps => rw [q2] at e; cases e; exact .cons (dp_of sg d v p h1 q) (dps_of sg ds r ps h2 q2)
end
theorem binOk (g : GX S wh W X) {op : Operator} {dx dy d : D} {x y : V} {T G H : Hp} {α : List Addr} {μ : Mem} {Q : VK} (e : binD op dx dy = some d) (A : Abs S T G H α μ) (rx : Rep S G α dx x) (ry : Rep S G α dy y)
    (q : ∀ G' H' v, Same G G' → Abs S T G' H' α μ → Rep S G' α d v → Q v H') : WpOp X (binaryOp op) x y H Q := by
  have here : ∀ v, Rep S G α d v → Q v H := fun v r => q G H v (Same.refl _) A r
  unfold binD at e
  split at e
  · cases e
    rw [Rep] at rx ry; subst rx ry
    exact .of op_add ⟨_, _, rfl, rfl, here _ (by rw [Rep])⟩
  · rename_i xs ys
    split at e
    · rename_i c
      cases e
      simp only [Bool.and_eq_true, decide_eq_true_eq] at c
      rw [Rep] at rx ry
      obtain ⟨a, vs, rfl, h1, h2⟩ := rx
      obtain ⟨b, us, rfl, k1, k2⟩ := ry
      have l1 := h2.length
      have l2 := k2.length
      have n1 : vs ≠ [] := fun z => c.1.1 (by subst z; exact List.eq_nil_of_length_eq_zero (by simpa using l1.symm))
      have n2 : us ≠ [] := fun z => c.1.2 (by subst z; exact List.eq_nil_of_length_eq_zero (by simpa using l2.symm))
      refine .of op_catT ⟨a, b, vs, us, rfl, rfl, g.st A h1, g.st A k1, n1, by omega, fun z => absurd z n2, fun _ p np => ?_⟩
      obtain ⟨A1, s1⟩ := A.new (o := .tup (vs ++ us)) np
      refine q _ _ _ s1 A1 ?_
      rw [Rep]
      exact ⟨p, vs ++ us, rfl, .of upd_same, (Reps.mono s1 (List.prefix_refl _) _ _ h2).append (Reps.mono s1 (List.prefix_refl _) _ _ k2)⟩
    · cases e
  · rename_i xs ys
    split at e
    · rename_i c
      cases e
      simp only [decide_eq_true_eq] at c
      rw [Rep] at rx ry
      obtain ⟨a, vs, rfl, h1, h2⟩ := rx
      obtain ⟨b, us, rfl, k1, k2⟩ := ry
      have l1 := h2.length
      have l2 := k2.length
      refine .of op_catL ⟨a, b, vs, us, rfl, rfl, g.sl A h1, g.sl A k1, by omega, fun p np => ?_⟩
      obtain ⟨A1, s1⟩ := A.new (o := .lst (vs ++ us)) np
      refine q _ _ _ s1 A1 ?_
      rw [Rep]
      exact ⟨p, vs ++ us, rfl, .of upd_same, (Reps.mono s1 (List.prefix_refl _) _ _ h2).append (Reps.mono s1 (List.prefix_refl _) _ _ k2)⟩
    · cases e
  · split at e
    · rename_i c
      cases e
      simp only [decide_eq_true_eq] at c
      rw [Rep] at rx ry; subst rx ry
      exact .of op_add_str ⟨_, _, rfl, rfl, c, here _ (by rw [Rep])⟩
    · cases e
  · cases e
    rw [Rep] at rx ry; subst rx ry
    exact .of op_sub ⟨_, _, rfl, rfl, here _ (by rw [Rep])⟩
  · split at e
    · rename_i c
      cases e
      rw [Rep] at rx ry; subst rx ry
      rcases mulOk_ok c with c | c
      · exact .of op_mul ⟨_, _, rfl, rfl, c, here _ (by rw [Rep])⟩
      · exact .of op_mulW ⟨_, _, rfl, rfl, c, here _ (by rw [Rep])⟩
    · cases e
  · split at e
    · rename_i c
      cases e
      unfold divOk at c
      simp only [Bool.and_eq_true, decide_eq_true_eq] at c
      rw [Rep] at rx ry; subst rx ry
      exact .of op_fdivW ⟨_, _, rfl, rfl, c, here _ (by rw [Rep])⟩
    · cases e
  · split at e
    · rename_i c
      cases e
      simp only [decide_eq_true_eq] at c
      rw [Rep] at rx ry; subst rx ry
      exact .of op_mod ⟨_, _, rfl, rfl, c, here _ (by rw [Rep])⟩
    · cases e
  · split at e
    · rename_i c
      cases e
      simp only [Bool.and_eq_true, decide_eq_true_eq] at c
      rw [Rep] at rx ry; subst rx ry
      exact .of op_pow ⟨_, _, rfl, rfl, ⟨c.1.1, c.1.2, c.2⟩, here _ (by rw [Rep])⟩
    · cases e
  · cases e
end
end OB
namespace OB
open PySem PySem.Spec PyProof.Rows L2
section
variable {S : Sys} {wh : Wh} {W : WX} {X : Cx} {tb : Tb} {Φ : Fns} {T G H : Hp} {α : List Addr} {μ : Mem}
theorem flat_rep {d : D} {v : V} (h : Rep S G α d v) (f : flatD d = true) : flatV v = true := by
  cases d <;> first | (cases f; done) | (rw [Rep] at h; subst h; rfl)
theorem flats_rep : ∀ {ds : List D} {vs : List V}, Reps S G α ds vs → ds.all flatD = true → vs.all flatV = true
  | [], _, h, _ => by rw [Reps] at h; subst h; rfl
  | d :: ds, _, h, f => by
    obtain ⟨v, r, rfl, h1, h2⟩ := h.cons_iff
    rw [List.all_cons] at f ⊢
    obtain ⟨f1, f2⟩ := ba2 f
    rw [flat_rep h1 f1, flats_rep h2 f2]; rfl
theorem eqF_rep {d e : D} {v u : V} (h : Rep S G α d v) (k : Rep S G α e u) (f : flatD d = true) (f2 : flatD e = true) : eqV v u = eqF d e := by
  cases d <;> first | (cases f; done) | (rw [Rep] at h; subst h; cases e <;> first | (cases f2; done) | (rw [Rep] at k; subst k; rfl))
theorem anyF_rep {d : D} {v : V} (h : Rep S G α d v) (f : flatD d = true) : ∀ {ds : List D} {vs : List V}, Reps S G α ds vs → ds.all flatD = true → (vs.any fun y => eqV y v) = ds.any fun y => eqF y d
  | [], _, h, _ => by rw [Reps] at h; subst h; rfl
  | e :: ds, _, k, f2 => by
    obtain ⟨u, r, rfl, h1, h2⟩ := k.cons_iff
    rw [List.all_cons] at f2
    obtain ⟨g1, g2⟩ := ba2 f2
    rw [List.any_cons, List.any_cons, eqF_rep h1 h g1 f, anyF_rep h f h2 g2]
theorem isNon_rep {d : D} {v : V} (h : Rep S G α d v) : decide (v = .non) = isNon d := by
  cases d with
  | non => rw [Rep] at h; subst h; rfl
  | bl _ => rw [Rep] at h; subst h; rfl
  | int _ => rw [Rep] at h; subst h; rfl
  | str _ => rw [Rep] at h; subst h; rfl
  | tup _ => rw [Rep] at h; obtain ⟨a, vs, rfl, _⟩ := h; rfl
  | lst _ => rw [Rep] at h; obtain ⟨a, vs, rfl, _⟩ := h; rfl
  | ins _ _ => rw [Rep] at h; obtain ⟨a, vs, u, rfl, _⟩ := h; rfl
  | ref _ => rw [Rep] at h; obtain ⟨a, rfl, _⟩ := h; rfl
  | ty _ => rw [Rep] at h; subst h; rfl
  | fn _ => rw [Rep] at h; subst h; rfl
theorem eqOk (g : GX S wh W X) {dx dy : D} {b : Bool} {x y : V} {Q : VK} (e : eqD dx dy = some b) (A : Abs S T G H α μ) (rx : Rep S G α dx x) (ry : Rep S G α dy y) :
    (Q (.bl b) H → WpOp X (compareOp .Eq) x y H Q) ∧ (Q (.bl (!b)) H → WpOp X (compareOp .NotEq) x y H Q) := by
  unfold eqD at e
  split at e
  · cases e
    rw [Rep] at rx ry; subst rx ry
    rename_i a b
    have z : decide (V.str a = V.str b) = decide (a = b) := by simp
    exact ⟨fun q => .of op_eq ⟨rfl, by rw [z]; exact q⟩, fun q => .of op_ne ⟨rfl, by rw [z]; exact q⟩⟩
  · split at e
    · rename_i p q hp hq
      split at e
      · rename_i c
        cases e
        obtain ⟨c1, c2⟩ := ba2 c
        have h1 := dp_of (H := H) A.same _ _ _ rx hp
        have h2 := dp_of (H := H) A.same _ _ _ ry hq
        refine ⟨fun q => .of (op_eqD g.hu) ⟨_, _, ?_, ?_, c1, c2, q⟩, fun q => .of (op_neD g.hu) ⟨_, _, ?_, ?_, c1, c2, q⟩⟩ <;> (rw [g.K]; assumption)
      · cases e
    · cases e
theorem cmpOk (g : GX S wh W X) {op : CmpOp} {dx dy : D} {b : Bool} {x y : V} {Q : VK} (e : cmpD op dx dy = some b) (A : Abs S T G H α μ) (rx : Rep S G α dx x) (ry : Rep S G α dy y)
    (q : Q (.bl b) H) : WpOp X (compareOp op) x y H Q := by
  unfold cmpD at e
  split at e
  · exact (eqOk g e A rx ry).1 q
  · rename_i a b
    cases h : eqD dx dy with
    | none => rw [h] at e; cases e
    | some c => rw [h] at e; cases e; exact (eqOk g h A rx ry).2 q
  · cases e; rw [Rep] at rx ry; subst rx ry; exact .of op_lt ⟨_, _, rfl, rfl, q⟩
  · cases e; rw [Rep] at rx ry; subst rx ry; exact .of op_le ⟨_, _, rfl, rfl, q⟩
  · cases e; rw [Rep] at rx ry; subst rx ry; exact .of op_gt ⟨_, _, rfl, rfl, q⟩
  · cases e; rw [Rep] at rx ry; subst rx ry; exact .of op_ge ⟨_, _, rfl, rfl, q⟩
  · cases e; have := isNon_rep rx; rw [Rep] at ry; subst ry; exact .of op_isN ⟨rfl, by rw [this]; exact q⟩
  · cases e; have := isNon_rep rx; rw [Rep] at ry; subst ry; exact .of op_notN ⟨rfl, by rw [this]; exact q⟩
  all_goals first
    | (split at e
       · rename_i c
         cases e
         obtain ⟨c1, c2⟩ := ba2 c
         rw [Rep] at ry
         obtain ⟨a, vs, rfl, h1, h2⟩ := ry
         have z : inV x vs = _ := anyF_rep rx c1 h2 c2
         rw [← z] at q
         first
           | exact .of op_in_seq ⟨a, vs, rfl, .inl (g.sl A h1), flat_rep rx c1, flats_rep h2 c2, q⟩
           | exact .of op_in_seq ⟨a, vs, rfl, .inr (g.st A h1), flat_rep rx c1, flats_rep h2 c2, q⟩
           | exact .of op_notIn_seq ⟨a, vs, rfl, .inl (g.sl A h1), flat_rep rx c1, flats_rep h2 c2, q⟩
           | exact .of op_notIn_seq ⟨a, vs, rfl, .inr (g.st A h1), flat_rep rx c1, flats_rep h2 c2, q⟩
       · cases e)
    | cases e
/-! ## truth -/
theorem truOk {d : D} {b : Bool} {x : V} (e : truD μ d = some b) (A : Abs S T G H α μ) (rx : Rep S G α d x) : TruV S.K x H b := by
  unfold truD at e
  split at e
  · cases e; rw [Rep] at rx; subst rx; rfl
  · cases e; rw [Rep] at rx; subst rx; rfl
  · cases e; rw [Rep] at rx; subst rx; rfl
  · split at e
    · rename_i c
      cases e; rw [Rep] at rx; subst rx
      refine ⟨of_decide_eq_true c, ?_⟩
      rename_i s
      show (s.length != 0) = ((s.length : Int) != 0)
      cases h : s.length <;> simp <;> omega
    · cases e
  · cases e; rw [Rep] at rx
    obtain ⟨a, vs, rfl, h1, h2⟩ := rx
    refine .inl ⟨vs, A.same.seq h1, ?_⟩
    have := h2.length
    rename_i xs
    cases xs <;> cases vs <;> first | rfl | cases this
  · cases e; rw [Rep] at rx
    obtain ⟨a, vs, rfl, h1, h2⟩ := rx
    refine .inr (.inl ⟨vs, SameT A.same h1, ?_⟩)
    have := h2.length
    rename_i xs
    cases xs <;> cases vs <;> first | rfl | cases this
  · rw [Rep] at rx
    obtain ⟨a, rfl, h1⟩ := rx
    split at e
    · rename_i xs hx
      cases e
      obtain ⟨_, _, vs, k1, k2⟩ := A.cell _ _ _ hx h1 rfl
      refine .inl ⟨vs, .of k1, ?_⟩
      have := k2.length
      cases xs <;> cases vs <;> first | rfl | cases this
    · rename_i kvs hx
      cases e
      obtain ⟨_, _, vs, k1, k2⟩ := A.cell _ _ _ hx h1 rfl
      refine .inr (.inr ?_)
      cases kvs with
      | nil => rw [RepK] at k2; subst k2; exact ⟨_, k1, rfl⟩
      | cons p r => obtain ⟨p1, p2⟩ := p; rw [RepK] at k2; obtain ⟨v, r', rfl, _⟩ := k2; exact ⟨_, k1, rfl⟩
    · cases e
  · cases e
/-! ## subscripts -/
theorem atI_rep {ds : List D} {vs : List V} {i : Int} {d : D} (h : Reps S G α ds vs) (e : atI ds i = some d) : ∃ v, atI vs i = some v ∧ Rep S G α d v := by
  unfold atI at e ⊢
  rw [h.length]
  cases q : ixN ds.length i with
  | none => rw [q] at e; cases e
  | some j =>
    rw [q] at e
    have e2 : ds[j]? = some d := e
    obtain ⟨v, h1, h2⟩ := h.get e2
    exact ⟨v, h1, h2⟩
theorem ixU {r r' : R2} (a : IxR X r) (b : IxR X r') : IxR X (fun x y H Q => r x y H Q ∨ r' x y H Q) := by
  intro value slice pins s σ H x y v u Q I rx ry h hs
  rcases h with h | h
  · exact a value slice pins s σ H x y v u Q I rx ry h hs
  · exact b value slice pins s σ H x y v u Q I rx ry h hs
theorem idxOk (g : GX S wh W X) {dx dy d : D} {x y : V} {Q : VK} (e : idxD dx dy = some d) (A : Abs S T G H α μ) (rx : Rep S G α dx x) (ry : Rep S G α dy y) (q : ∀ v, Rep S G α d v → Q v H) :
    rIxL X.K x y H Q ∨ rIxT X.K x y H Q := by
  unfold idxD at e
  split at e
  · rw [Rep] at rx; rw [Rep] at ry; subst ry
    obtain ⟨a, vs, rfl, h1, h2⟩ := rx
    obtain ⟨v, k1, k2⟩ := atI_rep h2 e
    exact .inr ⟨a, vs, _, v, rfl, rfl, g.st A h1, k1, q v k2⟩
  · rw [Rep] at rx; rw [Rep] at ry; subst ry
    obtain ⟨a, vs, rfl, h1, h2⟩ := rx
    obtain ⟨v, k1, k2⟩ := atI_rep h2 e
    exact .inl ⟨a, vs, _, v, rfl, rfl, g.sl A h1, k1, q v k2⟩
  · cases e
theorem cut_rep {ds : List D} {vs : List V} (h : Reps S G α ds vs) (lo hi : Option Int) : Reps S G α (cutL ds lo hi) (cutV vs lo hi) := by
  unfold cutL cutV
  rw [h.length]
  exact (h.drop _).take _
theorem slcOk (g : GX S wh W X) {dx d : D} {lo hi : Option Int} {x : V} {Q : VK} (e : slcD dx lo hi = some d) (A : Abs S T G H α μ) (rx : Rep S G α dx x)
    (q : ∀ G' H' v, Same G G' → Abs S T G' H' α μ → Rep S G' α d v → Q v H') : rSlL X.K x lo hi H Q ∨ rSlT X.K x lo hi H Q := by
  unfold slcD at e
  split at e
  · cases e; rw [Rep] at rx
    obtain ⟨a, vs, rfl, h1, h2⟩ := rx
    refine .inl ⟨a, vs, rfl, g.sl A h1, fun p np => ?_⟩
    obtain ⟨A1, s1⟩ := A.new (o := .lst (cutV vs lo hi)) np
    refine q _ _ _ s1 A1 ?_
    rw [Rep]
    exact ⟨p, _, rfl, .of upd_same, (Reps.mono s1 (List.prefix_refl _) _ _ (cut_rep h2 lo hi))⟩
  · split at e
    · cases e
    · rename_i c
      cases e; rw [Rep] at rx
      obtain ⟨a, vs, rfl, h1, h2⟩ := rx
      rw [← h2.length] at c
      refine .inr ⟨a, vs, rfl, g.st A h1, c, fun p np => ?_⟩
      obtain ⟨A1, s1⟩ := A.new (o := .tup (cutV vs lo hi)) np
      refine q _ _ _ s1 A1 ?_
      rw [Rep]
      exact ⟨p, _, rfl, .of upd_same, (Reps.mono s1 (List.prefix_refl _) _ _ (cut_rep h2 lo hi))⟩
  · cases e
/-! ## built-in functions -/
def WpCall (X : Cx) (f : Value) : List V → Hp → VK → Prop := fun xs H Q => ∀ (pins : List (Addr × Obj)) (s : Shared) (σ : L2.St) (us : List Value), Inv X pins σ H s → Vals xs us → wpAny (model X.prog X.w) X.A (call f us) (EP X pins σ Q) X.xe s
theorem WpCall.op {f : Value} : CallR X f (WpCall X f) := fun pins s σ H xs us Q I r h => h pins s σ us I r
theorem WpCall.of {f : Value} {r : List V → Hp → VK → Prop} (o : CallR X f r) {xs : List V} {Q : VK} (h : r xs H Q) : WpCall X f xs H Q := fun pins s σ us I rx => o pins s σ H xs us Q I rx h
def Blt.ty : Blt → Bool
  | .list => true | .tuple => true | .str => true | .int => true
  | _ => false
def Blt.val (b : Blt) : Value := if b.ty then .type b.name else .builtin b.name
theorem bls_rep : ∀ {ds : List D} {vs : List V} {bs : List Bool}, Reps S G α ds vs → ds.mapM blOf? = some bs → vs = bs.map V.bl
  | [], _, _, h, e => by rw [Reps] at h; subst h; simp at e; subst e; rfl
  | d :: ds, _, bs, h, e => by
    obtain ⟨v, r, rfl, h1, h2⟩ := h.cons_iff
    rw [List.mapM_cons] at e
    cases q : blOf? d with
    | none => rw [q] at e; cases e
    | some b =>
      rw [q] at e
      cases q2 : ds.mapM blOf? with
      | none => rw [q2] at e; cases e
      | some cs =>
        rw [q2] at e; cases e
        have := bls_rep h2 q2
        subst this
        cases d <;> first | (cases q; done) | (cases q; rw [Rep] at h1; subst h1; rfl)
theorem ints_rep : ∀ {ds : List D} {vs : List V} {bs : List Int}, Reps S G α ds vs → ds.mapM intOf? = some bs → vs = bs.map V.int
  | [], _, _, h, e => by rw [Reps] at h; subst h; simp at e; subst e; rfl
  | d :: ds, _, bs, h, e => by
    obtain ⟨v, r, rfl, h1, h2⟩ := h.cons_iff
    rw [List.mapM_cons] at e
    cases q : intOf? d with
    | none => rw [q] at e; cases e
    | some b =>
      rw [q] at e
      cases q2 : ds.mapM intOf? with
      | none => rw [q2] at e; cases e
      | some cs =>
        rw [q2] at e; cases e
        have := ints_rep h2 q2
        subst this
        cases d <;> first | (cases q; done) | (cases q; rw [Rep] at h1; subst h1; rfl)
/-- repr -/
theorem call_repr (hg : X.A.guards = some []) (hu : X.A.units + 80 < cLine) : CallR X (.builtin "repr") (fun xs H Q => ∃ x p, xs = [x] ∧ Dp X.K H x p ∧ p.showable = true ∧ p.hasDict = false ∧ p.shown.length ≤ sizeLine ∧ p.depth ≤ 64 ∧ Q (.str p.shown) H) := by
  intro pins s σ H xs us Q I r h
  obtain ⟨x, p, rfl, hp, h1, h2, h3, h4, q⟩ := h
  obtain ⟨u, rfl, rx⟩ := vals1 r
  obtain ⟨as, rd⟩ := Dp.reads I p x u hp rx
  cases hp with
  | non => cases rx; exact PySem.P.repr_of_none ⟨.str _, H, I.tok _, ⟨_, rfl⟩, q⟩
  | bl b => cases rx; exact PySem.P.repr_of_bool ⟨.str _, H, I.tok _, ⟨_, rfl⟩, q⟩
  | int i => obtain ⟨t, rfl⟩ := rx; exact PySem.P.repr_of_int (by simpa [PyData.showable] using h1) ⟨.str _, H, I.tok _, ⟨_, rfl⟩, q⟩
  | str z => obtain ⟨t, rfl⟩ := rx; exact PySem.P.repr_of_str ⟨.str _, H, I.tok _, ⟨_, rfl⟩, q⟩ (by simpa [PyData.shown] using h3)
  | lst k1 k2 =>
    cases rx
    exact repr_of_reads' rd h1 (fun z => by rw [h2] at z; cases z) hg (by omega) (fun _ _ e => e) (fun h' u tk hk => ⟨.str _, H, I.kept hk, ⟨_, rfl⟩, q⟩) h3
  | tup k1 k2 =>
    cases rx
    exact repr_of_reads' rd h1 (fun z => by rw [h2] at z; cases z) hg (by omega) (fun _ _ e => e) (fun h' u tk hk => ⟨.str _, H, I.kept hk, ⟨_, rfl⟩, q⟩) h3
theorem bltOk (g : GX S wh W X) {f : Blt} {ds : List D} {d : D} {vs : List V} {Q : VK} (e : bltD μ f ds = some d) (A : Abs S T G H α μ) (rx : Reps S G α ds vs)
    (q : ∀ G' H' v, Same G G' → Abs S T G' H' α μ → Rep S G' α d v → Q v H') : WpCall X f.val vs H Q := by
  have here : ∀ v, Rep S G α d v → Q v H := fun v r => q G H v (Same.refl _) A r
  have one : ∀ {a : D}, Reps S G α [a] vs → ∃ v, vs = [v] ∧ Rep S G α a v := fun h => by
    obtain ⟨v, r, rfl, h1, h2⟩ := h.cons_iff
    rw [Reps] at h2; subst h2; exact ⟨v, rfl, h1⟩
  have two : ∀ {a b : D}, Reps S G α [a, b] vs → ∃ v u, vs = [v, u] ∧ Rep S G α a v ∧ Rep S G α b u := fun h => by
    obtain ⟨v, r, rfl, h1, h2⟩ := h.cons_iff
    obtain ⟨u, r, rfl, h3, h4⟩ := h2.cons_iff
    rw [Reps] at h4; subst h4; exact ⟨v, u, rfl, h1, h3⟩
  unfold bltD at e
  split at e
  · cases e
    obtain ⟨v, rfl, h⟩ := one rx
    rw [Rep] at h
    obtain ⟨a, vs, rfl, h1, h2⟩ := h
    refine .of call_len_seq ⟨a, vs, rfl, .inl (g.sl A h1), here _ ?_⟩
    rw [Rep, h2.length]
  · cases e
    obtain ⟨v, rfl, h⟩ := one rx
    rw [Rep] at h
    obtain ⟨a, vs, rfl, h1, h2⟩ := h
    refine .of call_len_seq ⟨a, vs, rfl, .inr (g.st A h1), here _ ?_⟩
    rw [Rep, h2.length]
  · split at e
    · rename_i c
      cases e
      obtain ⟨v, rfl, h⟩ := one rx
      rw [Rep] at h; subst h
      exact .of call_len_str ⟨_, rfl, of_decide_eq_true c, here _ (by rw [Rep])⟩
    · cases e
  · split at e
    · rename_i xs hx
      cases e
      obtain ⟨v, rfl, h⟩ := one rx
      rw [Rep] at h
      obtain ⟨a, rfl, h1⟩ := h
      obtain ⟨_, _, vs, k1, k2⟩ := A.cell _ _ _ hx h1 rfl
      refine .of call_len_seq ⟨a, vs, rfl, .inl (.of k1), here _ ?_⟩
      rw [Rep, k2.length]
    · cases e
  · cases e
    obtain ⟨v, rfl, h⟩ := one rx
    rw [Rep] at h; subst h
    exact .of call_abs ⟨_, rfl, here _ (by rw [Rep]; rfl)⟩
  · rename_i xs
    cases k : xs.mapM blOf? with
    | none => rw [k] at e; cases e
    | some bs =>
      rw [k] at e; cases e
      obtain ⟨v, rfl, h⟩ := one rx
      rw [Rep] at h
      obtain ⟨a, vs, rfl, h1, h2⟩ := h
      have := bls_rep h2 k
      subst this
      exact .of (cr_all g.calm) ⟨a, bs, rfl, g.sl A h1, here _ (by rw [Rep])⟩
  · rename_i xs
    cases k : xs.mapM blOf? with
    | none => rw [k] at e; cases e
    | some bs =>
      rw [k] at e; cases e
      obtain ⟨v, rfl, h⟩ := one rx
      rw [Rep] at h
      obtain ⟨a, vs, rfl, h1, h2⟩ := h
      have := bls_rep h2 k
      subst this
      exact .of (cr_any g.calm) ⟨a, bs, rfl, g.sl A h1, here _ (by rw [Rep])⟩
  · cases e
    obtain ⟨v, rfl, h⟩ := one rx
    rw [Rep] at h
    obtain ⟨a, vs, rfl, h1, h2⟩ := h
    refine .of call_list_of ⟨a, vs, rfl, .inl (g.sl A h1), fun p np => ?_⟩
    obtain ⟨A1, s1⟩ := A.new (o := .lst vs) np
    refine q _ _ _ s1 A1 ?_
    rw [Rep]
    exact ⟨p, _, rfl, .of upd_same, (Reps.mono s1 (List.prefix_refl _) _ _ h2)⟩
  · cases e
    obtain ⟨v, rfl, h⟩ := one rx
    rw [Rep] at h
    obtain ⟨a, vs, rfl, h1, h2⟩ := h
    refine .of call_list_of ⟨a, vs, rfl, .inr (g.st A h1), fun p np => ?_⟩
    obtain ⟨A1, s1⟩ := A.new (o := .lst vs) np
    refine q _ _ _ s1 A1 ?_
    rw [Rep]
    exact ⟨p, _, rfl, .of upd_same, (Reps.mono s1 (List.prefix_refl _) _ _ h2)⟩
  · cases e
    obtain ⟨v, rfl, h⟩ := one rx
    rw [Rep] at h
    obtain ⟨a, vs, rfl, h1, h2⟩ := h
    refine .of call_tuple_of ⟨a, vs, rfl, .inl ⟨g.sl A h1, fun p np => ?_⟩⟩
    obtain ⟨A1, s1⟩ := A.new (o := .tup vs) np
    refine q _ _ _ s1 A1 ?_
    rw [Rep]
    exact ⟨p, _, rfl, .of upd_same, (Reps.mono s1 (List.prefix_refl _) _ _ h2)⟩
  · cases e
    obtain ⟨v, rfl, h⟩ := one rx
    have h' := h
    rw [Rep] at h
    obtain ⟨a, vs, rfl, h1, h2⟩ := h
    exact .of call_tuple_of ⟨a, vs, rfl, .inr ⟨g.st A h1, here _ h'⟩⟩
  · rename_i xs
    cases k : xs.mapM intOf? with
    | none => rw [k] at e; cases e
    | some bs =>
      rw [k] at e; cases e
      obtain ⟨v, rfl, h⟩ := one rx
      rw [Rep] at h
      obtain ⟨a, vs, rfl, h1, h2⟩ := h
      have := ints_rep h2 k
      subst this
      exact .of (cr_sum g.calm) ⟨a, bs, rfl, g.sl A h1, here _ (by rw [Rep])⟩
  · cases e
    obtain ⟨v, u, rfl, h1, h2⟩ := two rx
    rw [Rep] at h1 h2; subst h1 h2
    exact .of (call_max2 g.calm) ⟨_, _, rfl, here _ (by rw [Rep])⟩
  · cases e
    obtain ⟨v, u, rfl, h1, h2⟩ := two rx
    rw [Rep] at h1 h2; subst h1 h2
    exact .of (call_min2 g.calm) ⟨_, _, rfl, here _ (by rw [Rep])⟩
  · rename_i d'
    cases k : reprD d' with
    | none => rw [k] at e; cases e
    | some t =>
      rw [k] at e; cases e
      obtain ⟨v, rfl, h⟩ := one rx
      unfold reprD at k
      split at k
      · rename_i p hp
        split at k
        · rename_i c
          cases k
          simp only [Bool.and_eq_true, decide_eq_true_eq] at c
          have hd := dp_of (H := H) A.same _ _ _ h hp
          have hr := g.room.un
          exact .of (call_repr g.gd (by omega)) ⟨v, p, rfl, by rw [g.K]; exact hd, c.1.1.1, bn c.1.1.2, c.1.2, c.2, here _ (by rw [Rep])⟩
        · cases k
      · cases k
  · cases e
/-! ## isinstance -/
theorem isi_types : ∀ a ∈ ["NoneType", "bool", "int", "str", "list", "tuple"], ∀ b ∈ isiTypes, kitB a b = some (isiD a b) := by
  decide +kernel
theorem tyD_mem {d : D} {t : String} (e : tyD d = some t) : t ∈ ["NoneType", "bool", "int", "str", "list", "tuple"] := by
  cases d <;> first | (cases e; done) | (cases e; decide)
theorem tyD_rep {d : D} {t : String} {v : V} (e : tyD d = some t) (A : Abs S T G H α μ) (rx : Rep S G α d v) : TyX S.K H v (.type t) := by
  cases d with
  | non => cases e; rw [Rep] at rx; subst rx; exact .base .non
  | bl _ => cases e; rw [Rep] at rx; subst rx; exact .base (.bl _)
  | int _ => cases e; rw [Rep] at rx; subst rx; exact .base (.int _)
  | str _ => cases e; rw [Rep] at rx; subst rx; exact .base (.str _)
  | tup _ =>
    cases e; rw [Rep] at rx
    obtain ⟨a, vs, rfl, h1, _⟩ := rx
    rcases SameT A.same h1 with (h | ⟨o, h⟩) | ⟨o, _, _, h, c, _⟩
    · exact .base (.tup h)
    · exact .fTuple h
    · exact .kTuple h c
  | lst _ =>
    cases e; rw [Rep] at rx
    obtain ⟨a, vs, rfl, h1, _⟩ := rx
    rcases A.same.seq h1 with (h | ⟨o, h⟩) | ⟨o, _, _, h, c, _⟩
    · exact .base (.lst h)
    · exact .base (.frz h)
    · exact .kList h c
  | ins _ _ => cases e
  | ref _ => cases e
  | ty _ => cases e
  | fn _ => cases e
theorem isi_any {K : PySem.W.Frag} {t : String} (ht : t ∈ ["NoneType", "bool", "int", "str", "list", "tuple"]) : ∀ {tys : List String}, (∀ b ∈ tys, b ∈ isiTypes) → PySem.W.kitAny K (.type t) (tys.map Value.type) = some (tys.any (isiD t))
  | [], _ => rfl
  | b :: r, h => by
    have e := kit_ty (K := K) (isi_types t ht b (h b List.mem_cons_self))
    have ih := isi_any (K := K) ht (tys := r) fun c hc => h c (List.mem_cons_of_mem _ hc)
    rw [List.map_cons, List.any_cons]
    unfold PySem.W.kitAny
    rw [e]
    cases q : isiD t b with
    | true => rfl
    | false => rw [Bool.false_or]; exact ih
end
end OB
namespace OB
open PySem PySem.Spec PyProof.Rows L2
def isStar : Expr → Bool
  | .Starred .. => true
  | _ => false
theorem star_cons {e : Expr} {es : List Expr} {env : Env} (h : isStar e = false) : starEach (e :: es) env = (false, eval e env) :: starEach es env := by
  cases e <;> first | rfl | cases h
theorem star_any {env : Env} {pos : Pos} : ∀ {es : List Expr}, (∀ e ∈ es, isStar e = false) → (backTo pos (starEach es env)).any (·.1) = false
  | [], _ => rfl
  | e :: es, h => by
    rw [star_cons (h e List.mem_cons_self)]
    show (false || (backTo pos (starEach es env)).any (·.1)) = false
    rw [star_any fun x hx => h x (List.mem_cons_of_mem _ hx)]; rfl
section
variable {S : Sys} {tb : Tb} {Φ : Fns}
theorem chkE_star {wh : Wh} {ir : Ex} {e : Expr} (h : chkE tb wh ir e = true) : isStar e = false := by
  cases e <;> first | rfl | (cases ir <;> (simp only [chkE] at h; cases h))
theorem chkEs_star : ∀ {wh : Wh} {ir : Exs} {es : List Expr}, chkEs tb wh ir es = true → ∀ e ∈ es, isStar e = false
  | _, .nil, [], _, e, he => by cases he
  | _, .nil, _ :: _, h, _, _ => by simp only [chkEs] at h; cases h
  | _, .cons a r, [], h, _, _ => by simp only [chkEs] at h; cases h
  | _, .cons a r, x :: xs, h, e, he => by
    simp only [chkEs] at h
    obtain ⟨h1, h2⟩ := ba2 h
    rcases List.mem_cons.mp he with rfl | he
    · exact chkE_star h1
    · exact chkEs_star h2 e he
theorem bltBoot : ∀ b : Blt, bootBuiltins (Str.ofString b.name) = some b.val
  | .len => boot_len | .abs => boot_abs | .all => boot_all | .any => boot_any | .list => boot_list | .tuple => boot_tuple | .sum => boot_sum | .max => boot_max | .min => boot_min
  | .repr => boot_repr | .str => boot_str | .int => boot_int | .sorted => boot_sorted
/-- f(e, ..) of a def -/
theorem pe_callG {wh : Wh} {W : WX} {X : Cx} {k : Nat} {f : Addr} {fd : FuncData} {ps : List Str} {sp : Sp} {x : Str} {p pos : Pos} {e : Expr} {es : List Expr} {t : TA} (g : GX S wh W X) (Fn : FnG S k f fd ps sp) (hk : k ≤ wh.k) (hg : Gl X x)
    (hm : X.mg x = some (.ref f)) (kp : PySem.W.keepIn X.K (.ref f) = true) (hb : Binds X.K fd ps []) (hdb : (x == ("__debug__" : Str)) = false) (hst : ∀ y ∈ e :: es, isStar y = false)
    (ha : PA X (e :: es) t) : PE X (.Call (.Name x p) (e :: es) [] pos) (fun σ H Q => t σ H fun vs H1 => sp vs H1 Q (fun c d H' => W c d σ H')) := by
  refine ⟨fun pins s σ H Q I h => ?_⟩
  have hs := star_cons (env := X.env) (es := es) (hst e List.mem_cons_self)
  refine wpAny_Call_Name_kw (ld_glob I hg hm ?_ hdb)
  refine PySem.W.callWith_K (h₀ := X.base) I.ok.mod.kin kp (thn (ha.run pos pins s σ H _ I h) fun us s1 ⟨vs, H1, I1, r, q⟩ => ⟨I1.kIn, ?_⟩) hs (star_any fun y hy => hst y (List.mem_cons_of_mem _ hy))
  have hl : us.length = ps.length := by rw [← r.length]; exact Fn.len _ _ _ _ q
  have e0 := I1.env0
  have hbd := hb s1 us I1.kIn (by simpa using hl)
  rw [List.append_nil] at hbd
  have run := Fn.run X.A X.stack s1 H1 ⟨us, []⟩ us vs Q (fun c d H' => W c d σ H') (g.room.mono hk) g.gd (by rw [← g.P, ← g.w, ← g.K, ← g.mg, ← g.base]; exact e0) hbd r q
  rw [← g.P, ← g.w] at run
  refine wpAny_call (codeAny_mono run fun r s' hq => ?_)
  cases r with
  | error er => exact passAt g.tk σ pins H1 s1 er s' I1 hq
  | ok fl =>
    cases fl with
    | ret u => exact I1.after hq
    | next => exact False.elim hq
    | brk => exact False.elim hq
    | cont => exact False.elim hq
theorem pe_callBG {X : Cx} {r : List V → Hp → VK → Prop} {b : Blt} {x : Str} {p pos : Pos} {e : Expr} {es : List Expr} {t : TA} (hc : CallR X b.val r) (hx : x = Str.ofString b.name) (hg : Gl X x) (hm : X.mg x = none) (hdb : (x == ("__debug__" : Str)) = false) (hn : x ≠ "__name__")
    (hst : ∀ y ∈ e :: es, isStar y = false) (ha : PA X (e :: es) t) : PE X (.Call (.Name x p) (e :: es) [] pos) (tCB r t) := by
  have hs := star_cons (env := X.env) (es := es) (hst e List.mem_cons_self)
  have hp := star_any (env := X.env) (pos := pos) fun y hy => hst y (List.mem_cons_of_mem _ hy)
  have hv := bltBoot b
  rw [← hx] at hv
  unfold Blt.val at hc hv
  split at hc
  · rename_i c
    rw [if_pos c] at hv
    exact pe_callTy hc hg hm hv ha hn hdb hs hp
  · rename_i c
    rw [if_neg c] at hv
    exact pe_callB hc hg hm hv ha hn hdb hs hp
end
end OB
namespace OB
open PySem PySem.Spec PyProof.Rows L2
section
variable {S : Sys} {tb : Tb} {Φ : Fns}
def SndE (S : Sys) (Φ : Fns) (wh : Wh) (ir : Ex) (e : Expr) : Prop := ∀ W X, GX S wh W X → PE X e (tE S Φ W ir)
def SndEs (S : Sys) (Φ : Fns) (wh : Wh) (ir : Exs) (e : List Expr) : Prop := ∀ W X, GX S wh W X → PA X e (tEs S Φ W ir)
def SndT (S : Sys) (Φ : Fns) (wh : Wh) (ir : Ts) (e : Expr) : Prop := ∀ W X, GX S wh W X → PT X e (tTs S Φ W ir)
def SndW (S : Sys) (Φ : Fns) (wh : Wh) (ir : Ts) (e : Expr) : Prop := ∀ W X, GX S wh W X → PW X e (tTs S Φ W ir)
def SndO (S : Sys) (Φ : Fns) (wh : Wh) (ir : Oe) (e : Option Expr) : Prop := ∀ W X, GX S wh W X → PO X e (tOe S Φ W ir)
def tIw (S : Sys) (Φ : Fns) (W : WX) (ir : Iw) : TI := fun σ H R => ∃ T G α μ ρ, Abs S T G H α μ ∧ EnvR S G α ρ σ ∧ Post S T G α (Walks S) (evI Φ ir ρ μ) R (fun c d H' => W c d σ H')
def SndI (S : Sys) (Φ : Fns) (wh : Wh) (ir : Iw) (tg e : Expr) : Prop := ∀ W X, GX S wh W X → PI X tg e (tIw S Φ W ir)
/-- a target's reading: the data d stands for v -/
def tTg (S : Sys) (Φ : Fns) (ir : Tg) : TG := fun v σ H Q => ∃ T G α μ ρ d ρ' μ', Abs S T G H α μ ∧ EnvR S G α ρ σ ∧ Rep S G α d v ∧ evG Φ ir d ρ μ = .ok ρ' μ' ∧ ∀ σ', EnvR S G α ρ' σ' → μ' = μ → Q σ' H
def tTgs (S : Sys) (Φ : Fns) (ir : Tgs) : TGs := fun vs σ H Q => ∃ T G α μ ρ ds ρ' μ', Abs S T G H α μ ∧ EnvR S G α ρ σ ∧ Reps S G α ds vs ∧ evGs Φ ir ds ρ μ = .ok ρ' μ' ∧ ∀ σ', EnvR S G α ρ' σ' → μ' = μ → Q σ' H
def SndG (S : Sys) (Φ : Fns) (wh : Wh) (ir : Tg) (e : Expr) : Prop := ∀ W X, GX S wh W X → PG X e (tTg S Φ ir)
def SndGs (S : Sys) (Φ : Fns) (wh : Wh) (ir : Tgs) (e : List Expr) : Prop := ∀ W X, GX S wh W X → PGs X e (tTgs S Φ ir)

theorem rassoc {A B C : Type} (r : Res A) (f : A → Mem → Res B) (k : B → Mem → Res C) : (r.bind f).bind k = r.bind fun a m => (f a m).bind k := by
  cases r <;> rfl
theorem rep_non {G : Hp} {α : List Addr} : Rep S G α .non .non := by rw [Rep]
theorem rep_bl {G : Hp} {α : List Addr} {b : Bool} : Rep S G α (.bl b) (.bl b) := by rw [Rep]
theorem rep_int {G : Hp} {α : List Addr} {i : Int} : Rep S G α (.int i) (.int i) := by rw [Rep]
theorem rep_str {G : Hp} {α : List Addr} {x : Str} : Rep S G α (.str x) (.str x) := by rw [Rep]
theorem sn_var {wh : Wh} {i : Nat} {e : Expr} (h : chkE tb wh (.var i) e = true) : SndE S Φ wh (.var i) e := by
  intro W X g
  unfold chkE at h
  split at h
  · rename_i x p
    obtain ⟨h1, h2⟩ := ba2 h
    obtain ⟨h3, h4⟩ := ba2 h1
    obtain ⟨d1, d2, _⟩ := dunder_no (bn h2)
    refine PEimp (pe_var (i := i) (by rw [g.N]; exact of_decide_eq_true h3) (g.vis h4) d1 d2) fun σ H Q hq => ?_
    obtain ⟨T, G, α, μ, ρ, A, En, q⟩ := hq
    unfold evE at q
    split at q
    · rename_i d hd
      obtain ⟨v, e1, r⟩ := En.2 i d hd
      exact ⟨v, e1, q.here A r⟩
    · exact q.elim
  · cases h
theorem sn_const {wh : Wh} {X : Cx} {W : WX} {ir : Ex} {e : Expr} {d : D} {v : V} (hp : PE X e (tC v)) (he : ∀ ρ μ, evE Φ ir ρ μ = .ok d μ) (hr : ∀ G α, Rep S G α d v) : PE X e (tE S Φ W ir) := by
  refine PEimp hp fun σ H Q hq => ?_
  obtain ⟨T, G, α, μ, ρ, A, En, q⟩ := hq
  rw [he] at q
  exact q.here A (hr G α)
theorem sn_int {wh : Wh} {i : Int} {e : Expr} (h : chkE tb wh (.int i) e = true) : SndE S Φ wh (.int i) e := by
  intro W X g
  unfold chkE at h
  split at h
  · have := of_decide_eq_true h; subst this
    exact sn_const (wh := wh) pe_int (fun _ _ => by unfold evE; rfl) fun _ _ => by rw [Rep]
  · cases h
theorem sn_bl {wh : Wh} {i : Bool} {e : Expr} (h : chkE tb wh (.bl i) e = true) : SndE S Φ wh (.bl i) e := by
  intro W X g
  unfold chkE at h
  split at h
  · have := eq_of_beq h; subst this
    exact sn_const (wh := wh) pe_bl (fun _ _ => by unfold evE; rfl) fun _ _ => by rw [Rep]
  · cases h
theorem sn_non {wh : Wh} {e : Expr} (h : chkE tb wh .non e = true) : SndE S Φ wh .non e := by
  intro W X g
  unfold chkE at h
  split at h
  · exact sn_const (wh := wh) pe_non (fun _ _ => by unfold evE; rfl) fun _ _ => by rw [Rep]
  · cases h
theorem sn_str {wh : Wh} {i : String} {e : Expr} (h : chkE tb wh (.str i) e = true) : SndE S Φ wh (.str i) e := by
  intro W X g
  unfold chkE at h
  split at h
  · have := of_decide_eq_true h; subst this
    exact sn_const (wh := wh) pe_str (fun _ _ => by unfold evE; rfl) fun _ _ => by rw [Rep]
  · cases h
theorem sn_glob {wh : Wh} {x : String} {i : Int} {e : Expr} (F : Fx S tb Φ) (h : chkE tb wh (.glob x i) e = true) : SndE S Φ wh (.glob x i) e := by
  intro W X g
  unfold chkE at h
  split at h
  · obtain ⟨h1, h2⟩ := ba2 h
    obtain ⟨h3, h4⟩ := ba2 h1
    obtain ⟨h5, h6⟩ := ba2 h3
    obtain ⟨d1, d2, _⟩ := dunder_no (bn h2)
    obtain ⟨t, ht⟩ := F.gi _ (List.contains_iff_mem.mp h4)
    rw [← g.mg] at ht
    exact sn_const (wh := wh) (pe_glob (v := .int i) (g.gl h6) ht ⟨t, rfl⟩ d1) (fun _ _ => by unfold evE; rfl) fun _ _ => by rw [Rep]
  · cases h
theorem sn_bin {wh : Wh} {op : Operator} {a b : Ex} {e : Expr} (ha : ∀ e, chkE tb wh a e = true → SndE S Φ wh a e) (hb : ∀ e, chkE tb wh b e = true → SndE S Φ wh b e) (h : chkE tb wh (.bin op a b) e = true) : SndE S Φ wh (.bin op a b) e := by
  intro W X g
  unfold chkE at h
  split at h
  · obtain ⟨h1, h2⟩ := ba2 h
    obtain ⟨h3, h4⟩ := ba2 h1
    have := of_decide_eq_true h3; subst this
    refine PEimp (pe_op WpOp.op (ha _ h4 W X g) (hb _ h2 W X g)) fun σ H Q hq => ?_
    obtain ⟨T, G, α, μ, ρ, A, En, q⟩ := hq
    unfold evE at q
    refine ⟨T, G, α, μ, ρ, A, En, q.step fun d1 μ1 G1 α1 H1 x s1 p1 A1 r1 q1 => ?_⟩
    refine ⟨T, G1, α1, μ1, ρ, A1, En.mono s1 p1, q1.step fun d2 μ2 G2 α2 H2 y s2 p2 A2 r2 q2 => ?_⟩
    obtain ⟨d, e1, q3⟩ := q2.lift
    exact binOk g e1 A2 (r1.mono s2 p2 _ _) r2 fun G3 H3 v s3 A3 r3 => q3.at s3 A3 r3
  · cases h
theorem sn_neg {wh : Wh} {a : Ex} {e : Expr} (ha : ∀ e, chkE tb wh a e = true → SndE S Φ wh a e) (h : chkE tb wh (.neg a) e = true) : SndE S Φ wh (.neg a) e := by
  intro W X g
  unfold chkE at h
  split at h
  · refine PEimp (pe_un un_neg (ha _ h W X g)) fun σ H Q hq => ?_
    obtain ⟨T, G, α, μ, ρ, A, En, q⟩ := hq
    unfold evE at q
    refine ⟨T, G, α, μ, ρ, A, En, q.step fun d1 μ1 G1 α1 H1 x s1 p1 A1 r1 q1 => ?_⟩
    obtain ⟨d, e1, q3⟩ := q1.lift
    cases d1 <;> first | (cases e1; done) | (cases e1; (have r1' : Rep _ _ _ _ _ := r1); rw [Rep] at r1'; subst r1'; exact ⟨_, rfl, q3.here A1 rep_int⟩)
  · cases h
theorem sn_cmp {wh : Wh} {op : CmpOp} {a b : Ex} {e : Expr} (ha : ∀ e, chkE tb wh a e = true → SndE S Φ wh a e) (hb : ∀ e, chkE tb wh b e = true → SndE S Φ wh b e) (h : chkE tb wh (.cmp op a b) e = true) :
    SndE S Φ wh (.cmp op a b) e ∧ SndT S Φ wh (.val (.cmp op a b)) e := by
  unfold chkE at h
  split at h
  · obtain ⟨h1, h2⟩ := ba2 h
    obtain ⟨h3, h4⟩ := ba2 h1
    obtain ⟨h5, h6⟩ := ba2 h3
    have := of_decide_eq_true h5; subst this
    constructor
    · intro W X g
      refine PEimp (pe_cmpR WpOp.op (ha _ h4 W X g) (hb _ h2 W X g) (bn h6)) fun σ H Q hq => ?_
      obtain ⟨T, G, α, μ, ρ, A, En, q⟩ := hq
      unfold evE at q
      refine ⟨T, G, α, μ, ρ, A, En, q.step fun d1 μ1 G1 α1 H1 x s1 p1 A1 r1 q1 => ?_⟩
      refine ⟨T, G1, α1, μ1, ρ, A1, En.mono s1 p1, q1.step fun d2 μ2 G2 α2 H2 y s2 p2 A2 r2 q2 => ?_⟩
      obtain ⟨d, e1, q3⟩ := q2.lift
      obtain ⟨b, e2, e3⟩ := Option.map_eq_some_iff.mp e1
      subst e3
      exact cmpOk g e2 A2 (r1.mono s2 p2 _ _) r2 (q3.here A2 rep_bl)
    · intro W X g
      refine PTimp (pt_cmpR WpOp.op (ha _ h4 W X g) (hb _ h2 W X g) (bn h6)) fun σ H Q hq => ?_
      obtain ⟨T, G, α, μ, ρ, A, En, q⟩ := hq
      unfold evT evE at q
      simp only [rassoc] at q
      refine ⟨T, G, α, μ, ρ, A, En, q.step fun d1 μ1 G1 α1 H1 x s1 p1 A1 r1 q1 => ?_⟩
      refine ⟨T, G1, α1, μ1, ρ, A1, En.mono s1 p1, q1.step fun d2 μ2 G2 α2 H2 y s2 p2 A2 r2 q2 => ?_⟩
      cases e2 : cmpD op d1 d2 with
      | none => rw [e2] at q2; exact q2.elim
      | some c =>
        rw [e2] at q2
        exact cmpOk g e2 A2 (r1.mono s2 p2 _ _) r2 ⟨c, rfl, Post.here (R := REq Bool) q2 A2 rfl⟩
  · cases h
theorem sn_chain {wh : Wh} {o1 o2 : CmpOp} {a b c : Ex} {e : Expr} (ha : ∀ e, chkE tb wh a e = true → SndE S Φ wh a e) (hb : ∀ e, chkE tb wh b e = true → SndE S Φ wh b e) (hc : ∀ e, chkE tb wh c e = true → SndE S Φ wh c e)
    (h : chkE tb wh (.chain o1 o2 a b c) e = true) : SndE S Φ wh (.chain o1 o2 a b c) e ∧ SndT S Φ wh (.val (.chain o1 o2 a b c)) e := by
  unfold chkE at h
  split at h
  · rename_i x p1 p2 y z pos
    simp only [Bool.and_eq_true, decide_eq_true_eq] at h
    obtain ⟨⟨⟨⟨⟨⟨⟨⟨rfl, rfl⟩, n1⟩, n2⟩, n3⟩, n4⟩, hx⟩, hy⟩, hz⟩ := h
    have hm : lastMarks [o1, o2] [y, z] = false := nomark z n3 n4
    constructor
    · intro W X g
      refine PEimp (pe_chain WpOp.op WpOp.op (ha _ hx W X g) (hb _ hy W X g) (hc _ hz W X g) hm) fun σ H Q hq => ?_
      obtain ⟨T, G, α, μ, ρ, A, En, q⟩ := hq
      unfold evE at q
      refine ⟨T, G, α, μ, ρ, A, En, q.step fun d1 μ1 G1 α1 H1 x s1 p1 A1 r1 q1 => ?_⟩
      refine ⟨T, G1, α1, μ1, ρ, A1, En.mono s1 p1, q1.step fun d2 μ2 G2 α2 H2 y s2 p2 A2 r2 q2 => ?_⟩
      cases e2 : cmpD o1 d1 d2 with
      | none => rw [e2] at q2; exact q2.elim
      | some k =>
        rw [e2] at q2
        refine cmpOk g e2 A2 (r1.mono s2 p2 _ _) r2 ⟨k, rfl, ?_⟩
        cases k with
        | false => exact q2.here A2 rep_bl
        | true =>
          refine ⟨T, G2, α2, μ2, ρ, A2, (En.mono s1 p1).mono s2 p2, Post.step q2 fun d3 μ3 G3 α3 H3 z s3 p3 A3 r3 q3 => ?_⟩
          obtain ⟨d, e3, q4⟩ := q3.lift
          obtain ⟨k2, e4, e5⟩ := Option.map_eq_some_iff.mp e3
          subst e5
          exact cmpOk g e4 A3 (r2.mono s3 p3 _ _) r3 (q4.here A3 rep_bl)
    · intro W X g
      refine PTimp (pt_chain WpOp.op WpOp.op (ha _ hx W X g) (hb _ hy W X g) (hc _ hz W X g) hm) fun σ H Q hq => ?_
      obtain ⟨T, G, α, μ, ρ, A, En, q⟩ := hq
      unfold evT evE at q
      simp only [rassoc] at q
      refine ⟨T, G, α, μ, ρ, A, En, q.step fun d1 μ1 G1 α1 H1 x s1 p1 A1 r1 q1 => ?_⟩
      refine ⟨T, G1, α1, μ1, ρ, A1, En.mono s1 p1, q1.step fun d2 μ2 G2 α2 H2 y s2 p2 A2 r2 q2 => ?_⟩
      cases e2 : cmpD o1 d1 d2 with
      | none => rw [e2] at q2; exact q2.elim
      | some k =>
        rw [e2] at q2
        refine cmpOk g e2 A2 (r1.mono s2 p2 _ _) r2 ⟨k, rfl, ?_⟩
        cases k with
        | false => exact ⟨false, rfl, Post.here (R := REq Bool) q2 A2 rfl⟩
        | true =>
          simp only [rassoc] at q2
          refine ⟨T, G2, α2, μ2, ρ, A2, (En.mono s1 p1).mono s2 p2, Post.step q2 fun d3 μ3 G3 α3 H3 z s3 p3 A3 r3 q3 => ?_⟩
          cases e4 : cmpD o2 d2 d3 with
          | none => rw [e4] at q3; exact q3.elim
          | some k2 =>
            rw [e4] at q3
            exact cmpOk g e4 A3 (r2.mono s3 p3 _ _) r3 ⟨k2, rfl, Post.here (R := REq Bool) q3 A3 rfl⟩
  · cases h
theorem sn_and {wh : Wh} {a b : Ex} {e : Expr} (ha : ∀ e, chkE tb wh a e = true → SndE S Φ wh a e) (hb : ∀ e, chkE tb wh b e = true → SndE S Φ wh b e) (h : chkE tb wh (.and a b) e = true) : SndE S Φ wh (.and a b) e := by
  intro W X g
  unfold chkE at h
  split at h
  · rename_i x y r p
    obtain ⟨h1, h2⟩ := ba2 h
    have hB : PE X (.BoolOp .And (y :: r) p) (tE S Φ W b) := by
      cases r with
      | nil => exact pe_one (hb _ h2 W X g)
      | cons z r => exact hb _ h2 W X g
    refine PEimp (pe_and (ha _ h1 W X g) hB) fun σ H Q hq => ?_
    obtain ⟨T, G, α, μ, ρ, A, En, q⟩ := hq
    unfold evE at q
    refine ⟨T, G, α, μ, ρ, A, En, q.step fun d1 μ1 G1 α1 H1 x s1 p1 A1 r1 q1 => ?_⟩
    split at q1
    · (have r1' : Rep _ _ _ _ _ := r1); rw [Rep] at r1'; subst r1'
      exact ⟨true, rfl, iteT ⟨T, G1, α1, μ1, ρ, A1, En.mono s1 p1, q1⟩⟩
    · (have r1' : Rep _ _ _ _ _ := r1); rw [Rep] at r1'; subst r1'
      exact ⟨false, rfl, iteF (q1.here A1 rep_bl)⟩
    · exact q1.elim
  · cases h
theorem sn_or {wh : Wh} {a b : Ex} {e : Expr} (ha : ∀ e, chkE tb wh a e = true → SndE S Φ wh a e) (hb : ∀ e, chkE tb wh b e = true → SndE S Φ wh b e) (h : chkE tb wh (.or a b) e = true) : SndE S Φ wh (.or a b) e := by
  intro W X g
  unfold chkE at h
  split at h
  · rename_i x y r p
    obtain ⟨h1, h2⟩ := ba2 h
    have hB : PE X (.BoolOp .Or (y :: r) p) (tE S Φ W b) := by
      cases r with
      | nil => exact pe_one (hb _ h2 W X g)
      | cons z r => exact hb _ h2 W X g
    refine PEimp (pe_or (ha _ h1 W X g) hB) fun σ H Q hq => ?_
    obtain ⟨T, G, α, μ, ρ, A, En, q⟩ := hq
    unfold evE at q
    refine ⟨T, G, α, μ, ρ, A, En, q.step fun d1 μ1 G1 α1 H1 x s1 p1 A1 r1 q1 => ?_⟩
    split at q1
    · (have r1' : Rep _ _ _ _ _ := r1); rw [Rep] at r1'; subst r1'
      exact ⟨false, rfl, iteF ⟨T, G1, α1, μ1, ρ, A1, En.mono s1 p1, q1⟩⟩
    · (have r1' : Rep _ _ _ _ _ := r1); rw [Rep] at r1'; subst r1'
      exact ⟨true, rfl, iteT (q1.here A1 rep_bl)⟩
    · exact q1.elim
  · cases h
theorem sn_not {wh : Wh} {a : Ex} {e : Expr} (ha : ∀ e, chkE tb wh a e = true → SndE S Φ wh a e) (h : chkE tb wh (.not a) e = true) : SndE S Φ wh (.not a) e := by
  intro W X g
  unfold chkE at h
  split at h
  · refine PEimp (pe_not (ha _ h W X g)) fun σ H Q hq => ?_
    obtain ⟨T, G, α, μ, ρ, A, En, q⟩ := hq
    unfold evE at q
    refine ⟨T, G, α, μ, ρ, A, En, q.step fun d1 μ1 G1 α1 H1 x s1 p1 A1 r1 q1 => ?_⟩
    obtain ⟨d, e1, q3⟩ := q1.lift
    cases d1 <;> first | (cases e1; done) | (cases e1; (have r1' : Rep _ _ _ _ _ := r1); rw [Rep] at r1'; subst r1'; exact ⟨_, rfl, q3.here A1 rep_bl⟩)
  · cases h
theorem sn_ite {wh : Wh} {t : Ts} {a b : Ex} {e : Expr} (ht : ∀ e, chkT tb wh t e = true → SndT S Φ wh t e) (ha : ∀ e, chkE tb wh a e = true → SndE S Φ wh a e) (hb : ∀ e, chkE tb wh b e = true → SndE S Φ wh b e) (h : chkE tb wh (.ite t a b) e = true) : SndE S Φ wh (.ite t a b) e := by
  intro W X g
  unfold chkE at h
  split at h
  · obtain ⟨h1, h2⟩ := ba2 h
    obtain ⟨h3, h4⟩ := ba2 h1
    refine PEimp (pe_ifExp (ht _ h3 W X g) (ha _ h4 W X g) (hb _ h2 W X g)) fun σ H Q hq => ?_
    obtain ⟨T, G, α, μ, ρ, A, En, q⟩ := hq
    unfold evE at q
    refine ⟨T, G, α, μ, ρ, A, En, q.step fun d1 μ1 G1 α1 H1 x s1 p1 A1 r1 q1 => ?_⟩
    cases r1
    cases d1 with
    | true => exact iteT ⟨T, G1, α1, μ1, ρ, A1, En.mono s1 p1, q1⟩
    | false => exact iteF ⟨T, G1, α1, μ1, ρ, A1, En.mono s1 p1, q1⟩
  · cases h
theorem sn_tup {wh : Wh} {es : Exs} {e : Expr} (ha : ∀ e, chkEs tb wh es e = true → SndEs S Φ wh es e) (h : chkE tb wh (.tup es) e = true) : SndE S Φ wh (.tup es) e := by
  intro W X g
  unfold chkE at h
  split at h
  · refine PEimp (pe_tup (ha _ h W X g)) fun σ H Q hq => ?_
    obtain ⟨T, G, α, μ, ρ, A, En, q⟩ := hq
    unfold evE at q
    refine ⟨T, G, α, μ, ρ, A, En, q.step fun ds μ1 G1 α1 H1 vs s1 p1 A1 r1 q1 => ?_⟩
    split at q1
    · rename_i c
      refine ⟨by rw [r1.length]; exact c, fun p np => ?_⟩
      obtain ⟨A2, s2⟩ := A1.new (o := .tup vs) np
      refine q1.at s2 A2 ?_
      show Rep _ _ _ _ _
      rw [Rep]
      exact ⟨p, vs, rfl, .of upd_same, Reps.mono s2 (List.prefix_refl _) _ _ r1⟩
    · exact q1.elim
  · cases h
theorem sn_lst {wh : Wh} {es : Exs} {e : Expr} (ha : ∀ e, chkEs tb wh es e = true → SndEs S Φ wh es e) (h : chkE tb wh (.lst es) e = true) : SndE S Φ wh (.lst es) e := by
  intro W X g
  unfold chkE at h
  split at h
  · refine PEimp (pe_lst (ha _ h W X g)) fun σ H Q hq => ?_
    obtain ⟨T, G, α, μ, ρ, A, En, q⟩ := hq
    unfold evE at q
    refine ⟨T, G, α, μ, ρ, A, En, q.step fun ds μ1 G1 α1 H1 vs s1 p1 A1 r1 q1 => ?_⟩
    split at q1
    · rename_i c
      refine ⟨by rw [r1.length]; exact c, fun p np => ?_⟩
      obtain ⟨A2, s2⟩ := A1.new (o := .lst vs) np
      refine q1.at s2 A2 ?_
      show Rep _ _ _ _ _
      rw [Rep]
      exact ⟨p, vs, rfl, .of upd_same, Reps.mono s2 (List.prefix_refl _) _ _ r1⟩
    · exact q1.elim
  · cases h
theorem sn_newl {wh : Wh} {es : Exs} {e : Expr} (ha : ∀ e, chkEs tb wh es e = true → SndEs S Φ wh es e) (h : chkE tb wh (.newl es) e = true) : SndE S Φ wh (.newl es) e := by
  intro W X g
  unfold chkE at h
  split at h
  · refine PEimp (pe_lst (ha _ h W X g)) fun σ H Q hq => ?_
    obtain ⟨T, G, α, μ, ρ, A, En, q⟩ := hq
    unfold evE at q
    refine ⟨T, G, α, μ, ρ, A, En, q.step fun ds μ1 G1 α1 H1 vs s1 p1 A1 r1 q1 => ?_⟩
    split at q1
    · rename_i c
      refine ⟨by rw [r1.length]; exact c, fun p np => ?_⟩
      have A2 := A1.alloc (mo := .lst ds) (o := .lst vs) np ⟨vs, upd_same, Reps.mono (Same.refl _) (List.prefix_append _ _) _ _ r1⟩
      refine q1 G1 (α1 ++ [p]) _ _ (Same.refl _) (List.prefix_append _ _) A2 ?_
      show Rep _ _ _ _ _
      rw [Rep]
      refine ⟨p, rfl, ?_⟩
      rw [← A1.len, List.getElem?_append_right (Nat.le_refl _)]
      simp
    · exact q1.elim
  · cases h
theorem sn_idx {wh : Wh} {a b : Ex} {e : Expr} (ha : ∀ e, chkE tb wh a e = true → SndE S Φ wh a e) (hb : ∀ e, chkE tb wh b e = true → SndE S Φ wh b e) (h : chkE tb wh (.idx a b) e = true) : SndE S Φ wh (.idx a b) e := by
  intro W X g
  unfold chkE at h
  split at h
  · rename_i x y pos
    obtain ⟨h1, h2⟩ := ba2 h
    obtain ⟨h3, h4⟩ := ba2 h1
    have hp : PlainIx y := by
      cases y <;> first | (intro _ _; rfl) | (exact absurd h2 Bool.false_ne_true)
    refine PEimp (pe_ix (ixU ix_list ix_tup) (ha _ h3 W X g) (hb _ h4 W X g) hp) fun σ H Q hq => ?_
    obtain ⟨T, G, α, μ, ρ, A, En, q⟩ := hq
    unfold evE at q
    refine ⟨T, G, α, μ, ρ, A, En, q.step fun d1 μ1 G1 α1 H1 x s1 p1 A1 r1 q1 => ?_⟩
    refine ⟨T, G1, α1, μ1, ρ, A1, En.mono s1 p1, q1.step fun d2 μ2 G2 α2 H2 y s2 p2 A2 r2 q2 => ?_⟩
    obtain ⟨d, e1, q3⟩ := q2.lift
    exact idxOk g e1 A2 (r1.mono s2 p2 _ _) r2 fun v r3 => q3.here A2 r3
  · cases h
theorem sn_slc {wh : Wh} {a : Ex} {lo hi : Oe} {e : Expr} (ha : ∀ e, chkE tb wh a e = true → SndE S Φ wh a e) (hl : ∀ e, chkO tb wh lo e = true → SndO S Φ wh lo e) (hh : ∀ e, chkO tb wh hi e = true → SndO S Φ wh hi e) (h : chkE tb wh (.slc a lo hi) e = true) : SndE S Φ wh (.slc a lo hi) e := by
  intro W X g
  unfold chkE at h
  split at h
  · obtain ⟨h1, h2⟩ := ba2 h
    obtain ⟨h3, h4⟩ := ba2 h1
    refine PEimp (pe_slice (SlR.or sl_list sl_tup) (ha _ h3 W X g) (hl _ h4 W X g) (hh _ h2 W X g)) fun σ H Q hq => ?_
    obtain ⟨T, G, α, μ, ρ, A, En, q⟩ := hq
    unfold evE at q
    refine ⟨T, G, α, μ, ρ, A, En, q.step fun d1 μ1 G1 α1 H1 x s1 p1 A1 r1 q1 => ?_⟩
    refine ⟨T, G1, α1, μ1, ρ, A1, En.mono s1 p1, q1.step fun l μ2 G2 α2 H2 l' s2 p2 A2 r2 q2 => ?_⟩
    refine ⟨T, G2, α2, μ2, ρ, A2, (En.mono s1 p1).mono s2 p2, q2.step fun u μ3 G3 α3 H3 u' s3 p3 A3 r3 q3 => ?_⟩
    cases r2; cases r3
    obtain ⟨d, e1, q4⟩ := q3.lift
    exact slcOk g e1 A3 ((r1.mono s2 p2 _ _).mono s3 p3 _ _) fun G4 H4 v s4 A4 r4 => q4.at s4 A4 r4
  · cases h
theorem sn_blt {wh : Wh} {f : Blt} {es : Exs} {e : Expr} (F : Fx S tb Φ) (ha : ∀ e, chkEs tb wh es e = true → SndEs S Φ wh es e) (h : chkE tb wh (.blt f es) e = true) : SndE S Φ wh (.blt f es) e := by
  intro W X g
  unfold chkE at h
  split at h
  · obtain ⟨h1, h2⟩ := ba2 h
    obtain ⟨h3, h4⟩ := ba2 h1
    obtain ⟨k1, k2, k3, k4⟩ := g.blt F h4
    refine PEimp (pe_callBG (WpCall.op (f := f.val)) (of_decide_eq_true h3) k1 k2 k3 k4 (chkEs_star h2) (ha _ h2 W X g)) fun σ H Q hq => ?_
    obtain ⟨T, G, α, μ, ρ, A, En, q⟩ := hq
    unfold evE at q
    refine ⟨T, G, α, μ, ρ, A, En, q.step fun ds μ1 G1 α1 H1 vs s1 p1 A1 r1 q1 => ?_⟩
    obtain ⟨d, e1, q3⟩ := q1.lift
    exact bltOk g e1 A1 r1 fun G2 H2 v s2 A2 r2 => q3.at s2 A2 r2
  · cases h
end
end OB
namespace OB
open PySem PySem.Spec PyProof.Rows L2
section
variable {S : Sys} {tb : Tb} {Φ : Fns} {T G H : Hp} {α : List Addr} {μ : Mem}
/-! ## references below n -/
mutual
theorem Rep.shrink {n : Nat} : ∀ (d : D) (v : V), Rep S G α d v → d.lt n = true → Rep S G (α.take n) d v
  | .non, _, h, _ => by rw [Rep] at h ⊢; exact h
  | .bl _, _, h, _ => by rw [Rep] at h ⊢; exact h
  | .int _, _, h, _ => by rw [Rep] at h ⊢; exact h
  | .str _, _, h, _ => by rw [Rep] at h ⊢; exact h
  | .tup ds, _, h, l => by
    rw [Rep] at h ⊢; rw [D.lt] at l
    obtain ⟨a, vs, e, h1, h2⟩ := h
    exact ⟨a, vs, e, h1, Reps.shrink ds vs h2 l⟩
  | .lst ds, _, h, l => by
    rw [Rep] at h ⊢; rw [D.lt] at l
    obtain ⟨a, vs, e, h1, h2⟩ := h
    exact ⟨a, vs, e, h1, Reps.shrink ds vs h2 l⟩
  | .ins c fs, _, h, l => by
    rw [Rep] at h ⊢; rw [D.lt] at l
    obtain ⟨a, dx, vs, e, h1, h2⟩ := h
    exact ⟨a, dx, vs, e, h1, RepF.shrink fs vs h2 l⟩
  | .ref i, _, h, l => by
    rw [Rep] at h ⊢; rw [D.lt] at l
    obtain ⟨a, e, h1⟩ := h
    exact ⟨a, e, by rw [List.getElem?_take_of_lt (of_decide_eq_true l)]; exact h1⟩
  | .ty _, _, h, _ => by rw [Rep] at h ⊢; exact h
  | .fn _, _, h, _ => by rw [Rep] at h ⊢; exact h
theorem Reps.shrink {n : Nat} : ∀ (ds : List D) (vs : List V), Reps S G α ds vs → D.lts n ds = true → Reps S G (α.take n) ds vs
  | [], _, h, _ => by rw [Reps] at h ⊢; exact h
  | d :: ds, _, h, l => by
    rw [Reps] at h ⊢; rw [D.lts] at l
    obtain ⟨v, r, e, h1, h2⟩ := h
    obtain ⟨l1, l2⟩ := ba2 l
    exact ⟨v, r, e, Rep.shrink d v h1 l1, Reps.shrink ds r h2 l2⟩
theorem RepF.shrink {n : Nat} : ∀ (ds : List (Str × D)) (vs : List (Str × V)), RepF S G α ds vs → D.ltf n ds = true → RepF S G (α.take n) ds vs
  | [], _, h, _ => by rw [RepF] at h ⊢; exact h
  | (x, d) :: ds, _, h, l => by
    rw [RepF] at h ⊢; rw [D.ltf] at l
    obtain ⟨v, r, e, h1, h2⟩ := h
    obtain ⟨l1, l2⟩ := ba2 l
    exact ⟨v, r, e, Rep.shrink d v h1 l1, RepF.shrink ds r h2 l2⟩
end
theorem RepK.shrink {n : Nat} : ∀ (ds : List (Key × D)) (vs : List (Key × V)), RepK S G α ds vs → ltk n ds = true → RepK S G (α.take n) ds vs
  | [], _, h, _ => by rw [RepK] at h ⊢; exact h
  | (x, d) :: ds, _, h, l => by
    rw [RepK] at h ⊢; rw [ltk] at l
    obtain ⟨v, r, e, h1, h2⟩ := h
    obtain ⟨l1, l2⟩ := ba2 l
    exact ⟨v, r, e, Rep.shrink d v h1 l1, RepK.shrink ds r h2 l2⟩
theorem MOk.shrink {n : Nat} {a : Addr} {mo : MO} (h : MOk S G H α a mo) (l : mo.lt n = true) : MOk S G H (α.take n) a mo := by
  cases mo with
  | lst ds => obtain ⟨vs, h1, h2⟩ := h; exact ⟨vs, h1, Reps.shrink _ _ h2 l⟩
  | dct kvs => obtain ⟨vs, h1, h2⟩ := h; exact ⟨vs, h1, RepK.shrink _ _ h2 l⟩
  | ins c fs => obtain ⟨dx, vs, h1, h2⟩ := h; exact ⟨dx, vs, h1, RepF.shrink _ _ h2 l⟩
  | dead => trivial
theorem Mem.lt_get {n : Nat} : ∀ {μ : Mem} {i : Nat} {mo : MO}, Mem.lt n μ = true → μ[i]? = some mo → mo.lt n = true
  | [], _, _, _, e => by simp at e
  | m :: ms, 0, _, h, e => by simp at e; subst e; rw [Mem.lt] at h; exact (ba2 h).1
  | m :: ms, i + 1, _, h, e => by rw [Mem.lt] at h; exact Mem.lt_get (ba2 h).2 (by simpa using e)
/-- the memory's first n objects alone -/
theorem Abs.cut (A : Abs S T G H α μ) (n : Nat) (l : Mem.lt n (μ.take n) = true) : Abs S T G H (α.take n) (μ.take n) := by
  have gm : ∀ {i : Nat} {mo : MO}, (μ.take n)[i]? = some mo → i < n ∧ μ[i]? = some mo := fun {i mo} e => by
    have hi := (List.getElem?_eq_some_iff.mp e).1
    rw [List.length_take] at hi
    have : i < n := by omega
    rw [List.getElem?_take_of_lt this] at e
    exact ⟨this, e⟩
  have ga : ∀ {i : Nat} {a : Addr}, (α.take n)[i]? = some a → α[i]? = some a := fun {i a} e => by
    have hi := (List.getElem?_eq_some_iff.mp e).1
    rw [List.length_take] at hi
    rw [List.getElem?_take_of_lt (by omega)] at e
    exact e
  refine ⟨A.same, A.aside, by rw [List.length_take, List.length_take, A.len], fun i mo a h ha lv => ?_, fun i j mo mo' a h1 h2 l1 l2 a1 a2 => A.inj i j mo mo' a (gm h1).2 (gm h2).2 l1 l2 (ga a1) (ga a2)⟩
  obtain ⟨g1, g2, g3⟩ := A.cell i mo a (gm h).2 (ga ha) lv
  exact ⟨g1, g2, g3.shrink (Mem.lt_get l h)⟩
/-- the first k objects for a callee, the others aside -/
noncomputable def asideT (T H : Hp) (α : List Addr) (μ : Mem) (k : Nat) : Hp := by
  classical
  exact fun a => if ∃ i mo, k ≤ i ∧ μ[i]? = some mo ∧ mo.live = true ∧ α[i]? = some a then H a else T a
theorem asideT_in {k i : Nat} {mo : MO} {a : Addr} (hk : k ≤ i) (h : μ[i]? = some mo) (l : mo.live = true) (ha : α[i]? = some a) : asideT T H α μ k a = H a := by
  unfold asideT
  exact if_pos ⟨i, mo, hk, h, l, ha⟩
theorem asideT_out {k : Nat} {a : Addr} (h : ¬ ∃ i mo, k ≤ i ∧ μ[i]? = some mo ∧ mo.live = true ∧ α[i]? = some a) : asideT T H α μ k a = T a := by
  unfold asideT
  exact if_neg h
theorem Abs.lend (A : Abs S T G H α μ) (k : Nat) (l : Mem.lt k (μ.take k) = true) : Abs S (asideT T H α μ k) G H (α.take k) (μ.take k) := by
  have B := A.cut k l
  refine ⟨B.same, fun a o e => ?_, B.len, fun i mo a h ha lv => ?_, B.inj⟩
  · by_cases q : ∃ i mo, k ≤ i ∧ μ[i]? = some mo ∧ mo.live = true ∧ α[i]? = some a
    · obtain ⟨i, mo, hk, h, lv, ha⟩ := q
      rw [asideT_in hk h lv ha] at e
      exact ⟨e, (A.cell i mo a h ha lv).1⟩
    · rw [asideT_out q] at e
      exact A.aside a o e
  · obtain ⟨g1, g2, g3⟩ := B.cell i mo a h ha lv
    refine ⟨g1, ?_, g3⟩
    have hi : i < k := by
      have := (List.getElem?_eq_some_iff.mp h).1
      rw [List.length_take] at this; omega
    rw [List.getElem?_take_of_lt hi] at h ha
    rw [asideT_out]
    · exact g2
    · rintro ⟨j, mo', hk, h', lv', ha'⟩
      have := A.inj i j mo mo' a h h' lv lv' ha ha'
      omega
theorem Abs.back {G' H' : Hp} {α' : List Addr} {μ2 : Mem} {k : Nat} (A : Abs S T G H α μ) (hk : k ≤ μ.length) (sg : Same G G') (B : Abs S (asideT T H α μ k) G' H' α' μ2) (pa : α.take k <+: α') (hl : μ2.length = k) : α' = α.take k ∧ Abs S T G' H' α (μ2 ++ μ.drop k) := by
  have ea : α' = α.take k := by
    obtain ⟨t, e⟩ := pa
    have h1 := B.len
    rw [hl, ← e, List.length_append, List.length_take, A.len, Nat.min_eq_left hk] at h1
    have : t = [] := List.eq_nil_of_length_eq_zero (by omega)
    rw [← e, this, List.append_nil]
  subst ea
  refine ⟨rfl, ?_⟩
  have pre : α.take k <+: α := List.take_prefix _ _
  have lk : (α.take k).length = k := by rw [List.length_take, A.len]; omega
  have at1 : ∀ {i : Nat} {mo : MO} {a : Addr}, (μ2 ++ μ.drop k)[i]? = some mo → α[i]? = some a → mo.live = true →
      (i < k ∧ μ2[i]? = some mo ∧ (α.take k)[i]? = some a) ∨ (k ≤ i ∧ μ[i]? = some mo ∧ asideT T H α μ k a = H a) := fun {i mo a} h ha lv => by
    by_cases hi : i < k
    · rw [List.getElem?_append_left (by omega)] at h
      exact .inl ⟨hi, h, by rw [List.getElem?_take_of_lt hi]; exact ha⟩
    · rw [List.getElem?_append_right (by omega), List.getElem?_drop, hl] at h
      have e : k + (i - k) = i := by omega
      rw [e] at h
      exact .inr ⟨by omega, h, asideT_in (by omega) h lv ha⟩
  refine ⟨B.same, fun a o e => ?_, by rw [List.length_append, List.length_drop, hl, A.len]; omega, fun i mo a h ha lv => ?_, fun i j mo mo' a h1 h2 l1 l2 a1 a2 => ?_⟩
  · refine B.aside a o ?_
    by_cases q : ∃ i mo, k ≤ i ∧ μ[i]? = some mo ∧ mo.live = true ∧ α[i]? = some a
    · obtain ⟨i, mo, hk, h, lv, ha⟩ := q
      rw [asideT_in hk h lv ha]
      exact (A.aside a o e).1
    · rw [asideT_out q]; exact e
  · rcases at1 h ha lv with ⟨hi, h', ha'⟩ | ⟨hi, h', e'⟩
    · obtain ⟨g1, g2, g3⟩ := B.cell i mo a h' ha' lv
      refine ⟨g1, ?_, g3.mono (Same.refl _) pre rfl⟩
      cases q : T a with
      | none => rfl
      | some o =>
        exfalso
        by_cases z : ∃ i mo, k ≤ i ∧ μ[i]? = some mo ∧ mo.live = true ∧ α[i]? = some a
        · obtain ⟨i2, mo2, hk2, h2, lv2, ha2⟩ := z
          have := (A.cell i2 mo2 a h2 ha2 lv2).2.1
          rw [q] at this; cases this
        · rw [asideT_out z, q] at g2; cases g2
    · obtain ⟨o, ho⟩ := A.there h' ha lv
      obtain ⟨g1, g2, g3⟩ := A.cell i mo a h' ha lv
      obtain ⟨k1, k2⟩ := B.aside a o (by rw [e', ho])
      exact ⟨k2, g2, g3.mono sg (List.prefix_refl _) (by rw [k1, ho])⟩
  · rcases at1 h1 a1 l1 with ⟨i1, h1', b1⟩ | ⟨i1, h1', e1⟩ <;> rcases at1 h2 a2 l2 with ⟨i2, h2', b2⟩ | ⟨i2, h2', e2⟩
    · exact B.inj i j mo mo' a h1' h2' l1 l2 b1 b2
    · exfalso
      have := (B.cell i mo a h1' b1 l1).2.1
      rw [e2] at this
      obtain ⟨o, ho⟩ := A.there h2' a2 l2
      rw [ho] at this; cases this
    · exfalso
      have := (B.cell j mo' a h2' b2 l2).2.1
      rw [e1] at this
      obtain ⟨o, ho⟩ := A.there h1' a1 l1
      rw [ho] at this; cases this
    · exact A.inj i j mo mo' a h1' h2' l1 l2 a1 a2
theorem asideT_all : asideT T H α μ μ.length = T := by
  funext a
  refine asideT_out ?_
  rintro ⟨i, mo, h1, h2, _⟩
  have := (List.getElem?_eq_some_iff.mp h2).1
  omega
theorem sn_call {wh : Wh} {f k : Nat} {es : Exs} {e : Expr} (F : Fx S tb Φ) (ha : ∀ e, chkEs tb wh es e = true → SndEs S Φ wh es e) (h : chkE tb wh (.call f k es) e = true) : SndE S Φ wh (.call f k es) e := by
  intro W X g
  unfold chkE at h
  split at h
  · rename_i x p y ys pos
    obtain ⟨h1, h2⟩ := ba2 h
    obtain ⟨h3, h4⟩ := ba2 h1
    obtain ⟨h5, h6⟩ := ba2 h3
    split at h2
    · rename_i z j hz
      obtain ⟨e1, e2⟩ := ba2 h2
      have := of_decide_eq_true e1; subst this
      obtain ⟨fd, ps, m1, m2, m3, m4⟩ := F.fns f x j hz
      obtain ⟨d1, d2, _⟩ := dunder_no (bn h6)
      refine PEimp (pe_callG g m3 (of_decide_eq_true e2) (g.gl h5) (by rw [g.mg]; exact m1) (by rw [g.K]; exact m2) (by rw [g.K]; exact m4) d1 (chkEs_star h4) (ha _ h4 W X g)) fun σ H Q hq => ?_
      obtain ⟨T, G, α, μ, ρ, A, En, q⟩ := hq
      unfold evE at q
      refine ⟨T, G, α, μ, ρ, A, En, q.step fun ds μ1 G1 α1 H1 vs s1 p1 A1 r1 q1 => ?_⟩
      split at q1
      · rename_i c
        simp only [Bool.and_eq_true, decide_eq_true_eq] at c
        obtain ⟨⟨c1, c2⟩, c3⟩ := c
        refine ⟨_, G1, α1.take k, μ1.take k, ds, A1.lend k c3, Reps.shrink _ _ r1 c2, ?_⟩
        cases q2 : Φ f ds (μ1.take k) with
        | bad => rw [q2] at q1; exact q1.elim
        | ok d μ2 =>
          rw [q2] at q1
          intro G' α' H' v s2 p2 B r2
          simp only at q1
          split at q1
          · rename_i hl
            obtain ⟨ea, B'⟩ := A1.back c1 s2 B p2 hl
            subst ea
            exact q1 G' α1 H' v s2 (List.prefix_refl _) B' (Rep.mono (Same.refl _) (List.take_prefix _ _) _ _ r2)
          · split at q1
            · rename_i hk
              subst hk
              rw [asideT_all] at B
              rw [← A1.len, List.take_length] at p2
              exact q1 G' α' H' v s2 p2 B r2
            · exact q1.elim
        | exn cx fs μ2 =>
          rw [q2] at q1
          intro G' α' H' a vs2 s2 p2 B hx r2
          simp only at q1
          split at q1
          · rename_i hl
            obtain ⟨ea, B'⟩ := A1.back c1 s2 B p2 hl
            subst ea
            exact q1 G' α1 H' a vs2 s2 (List.prefix_refl _) B' hx (RepF.mono (Same.refl _) (List.take_prefix _ _) _ _ r2)
          · exact q1.elim
      · exact q1.elim
    · cases h2
  · cases h
end
end OB
namespace OB
open PySem PySem.Spec PyProof.Rows L2
section
variable {S : Sys} {tb : Tb} {Φ : Fns} {T G H : Hp} {α : List Addr} {μ : Mem}
/-! ## targets -/
theorem evG_mem : True := trivial
/-- two lists of slots that part at ix alone -/
def SameBut (ix : List Nat) (σ σ' : L2.St) : Prop := σ'.length = σ.length ∧ ∀ j, j ∉ ix → σ'[j]? = σ[j]?
theorem SameBut.trans {a b : List Nat} {σ σ1 σ2 : L2.St} (h : SameBut a σ σ1) (k : SameBut b σ1 σ2) : SameBut (a ++ b) σ σ2 :=
  ⟨k.1.trans h.1, fun j hj => (k.2 j fun z => hj (List.mem_append_right _ z)).trans (h.2 j fun z => hj (List.mem_append_left _ z))⟩
def rdG (S : Sys) (Φ : Fns) (ir : Tg) : TG := fun v σ H Q => ∃ G α ρ d ρ' μ, EnvR S G α ρ σ ∧ Rep S G α d v ∧ Same G H ∧ evG Φ ir d ρ μ = .ok ρ' μ ∧ ∀ σ', EnvR S G α ρ' σ' → SameBut ir.ix σ σ' → Q σ' H
def rdGs (S : Sys) (Φ : Fns) (ir : Tgs) : TGs := fun vs σ H Q => ∃ G α ρ ds ρ' μ, EnvR S G α ρ σ ∧ Reps S G α ds vs ∧ Same G H ∧ evGs Φ ir ds ρ μ = .ok ρ' μ ∧ ∀ σ', EnvR S G α ρ' σ' → SameBut ir.ix σ σ' → Q σ' H
def isNmTup : Expr → Bool
  | .Name .. => true
  | .Tuple .. => true
  | _ => false
theorem chkG_shape {wh : Wh} {t : Tg} {e : Expr} (h : chkG tb wh t e = true) : isNmTup e = true := by
  cases t <;> (unfold chkG at h; split at h <;> first | rfl | cases h)
theorem asgE_cons {e : Expr} {es : List Expr} {env : Env} (h : isNmTup e = true) : assignEach (e :: es) env = (false, assign e env) :: assignEach es env := by
  cases e <;> first | rfl | cases h
theorem chkGs_shape : ∀ {wh : Wh} {t : Tgs} {es : List Expr}, chkGs tb wh t es = true → ∀ e ∈ es, isNmTup e = true
  | _, .nil, [], _, e, he => by cases he
  | _, .nil, _ :: _, h, _, _ => by simp only [chkGs] at h; cases h
  | _, .cons a r, [], h, _, _ => by simp only [chkGs] at h; cases h
  | _, .cons a r, x :: xs, h, e, he => by
    simp only [chkGs] at h
    obtain ⟨h1, h2⟩ := ba2 h
    rcases List.mem_cons.mp he with rfl | he
    · exact chkG_shape h1
    · exact chkGs_shape h2 e he
theorem asgE_len {env : Env} : ∀ {es : List Expr}, (∀ e ∈ es, isNmTup e = true) → (assignEach es env).length = es.length ∧ (assignEach es env).findIdx? (·.1) = none
  | [], _ => ⟨rfl, rfl⟩
  | e :: es, h => by
    obtain ⟨h1, h2⟩ := asgE_len (env := env) fun x hx => h x (List.mem_cons_of_mem _ hx)
    rw [asgE_cons (h e List.mem_cons_self)]
    refine ⟨by simp [h1], ?_⟩
    rw [List.findIdx?_cons]
    simp [h2]
mutual
theorem evG_ok : ∀ (t : Tg) (d : D) (ρ : Env') (μ : Mem), (∃ ρ', evG Φ t d ρ μ = .ok ρ' μ) ∨ evG Φ t d ρ μ = .bad
  | .nm i, d, ρ, μ => .inl ⟨_, by unfold evG; rfl⟩
  | .tup ts, d, ρ, μ => by
    unfold evG
    cases d <;> first | exact .inr rfl | exact evGs_ok ts _ _ _
  | .ltup ts, d, ρ, μ => by
    unfold evG
    cases d <;> first | exact .inr rfl | exact evGs_ok ts _ _ _
theorem evGs_ok : ∀ (ts : Tgs) (ds : List D) (ρ : Env') (μ : Mem), (∃ ρ', evGs Φ ts ds ρ μ = .ok ρ' μ) ∨ evGs Φ ts ds ρ μ = .bad
  | .nil, ds, ρ, μ => by
    unfold evGs
    cases ds with
    | nil => exact .inl ⟨_, rfl⟩
    | cons _ _ => exact .inr rfl
  | .cons t r, ds, ρ, μ => by
    unfold evGs
    cases ds with
    | nil => exact .inr rfl
    | cons d ds =>
      show (∃ ρ', (evG Φ t d ρ μ).bind _ = _) ∨ (evG Φ t d ρ μ).bind _ = _
      rcases evG_ok t d ρ μ with ⟨ρ1, e⟩ | e
      · rw [e]
        exact evGs_ok r ds ρ1 μ
      · rw [e]
        exact .inr rfl
end
theorem chkGs_len : ∀ {wh : Wh} {t : Tgs} {es : List Expr} {ds : List D} {ρ ρ' : Env'} {μ : Mem}, chkGs tb wh t es = true → evGs Φ t ds ρ μ = .ok ρ' μ → ds.length = es.length
  | _, .nil, [], ds, _, _, _, _, e => by
    unfold evGs at e
    cases ds with
    | nil => rfl
    | cons _ _ => cases e
  | _, .nil, _ :: _, _, _, _, _, h, _ => by simp only [chkGs] at h; cases h
  | _, .cons a r, [], _, _, _, _, h, _ => by simp only [chkGs] at h; cases h
  | _, .cons a r, x :: xs, ds, ρ, _, μ, h, e => by
    simp only [chkGs] at h
    unfold evGs at e
    cases ds with
    | nil => cases e
    | cons d ds =>
      have e2 : (evG Φ a d ρ μ).bind (fun ρ1 μ1 => evGs Φ r ds ρ1 μ1) = .ok _ μ := e
      rcases evG_ok (Φ := Φ) a d ρ μ with ⟨ρ1, e3⟩ | e3
      · rw [e3] at e2
        have := chkGs_len (ba2 h).2 e2
        simp [this]
      · rw [e3] at e2; cases e2
mutual
theorem snG {W : WX} : ∀ (t : Tg) (wh : Wh) (e : Expr), chkG tb wh t e = true → ∀ (X : Cx), GX S wh W X → PG X e (rdG S Φ t)
  | .nm i, wh, e, h, X, g => by
    unfold chkG at h
    split at h
    · rename_i x p
      unfold stoB at h
      obtain ⟨h1, h2⟩ := ba2 h
      obtain ⟨h3, h4⟩ := ba2 h1
      have hl : Loc X.env.scope x ∧ (X.fn x = true ∨ X.env.scope.names.lookup x = some .local) := by
        rw [g.sc]
        rcases Bool.or_eq_true_iff.mp h2 with k | k
        · have := of_decide_eq_true k
          exact ⟨.inl this, .inr this⟩
        · obtain ⟨k1, k2⟩ := ba2 k
          exact ⟨.inr (of_decide_eq_true k2), .inl (g.fa k1 x)⟩
      refine PGimp (pg_name (i := i) g.nd (by rw [g.N]; exact of_decide_eq_true h3) hl.1 hl.2) fun v σ H Q hq => ?_
      obtain ⟨G, α, ρ, d, ρ', μ, En, r, sg, e1, q⟩ := hq
      unfold evG at e1
      cases e1
      exact q _ (En.set i r) ⟨by simp, fun j hj => by
        have : j ≠ i := fun z => hj (by rw [z]; exact List.mem_singleton.mpr rfl)
        rw [List.getElem?_set_ne (Ne.symm this)]⟩
    · cases h
  | .tup ts, wh, e, h, X, g => by
    unfold chkG at h
    split at h
    · rename_i es k p
      obtain ⟨l1, l2⟩ := asgE_len (env := X.env) (chkGs_shape h)
      refine PGimp (pg_tup g.calm (snGs ts wh es h X g) l1 l2) fun v σ H Q hq => ?_
      obtain ⟨G, α, ρ, d, ρ', μ, En, r, sg, e1, q⟩ := hq
      unfold evG at e1
      cases d <;> first | (cases e1; done) | skip
      rename_i xs
      rw [Rep] at r
      obtain ⟨a, vs, rfl, h1, h2⟩ := r
      exact ⟨a, vs, rfl, (by rw [g.K]; exact SameT sg h1), by rw [h2.length]; exact chkGs_len h e1, G, α, ρ, xs, ρ', μ, En, h2, sg, e1, q⟩
    · cases h
  | .ltup ts, wh, e, h, X, g => by
    unfold chkG at h
    split at h
    · rename_i es k p
      obtain ⟨l1, l2⟩ := asgE_len (env := X.env) (chkGs_shape h)
      refine PGimp (pg_lst g.calm (snGs ts wh es h X g) l1 l2) fun v σ H Q hq => ?_
      obtain ⟨G, α, ρ, d, ρ', μ, En, r, sg, e1, q⟩ := hq
      unfold evG at e1
      cases d <;> first | (cases e1; done) | skip
      rename_i xs
      rw [Rep] at r
      obtain ⟨a, vs, rfl, h1, h2⟩ := r
      exact ⟨a, vs, rfl, (by rw [g.K]; exact sg.seq h1), by rw [h2.length]; exact chkGs_len h e1, G, α, ρ, xs, ρ', μ, En, h2, sg, e1, q⟩
    · cases h
theorem snGs {W : WX} : ∀ (t : Tgs) (wh : Wh) (es : List Expr), chkGs tb wh t es = true → ∀ (X : Cx), GX S wh W X → PGs X es (rdGs S Φ t)
  | .nil, wh, es, h, X, g => by
    unfold chkGs at h
    split at h
    · refine PGsimp pgs_nil fun v σ H Q hq => ?_
      obtain ⟨G, α, ρ, ds, ρ', μ, En, r, sg, e1, q⟩ := hq
      unfold evGs at e1
      cases ds with
      | nil =>
        cases e1
        have r' : Reps S G α [] v := r
        rw [Reps] at r'
        exact ⟨r', q σ En ⟨rfl, fun _ _ => rfl⟩⟩
      | cons _ _ => cases e1
    · cases h
  | .cons t r, wh, es, h, X, g => by
    unfold chkGs at h
    split at h
    · rename_i e es
      obtain ⟨h1, h2⟩ := ba2 h
      refine PGsimp (pgs_cons (snG t wh e h1 X g) (snGs r wh es h2 X g) (by rw [asgE_cons (chkG_shape h1)]; rfl)) fun vs σ H Q hq => ?_
      obtain ⟨G, α, ρ, ds, ρ', μ, En, rr, sg, e1, q⟩ := hq
      unfold evGs at e1
      cases ds with
      | nil => cases e1
      | cons d ds =>
        obtain ⟨v, vr, rfl, r1, r2⟩ := rr.cons_iff
        have e2 : (evG Φ t d ρ μ).bind (fun ρ1 μ1 => evGs Φ r ds ρ1 μ1) = .ok ρ' μ := e1
        rcases evG_ok (Φ := Φ) t d ρ μ with ⟨ρ1, e3⟩ | e3
        · rw [e3] at e2
          exact ⟨v, vr, rfl, G, α, ρ, d, ρ1, μ, En, r1, sg, e3, fun σ1 En1 b1 => ⟨G, α, ρ1, ds, ρ', μ, En1, r2, sg, e2, fun σ2 En2 b2 => q σ2 En2 (b1.trans b2)⟩⟩
        · rw [e3] at e2; cases e2
    · cases h
end
end
end OB
namespace OB
open PySem PySem.Spec PyProof.Rows L2
section
variable {S : Sys} {tb : Tb} {Φ : Fns} {T G H : Hp} {α : List Addr} {μ : Mem}
/-! ## walked things -/
theorem walks_list {a : Addr} {vs : List V} {ds : List D} {α : List Addr} (h : SqL S.K G a vs) (r : Reps S G α ds vs) : Walks S G α ds (Itl S.K a) := by
  intro T G1 α1 H μ sg sa A
  have hq : SqL S.K H a vs := A.same.seq (sg.seq h)
  have r1 := Reps.mono sg sa _ _ r
  refine ⟨fun i d e => ?_, ⟨vs, hq, by rw [r1.length]; exact Nat.le_refl _⟩⟩
  obtain ⟨v, e1, e2⟩ := r1.get e
  refine ⟨⟨vs, v, hq, e1⟩, fun x H' y => ?_⟩
  obtain ⟨rfl, y⟩ := y
  have := y vs hq
  rw [e1] at this; cases this
  exact ⟨G1, Same.refl _, A, e2⟩
theorem walks_tup {a : Addr} {vs : List V} {ds : List D} {α : List Addr} (h : SqT S.K G a vs) (r : Reps S G α ds vs) : Walks S G α ds (Itt S.K a) := by
  intro T G1 α1 H μ sg sa A
  have hq : SqT S.K H a vs := SameT A.same (SameT sg h)
  have r1 := Reps.mono sg sa _ _ r
  refine ⟨fun i d e => ?_, ⟨vs, hq, by rw [r1.length]; exact Nat.le_refl _⟩⟩
  obtain ⟨v, e1, e2⟩ := r1.get e
  refine ⟨⟨vs, v, hq, e1⟩, fun x H' y => ?_⟩
  obtain ⟨rfl, y⟩ := y
  have := y vs hq
  rw [e1] at this; cases this
  exact ⟨G1, Same.refl _, A, e2⟩
theorem walks_rng {lo : Int} {n : Nat} {α : List Addr} : Walks S G α (rangeD lo n) (L2.Itr lo n) := by
  intro T G1 α1 H μ sg sa A
  refine ⟨fun i d e => ?_, ?_⟩
  · unfold rangeD at e
    rw [List.getElem?_map] at e
    cases q : (List.range n)[i]? with
    | none => rw [q] at e; cases e
    | some j =>
      rw [q] at e
      have hi : i < n := by
        have := (List.getElem?_eq_some_iff.mp q).1
        simpa using this
      have hj : j = i := by
        rw [List.getElem?_range hi] at q; cases q; rfl
      subst hj
      refine ⟨hi, fun x H' y => ?_⟩
      obtain ⟨rfl, rfl⟩ := y
      have : d = .int (lo + (j : Int)) := (Option.some.inj e).symm
      subst this
      exact ⟨G1, Same.refl _, A, rep_int⟩
  · show n ≤ (rangeD lo n).length
    unfold rangeD; simp
theorem pa_sn {wh : Wh} {W : WX} {X : Cx} (g : GX S wh W X) {a : Ex} {e : Expr} (hs : isStar e = false) (h : PE X e (tE S Φ W a)) : PA X [e] (tCons (tE S Φ W a) tNil) := pa_cons h pa_nil (star_cons hs)
theorem fold_ok {e : Expr} (h : (match e with | .Set .. => false | _ => true) = true) (env : Env) : ∀ x, foldedSetIterable e env x = pure x := by
  intro x
  cases e <;> first | rfl | cases h
theorem chkI_set {wh : Wh} {it : Iw} {e : Expr} (h : chkI tb wh it e = true) (env : Env) : ∀ x, foldedSetIterable e env x = pure x := by
  cases it with
  | lst a => unfold chkI at h; exact fold_ok (ba2 h).2 env
  | tup a => unfold chkI at h; exact fold_ok (ba2 h).2 env
  | rng1 a => unfold chkI at h; split at h <;> first | (intro _; rfl) | cases h
  | rng2 a b => unfold chkI at h; split at h <;> first | (intro _; rfl) | cases h
theorem si_lst {wh : Wh} {a : Ex} {tg e : Expr} (ha : ∀ e, chkE tb wh a e = true → SndE S Φ wh a e) (h : chkI tb wh (.lst a) e = true) : SndI S Φ wh (.lst a) tg e := by
  intro W X g
  unfold chkI at h
  refine PIimp (pi_list (ha _ (ba2 h).1 W X g)) fun σ H Q hq => ?_
  obtain ⟨T, G, α, μ, ρ, A, En, q⟩ := hq
  unfold evI at q
  refine ⟨T, G, α, μ, ρ, A, En, q.step fun d1 μ1 G1 α1 H1 x s1 p1 A1 r1 q1 => ?_⟩
  have r : Rep S G1 α1 d1 x := r1
  cases d1 <;> first | exact q1.elim | skip
  rw [Rep] at r
  obtain ⟨b, vs, rfl, h1, h2⟩ := r
  exact ⟨b, rfl, ⟨vs, g.sl A1 h1⟩, by rw [g.K]; exact q1.here A1 (walks_list h1 h2)⟩
theorem si_tup {wh : Wh} {a : Ex} {tg e : Expr} (ha : ∀ e, chkE tb wh a e = true → SndE S Φ wh a e) (h : chkI tb wh (.tup a) e = true) : SndI S Φ wh (.tup a) tg e := by
  intro W X g
  unfold chkI at h
  refine PIimp (pi_tup (ha _ (ba2 h).1 W X g)) fun σ H Q hq => ?_
  obtain ⟨T, G, α, μ, ρ, A, En, q⟩ := hq
  unfold evI at q
  refine ⟨T, G, α, μ, ρ, A, En, q.step fun d1 μ1 G1 α1 H1 x s1 p1 A1 r1 q1 => ?_⟩
  have r : Rep S G1 α1 d1 x := r1
  cases d1 <;> first | exact q1.elim | skip
  rw [Rep] at r
  obtain ⟨b, vs, rfl, h1, h2⟩ := r
  exact ⟨b, rfl, ⟨vs, g.st A1 h1⟩, by rw [g.K]; exact q1.here A1 (walks_tup h1 h2)⟩
theorem si_rng1 {wh : Wh} {a : Ex} {tg e : Expr} (F : Fx S tb Φ) (ha : ∀ e, chkE tb wh a e = true → SndE S Φ wh a e) (h : chkI tb wh (.rng1 a) e = true) : SndI S Φ wh (.rng1 a) tg e := by
  intro W X g
  unfold chkI at h
  split at h
  · obtain ⟨h1, h2⟩ := ba2 h
    obtain ⟨h3, h4⟩ := ba2 h1
    have hx := of_decide_eq_true h3; subst hx
    obtain ⟨k1, k2, _, _⟩ := g.blt F h4
    have hs := star_cons (env := X.env) (es := []) (chkE_star h2)
    refine PIimp (pi_range1 k1 k2 (pa_cons (ha _ h2 W X g) pa_nil hs) hs) fun σ H Q hq => ?_
    obtain ⟨T, G, α, μ, ρ, A, En, q⟩ := hq
    unfold evI at q
    refine ⟨T, G, α, μ, ρ, A, En, q.step fun d1 μ1 G1 α1 H1 x s1 p1 A1 r1 q1 => ?_⟩
    have r : Rep S G1 α1 d1 x := r1
    cases d1 <;> first | exact q1.elim | skip
    rename_i j
    rw [Rep] at r; subst r
    simp only at q1
    split at q1
    · rename_i c
      exact ⟨j, rfl, c.1, c.2, q1.here A1 walks_rng⟩
    · exact q1.elim
  · cases h
theorem si_rng2 {wh : Wh} {a b : Ex} {tg e : Expr} (F : Fx S tb Φ) (ha : ∀ e, chkE tb wh a e = true → SndE S Φ wh a e) (hb : ∀ e, chkE tb wh b e = true → SndE S Φ wh b e) (h : chkI tb wh (.rng2 a b) e = true) : SndI S Φ wh (.rng2 a b) tg e := by
  intro W X g
  unfold chkI at h
  split at h
  · rename_i xx pp yy zz ppos
    obtain ⟨h0, h5⟩ := ba2 h
    obtain ⟨h1, h2⟩ := ba2 h0
    obtain ⟨h3, h4⟩ := ba2 h1
    have hx := of_decide_eq_true h3; subst hx
    obtain ⟨k1, k2, _, _⟩ := g.blt F h4
    have hs2 := star_cons (env := X.env) (es := []) (chkE_star h5)
    have hs1 := star_cons (env := X.env) (es := [zz]) (chkE_star h2)
    refine PIimp (pi_range2 k1 k2 (pa_cons (ha _ h2 W X g) (pa_cons (hb _ h5 W X g) pa_nil hs2) hs1) (hs1.trans (by rw [hs2]; rfl)) hs2) fun σ H Q hq => ?_
    obtain ⟨T, G, α, μ, ρ, A, En, q⟩ := hq
    unfold evI at q
    refine ⟨T, G, α, μ, ρ, A, En, q.step fun d1 μ1 G1 α1 H1 x s1 p1 A1 r1 q1 => ?_⟩
    refine ⟨T, G1, α1, μ1, ρ, A1, En.mono s1 p1, q1.step fun d2 μ2 G2 α2 H2 y s2 p2 A2 r2 q2 => ?_⟩
    have r : Rep S G1 α1 d1 x := r1
    have r' : Rep S G2 α2 d2 y := r2
    split at q2
    · rw [Rep] at r; subst r
      rw [Rep] at r'; subst r'
      split at q2
      · rename_i c
        exact ⟨_, _, rfl, ⟨c.1.1, c.1.2, c.2.1, c.2.2⟩, q2.here A2 walks_rng⟩
      · exact q2.elim
    · exact q2.elim
  · cases h
/-! ## lists of expressions, tests -/
theorem ss_nil {wh : Wh} {es : List Expr} (h : chkEs tb wh .nil es = true) : SndEs S Φ wh .nil es := by
  intro W X g
  unfold chkEs at h
  split at h
  · refine PAimp pa_nil fun σ H Q hq => ?_
    obtain ⟨T, G, α, μ, ρ, A, En, q⟩ := hq
    unfold evEs at q
    exact q.here A Reps.nil
  · cases h
theorem ss_cons {wh : Wh} {a : Ex} {r : Exs} {es : List Expr} (ha : ∀ e, chkE tb wh a e = true → SndE S Φ wh a e) (hr : ∀ e, chkEs tb wh r e = true → SndEs S Φ wh r e) (h : chkEs tb wh (.cons a r) es = true) : SndEs S Φ wh (.cons a r) es := by
  intro W X g
  unfold chkEs at h
  split at h
  · obtain ⟨h1, h2⟩ := ba2 h
    refine PAimp (pa_cons (ha _ h1 W X g) (hr _ h2 W X g) (star_cons (chkE_star h1))) fun σ H Q hq => ?_
    obtain ⟨T, G, α, μ, ρ, A, En, q⟩ := hq
    unfold evEs at q
    refine ⟨T, G, α, μ, ρ, A, En, q.step fun d1 μ1 G1 α1 H1 x s1 p1 A1 r1 q1 => ?_⟩
    refine ⟨T, G1, α1, μ1, ρ, A1, En.mono s1 p1, q1.step fun ds μ2 G2 α2 H2 ys s2 p2 A2 r2 q2 => ?_⟩
    exact q2.here A2 (Reps.cons (r1.mono s2 p2 _ _) r2)
  · cases h
theorem so_none {wh : Wh} {e : Option Expr} (h : chkO tb wh .none e = true) : SndO S Φ wh .none e := by
  intro W X g
  unfold chkO at h
  split at h
  · refine POimp po_none fun σ H Q hq => ?_
    obtain ⟨T, G, α, μ, ρ, A, En, q⟩ := hq
    unfold evO at q
    exact Post.here (R := REq (Option Int)) q A rfl
  · cases h
theorem so_some {wh : Wh} {a : Ex} {e : Option Expr} (ha : ∀ e, chkE tb wh a e = true → SndE S Φ wh a e) (h : chkO tb wh (.some a) e = true) : SndO S Φ wh (.some a) e := by
  intro W X g
  unfold chkO at h
  split at h
  · refine POimp (po_some (ha _ h W X g)) fun σ H Q hq => ?_
    obtain ⟨T, G, α, μ, ρ, A, En, q⟩ := hq
    unfold evO at q
    refine ⟨T, G, α, μ, ρ, A, En, q.step fun d1 μ1 G1 α1 H1 x s1 p1 A1 r1 q1 => ?_⟩
    have r : Rep S G1 α1 d1 x := r1
    obtain ⟨o, e1, q2⟩ := q1.lift
    cases d1 <;> first | (cases e1; done) | skip
    cases e1
    rw [Rep] at r; subst r
    exact ⟨_, rfl, Post.here (R := REq (Option Int)) q2 A1 rfl⟩
  · cases h
theorem st_plain {wh : Wh} {a : Ex} {e : Expr} (ha : ∀ e, chkE tb wh a e = true → SndE S Φ wh a e) (h : chkT tb wh (.val a) e = true) (hc : ∀ x os ys p, e ≠ .Compare x os ys p) : SndT S Φ wh (.val a) e := by
  intro W X g
  unfold chkT at h
  obtain ⟨h1, h2⟩ := ba2 h
  have he : ∀ whole, isTrue e X.env whole = (do let v ← whole; standAt e.pos; holding [v] (truthy v)) := by
    intro whole
    cases e with
    | UnaryOp op x p => cases op <;> first | rfl | cases h2
    | BoolOp => cases h2
    | IfExp => cases h2
    | Compare x os ys p => exact absurd rfl (hc _ _ _ _)
    | _ => rfl
  refine PTimp (pt_truth (ha _ h1 W X g) he) fun σ H Q hq => ?_
  obtain ⟨T, G, α, μ, ρ, A, En, q⟩ := hq
  unfold evT at q
  refine ⟨T, G, α, μ, ρ, A, En, q.step fun d1 μ1 G1 α1 H1 x s1 p1 A1 r1 q1 => ?_⟩
  obtain ⟨b, e1, q2⟩ := q1.lift
  rw [g.K]
  exact ⟨b, truOk e1 A1 r1, Post.here (R := REq Bool) q2 A1 rfl⟩
theorem st_not {wh : Wh} {t : Ts} {e : Expr} (ha : ∀ e, chkT tb wh t e = true → SndT S Φ wh t e) (h : chkT tb wh (.not t) e = true) : SndT S Φ wh (.not t) e := by
  intro W X g
  unfold chkT at h
  split at h
  · refine PTimp (pt_not (ha _ h W X g)) fun σ H Q hq => ?_
    obtain ⟨T, G, α, μ, ρ, A, En, q⟩ := hq
    unfold evT at q
    refine ⟨T, G, α, μ, ρ, A, En, q.step fun d1 μ1 G1 α1 H1 x s1 p1 A1 r1 q1 => ?_⟩
    cases r1
    exact Post.here (R := REq Bool) q1 A1 rfl
  · cases h
theorem st_and {wh : Wh} {a b : Ts} {e : Expr} (ha : ∀ e, chkT tb wh a e = true → SndT S Φ wh a e) (hb : ∀ e, chkT tb wh b e = true → SndT S Φ wh b e) (hb2 : ∀ x y r p, chkT tb wh b (.BoolOp .And (x :: y :: r) p) = true → SndW S Φ wh b (.BoolOp .And (x :: y :: r) p))
    (h : chkT tb wh (.and a b) e = true) : SndW S Φ wh (.and a b) e := by
  intro W X g
  unfold chkT at h
  split at h
  · rename_i x y r p
    obtain ⟨h1, h2⟩ := ba2 h
    have hB : PW X (.BoolOp .And (y :: r) p) (tTs S Φ W b) := by
      cases r with
      | nil => exact pw_and1 (hb _ h2 W X g)
      | cons z r => exact hb2 _ _ _ _ h2 W X g
    refine PWimp (pw_and (ha _ h1 W X g) hB) fun σ H Q hq => ?_
    obtain ⟨T, G, α, μ, ρ, A, En, q⟩ := hq
    unfold evT at q
    refine ⟨T, G, α, μ, ρ, A, En, q.step fun d1 μ1 G1 α1 H1 x s1 p1 A1 r1 q1 => ?_⟩
    cases r1
    cases d1 with
    | true => exact iteT ⟨T, G1, α1, μ1, ρ, A1, En.mono s1 p1, q1⟩
    | false => exact iteF (Post.here (R := REq Bool) q1 A1 rfl)
  · cases h
theorem st_or {wh : Wh} {a b : Ts} {e : Expr} (ha : ∀ e, chkT tb wh a e = true → SndT S Φ wh a e) (hb : ∀ e, chkT tb wh b e = true → SndT S Φ wh b e) (hb2 : ∀ x y r p, chkT tb wh b (.BoolOp .Or (x :: y :: r) p) = true → SndW S Φ wh b (.BoolOp .Or (x :: y :: r) p))
    (h : chkT tb wh (.or a b) e = true) : SndW S Φ wh (.or a b) e := by
  intro W X g
  unfold chkT at h
  split at h
  · rename_i x y r p
    obtain ⟨h1, h2⟩ := ba2 h
    have hB : PW X (.BoolOp .Or (y :: r) p) (tTs S Φ W b) := by
      cases r with
      | nil => exact pw_or1 (hb _ h2 W X g)
      | cons z r => exact hb2 _ _ _ _ h2 W X g
    refine PWimp (pw_or (ha _ h1 W X g) hB) fun σ H Q hq => ?_
    obtain ⟨T, G, α, μ, ρ, A, En, q⟩ := hq
    unfold evT at q
    refine ⟨T, G, α, μ, ρ, A, En, q.step fun d1 μ1 G1 α1 H1 x s1 p1 A1 r1 q1 => ?_⟩
    cases r1
    cases d1 with
    | true => exact iteT (Post.here (R := REq Bool) q1 A1 rfl)
    | false => exact iteF ⟨T, G1, α1, μ1, ρ, A1, En.mono s1 p1, q1⟩
  · cases h
/-! ## isinstance, dicts -/
theorem ty_boot : ∀ t ∈ isiTypes, bootBuiltins (Str.ofString t) = some (.type t) := by decide +kernel
/-- the types that are named -/
theorem pa_tys {wh : Wh} {W : WX} {X : Cx} (F : Fx S tb Φ) (g : GX S wh W X) : ∀ {es : List Expr} {ts : List String}, tyNames tb wh.sc es ts = true → PA X es (fun σ H Q => Q (ts.map V.ty) H) ∧ (∀ t ∈ ts, t ∈ isiTypes) ∧ ∀ e ∈ es, isStar e = false
  | [], [], _ => ⟨PAimp pa_nil fun σ H Q q => q, (fun _ h => by cases h), fun _ h => by cases h⟩
  | .Name x p :: es, t :: ts, h => by
    unfold tyNames at h
    obtain ⟨h1, h2⟩ := ba2 h
    obtain ⟨h3, h4⟩ := ba2 h1
    obtain ⟨h5, h6⟩ := ba2 h3
    have hx := of_decide_eq_true h5; subst hx
    have ht : t ∈ isiTypes := List.contains_iff_mem.mp h4
    obtain ⟨k1, k2, k3, k4⟩ := g.blt F h6
    obtain ⟨i1, i2, i3⟩ := pa_tys F g h2
    refine ⟨PAimp (pa_cons (pe_bltn (v := .ty t) k1 k2 (ty_boot t ht) rfl k4 k3) i1 (star_cons rfl)) fun σ H Q q => q, fun z hz => ?_, fun z hz => ?_⟩
    · rcases List.mem_cons.mp hz with rfl | hz
      · exact ht
      · exact i2 z hz
    · rcases List.mem_cons.mp hz with rfl | hz
      · rfl
      · exact i3 z hz
  | [], _ :: _, h => by unfold tyNames at h; cases h
  | e :: _, [], h => by cases e <;> (unfold tyNames at h; cases h)
  | .BoolOp .. :: _, _ :: _, h => by unfold tyNames at h; cases h
  | .NamedExpr .. :: _, _ :: _, h => by unfold tyNames at h; cases h
  | .BinOp .. :: _, _ :: _, h => by unfold tyNames at h; cases h
  | .UnaryOp .. :: _, _ :: _, h => by unfold tyNames at h; cases h
  | .Lambda .. :: _, _ :: _, h => by unfold tyNames at h; cases h
  | .IfExp .. :: _, _ :: _, h => by unfold tyNames at h; cases h
  | .Dict .. :: _, _ :: _, h => by unfold tyNames at h; cases h
  | .Set .. :: _, _ :: _, h => by unfold tyNames at h; cases h
  | .ListComp .. :: _, _ :: _, h => by unfold tyNames at h; cases h
  | .SetComp .. :: _, _ :: _, h => by unfold tyNames at h; cases h
  | .DictComp .. :: _, _ :: _, h => by unfold tyNames at h; cases h
  | .GeneratorExp .. :: _, _ :: _, h => by unfold tyNames at h; cases h
  | .Await .. :: _, _ :: _, h => by unfold tyNames at h; cases h
  | .Yield .. :: _, _ :: _, h => by unfold tyNames at h; cases h
  | .YieldFrom .. :: _, _ :: _, h => by unfold tyNames at h; cases h
  | .Compare .. :: _, _ :: _, h => by unfold tyNames at h; cases h
  | .Call .. :: _, _ :: _, h => by unfold tyNames at h; cases h
  | .FormattedValue .. :: _, _ :: _, h => by unfold tyNames at h; cases h
  | .JoinedStr .. :: _, _ :: _, h => by unfold tyNames at h; cases h
  | .Constant .. :: _, _ :: _, h => by unfold tyNames at h; cases h
  | .Attribute .. :: _, _ :: _, h => by unfold tyNames at h; cases h
  | .Subscript .. :: _, _ :: _, h => by unfold tyNames at h; cases h
  | .Starred .. :: _, _ :: _, h => by unfold tyNames at h; cases h
  | .List .. :: _, _ :: _, h => by unfold tyNames at h; cases h
  | .Tuple .. :: _, _ :: _, h => by unfold tyNames at h; cases h
  | .Slice .. :: _, _ :: _, h => by unfold tyNames at h; cases h
theorem isi_fin {wh : Wh} {W : WX} {X : Cx} (g : GX S wh W X) {d : D} {t : String} {v : V} {tys : List String} (e : tyD d = some t) (A : Abs S T G H α μ) (r : Rep S G α d v) (ht : ∀ b ∈ tys, b ∈ isiTypes) {tp : Addr} {H' : Hp} (s : Same H H') (hT : H' tp = some (.tup (tys.map V.ty)))
    {Q : VK} (q : Q (.bl (tys.any (isiD t))) H') : rIsiT X.K [v, .ref tp] H' Q := by
  have hm : ∀ {l : List String}, Paired ClsV (l.map V.ty) (l.map Value.type) := fun {l} => by
    induction l with
    | nil => exact .nil
    | cons a l ih => exact .cons (.ty a) ih
  have A' : TyX X.K H' v (.type t) := by
    rw [g.K]
    cases d with
    | non => cases e; rw [Rep] at r; subst r; exact .base .non
    | bl _ => cases e; rw [Rep] at r; subst r; exact .base (.bl _)
    | int _ => cases e; rw [Rep] at r; subst r; exact .base (.int _)
    | str _ => cases e; rw [Rep] at r; subst r; exact .base (.str _)
    | tup _ =>
      cases e; rw [Rep] at r
      obtain ⟨a, vs, rfl, h1, _⟩ := r
      rcases SameT s (SameT A.same h1) with (h | ⟨o, h⟩) | ⟨o, _, _, h, c, _⟩
      · exact .base (.tup h)
      · exact .fTuple h
      · exact .kTuple h c
    | lst _ =>
      cases e; rw [Rep] at r
      obtain ⟨a, vs, rfl, h1, _⟩ := r
      rcases s.seq (A.same.seq h1) with (h | ⟨o, h⟩) | ⟨o, _, _, h, c, _⟩
      · exact .base (.lst h)
      · exact .base (.frz h)
      · exact .kList h c
    | ins _ _ => cases e
    | ref _ => cases e
    | ty _ => cases e
    | fn _ => cases e
  exact ⟨v, tp, _, .type t, _, _, rfl, hT, hm, A', isi_any (tyD_mem e) ht, q⟩
theorem sn_isi {wh : Wh} {a : Ex} {tys : List String} {one : Bool} {e : Expr} (F : Fx S tb Φ) (ha : ∀ e, chkE tb wh a e = true → SndE S Φ wh a e) (h : chkE tb wh (.isi a tys one) e = true) : SndE S Φ wh (.isi a tys one) e := by
  intro W X g
  unfold chkE at h
  split at h
  · rename_i x p y t pos
    obtain ⟨h1, h2⟩ := ba2 h
    obtain ⟨h3, h4⟩ := ba2 h1
    obtain ⟨h50, h6⟩ := ba2 h3
    obtain ⟨h51, h5⟩ := ba2 h50
    obtain ⟨k1, k2, k3, k4⟩ := g.blt F h6
    have hx := of_decide_eq_true h5; subst hx
    split at h2
    · obtain ⟨i1, i2, i3⟩ := pa_tys F g h2
      have hs := star_cons (env := X.env) (es := [t]) (chkE_star h4)
      refine PEimp (pe_callB call_isi k1 k2 boot_isinstance (pa_cons (ha _ h4 W X g) i1 hs) k4 k3 hs (star_any i3)) fun σ H Q hq => ?_
      obtain ⟨T, G, α, μ, ρ, A, En, q⟩ := hq
      unfold evE at q
      refine ⟨T, G, α, μ, ρ, A, En, q.step fun d1 μ1 G1 α1 H1 v s1 p1 A1 r1 q1 => ?_⟩
      obtain ⟨o, e1, q2⟩ := q1.lift
      obtain ⟨ty, e2, e3⟩ := Option.map_eq_some_iff.mp e1
      subst e3
      cases tys with
      | nil => cases t <;> (unfold tyNames at h2; cases h2)
      | cons b r =>
        cases r with
        | cons _ _ => cases t <;> (simp [tyNames] at h2)
        | nil =>
          refine ⟨v, .ty b, .type ty, .type b, _, rfl, .ty b, by rw [g.K]; exact tyD_rep e2 A1 r1, kit_ty (isi_types ty (tyD_mem e2) b (i2 b List.mem_cons_self)), q2.here A1 ?_⟩
          have : ([b].any (isiD ty)) = isiD ty b := by simp
          rw [this]
          exact rep_bl
    · rename_i ts k tp
      obtain ⟨i1, i2, i3⟩ := pa_tys F g h2
      have hs := star_cons (env := X.env) (es := [.Tuple ts k tp]) (chkE_star h4)
      refine PEimp (pe_callB call_isiT k1 k2 boot_isinstance (pa_cons (ha _ h4 W X g) (pa_cons (pe_tup i1) pa_nil (star_cons rfl)) hs) k4 k3 hs (star_any fun z hz => by rw [List.mem_singleton.mp hz]; rfl)) fun σ H Q hq => ?_
      obtain ⟨T, G, α, μ, ρ, A, En, q⟩ := hq
      unfold evE at q
      refine ⟨T, G, α, μ, ρ, A, En, q.step fun d1 μ1 G1 α1 H1 v s1 p1 A1 r1 q1 => ?_⟩
      obtain ⟨o, e1, q2⟩ := q1.lift
      obtain ⟨ty, e2, e3⟩ := Option.map_eq_some_iff.mp e1
      subst e3
      refine ⟨?_, fun tpa np => ?_⟩
      · rw [List.length_map]; exact Nat.le_trans (of_decide_eq_true h51) (by decide)
      obtain ⟨A2, s2⟩ := A1.new (o := .tup (tys.map V.ty)) np
      have s3 : Same H1 (upd H1 tpa (.tup (tys.map V.ty))) := fun b u e => by rw [upd_ne (ne_of_none e np)]; exact e
      exact isi_fin g e2 A1 r1 i2 s3 upd_same (q2.at s2 A2 rep_bl)
    · cases h2
  · cases h
theorem sn_dget {wh : Wh} {a : Ex} {k : String} {e : Expr} (ha : ∀ e, chkE tb wh a e = true → SndE S Φ wh a e) (h : chkE tb wh (.dget a k) e = true) : SndE S Φ wh (.dget a k) e := by
  intro W X g
  unfold chkE at h
  split at h
  · obtain ⟨h1, h2⟩ := ba2 h
    have hz := of_decide_eq_true h2; subst hz
    have hu := g.hu
    refine PEimp (pe_dget (by omega) (ha _ h1 W X g) pe_str (fun _ _ => rfl)) fun σ H Q hq => ?_
    obtain ⟨T, G, α, μ, ρ, A, En, q⟩ := hq
    unfold evE at q
    refine ⟨T, G, α, μ, ρ, A, En, q.step fun d1 μ1 G1 α1 H1 v s1 p1 A1 r1 q1 => ?_⟩
    have r : Rep S G1 α1 d1 v := r1
    cases d1 <;> first | exact q1.elim | skip
    rename_i i
    rw [Rep] at r
    obtain ⟨b, rfl, hb⟩ := r
    simp only at q1
    split at q1
    · rename_i kvs hk
      obtain ⟨d, e1, q2⟩ := q1.lift
      obtain ⟨_, _, vs, k1, k2⟩ := A1.cell _ _ _ hk hb rfl
      have look : ∀ {ds : List (Key × D)} {us : List (Key × V)}, RepK S G1 α1 ds us → ∀ {d : D}, valD ds (keyS k) = some d → ∃ v, valV us (keyS k) = some v ∧ Rep S G1 α1 d v := by
        intro ds
        induction ds with
        | nil => intro us _ d e; cases e
        | cons p ds ih =>
          obtain ⟨pk, pd⟩ := p
          intro us hu d e
          rw [RepK] at hu
          obtain ⟨v, r, rfl, u1, u2⟩ := hu
          by_cases q : pk = keyS k
          · unfold valD at e
            rw [List.find?_cons_of_pos (by simpa using q)] at e
            cases e
            exact ⟨v, valV_pos q, u1⟩
          · unfold valD at e
            rw [List.find?_cons_of_neg (by simpa using q)] at e
            obtain ⟨v', w1, w2⟩ := ih u2 e
            exact ⟨v', by rw [valV_neg q]; exact w1, w2⟩
      obtain ⟨v, v1, v2⟩ := look k2 e1
      refine ⟨b, v, rfl, ?_, q2.here A1 v2⟩
      have := DGet.k (k := keyS k) k1
      rw [v1] at this
      exact this
    · exact q1.elim
  · cases h
/-! ## dict displays -/
def RKv (S : Sys) : RelA (List (Key × D)) (List (Key × V)) := fun G α d v => RepK S G α d v
/-- the pairs of a display -/
def SndK (S : Sys) (Φ : Fns) (wh : Wh) (ir : Kvs) (ks : List (Option Expr)) (vs : List Expr) : Prop := ∀ W X (pos : Pos), GX S wh W X → ∃ trs, PPs X pos ks vs trs ∧ (ks.all (·.isSome) = true ∧ ks.length = vs.length) ∧
  ∀ σ H (Q : List (V × V) → Hp → Prop) T G α μ ρ, Abs S T G H α μ → EnvR S G α ρ σ → Post S T G α (RKv S) (evK Φ ir ρ μ) (fun kvs H' => Q (kvs.map fun p => (kV p.1, p.2)) H') (fun c d H' => W c d σ H') → tPairs trs σ H Q
theorem sk_nil {wh : Wh} {ks : List (Option Expr)} {vs : List Expr} (h : chkK tb wh .nil ks vs = true) : SndK S Φ wh .nil ks vs := by
  intro W X pos g
  unfold chkK at h
  split at h
  · refine ⟨[], pps_nil, ⟨rfl, rfl⟩, fun σ H Q T G α μ ρ A En q => ?_⟩
    unfold evK at q
    exact Post.here (R := RKv S) (b := []) q A (by unfold RKv; rw [RepK])
  · cases h
theorem sk_cons {wh : Wh} {k : String} {a : Ex} {r : Kvs} {ks : List (Option Expr)} {vs : List Expr} (ha : ∀ e, chkE tb wh a e = true → SndE S Φ wh a e) (hr : ∀ ks vs, chkK tb wh r ks vs = true → SndK S Φ wh r ks vs) (h : chkK tb wh (.cons k a r) ks vs = true) : SndK S Φ wh (.cons k a r) ks vs := by
  intro W X pos g
  unfold chkK at h
  split at h
  · obtain ⟨h1, h2⟩ := ba2 h
    obtain ⟨h3, h4⟩ := ba2 h1
    have hz := of_decide_eq_true h3; subst hz
    obtain ⟨trs, p1, ⟨p2, p3⟩, p4⟩ := hr _ _ h2 W X pos g
    refine ⟨_, pps_cons pe_str (ha _ h4 W X g) p1, ⟨by simp [p2], by simp [p3]⟩, fun σ H Q T G α μ ρ A En q => ?_⟩
    unfold evK at q
    refine ⟨T, G, α, μ, ρ, A, En, q.step fun d1 μ1 G1 α1 H1 x s1 p1 A1 r1 q1 => ?_⟩
    refine p4 σ H1 _ T G1 α1 μ1 ρ A1 (En.mono s1 p1) (q1.step fun ds μ2 G2 α2 H2 ys s2 p2 A2 r2 q2 => ?_)
    refine Post.here (R := RKv S) (b := (keyS k, x) :: ys) q2 A2 ?_
    unfold RKv
    rw [RepK]
    exact ⟨x, ys, rfl, r1.mono s2 p2 _ _, r2⟩
  · cases h
theorem RepK.put {G : Hp} {α : List Addr} {k : Key} {d : D} {v : V} (r : Rep S G α d v) : ∀ {ds : List (Key × D)} {us : List (Key × V)}, RepK S G α ds us → RepK S G α (putKD ds k d) (putK us k v) := by
  have any : ∀ {ds : List (Key × D)} {us : List (Key × V)}, RepK S G α ds us → (ds.any fun kv => decide (kv.1 = k)) = us.any fun kv => decide (kv.1 = k) := by
    intro ds
    induction ds with
    | nil => intro us h; rw [RepK] at h; subst h; rfl
    | cons p ds ih => intro us h; obtain ⟨pk, pd⟩ := p; rw [RepK] at h; obtain ⟨v, r, rfl, _, h2⟩ := h; simp only [List.any_cons, ih h2]
  have mp : ∀ {ds : List (Key × D)} {us : List (Key × V)}, RepK S G α ds us → RepK S G α (ds.map fun kv => if kv.1 = k then (kv.1, d) else kv) (us.map fun kv => if kv.1 = k then (kv.1, v) else kv) := by
    intro ds
    induction ds with
    | nil => intro us h; rw [RepK] at h; subst h; rw [List.map_nil, List.map_nil, RepK]
    | cons p ds ih =>
      intro us h
      obtain ⟨pk, pd⟩ := p
      rw [RepK] at h
      obtain ⟨v', r', rfl, h1, h2⟩ := h
      rw [List.map_cons, List.map_cons]
      by_cases q : pk = k
      · simp only [q, if_true]
        rw [RepK]
        exact ⟨v, _, rfl, r, ih h2⟩
      · simp only [q, if_false]
        rw [RepK]
        exact ⟨v', _, rfl, h1, ih h2⟩
  have ap : ∀ {ds : List (Key × D)} {us : List (Key × V)}, RepK S G α ds us → RepK S G α (ds ++ [(k, d)]) (us ++ [(k, v)]) := by
    intro ds
    induction ds with
    | nil => intro us h; rw [RepK] at h; subst h; show RepK S G α [(k, d)] [(k, v)]; rw [RepK]; exact ⟨v, [], rfl, r, by rw [RepK]⟩
    | cons p ds ih =>
      intro us h
      obtain ⟨pk, pd⟩ := p
      rw [RepK] at h
      obtain ⟨v', r', rfl, h1, h2⟩ := h
      rw [List.cons_append, List.cons_append, RepK]
      exact ⟨v', _, rfl, h1, ih h2⟩
  intro ds us h
  unfold putKD putK
  rw [any h]
  split
  · exact mp h
  · exact ap h
theorem RepK.merge {G : Hp} {α : List Addr} : ∀ {ps : List (Key × D)} {us : List (Key × V)} {ds : List (Key × D)} {vs : List (Key × V)}, RepK S G α ps us → RepK S G α ds vs → RepK S G α (ps.foldl (fun m kv => putKD m kv.1 kv.2) ds) (mergeK vs us)
  | [], _, _, _, h, k => by rw [RepK] at h; subst h; exact k
  | (pk, pd) :: ps, _, _, _, h, k => by
    rw [RepK] at h
    obtain ⟨v, r, rfl, h1, h2⟩ := h
    have h4 := RepK.put (k := pk) h1 k
    have h3 := RepK.merge (ps := ps) h2 h4
    exact h3
theorem RepK.length {G : Hp} {α : List Addr} : ∀ {ds : List (Key × D)} {us : List (Key × V)}, RepK S G α ds us → us.length = ds.length
  | [], _, h => by rw [RepK] at h; subst h; rfl
  | (pk, pd) :: ds, _, h => by
    rw [RepK] at h
    obtain ⟨v, r, rfl, _, h2⟩ := h
    simp [RepK.length h2]
theorem sn_disp {wh : Wh} {kv : Kvs} {e : Expr} (hk : ∀ ks vs, chkK tb wh kv ks vs = true → SndK S Φ wh kv ks vs) (h : chkE tb wh (.disp kv) e = true) : SndE S Φ wh (.disp kv) e := by
  intro W X g
  unfold chkE at h
  split at h
  · rename_i k ks vs pos
    obtain ⟨h1, h2⟩ := ba2 h
    obtain ⟨trs, p1, ⟨p2, p3⟩, p4⟩ := hk _ _ h1 W X pos g
    refine PEimp (pe_disp p1 p2 p3 (List.cons_ne_nil _ _) (of_decide_eq_true h2)) fun σ H Q hq => ?_
    obtain ⟨T, G, α, μ, ρ, A, En, q⟩ := hq
    unfold evE at q
    intro p np
    have A1 := A.alloc (mo := .dct []) (o := .dK []) np ⟨[], upd_same, by rw [RepK]⟩
    refine p4 σ _ _ T G (α ++ [p]) (μ ++ [.dct []]) ρ A1 (En.mono (Same.refl _) (List.prefix_append _ _)) (Post.step (Post.mono q (Same.refl _) (List.prefix_append _ _)) fun ps μ1 G1 α1 H1 us s1 p1 A2 r1 q1 => ?_)
    split at q1
    · rename_i hx
      split at q1
      · rename_i c
        have hp : α1[μ.length]? = some p := by
          refine pre_get p1 ?_
          rw [← A.len, List.getElem?_append_right (Nat.le_refl _)]; simp
        obtain ⟨_, _, vs0, k1, k2⟩ := A2.cell _ _ _ hx hp rfl
        rw [RepK] at k2; subst k2
        refine ⟨k1, us, rfl, by rw [RepK.length r1]; exact c, ?_⟩
        have A3 := A2.write (mo' := .dct (ps.foldl (fun m kv => putKD m kv.1 kv.2) [])) (o := .dK (mergeK [] us)) hx hp rfl ⟨_, upd_same, RepK.merge r1 (by rw [RepK])⟩
        refine q1.here A3 ?_
        show Rep _ _ _ _ _
        rw [Rep]
        exact ⟨p, rfl, hp⟩
      · exact q1.elim
    · exact q1.elim
  · cases h
end
end OB
namespace OB
open PySem PySem.Spec PyProof.Rows L2
section
variable {S : Sys} {tb : Tb} {Φ : Fns} {T G H : Hp} {α : List Addr} {μ : Mem}
/-! ## comprehensions -/
/-- an object of the turn's own, aside -/
theorem Abs.hide (A : Abs S T G H α μ) {D : Addr} {o : HO} (nD : H D = none) : Abs S (upd T D o) G (upd H D o) α μ := by
  have gD : G D = none := A.same.free nD
  refine ⟨fun b u e => ?_, fun b u e => ?_, A.len, fun i mo a h ha l => ?_, A.inj⟩
  · rw [upd_ne (ne_of_none e gD)]; exact A.same _ _ e
  · by_cases q : b = D
    · subst q; rw [upd_same] at e ⊢; exact ⟨e, gD⟩
    · rw [upd_ne q] at e ⊢; exact A.aside b u e
  · obtain ⟨u, hu⟩ := A.there h ha l
    have q : a ≠ D := ne_of_none hu nD
    obtain ⟨g1, g2, g3⟩ := A.cell i mo a h ha l
    exact ⟨g1, by rw [upd_ne q]; exact g2, g3.mono (Same.refl _) (List.prefix_refl _) (upd_ne q)⟩
theorem Abs.rewrite {D : Addr} {o o' : HO} (A : Abs S (upd T D o) G H α μ) : Abs S (upd T D o') G (upd H D o') α μ := by
  have gD : G D = none := (A.aside D o upd_same).2
  refine ⟨fun b u e => ?_, fun b u e => ?_, A.len, fun i mo a h ha l => ?_, A.inj⟩
  · rw [upd_ne (ne_of_none e gD)]; exact A.same _ _ e
  · by_cases q : b = D
    · subst q; rw [upd_same] at e ⊢; exact ⟨e, gD⟩
    · rw [upd_ne q] at e ⊢
      exact A.aside b u (by rw [upd_ne q]; exact e)
  · obtain ⟨g1, g2, g3⟩ := A.cell i mo a h ha l
    have q : a ≠ D := fun z => by rw [z, upd_same] at g2; cases g2
    rw [upd_ne q] at g2
    exact ⟨g1, by rw [upd_ne q]; exact g2, g3.mono (Same.refl _) (List.prefix_refl _) (upd_ne q)⟩
theorem Abs.show {D : Addr} {o : HO} (tD : T D = none) (A : Abs S (upd T D o) G H α μ) : Abs S T (upd G D o) H α μ ∧ Same G (upd G D o) := by
  obtain ⟨hD, gD⟩ := A.aside D o upd_same
  have sg : Same G (upd G D o) := fun b u e => by rw [upd_ne (ne_of_none e gD)]; exact e
  refine ⟨⟨fun b u e => ?_, fun b u e => ?_, A.len, fun i mo a h ha l => ?_, A.inj⟩, sg⟩
  · by_cases q : b = D
    · subst q; rw [upd_same] at e; cases e; exact hD
    · rw [upd_ne q] at e; exact A.same _ _ e
  · have q : b ≠ D := ne_of_none e tD
    rw [upd_ne q]
    exact A.aside b u (by rw [upd_ne q]; exact e)
  · obtain ⟨g1, g2, g3⟩ := A.cell i mo a h ha l
    have q : a ≠ D := fun z => by rw [z, upd_same] at g2; cases g2
    rw [upd_ne q] at g2
    exact ⟨by rw [upd_ne q]; exact g1, g2, g3.mono sg (List.prefix_refl _) rfl⟩
theorem wipe_at {σ : L2.St} {j : Nat} : ∀ {vs : List Nat}, (j ∈ vs → j < σ.length → (wipe σ vs)[j]? = some none) ∧ (j ∉ vs → (wipe σ vs)[j]? = σ[j]?)
  | [] => ⟨fun h => (by cases h), fun _ => rfl⟩
  | v :: vs => by
    obtain ⟨h1, h2⟩ := wipe_at (σ := σ) (j := j) (vs := vs)
    unfold wipe
    refine ⟨fun hm hl => ?_, fun hm => ?_⟩
    · by_cases q : v = j
      · subst q
        rw [List.getElem?_set_self (by rw [wipe_length]; exact hl)]
      · rw [List.getElem?_set_ne q]
        rcases List.mem_cons.mp hm with z | z
        · exact absurd z.symm q
        · exact h1 z hl
    · have q : v ≠ j := fun z => hm (by rw [z]; exact List.mem_cons_self)
      rw [List.getElem?_set_ne q]
      exact h2 fun z => hm (List.mem_cons_of_mem _ z)
theorem wipe_eq {σ σ' : L2.St} {ix vs : List Nat} (h : SameBut ix (wipe σ vs) σ') (hi : ∀ i ∈ ix, i ∈ vs) : wipe σ' vs = wipe σ vs := by
  refine List.ext_getElem? fun j => ?_
  have hl : σ'.length = σ.length := by rw [h.1, wipe_length]
  by_cases hj : j ∈ vs
  · by_cases l : j < σ.length
    · rw [wipe_at.1 hj (by omega), wipe_at.1 hj l]
    · rw [List.getElem?_eq_none (by rw [wipe_length]; omega), List.getElem?_eq_none (by rw [wipe_length]; omega)]
  · rw [wipe_at.2 hj]
    exact h.2 j fun z => hj (hi j z)
theorem wipeD_at {ρ : Env'} {j : Nat} {d : D} : ∀ {vs : List Nat}, (wipeD ρ vs)[j]? = some (some d) → j ∉ vs ∧ ρ[j]? = some (some d)
  | [], h => ⟨by simp, h⟩
  | v :: vs, h => by
    unfold wipeD at h
    by_cases q : v = j
    · subst q
      have hl := (List.getElem?_eq_some_iff.mp h).1
      rw [List.length_set] at hl
      rw [List.getElem?_set_self hl] at h
      cases h
    · rw [List.getElem?_set_ne q] at h
      obtain ⟨h1, h2⟩ := wipeD_at h
      exact ⟨fun z => (List.mem_cons.mp z).elim (fun z => q z.symm) h1, h2⟩
theorem wipeD_len (ρ : Env') : ∀ vs : List Nat, (wipeD ρ vs).length = ρ.length
  | [] => rfl
  | v :: vs => by unfold wipeD; rw [List.length_set, wipeD_len ρ vs]
theorem EnvR.wipe {ρ : Env'} {σ : L2.St} (h : EnvR S G α ρ σ) (vs : List Nat) : EnvR S G α (wipeD ρ vs) (L2.wipe σ vs) := by
  refine ⟨by rw [wipeD_len, wipe_length]; exact h.1, fun i d e => ?_⟩
  obtain ⟨h1, h2⟩ := wipeD_at e
  obtain ⟨v, e1, r⟩ := h.2 i d h2
  exact ⟨v, by rw [wipe_at.2 h1]; exact e1, r⟩
theorem GX.blk {wh : Wh} {W : WX} {X : Cx} (g : GX S wh W X) {s : Shared} {H : Hp} {scope : Scope} {cl : List (Str × Addr)} {C : Addr} {fp : List Addr} (hk : scope.kind = .function) :
    GX S (wh.blk scope) (fun _ _ _ _ => False) (X.blk s H scope (compEnvC scope cl C X.env) fp) := by
  refine ⟨g.P, g.w, g.K, g.mg, g.base, g.N, g.nd, ?_, hk, g.calm, g.room, g.gd, fun z => (by cases z), takes_none5⟩
  show relS scope X.env.scope = relS scope wh.sc
  rw [g.sc]
theorem ownP_ix (wh : Wh) (own : List Nat) : (ownP wh own).map (·.2) = own := by
  unfold ownP
  rw [List.map_map]
  exact List.map_id' _
/-- the if of a comprehension -/
def SndC (S : Sys) (Φ : Fns) (wh : Wh) (ir : Tss) (es : List Expr) : Prop := ∀ W X, GX S wh W X → PTs X es (tCs S Φ W ir)
theorem PTsimp {X : Cx} {e : List Expr} {t t' : TT} (h : PTs X e t) (i : ∀ σ H Q, t' σ H Q → t σ H Q) : PTs X e t' := ⟨fun pins s σ H Q I q => h.run pins s σ H Q I (i σ H Q q)⟩
theorem sc_nil {wh : Wh} {es : List Expr} (h : chkC tb wh .nil es = true) : SndC S Φ wh .nil es := by
  intro W X g
  unfold chkC at h
  split at h
  · refine PTsimp pts_nil fun σ H Q hq => ?_
    obtain ⟨T, G, α, μ, ρ, A, En, q⟩ := hq
    unfold evC at q
    exact Post.here (R := REq Bool) q A rfl
  · cases h
theorem sc_one {wh : Wh} {t : Ts} {es : List Expr} (ht : ∀ e, chkT tb wh t e = true → SndT S Φ wh t e) (h : chkC tb wh (.one t) es = true) : SndC S Φ wh (.one t) es := by
  intro W X g
  unfold chkC at h
  split at h
  · refine PTsimp (pts_one (ht _ h W X g)) fun σ H Q hq => ?_
    obtain ⟨T, G, α, μ, ρ, A, En, q⟩ := hq
    unfold evC at q
    exact ⟨T, G, α, μ, ρ, A, En, q⟩
  · cases h
/-- what the reading of a comprehension asks, from what the evaluator says -/
theorem lc_read {tg : Tg} {it : Iw} {ifs : Tss} {elt : Ex} {own : List Nat} {W : WX} {σ : L2.St} {H : Hp} {Q : VK} (hown : ∀ i ∈ tg.ix, i ∈ own) (hq : tE S Φ W (.lc elt own tg it ifs) σ H Q) :
    tLc (tIw S Φ W it) (rdG S Φ tg) (tCs S Φ (fun _ _ _ _ => False) ifs) (tE S Φ (fun _ _ _ _ => False) elt) own σ H Q := by
  obtain ⟨T, G, α, μ, ρ, A, En, q⟩ := hq
  unfold evE at q
  refine ⟨T, G, α, μ, ρ, A, En, q.step fun xs μ1 G1 α1 H1 J s1 p1 A1 wk q1 => ?_⟩
  intro D nD
  split at q1
  · rename_i ds μ2 hl
    refine ⟨fun i m H => m = xs.length - i ∧ i ≤ xs.length ∧ ∃ Gi αi μi acc accV, Same G1 Gi ∧ α1 <+: αi ∧ Abs S (upd T D (.lst accV)) Gi H αi μi ∧ Reps S Gi αi acc accV ∧ lcLoop (evG Φ tg) (evC Φ ifs) (evE Φ elt) (wipeD ρ own) (xs.drop i) acc μi = .ok ds μ2,
      ⟨xs.length, by omega, Nat.zero_le _, G1, α1, μ1, [], [], Same.refl _, List.prefix_refl _, A1.hide nD, Reps.nil, by rw [List.drop_zero]; exact hl⟩, ?_⟩
    rintro i m Hi ⟨rfl, hi, Gi, αi, μi, acc, accV, sgi, sai, Ai, ra, hli⟩
    obtain ⟨wk1, wk2⟩ := wk _ Gi αi Hi μi sgi sai Ai
    by_cases hlt : i < xs.length
    · refine .inr ⟨(wk1 i xs[i] (List.getElem?_eq_getElem hlt)).1, fun H' => ∃ Gi αi μi acc accV, Same G1 Gi ∧ α1 <+: αi ∧ Abs S (upd T D (.lst accV)) Gi H' αi μi ∧ Reps S Gi αi acc accV ∧ lcLoop (evG Φ tg) (evC Φ ifs) (evE Φ elt) (wipeD ρ own) (xs.drop (i + 1)) acc μi = .ok ds μ2,
        fun H' h' => ⟨xs.length - (i + 1), by omega, rfl, hlt, h'⟩, fun x H' y => ?_⟩
      obtain ⟨G2, sg2, A2, r2⟩ := (wk1 i xs[i] (List.getElem?_eq_getElem hlt)).2 x H' y
      rw [List.drop_eq_getElem_cons hlt] at hli
      unfold lcLoop at hli
      have En2 : EnvR S G2 αi (wipeD ρ own) (L2.wipe σ own) := ((En.mono (s1.trans (sgi.trans sg2)) (p1.trans sai)).wipe own)
      rcases evG_ok (Φ := Φ) tg xs[i] (wipeD ρ own) μi with ⟨ρ1, eg⟩ | eg
      · rw [eg] at hli
        simp only at hli
        refine ⟨G2, αi, wipeD ρ own, xs[i], ρ1, μi, En2, r2, A2.same, eg, fun σ2 En3 sb => ⟨wipe_eq sb hown, ?_⟩⟩
        refine ⟨_, G2, αi, μi, ρ1, A2, En3, ?_⟩
        cases ec : evC Φ ifs ρ1 μi with
        | exn _ _ _ => rw [ec] at hli; cases hli
        | bad => rw [ec] at hli; cases hli
        | ok b μc =>
          rw [ec] at hli
          intro G3 α3 H3 b' s3 p3 A3 rb
          cases rb
          cases b with
          | false =>
            refine iteF ?_
            exact ⟨G3, α3, μc, acc, accV, sgi.trans (sg2.trans s3), sai.trans p3, A3, Reps.mono (sg2.trans s3) p3 _ _ ra, hli⟩
          | true =>
            refine iteT ?_
            refine ⟨_, G3, α3, μc, ρ1, A3, En3.mono s3 p3, ?_⟩
            simp only at hli
            cases ee : evE Φ elt ρ1 μc with
            | exn _ _ _ => rw [ee] at hli; cases hli
            | bad => rw [ee] at hli; cases hli
            | ok d μd =>
              rw [ee] at hli
              intro G4 α4 H4 v s4 p4 A4 rv
              simp only at hli
              split at hli
              · rename_i hlen
                have ra4 := Reps.mono (sg2.trans (s3.trans s4)) (p3.trans p4) _ _ ra
                refine ⟨accV, (A4.aside D _ upd_same).1, by rw [ra4.length]; exact hlen, ?_⟩
                exact ⟨G4, α4, μd, acc ++ [d], accV ++ [v], sgi.trans (sg2.trans (s3.trans s4)), sai.trans (p3.trans p4), A4.rewrite, ra4.append (Reps.one rv), hli⟩
              · cases hli
      · rw [eg] at hli; cases hli
    · have e : i = xs.length := by omega
      subst e
      refine .inl ⟨wk2, ?_⟩
      rw [List.drop_length] at hli
      unfold lcLoop at hli
      cases hli
      have tD : T D = none := by
        cases z : T D with
        | none => rfl
        | some o => rw [(A1.aside D o z).1] at nD; cases nD
      obtain ⟨A5, s5⟩ := Ai.show tD
      refine q1 _ αi Hi _ (sgi.trans s5) sai A5 ?_
      show Rep _ _ _ _ _
      rw [Rep]
      exact ⟨D, accV, rfl, .of upd_same, Reps.mono s5 (List.prefix_refl _) _ _ ra⟩
  · exact q1.elim
theorem sn_lc {wh : Wh} {elt : Ex} {own : List Nat} {tg : Tg} {it : Iw} {ifs : Tss} {e : Expr} (hi : ∀ t e, chkI tb wh it e = true → SndI S Φ wh it t e) (hc : ∀ wh es, chkC tb wh ifs es = true → SndC S Φ wh ifs es)
    (he : ∀ wh e, chkE tb wh elt e = true → SndE S Φ wh elt e) (h : chkE tb wh (.lc elt own tg it ifs) e = true) : SndE S Φ wh (.lc elt own tg it ifs) e := by
  intro W X g
  unfold chkE at h
  split at h
  · rename_i x t i c a scope pos
    simp only [Bool.and_eq_true, decide_eq_true_eq] at h
    obtain ⟨⟨⟨⟨⟨⟨⟨ha, h1⟩, h2⟩, h3⟩, h4⟩, h5⟩, h6⟩, h7⟩ := h
    subst ha
    have hb : BlkOk X.N X.env.scope scope (ownP wh own) := by rw [g.N, g.sc]; exact blkOk_by h1
    have P := pe_lc (pos := pos) g.calm g.nd (hi t i h2 W X g) hb (fun s H C cl fp => snG (Φ := Φ) (W := fun _ _ _ _ => False) tg _ t h3 _ (g.blk (s := s) (H := H) (cl := cl) (C := C) (fp := fp) hb.kind))
      (fun s H C cl fp => hc _ _ h6 _ _ (g.blk (s := s) (H := H) (cl := cl) (C := C) (fp := fp) hb.kind)) (fun s H C cl fp => he _ _ h7 _ _ (g.blk (s := s) (H := H) (cl := cl) (C := C) (fp := fp) hb.kind)) (chkI_set h2 _)
    rw [ownP_ix] at P
    exact PEimp P fun σ H Q hq => lc_read (fun j hj => List.contains_iff_mem.mp (List.all_eq_true.mp h5 j hj)) hq
  · cases h
end
end OB
namespace OB
open PySem PySem.Spec PyProof.Rows L2
section
variable {S : Sys} {tb : Tb} {Φ : Fns}
mutual
theorem sndE (F : Fx S tb Φ) : ∀ (ir : Ex) (wh : Wh) (e : Expr), chkE tb wh ir e = true → SndE S Φ wh ir e
  | .var _, _, _, h => sn_var h
  | .int _, _, _, h => sn_int h
  | .bl _, _, _, h => sn_bl h
  | .non, _, _, h => sn_non h
  | .str _, _, _, h => sn_str h
  | .glob _ _, _, _, h => sn_glob F h
  | .bin _ a b, wh, _, h => sn_bin (sndE F a wh) (sndE F b wh) h
  | .neg a, wh, _, h => sn_neg (sndE F a wh) h
  | .cmp _ a b, wh, _, h => (sn_cmp (sndE F a wh) (sndE F b wh) h).1
  | .chain _ _ a b c, wh, _, h => (sn_chain (sndE F a wh) (sndE F b wh) (sndE F c wh) h).1
  | .and a b, wh, _, h => sn_and (sndE F a wh) (sndE F b wh) h
  | .or a b, wh, _, h => sn_or (sndE F a wh) (sndE F b wh) h
  | .not a, wh, _, h => sn_not (sndE F a wh) h
  | .ite t a b, wh, _, h => sn_ite (fun e h => (sndT F t wh e h).1) (sndE F a wh) (sndE F b wh) h
  | .tup es, wh, _, h => sn_tup (sndEs F es wh) h
  | .lst es, wh, _, h => sn_lst (sndEs F es wh) h
  | .newl es, wh, _, h => sn_newl (sndEs F es wh) h
  | .idx a b, wh, _, h => sn_idx (sndE F a wh) (sndE F b wh) h
  | .slc a lo hi, wh, _, h => sn_slc (sndE F a wh) (sndO F lo wh) (sndO F hi wh) h
  | .call _ _ es, wh, _, h => sn_call F (sndEs F es wh) h
  | .blt _ es, wh, _, h => sn_blt F (sndEs F es wh) h
  | .isi a _ _, wh, _, h => sn_isi F (sndE F a wh) h
  | .lc elt _ _ it ifs, wh, _, h => sn_lc (fun t e h => sndI F it wh t e h) (fun wh => sndC F ifs wh) (fun wh => sndE F elt wh) h
  | .dget d _, wh, _, h => sn_dget (sndE F d wh) h
  | .disp kvs, wh, _, h => sn_disp (sndK F kvs wh) h
theorem sndEs (F : Fx S tb Φ) : ∀ (ir : Exs) (wh : Wh) (es : List Expr), chkEs tb wh ir es = true → SndEs S Φ wh ir es
  | .nil, _, _, h => ss_nil h
  | .cons a r, wh, _, h => ss_cons (sndE F a wh) (sndEs F r wh) h
theorem sndT (F : Fx S tb Φ) : ∀ (ir : Ts) (wh : Wh) (e : Expr), chkT tb wh ir e = true → SndT S Φ wh ir e ∧ ∀ op vs p, e = .BoolOp op vs p → SndW S Φ wh ir e
  | .val (.cmp op a b), wh, e, h => by
    have h' := h
    unfold chkT at h'
    obtain ⟨h1, h2⟩ := ba2 h'
    refine ⟨(sn_cmp (sndE F a wh) (sndE F b wh) h1).2, fun o vs p z => ?_⟩
    subst z; cases h2
  | .val (.chain _ _ a b c), wh, e, h => by
    have h' := h
    unfold chkT at h'
    obtain ⟨h1, h2⟩ := ba2 h'
    refine ⟨(sn_chain (sndE F a wh) (sndE F b wh) (sndE F c wh) h1).2, fun o vs p z => ?_⟩
    subst z; cases h2
  | .val a, wh, e, h => by
    have h' := h
    unfold chkT at h'
    obtain ⟨h1, h2⟩ := ba2 h'
    refine ⟨?_, fun o vs p z => by subst z; cases h2⟩
    by_cases hc : ∃ x os ys p, e = .Compare x os ys p
    · obtain ⟨x, os, ys, p, rfl⟩ := hc
      cases a with
      | cmp op a b => exact (sn_cmp (sndE F a wh) (sndE F b wh) h1).2
      | chain _ _ a b c => exact (sn_chain (sndE F a wh) (sndE F b wh) (sndE F c wh) h1).2
      | _ => simp only [chkE] at h1; cases h1
    · exact st_plain (sndE F a wh) h fun x os ys p z => hc ⟨x, os, ys, p, z⟩
  | .not t, wh, e, h => by
    refine ⟨st_not (fun e h => (sndT F t wh e h).1) h, fun o vs p z => ?_⟩
    subst z
    unfold chkT at h; cases h
  | .and a b, wh, e, h => by
    have k := st_and (fun e h => (sndT F a wh e h).1) (fun e h => (sndT F b wh e h).1) (fun x y r p h => (sndT F b wh _ h).2 _ _ _ rfl) h
    exact ⟨fun W X g => (k W X g).pt, fun _ _ _ _ => k⟩
  | .or a b, wh, e, h => by
    have k := st_or (fun e h => (sndT F a wh e h).1) (fun e h => (sndT F b wh e h).1) (fun x y r p h => (sndT F b wh _ h).2 _ _ _ rfl) h
    exact ⟨fun W X g => (k W X g).pt, fun _ _ _ _ => k⟩
theorem sndC (F : Fx S tb Φ) : ∀ (ir : Tss) (wh : Wh) (es : List Expr), chkC tb wh ir es = true → SndC S Φ wh ir es
  | .nil, _, _, h => sc_nil h
  | .one t, wh, _, h => sc_one (fun e h => (sndT F t wh e h).1) h
theorem sndO (F : Fx S tb Φ) : ∀ (ir : Oe) (wh : Wh) (e : Option Expr), chkO tb wh ir e = true → SndO S Φ wh ir e
  | .none, _, _, h => so_none h
  | .some a, wh, _, h => so_some (sndE F a wh) h
theorem sndI (F : Fx S tb Φ) : ∀ (ir : Iw) (wh : Wh) (tg e : Expr), chkI tb wh ir e = true → SndI S Φ wh ir tg e
  | .lst a, wh, _, _, h => si_lst (sndE F a wh) h
  | .tup a, wh, _, _, h => si_tup (sndE F a wh) h
  | .rng1 a, wh, _, _, h => si_rng1 F (sndE F a wh) h
  | .rng2 a b, wh, _, _, h => si_rng2 F (sndE F a wh) (sndE F b wh) h
theorem sndK (F : Fx S tb Φ) : ∀ (ir : Kvs) (wh : Wh) (ks : List (Option Expr)) (vs : List Expr), chkK tb wh ir ks vs = true → SndK S Φ wh ir ks vs
  | .nil, _, _, _, h => sk_nil h
  | .cons _ a r, wh, _, _, h => sk_cons (sndE F a wh) (sndK F r wh) h
end
end
end OB
namespace OB
open PySem PySem.Spec PyProof.Rows L2
structure GS (S : Sys) (wh : Wh) (W : WX) (X : Cx) : Prop where
  g : GX S wh W X
  po : PassesOwn (model X.prog X.w) X.A X.env X.xe
section
variable (S : Sys) (T G : Hp) (α : List Addr)
def PostS (r : SR) (D : Ends) (W : WX) : Prop := match r with
  | .nx ρ' μ' => ∀ G' α' H' σ', Same G G' → α <+: α' → Abs S T G' H' α' μ' → EnvR S G' α' ρ' σ' → D.nx σ' H'
  | .rt d μ' => ∀ G' α' H' v, Same G G' → α <+: α' → Abs S T G' H' α' μ' → Rep S G' α' d v → D.rt v H'
  | .bk ρ' μ' => ∀ G' α' H' σ', Same G G' → α <+: α' → Abs S T G' H' α' μ' → EnvR S G' α' ρ' σ' → D.bk σ' H'
  | .ct ρ' μ' => ∀ G' α' H' σ', Same G G' → α <+: α' → Abs S T G' H' α' μ' → EnvR S G' α' ρ' σ' → D.ct σ' H'
  | .exn ρ' c fs μ' => ∀ G' α' H' σ' a vs, Same G G' → α <+: α' → Abs S T G' H' α' μ' → EnvR S G' α' ρ' σ' → H' a = some (.xd vs) → RepF S G' α' fs vs → W (.ref (S.cls c)) (some a) σ' H'
  | .bad => False
end
section
variable {S : Sys} {tb : Tb} {Φ : Fns} {T G G' H : Hp} {α α' : List Addr} {μ : Mem} {ρ : Env'} {σ : L2.St} {W : WX} {D : Ends} {A B : Type} {R : RelA A B}
theorem PostS.mono {r : SR} (h : PostS S T G α r D W) (sg : Same G G') (sa : α <+: α') : PostS S T G' α' r D W := by
  cases r with
  | nx _ _ => exact fun G2 α2 H2 σ2 s1 s2 => h G2 α2 H2 σ2 (sg.trans s1) (sa.trans s2)
  | rt _ _ => exact fun G2 α2 H2 σ2 s1 s2 => h G2 α2 H2 σ2 (sg.trans s1) (sa.trans s2)
  | bk _ _ => exact fun G2 α2 H2 σ2 s1 s2 => h G2 α2 H2 σ2 (sg.trans s1) (sa.trans s2)
  | ct _ _ => exact fun G2 α2 H2 σ2 s1 s2 => h G2 α2 H2 σ2 (sg.trans s1) (sa.trans s2)
  | exn _ _ _ _ => exact fun G2 α2 H2 σ2 a vs s1 s2 => h G2 α2 H2 σ2 a vs (sg.trans s1) (sa.trans s2)
  | bad => exact h
theorem PostS.step {r : Res A} {f : A → Mem → SR} {Q' : B → Hp → Prop} (h : PostS S T G α (r.toS ρ f) D W) (En : EnvR S G α ρ σ)
    (k : ∀ a μ1 G1 α1 H1 b, Same G G1 → α <+: α1 → Abs S T G1 H1 α1 μ1 → R G1 α1 a b → PostS S T G1 α1 (f a μ1) D W → Q' b H1) : Post S T G α R r Q' (fun c d H' => W c d σ H') := by
  cases r with
  | ok a m => exact fun G2 α2 H2 b s1 s2 A1 r1 => k a m G2 α2 H2 b s1 s2 A1 r1 (PostS.mono h s1 s2)
  | exn c fs m => exact fun G2 α2 H2 a vs s1 s2 A1 hx hf => h G2 α2 H2 σ a vs s1 s2 A1 (En.mono s1 s2) hx hf
  | bad => exact h
theorem PostS.nx {D' : Ends} {r : SR} (h : PostS S T G α r D W) (h1 : ∀ s H, D.nx s H → D'.nx s H) (h2 : ∀ s H, D.rt s H → D'.rt s H) (h3 : ∀ s H, D.bk s H → D'.bk s H) (h4 : ∀ s H, D.ct s H → D'.ct s H) : PostS S T G α r D' W := by
  cases r with
  | nx _ _ => exact fun G2 α2 H2 σ2 s1 s2 A e => h1 _ _ (h G2 α2 H2 σ2 s1 s2 A e)
  | rt _ _ => exact fun G2 α2 H2 σ2 s1 s2 A e => h2 _ _ (h G2 α2 H2 σ2 s1 s2 A e)
  | bk _ _ => exact fun G2 α2 H2 σ2 s1 s2 A e => h3 _ _ (h G2 α2 H2 σ2 s1 s2 A e)
  | ct _ _ => exact fun G2 α2 H2 σ2 s1 s2 A e => h4 _ _ (h G2 α2 H2 σ2 s1 s2 A e)
  | exn _ _ _ _ => exact h
  | bad => exact h
end
section
variable {S : Sys} {tb : Tb} {Φ : Fns} {T G H : Hp} {α : List Addr} {μ : Mem}
def tSm (S : Sys) (Φ : Fns) (W : WX) (ir : Sm) : TS := fun D σ H => ∃ T G α μ ρ, Abs S T G H α μ ∧ EnvR S G α ρ σ ∧ PostS S T G α (evS Φ ir ρ μ) D W
def tSms (S : Sys) (Φ : Fns) (W : WX) (ir : Sms) : TS := fun D σ H => ∃ T G α μ ρ, Abs S T G H α μ ∧ EnvR S G α ρ σ ∧ PostS S T G α (evSs Φ ir ρ μ) D W
def SndS (S : Sys) (Φ : Fns) (wh : Wh) (ir : Sm) (st : Stmt) : Prop := ∀ W X, GS S wh W X → PS X st (tSm S Φ W ir)
def SndSs (S : Sys) (Φ : Fns) (wh : Wh) (ir : Sms) (st : List Stmt) : Prop := ∀ W X, GS S wh W X → PSs X st (tSms S Φ W ir)
theorem sw_no {e : Expr} {t : Option Expr} {l : Nat} {env : Env} (h : isLc e = false) : swapsWith e t l env = pure false := by
  cases e <;> first | rfl | cases h
theorem sw_name {x : Str} {p : Pos} {e : Expr} {env : Env} : swappedStores [.Name x p] e env = pure none := by
  cases e <;> rfl
theorem blockKind_fn {env : Env} (hk : env.scope.kind = .function) : env.blockKind = .function := by
  unfold Env.blockKind
  rw [hk]; rfl
theorem sw_tup {ts : List Expr} {k : Nat} {p : Pos} {v : Expr} {env : Env} (hk : env.scope.kind = .function) (h : noSw (.Tuple ts k p) v = true) : swappedStores [.Tuple ts k p] v env = pure none := by
  cases v with
  | Tuple vs k2 p2 =>
    unfold noSw at h
    unfold swappedStores
    simp only
    by_cases c : (!(ts.length == 2 || ts.length == 3) || vs.length != ts.length) = true
    · have c2 : (!(ts.length == 2 || ts.length == 3) || vs.length != ts.length || env.blockKind != .function) = true := by rw [c]; rfl
      simp only [c2, if_true]
    · have c' : (!(ts.length == 2 || ts.length == 3) || vs.length != ts.length) = false := by
        cases q : (!(ts.length == 2 || ts.length == 3) || vs.length != ts.length) with
        | true => exact absurd q c
        | false => rfl
      have f : vs.all (foldedForSure 8) = true := by
        rcases Bool.or_eq_true_iff.mp h with z | z
        · rw [c'] at z; cases z
        · exact z
      have c2 : (!(ts.length == 2 || ts.length == 3) || vs.length != ts.length || env.blockKind != .function) = false := by rw [c', blockKind_fn hk]; rfl
      simp only [c2, f, if_true]
      split
      · contradiction
      · split
        · rfl
        · split <;> rfl
  | _ => rfl
theorem sw_two {x y : Str} {px py pt pt2 : Pos} {kt k2 : Nat} {a b : Expr} {env : Env} (hk : env.scope.kind = .function) (hx : env.scope.names.lookup x = some .local) (hy : env.scope.names.lookup y = some .local) (hxy : x ≠ y) (hl : (py.line == px.line) = true) (h : swap2 a b = true) :
    swappedStores [.Tuple [.Name x px, .Name y py] kt pt] (.Tuple [a, b] k2 pt2) env = pure (some [x, y]) := by
  unfold swap2 at h
  obtain ⟨h1, h2⟩ := ba2 h
  obtain ⟨h3, h4⟩ := ba2 h1
  have kx : env.kindOf x = some .local := hx
  have ky : env.kindOf y = some .local := hy
  have bk := blockKind_fn hk
  have nd : ([x, y] : List Str).eraseDups = [x, y] := by
    have : (y == x) = false := beq_false_of_ne (Ne.symm hxy)
    simp [List.eraseDups_cons, this]
  have hl' : py.line = px.line := eq_of_beq hl
  have st : ([a, b].any fun | .Starred .. => true | _ => false) = false := bn h2
  have f8 := bn h3
  have c8 := bn h4
  have fm : ([.Name x px, .Name y py] : List Expr).filterMap (fun | .Name id pos => if env.kindOf id == some .local && pos.line == (([.Name x px, .Name y py] : List Expr).head?.map (·.pos.line)).getD 0 then some id else none | _ => none) = [x, y] := by
    simp [List.filterMap_cons, kx, ky, hl', Expr.pos]
  let F : List Str → Sem (Option (List Str)) := fun names => if names.length != 2 || names.eraseDups.length != names.length then pure none else if [a, b].all (foldedForSure 8) then pure none else
    if [a, b].all (constantsAlone 8) then (do unsupported "assign.tuple-of-constant-expressions:order-of-the-stores"; pure (some names)) else pure (some names)
  unfold swappedStores
  simp only [List.length_cons, List.length_nil, bk]
  show (if ([a, b].any fun | .Starred .. => true | _ => false) = true then (pure none : Sem (Option (List Str))) else _) = _
  rw [st, if_neg Bool.false_ne_true]
  refine Eq.trans (congrArg F fm) ?_
  show (if (([x, y] : List Str).length != 2 || ([x, y] : List Str).eraseDups.length != ([x, y] : List Str).length) = true then (pure none : Sem (Option (List Str))) else _) = _
  rw [nd, if_neg (by simp), f8, if_neg Bool.false_ne_true, c8, if_neg Bool.false_ne_true]
theorem sw_noS {t v : Expr} {l : Nat} {env : Env} (h : isLc v = false) : swapsWithSole [t] v l env = pure false := by
  cases v <;> first | rfl | cases h
theorem sw_noT {ts : List Expr} {k : Nat} {p : Pos} {l : Nat} {env : Env} (v : Expr) : swapsWithSole [.Tuple ts k p] v l env = pure false := by
  cases v <;> rfl
theorem ss_asg {wh : Wh} {t : Tg} {a : Ex} {st : Stmt} (F : Fx S tb Φ) (h : chkS tb wh (.asg t a) st = true) : SndS S Φ wh (.asg t a) st := by
  intro W X g
  unfold chkS at h
  split at h
  · rename_i tg v pos
    obtain ⟨h1, h2⟩ := ba2 h
    obtain ⟨h3, h4⟩ := ba2 h1
    have plain : swapsWithSole [tg] v pos.line X.env = pure false → swappedStores [tg] v X.env = pure none → PS X (.Assign [tg] v pos) (tSm S Φ W (.asg t a)) := by
      intro nl ns
      refine PSimp (ps_asg (sndE F a wh v h3 W X g.g) (snG (Φ := Φ) t wh tg h4 X g.g) nl ns (by rw [asgE_cons (chkG_shape h4)]; rfl)) fun D σ H hq => ?_
      obtain ⟨T, G, α, μ, ρ, A, En, q⟩ := hq
      unfold evS at q
      refine ⟨T, G, α, μ, ρ, A, En, q.step En fun d μ1 G1 α1 H1 x s1 p1 A1 r1 q1 => ?_⟩
      rcases evG_ok (Φ := Φ) t d ρ μ1 with ⟨ρ1, e1⟩ | e1
      · rw [e1] at q1
        exact ⟨G1, α1, ρ, d, ρ1, μ1, En.mono s1 p1, r1, A1.same, e1, fun σ' En' sb => q1 G1 α1 H1 σ' (Same.refl _) (List.prefix_refl _) A1 En'⟩
      · rw [e1] at q1; exact q1.elim
    split at h2
    · rename_i y py elt gens scope lp
      obtain ⟨h5, h6⟩ := ba2 h2
      obtain ⟨h7, h8⟩ := ba2 h5
      -- name = [..]
      have hc := h3
      cases a with
      | lc el own tg it ifs =>
        unfold chkE at hc
        split at hc
        · rename_i x t' i c a' scope' pos' heq
          cases heq
          simp only [Bool.and_eq_true, decide_eq_true_eq] at hc
          obtain ⟨⟨⟨⟨⟨⟨⟨ha, k1⟩, k2⟩, k3⟩, k4⟩, k5⟩, k6⟩, k7⟩ := hc
          subst ha
          cases t with
          | nm j =>
            unfold chkG at h4
            have h4' : stoB wh j y = true := h4
            unfold stoB at h4'
            obtain ⟨m1, m2⟩ := ba2 h4'
            obtain ⟨m3, m4⟩ := ba2 m1
            have hl : X.env.scope.names.lookup y = some .local := by rw [g.g.sc]; exact of_decide_eq_true h7
            have hb : BlkOk X.N X.env.scope scope (ownP wh own) := by rw [g.g.N, g.g.sc]; exact blkOk_by k1
            have P := ps_setLc (i := j) (y := y) (py := py) (pos := lp) (spos := pos) g.g.calm g.g.nd (by rw [g.g.N]; exact of_decide_eq_true m3) hl
              (sw_true g.g.kd hl h8 (bn h6))
              (sndI F it wh t' i k2 W X g.g) hb (fun s H C cl fp => snG (Φ := Φ) (W := fun _ _ _ _ => False) tg _ t' k3 _ (g.g.blk (s := s) (H := H) (cl := cl) (C := C) (fp := fp) hb.kind))
              (fun s H C cl fp => sndC F ifs _ _ k6 _ _ (g.g.blk (s := s) (H := H) (cl := cl) (C := C) (fp := fp) hb.kind)) (fun s H C cl fp => sndE F el _ _ k7 _ _ (g.g.blk (s := s) (H := H) (cl := cl) (C := C) (fp := fp) hb.kind)) (chkI_set k2 _)
            rw [ownP_ix] at P
            refine PSimp P fun D σ H hq => ?_
            obtain ⟨T, G, α, μ, ρ, A, En, q⟩ := hq
            unfold evS at q
            refine lc_read (fun i hi => List.contains_iff_mem.mp (List.all_eq_true.mp k5 i hi)) ⟨T, G, α, μ, ρ, A, En, q.step En fun d μ1 G1 α1 H1 x s1 p1 A1 r1 q1 => ?_⟩
            unfold evG at q1
            exact q1 G1 α1 H1 _ (Same.refl _) (List.prefix_refl _) A1 ((En.mono s1 p1).set j r1)
          | tup _ => unfold chkG at h4; cases h4
          | ltup _ => unfold chkG at h4; cases h4
        · cases hc
      | _ => simp only [chkE] at hc; cases hc
    · exact plain (sw_noS (bn h2)) sw_name
    · exact plain (sw_noT v) (sw_tup g.g.kd h2)
    · cases h2
  · cases h
end
end OB
namespace OB
open PySem PySem.Spec PyProof.Rows L2
section
variable {S : Sys} {tb : Tb} {Φ : Fns} {T G H : Hp} {α : List Addr} {μ : Mem}
theorem ss_par2 {wh : Wh} {i j : Nat} {a b : Ex} {st : Stmt} (F : Fx S tb Φ) (h : chkS tb wh (.par2 i j a b) st = true) : SndS S Φ wh (.par2 i j a b) st := by
  intro W X g
  unfold chkS at h
  split at h
  · rename_i x px y py k1 p1 e f k2 p2 pos
    simp only [Bool.and_eq_true, decide_eq_true_eq] at h
    obtain ⟨⟨⟨⟨⟨⟨⟨⟨hi, hj⟩, lx⟩, ly⟩, nij⟩, hl⟩, hs⟩, ha⟩, hb⟩ := h
    unfold stoB at hi hj
    simp only [Bool.and_eq_true, decide_eq_true_eq] at hi hj
    have ni : X.N[i]? = some x := by rw [g.g.N]; exact hi.1.1
    have nj : X.N[j]? = some y := by rw [g.g.N]; exact hj.1.1
    have hx : X.env.scope.names.lookup x = some .local := by rw [g.g.sc]; exact of_decide_eq_true lx
    have hy : X.env.scope.names.lookup y = some .local := by rw [g.g.sc]; exact of_decide_eq_true ly
    have hxy : x ≠ y := fun z => nij (nodup_ix g.g.nd ni (by rw [z]; exact nj))
    refine PSimp (ps_par g.g.calm g.g.nd ni nj nij hx hy (pa_cons (sndE F a wh e ha W X g.g) (pa_cons (sndE F b wh f hb W X g.g) pa_nil (star_cons (chkE_star hb))) (star_cons (chkE_star ha))) (sw_two g.g.kd hx hy hxy hl hs) rfl) fun D σ H hq => ?_
    obtain ⟨T, G, α, μ, ρ, A, En, q⟩ := hq
    unfold evS at q
    refine ⟨T, G, α, μ, ρ, A, En, q.step En fun d1 μ1 G1 α1 H1 v s1 p1 A1 r1 q1 => ?_⟩
    refine ⟨T, G1, α1, μ1, ρ, A1, En.mono s1 p1, q1.step (En.mono s1 p1) fun d2 μ2 G2 α2 H2 w' s2 p2 A2 r2 q2 => ?_⟩
    refine ⟨v, w', rfl, q2 G2 α2 H2 _ (Same.refl _) (List.prefix_refl _) A2 ((((En.mono s1 p1).mono s2 p2).set i (r1.mono s2 p2 _ _)).set j r2)⟩
  · cases h
theorem ss_expr {wh : Wh} {a : Ex} {st : Stmt} (F : Fx S tb Φ) (h : chkS tb wh (.expr a) st = true) : SndS S Φ wh (.expr a) st := by
  intro W X g
  unfold chkS at h
  split at h
  · rename_i e pos
    obtain ⟨h1, h2⟩ := ba2 h
    refine PSimp (ps_expr (sndE F a wh e h1 W X g.g) (sw_no (bn h2))) fun D σ H hq => ?_
    obtain ⟨T, G, α, μ, ρ, A, En, q⟩ := hq
    unfold evS at q
    exact ⟨T, G, α, μ, ρ, A, En, q.step En fun d μ1 G1 α1 H1 x s1 p1 A1 r1 q1 => q1 G1 α1 H1 σ (Same.refl _) (List.prefix_refl _) A1 (En.mono s1 p1)⟩
  · cases h
theorem ss_ret {wh : Wh} {a : Ex} {st : Stmt} (F : Fx S tb Φ) (h : chkS tb wh (.ret a) st = true) : SndS S Φ wh (.ret a) st := by
  intro W X g
  unfold chkS at h
  split at h
  · rename_i e pos
    refine PSimp (ps_ret (sndE F a wh e h W X g.g)) fun D σ H hq => ?_
    obtain ⟨T, G, α, μ, ρ, A, En, q⟩ := hq
    unfold evS at q
    exact ⟨T, G, α, μ, ρ, A, En, q.step En fun d μ1 G1 α1 H1 x s1 p1 A1 r1 q1 => q1 G1 α1 H1 x (Same.refl _) (List.prefix_refl _) A1 r1⟩
  · cases h
theorem ss_retN {wh : Wh} {st : Stmt} (h : chkS tb wh .retN st = true) : SndS S Φ wh .retN st := by
  intro W X g
  unfold chkS at h
  split at h
  · refine PSimp ps_retN fun D σ H hq => ?_
    obtain ⟨T, G, α, μ, ρ, A, En, q⟩ := hq
    unfold evS at q
    exact q G α H .non (Same.refl _) (List.prefix_refl _) A rep_non
  · cases h
theorem ss_brk {wh : Wh} {st : Stmt} (h : chkS tb wh .brk st = true) : SndS S Φ wh .brk st := by
  intro W X g
  unfold chkS at h
  split at h
  · refine PSimp ps_break fun D σ H hq => ?_
    obtain ⟨T, G, α, μ, ρ, A, En, q⟩ := hq
    unfold evS at q
    exact q G α H σ (Same.refl _) (List.prefix_refl _) A En
  · cases h
theorem ss_cnt {wh : Wh} {st : Stmt} (h : chkS tb wh .cnt st = true) : SndS S Φ wh .cnt st := by
  intro W X g
  unfold chkS at h
  split at h
  · refine PSimp ps_continue fun D σ H hq => ?_
    obtain ⟨T, G, α, μ, ρ, A, En, q⟩ := hq
    unfold evS at q
    exact q G α H σ (Same.refl _) (List.prefix_refl _) A En
  · cases h
theorem ss_pass {wh : Wh} {st : Stmt} (h : chkS tb wh .pass st = true) : SndS S Φ wh .pass st := by
  intro W X g
  unfold chkS at h
  split at h
  · refine PSimp ps_pass fun D σ H hq => ?_
    obtain ⟨T, G, α, μ, ρ, A, En, q⟩ := hq
    unfold evS at q
    exact q G α H σ (Same.refl _) (List.prefix_refl _) A En
  · cases h
theorem ss_nev {wh : Wh} {st : Stmt} : SndS S Φ wh .nev st := by
  intro W X g
  refine PSimp ps_never fun D σ H hq => ?_
  obtain ⟨T, G, α, μ, ρ, A, En, q⟩ := hq
  unfold evS at q
  exact q
theorem ss_ifs {wh : Wh} {c : Ts} {a b : Sms} {st : Stmt} (F : Fx S tb Φ) (ha : ∀ e, chkSs tb wh a e = true → SndSs S Φ wh a e) (hb : ∀ e, chkSs tb wh b e = true → SndSs S Φ wh b e) (h : chkS tb wh (.ifs c a b) st = true) : SndS S Φ wh (.ifs c a b) st := by
  intro W X g
  unfold chkS at h
  split at h
  · obtain ⟨h1, h2⟩ := ba2 h
    obtain ⟨h3, h4⟩ := ba2 h1
    refine PSimp (ps_if ((sndT F c wh _ h3).1 W X g.g) (ha _ h4 W X g) (hb _ h2 W X g)) fun D σ H hq => ?_
    obtain ⟨T, G, α, μ, ρ, A, En, q⟩ := hq
    unfold evS at q
    refine ⟨T, G, α, μ, ρ, A, En, q.step (R := REq Bool) En fun d μ1 G1 α1 H1 x s1 p1 A1 r1 q1 => ?_⟩
    cases r1
    cases d with
    | true => exact iteT ⟨T, G1, α1, μ1, ρ, A1, En.mono s1 p1, q1⟩
    | false => exact iteF ⟨T, G1, α1, μ1, ρ, A1, En.mono s1 p1, q1⟩
  · cases h
theorem ss_forr {wh : Wh} {t : Tg} {it : Iw} {b : Sms} {st : Stmt} (F : Fx S tb Φ) (hb : ∀ e, chkSs tb wh b e = true → SndSs S Φ wh b e) (h : chkS tb wh (.forr t it b) st = true) : SndS S Φ wh (.forr t it b) st := by
  intro W X g
  unfold chkS at h
  split at h
  · rename_i tg i x pos
    obtain ⟨h1, h2⟩ := ba2 h
    obtain ⟨h3, h4⟩ := ba2 h1
    refine PSimp (ps_for g.po g.g.calm (sndI F it wh tg i h4 W X g.g) (snG (Φ := Φ) t wh tg h3 X g.g) (hb _ h2 W X g) (chkI_set h4 _)) fun D σ H hq => ?_
    obtain ⟨T, G, α, μ, ρ, A, En, q⟩ := hq
    unfold evS at q
    refine ⟨T, G, α, μ, ρ, A, En, q.step En fun xs μ1 G1 α1 H1 J s1 p1 A1 wk q1 => ?_⟩
    refine ⟨fun i m σ H => m = xs.length - i ∧ i ≤ xs.length ∧ ∃ Gi αi μi ρi, Same G1 Gi ∧ α1 <+: αi ∧ Abs S T Gi H αi μi ∧ EnvR S Gi αi ρi σ ∧ PostS S T Gi αi (forLoop (evG Φ t) (evSs Φ b) (xs.drop i) ρi μi) D W,
      ⟨xs.length, by omega, Nat.zero_le _, G1, α1, μ1, ρ, Same.refl _, List.prefix_refl _, A1, En.mono s1 p1, by rw [List.drop_zero]; exact q1⟩, ?_⟩
    rintro i m σi Hi ⟨rfl, hi, Gi, αi, μi, ρi, sgi, sai, Ai, Ei, qi⟩
    obtain ⟨wk1, wk2⟩ := wk _ Gi αi Hi μi sgi sai Ai
    by_cases hlt : i < xs.length
    · refine .inr ⟨(wk1 i xs[i] (List.getElem?_eq_getElem hlt)).1, fun σ' H' => ∃ Gi αi μi ρi, Same G1 Gi ∧ α1 <+: αi ∧ Abs S T Gi H' αi μi ∧ EnvR S Gi αi ρi σ' ∧ PostS S T Gi αi (forLoop (evG Φ t) (evSs Φ b) (xs.drop (i + 1)) ρi μi) D W,
        fun σ' H' h' => ⟨xs.length - (i + 1), by omega, rfl, hlt, h'⟩, fun x H' y => ?_⟩
      obtain ⟨G2, sg2, A2, r2⟩ := (wk1 i xs[i] (List.getElem?_eq_getElem hlt)).2 x H' y
      rw [List.drop_eq_getElem_cons hlt] at qi
      unfold forLoop at qi
      rcases evG_ok (Φ := Φ) t xs[i] ρi μi with ⟨ρ1, eg⟩ | eg
      · rw [eg] at qi
        simp only at qi
        refine ⟨G2, αi, ρi, xs[i], ρ1, μi, Ei.mono sg2 (List.prefix_refl _), r2, A2.same, eg, fun σ2 E2 _ => ?_⟩
        refine ⟨T, G2, αi, μi, ρ1, A2, E2, ?_⟩
        have qi2 := PostS.mono qi sg2 (List.prefix_refl _)
        cases eb : evSs Φ b ρ1 μi with
        | nx ρ2 μ2 =>
          rw [eb] at qi2
          exact fun G3 α3 H3 σ3 s3 p3 A3 E3 => ⟨G3, α3, μ2, ρ2, sgi.trans (sg2.trans s3), sai.trans p3, A3, E3, PostS.mono qi2 s3 p3⟩
        | ct ρ2 μ2 =>
          rw [eb] at qi2
          exact fun G3 α3 H3 σ3 s3 p3 A3 E3 => ⟨G3, α3, μ2, ρ2, sgi.trans (sg2.trans s3), sai.trans p3, A3, E3, PostS.mono qi2 s3 p3⟩
        | bk ρ2 μ2 => rw [eb] at qi2; exact qi2
        | rt d μ2 => rw [eb] at qi2; exact qi2
        | exn ρ2 c fs μ2 => rw [eb] at qi2; exact qi2
        | bad => rw [eb] at qi2; exact qi2
      · rw [eg] at qi; exact qi.elim
    · have e : i = xs.length := by omega
      subst e
      rw [List.drop_length] at qi
      unfold forLoop at qi
      exact .inl ⟨wk2, qi Gi αi Hi σi (Same.refl _) (List.prefix_refl _) Ai Ei⟩
  · cases h
theorem ss_whl {wh : Wh} {c : Ts} {b : Sms} {st : Stmt} (F : Fx S tb Φ) (hb : ∀ e, chkSs tb wh b e = true → SndSs S Φ wh b e) (h : chkS tb wh (.whl c b) st = true) : SndS S Φ wh (.whl c b) st := by
  intro W X g
  unfold chkS at h
  split at h
  · rename_i t x pos
    obtain ⟨h1, h2⟩ := ba2 h
    refine PSimp (ps_while g.po ((sndT F c wh _ h1).1 W X g.g) (hb _ h2 W X g)) fun D σ H hq => ?_
    obtain ⟨T, G, α, μ, ρ, A, En, q⟩ := hq
    unfold evS at q
    unfold whileL at q
    split at q
    · refine ⟨fun m σ H => ∃ Gi αi μi ρi, Abs S T Gi H αi μi ∧ EnvR S Gi αi ρi σ ∧ PostS S T Gi αi (whileN (evT Φ c) (evSs Φ b) m ρi μi) D W, ⟨_, G, α, μ, ρ, A, En, q⟩, ?_⟩
      rintro m σi Hi ⟨Gi, αi, μi, ρi, Ai, Ei, qi⟩
      cases m with
      | zero => unfold whileN at qi; exact qi.elim
      | succ m =>
        unfold whileN at qi
        refine ⟨T, Gi, αi, μi, ρi, Ai, Ei, ?_⟩
        cases ec : evT Φ c ρi μi with
        | bad => rw [ec] at qi; exact qi
        | exn cx fs m' =>
          rw [ec] at qi
          exact fun G2 α2 H2 a vs s1 s2 A1 hx hf => qi G2 α2 H2 σi a vs s1 s2 A1 (Ei.mono s1 s2) hx hf
        | ok k μ1 =>
          rw [ec] at qi
          intro G1 α1 H1 k' s1 p1 A1 rk
          cases rk
          cases k with
          | false => exact iteF (qi G1 α1 H1 σi s1 p1 A1 (Ei.mono s1 p1))
          | true =>
            refine iteT ⟨fun σ' H' => ∃ Gi αi μi ρi, Abs S T Gi H' αi μi ∧ EnvR S Gi αi ρi σ' ∧ PostS S T Gi αi (whileN (evT Φ c) (evSs Φ b) m ρi μi) D W, fun σ' H' h' => ⟨m, Nat.lt_succ_self m, h'⟩, ?_⟩
            refine ⟨T, G1, α1, μ1, ρi, A1, Ei.mono s1 p1, ?_⟩
            have qi2 := PostS.mono qi s1 p1
            simp only at qi2
            cases eb : evSs Φ b ρi μ1 with
            | nx ρ2 μ2 =>
              rw [eb] at qi2
              exact fun G3 α3 H3 σ3 s3 p3 A3 E3 => ⟨G3, α3, μ2, ρ2, A3, E3, PostS.mono qi2 s3 p3⟩
            | ct ρ2 μ2 =>
              rw [eb] at qi2
              exact fun G3 α3 H3 σ3 s3 p3 A3 E3 => ⟨G3, α3, μ2, ρ2, A3, E3, PostS.mono qi2 s3 p3⟩
            | bk ρ2 μ2 => rw [eb] at qi2; exact qi2
            | rt d μ2 => rw [eb] at qi2; exact qi2
            | exn ρ2 c fs μ2 => rw [eb] at qi2; exact qi2
            | bad => rw [eb] at qi2; exact qi2
    · exact q.elim
  · cases h
theorem ss_app {wh : Wh} {i : Nat} {a : Ex} {st : Stmt} (F : Fx S tb Φ) (h : chkS tb wh (.app i a) st = true) : SndS S Φ wh (.app i a) st := by
  intro W X g
  unfold chkS at h
  split at h
  · rename_i x p m ap e cp pos
    simp only [Bool.and_eq_true, decide_eq_true_eq] at h
    obtain ⟨⟨⟨⟨⟨⟨hN, hv⟩, hd⟩, hm⟩, hl⟩, he⟩, _⟩ := h
    subst hm
    obtain ⟨d1, d2, _⟩ := dunder_no (bn hd)
    have hs := star_cons (env := X.env) (es := []) (chkE_star he)
    have P := pe_bm (X := X) (cpos := cp) (apos := ap) PySem.F.plainAttrs_list PySem.F.slot_list_append PySem.F.type_list_append mt_append (pe_var (i := i) (pos := p) (by rw [g.g.N]; exact hN) (g.g.vis hv) d1 d2) (pa_cons (sndE F a wh e he W X g.g) pa_nil hs) rfl (by rw [hs]; rfl) hl hs rfl
    refine PSimp (ps_expr P (sw_no rfl)) fun D σ H hq => ?_
    obtain ⟨T, G, α, μ, ρ, A, En, q⟩ := hq
    unfold evS at q
    split at q
    · rename_i j hj
      obtain ⟨v, e1, r⟩ := En.2 i _ hj
      have r' := r
      rw [Rep] at r'
      obtain ⟨b, rfl, hb⟩ := r'
      split at q
      case h_2 => exact q.elim
      rename_i ys hy
      have ty : tyV X.K "list" (.ref b) H := by
        obtain ⟨_, _, vs, k1, k2⟩ := A.cell _ _ _ hy hb rfl
        exact .inl ⟨rfl, vs, .of k1⟩
      refine ⟨.ref b, e1, ty, T, G, α, μ, ρ, A, En, q.step En fun d μ1 G1 α1 H1 x s1 p1 A1 r1 q1 => ?_⟩
      split at q1
      · rename_i xs hx
        split at q1
        · rename_i c
          have hb1 := pre_get p1 hb
          obtain ⟨_, _, vs, k1, k2⟩ := A1.cell _ _ _ hx hb1 rfl
          refine ⟨b, vs, x, rfl, rfl, k1, by rw [k2.length]; exact c, ?_⟩
          have A2 := A1.write (mo' := .lst (xs ++ [d])) (o := .lst (vs ++ [x])) hx hb1 rfl ⟨_, upd_same, k2.append (Reps.one r1)⟩
          exact q1 G1 α1 _ σ (Same.refl _) (List.prefix_refl _) A2 (En.mono s1 p1)
        · exact q1.elim
      · exact q1.elim
    · exact q.elim
  · cases h
/-- a list of the memory is left as it is from now on -/
theorem Abs.freeze (A : Abs S T G H α μ) {j : Nat} {xs : List D} {a : Addr} (hx : μ[j]? = some (.lst xs)) (ha : α[j]? = some a) : ∃ G', Abs S T G' H α (μ.set j .dead) ∧ Same G G' ∧ Rep S G' α (.lst xs) (.ref a) := by
  obtain ⟨g1, t1, vs, k1, k2⟩ := A.cell _ _ _ hx ha rfl
  have sg : Same G (upd G a (.lst vs)) := fun b u e => by rw [upd_ne (ne_of_none e g1)]; exact e
  have get : ∀ {i : Nat} {x : MO}, (μ.set j .dead)[i]? = some x → x.live = true → i ≠ j ∧ μ[i]? = some x := fun {i x} e l => by
    by_cases q : i = j
    · subst q
      rw [List.getElem?_set_self (List.getElem?_eq_some_iff.mp hx).1] at e
      cases e; cases l
    · rw [List.getElem?_set_ne (Ne.symm q)] at e
      exact ⟨q, e⟩
  refine ⟨upd G a (.lst vs), ⟨fun b u e => ?_, fun b u e => ?_, by simp [A.len], fun i mo b h hb l => ?_, fun i k mo mo' b h1 h2 l1 l2 b1 b2 => ?_⟩, sg, ?_⟩
  · by_cases q : b = a
    · subst q; rw [upd_same] at e; cases e; exact k1
    · rw [upd_ne q] at e; exact A.same _ _ e
  · obtain ⟨z1, z2⟩ := A.aside b u e
    have q : b ≠ a := ne_of_none e t1
    rw [upd_ne q]; exact ⟨z1, z2⟩
  · obtain ⟨ne, h'⟩ := get h l
    obtain ⟨z1, z2, z3⟩ := A.cell i mo b h' hb l
    have q : b ≠ a := fun z => ne (A.inj i j mo _ a h' hx l rfl (by rw [← z]; exact hb) ha)
    rw [upd_ne q]
    exact ⟨z1, z2, z3.mono sg (List.prefix_refl _) rfl⟩
  · exact A.inj i k mo mo' b (get h1 l1).2 (get h2 l2).2 l1 l2 b1 b2
  · rw [Rep]
    exact ⟨a, vs, rfl, .of upd_same, Reps.mono sg (List.prefix_refl _) _ _ k2⟩
theorem ss_dset {wh : Wh} {d : Ex} {k : String} {a : Ex} {st : Stmt} (F : Fx S tb Φ) (h : chkS tb wh (.dset d k a) st = true) : SndS S Φ wh (.dset d k a) st := by
  intro W X g
  unfold chkS at h
  split at h
  · rename_i x z i1 p1 p2 v pos
    simp only [Bool.and_eq_true, decide_eq_true_eq] at h
    obtain ⟨⟨⟨hx, hz⟩, hv⟩, hl⟩ := h
    subst hz
    have hu := g.g.hu
    refine PSimp (ps_dput (by omega) (sndE F d wh x hx W X g.g) pe_str (sndE F a wh v hv W X g.g) (sw_no (bn hl))) fun D σ H hq => ?_
    obtain ⟨T, G, α, μ, ρ, A, En, q⟩ := hq
    unfold evS at q
    refine ⟨T, G, α, μ, ρ, A, En, q.step En fun d1 μ1 G1 α1 H1 x s1 p1 A1 r1 q1 => ?_⟩
    refine ⟨T, G1, α1, μ1, ρ, A1, En.mono s1 p1, q1.step (En.mono s1 p1) fun d2 μ2 G2 α2 H2 o s2 p2 A2 r2 q2 => ?_⟩
    have r2' : Rep S G2 α2 d2 o := r2
    split at q2
    · rename_i j
      rw [Rep] at r2'
      obtain ⟨b, rfl, hb⟩ := r2'
      split at q2
      · rename_i kvs hk
        split at q2
        · rename_i c
          obtain ⟨_, _, vs, k1, k2⟩ := A2.cell _ _ _ hk hb rfl
          refine ⟨b, upd H2 b (.dK (putK vs (keyS k) x)), rfl, DPut.k (k := keyS k) k1 (by rw [RepK.length k2]; exact c), ?_⟩
          have A3 := A2.write (mo' := .dct (putKD kvs (keyS k) d1)) (o := .dK (putK vs (keyS k) x)) hk hb rfl ⟨_, upd_same, RepK.put (r1.mono s2 p2 _ _) k2⟩
          exact q2 G2 α2 _ σ (Same.refl _) (List.prefix_refl _) A3 ((En.mono s1 p1).mono s2 p2)
        · exact q2.elim
      · exact q2.elim
    · exact q2.elim
  · cases h
mutual
theorem sndS (F : Fx S tb Φ) : ∀ (ir : Sm) (wh : Wh) (st : Stmt), chkS tb wh ir st = true → SndS S Φ wh ir st
  | .asg _ _, _, _, h => ss_asg F h
  | .par2 _ _ _ _, _, _, h => ss_par2 F h
  | .expr _, _, _, h => ss_expr F h
  | .ifs _ a b, wh, _, h => ss_ifs F (sndSs F a wh) (sndSs F b wh) h
  | .forr _ _ b, wh, _, h => ss_forr F (sndSs F b wh) h
  | .whl _ b, wh, _, h => ss_whl F (sndSs F b wh) h
  | .ret _, _, _, h => ss_ret F h
  | .retN, _, _, h => ss_retN h
  | .raise _ _, _, _, h => by unfold chkS at h; cases h
  | .brk, _, _, h => ss_brk h
  | .cnt, _, _, h => ss_cnt h
  | .pass, _, _, h => ss_pass h
  | .nev, _, _, _ => ss_nev
  | .app _ _, _, _, h => ss_app F h
  | .dset _ _ _, _, _, h => ss_dset F h
  | .frz _, _, _, h => by unfold chkS at h; cases h
theorem sndSs (F : Fx S tb Φ) : ∀ (ir : Sms) (wh : Wh) (st : List Stmt), chkSs tb wh ir st = true → SndSs S Φ wh ir st
  | .nil, wh, st, h => by
    intro W X g
    unfold chkSs at h
    split at h
    · refine PSsimp pss_nil fun D σ H hq => ?_
      obtain ⟨T, G, α, μ, ρ, A, En, q⟩ := hq
      unfold evSs at q
      exact q G α H σ (Same.refl _) (List.prefix_refl _) A En
    · cases h
  | .cons a r, wh, st, h => by
    intro W X g
    have key : ∀ s ss, st = s :: ss → chkS tb wh a s = true → chkSs tb wh r ss = true → PSs X st (tSms S Φ W (.cons a r)) := by
      intro s ss e h1 h2
      subst e
      refine PSsimp (pss_cons (sndS F a wh s h1 W X g) (sndSs F r wh ss h2 W X g)) fun D σ H hq => ?_
      obtain ⟨T, G, α, μ, ρ, A, En, q⟩ := hq
      unfold evSs at q
      refine ⟨T, G, α, μ, ρ, A, En, ?_⟩
      cases e : evS Φ a ρ μ with
      | nx ρ1 μ1 =>
        rw [e] at q
        exact fun G1 α1 H1 σ1 s1 p1 A1 E1 => ⟨T, G1, α1, μ1, ρ1, A1, E1, PostS.mono q s1 p1⟩
      | rt _ _ => rw [e] at q; exact q
      | bk _ _ => rw [e] at q; exact q
      | ct _ _ => rw [e] at q; exact q
      | exn _ _ _ _ => rw [e] at q; exact q
      | bad => rw [e] at q; exact q
    cases a with
    | frz i =>
        unfold chkSs at h
        have h' : (decide (i < wh.N.length) && chkSs tb wh r st) = true := h
        obtain ⟨h1, h2⟩ := ba2 h'
        refine PSsimp (sndSs F r wh st h2 W X g) fun D σ H hq => ?_
        obtain ⟨T, G, α, μ, ρ, A, En, q⟩ := hq
        unfold evSs evS at q
        cases hj : ρ[i]? with
        | none => rw [hj] at q; exact q.elim
        | some o =>
          cases o with
          | none => rw [hj] at q; exact q.elim
          | some d =>
            cases d with
            | ref j =>
              rw [hj] at q
              simp only at q
              cases hx : μ[j]? with
              | none => rw [hx] at q; exact q.elim
              | some mo =>
                cases mo with
                | lst xs =>
                  rw [hx] at q
                  simp only at q
                  obtain ⟨v, w1, w2⟩ := En.2 i _ hj
                  rw [Rep] at w2
                  obtain ⟨b, rfl, hb⟩ := w2
                  obtain ⟨G2, A2, sg, rd⟩ := A.freeze hx hb
                  refine ⟨T, G2, α, μ.set j .dead, ρ.set i (some (.lst xs)), A2, ?_, PostS.mono q sg (List.prefix_refl _)⟩
                  have := (En.mono sg (List.prefix_refl _)).set i rd
                  rw [show σ.set i (some (.ref b)) = σ from List.ext_getElem? fun k => by
                    by_cases z : i = k
                    · subst z
                      rw [List.getElem?_set_self (List.getElem?_eq_some_iff.mp w1).1, w1]
                    · rw [List.getElem?_set_ne z]] at this
                  exact this
                | _ => rw [hx] at q; exact q.elim
            | _ => rw [hj] at q; exact q.elim
    | _ =>
      unfold chkSs at h
      cases st with
      | nil => cases h
      | cons s ss => obtain ⟨h1, h2⟩ := ba2 h; exact key s ss rfl h1 h2
end
end
end OB
namespace OB
open PySem PySem.Spec PyProof.Rows L2
section
variable {S : Sys} {tb : Tb} {Φ : Fns}
theorem start_env {G : Hp} {α : List Addr} {ds : List D} {vs : List V} {N : List Str} {ns np : Nat} (h : Reps S G α ds vs) (hn : ns = N.length) (hp : ds.length = np) : EnvR S G α (ds.map some ++ List.replicate (ns - np) none) (L2.start N vs) := by
  have hl := h.length
  unfold L2.start
  refine ⟨by simp [hl, hn, hp], fun i d e => ?_⟩
  by_cases q : i < ds.length
  · rw [List.getElem?_append_left (by simpa using q), List.getElem?_map] at e
    cases e1 : ds[i]? with
    | none => rw [e1] at e; cases e
    | some d' =>
      rw [e1] at e
      have : d' = d := by simpa using e
      subst this
      obtain ⟨v, e2, r⟩ := h.get e1
      refine ⟨v, ?_, r⟩
      rw [List.getElem?_append_left (by simp; omega), List.getElem?_map, e2]; rfl
  · rw [List.getElem?_append_right (by simp; omega), List.getElem?_replicate] at e
    split at e <;> cases e
theorem fin_post {T G G' H' : Hp} {α α' : List Addr} {μ m : Mem} {d : D} {v : V} {Q : VK} {E : XK} (q : Post S T G α (RD S) (fin μ.length d m) Q E) (hl : α.length = μ.length) (sg : Same G G') (sa : α <+: α') (A : Abs S T G' H' α' m) (r : Rep S G' α' d v) : Q v H' := by
  unfold fin at q
  split at q
  · rename_i c
    simp only [Bool.and_eq_true] at c
    obtain ⟨⟨c1, c2⟩, c3⟩ := c
    have ea : α'.take μ.length = α := by
      obtain ⟨t, e⟩ := sa
      rw [← e, ← hl, List.take_left]
    have A' := A.cut μ.length c3
    have r' := Rep.shrink d v r c2
    rw [ea] at A' r'
    exact q G' α H' v sg (List.prefix_refl _) A' r'
  · split at q
    · exact q G' α' H' v sg sa A r
    · exact q.elim
theorem finX_post {T G G' H' : Hp} {α α' : List Addr} {μ m : Mem} {c : Nat} {fs : List (Str × D)} {vs : List (Str × V)} {a : Addr} {Q : VK} {E : XK} (q : Post S T G α (RD S) (finX μ.length c fs m) Q E) (hl : α.length = μ.length) (sg : Same G G') (sa : α <+: α') (A : Abs S T G' H' α' m)
    (hx : H' a = some (.xd vs)) (r : RepF S G' α' fs vs) : E (.ref (S.cls c)) (some a) H' := by
  unfold finX at q
  split at q
  · rename_i c
    simp only [Bool.and_eq_true] at c
    obtain ⟨⟨c1, c2⟩, c3⟩ := c
    have ea : α'.take μ.length = α := by
      obtain ⟨t, e⟩ := sa
      rw [← e, ← hl, List.take_left]
    have A' := A.cut μ.length c3
    have r' := RepF.shrink fs vs r c2
    rw [ea] at A' r'
    exact q G' α H' a vs sg (List.prefix_refl _) A' hx r'
  · exact q.elim
theorem runF_len {f : FD} {ds : List D} {μ : Mem} (h : runF Φ f ds μ ≠ .bad) : ds.length = f.np := by
  unfold runF at h
  split at h
  · assumption
  · exact absurd rfl h
/-- a def of the text does what the evaluator says of the small text -/
theorem fnG_of {x qual : Str} {params : Arguments} {body : List Stmt} {scope : Scope} {f : Addr} {fd : FuncData} {N ps : List Str} {k : Nat} {fdef : FD} (F : FunD S.K x qual params body scope [] [] f fd) (Sc : FnScope N ps scope) (Fs : Fx S tb Φ)
    (hb : chkSs tb ⟨N, scope, true, k⟩ fdef.body body = true) (hn : fdef.ns = N.length) (hp : fdef.np = ps.length) : FnG S (k + 1) f fd ps (spD S (runF Φ fdef)) := by
  obtain ⟨oc, od, dV, kV, doc, pm, an, cdv, ct, osl, e0, lk, hcd, _, _⟩ := F.ex
  subst e0
  have len : ∀ vs H Q E, spD S (runF Φ fdef) vs H Q E → vs.length = ps.length := by
    rintro vs H Q E ⟨T, G, α, μ, ds, A, r, q⟩
    have hl : ds.length = fdef.np := runF_len (μ := μ) fun z => by rw [z] at q; exact q
    rw [r.length, hl, hp]
  refine ⟨len, fun A outer s H args us vs Q E hr hg e0 hbd r hsp => ?_⟩
  have hlen := len _ _ _ _ hsp
  have KX : S.K.In s.heap := e0.mod.kin.keeps fun b o e => (e0.bs b o e).1
  have lim : s.heap.NoLimit := e0.mod.nolimit.keeps fun b o e => (e0.bs b o e).1
  have kinds : ∀ y ∈ ps.zip us, scope.names.lookup y.1 = some .local ∨ (scope.names.lookup y.1 = some .cell ∧ ((cellsFrom (s.heap.objs.size + 1) scope.names []).lookup y.1).isSome = true) := by
    rintro ⟨n, v⟩ hy
    rcases Sc.par n (List.of_mem_zip hy).1 with q | q
    · exact .inl q
    · exact .inr ⟨q, PySem.W.cellsFrom_some _ _ _ (.inl q)⟩
  refine codeAny_call_function hr.depth (KX _ _ lk) rfl Sc.co Sc.gen rfl (PySem.W.codeRec_of KX hcd) (hbd _ _ _ _ ?_)
  refine wpAny_newFunctionEnv_cells Sc.kind kinds fun env he s1 xc => ?_
  subst he
  refine ⟨lim.keeps xc.toInCall.keep, codeAny_func ?_⟩
  have gs : GS S ⟨N, scope, true, k⟩ (fun cls d σ H => E cls d H) (cxOf (CX S.P S.w) S.P S.w S.K S.mg S.base N qual scope f cdv A outer s H E) :=
    ⟨⟨rfl, rfl, rfl, rfl, rfl, rfl, Sc.nd, rfl, Sc.kind, rfl, hr.deeper _, hg, fun _ _ => rfl, takes_of rfl rfl rfl rfl⟩, passes_of rfl⟩
  have I := inv_start (CX := CX S.P S.w) (E := E) Sc hr.hd e0 hlen r xc
  obtain ⟨T, G, α, μ, ds, A0, r0, q0⟩ := hsp
  have hl : ds.length = fdef.np := runF_len (μ := μ) fun z => by rw [z] at q0; exact q0
  have En := start_env (S := S) (N := N) r0 hn hl
  unfold runF at q0
  rw [if_pos hl] at q0
  have run := (sndSs Fs fdef.body _ body hb _ _ gs).run [] s1 (L2.start N vs) H { nx := fun _ H' => Q .non H', rt := Q } I ⟨T, G, α, μ, _, A0, En, (by
    cases e1 : evSs Φ fdef.body (ds.map some ++ List.replicate (fdef.ns - fdef.np) none) μ with
    | nx ρ m => rw [e1] at q0; exact fun G' α' H' σ' sg sa A' _ => fin_post q0 A0.len sg sa A' rep_non
    | rt d m => rw [e1] at q0; exact fun G' α' H' v sg sa A' rv => fin_post q0 A0.len sg sa A' rv
    | exn ρ c fs m => rw [e1] at q0; exact fun G' α' H' σ' a vs sg sa A' _ hx hf => finX_post q0 A0.len sg sa A' hx hf
    | bk _ _ => rw [e1] at q0; exact q0.elim
    | ct _ _ => rw [e1] at q0; exact q0.elim
    | bad => rw [e1] at q0; exact q0.elim)⟩
  refine wpAny_mono run (fun fl s' hs => ?_) fun e s' hs => hs
  cases fl with
  | next => obtain ⟨σ', H', J, q⟩ := hs; exact ⟨V.non, H', J.os, J.bare, J.base, J.hok, rfl, q⟩
  | ret u => obtain ⟨v, σ', H', J, rv, q⟩ := hs; exact ⟨v, H', J.os, J.bare, J.base, J.hok, rv, q⟩
  | brk => obtain ⟨_, _, _, q⟩ := hs; exact q.elim
  | cont => obtain ⟨_, _, _, q⟩ := hs; exact q.elim
end
end OB
namespace OB
open PySem PySem.Spec PyProof.Rows L2
section
variable {S : Sys}
/-- what is wanted of the law's def: at every script it gives True -/
def lawSp (S : Sys) (F : List D → Mem → Res D) (n : Nat) : Prop := ∀ ns : List Int, ns.length ≤ n → ∃ m, F [.lst (ns.map D.int)] [] = .ok (.bl true) m
theorem ints_reps {G : Hp} {α : List Addr} : ∀ ns : List Int, Reps S G α (ns.map D.int) (ns.map V.int)
  | [] => Reps.nil
  | n :: ns => Reps.cons (by rw [Rep]) (ints_reps ns)
theorem law_run {mb : Str → Option Value} {k : Nat} {fa a : Addr} {fd : FuncData} {x : Str} {F : List D → Mem → Res D} {s₁ : Shared} {vs : List Value} {ns : List Int} {n : Nat}
    (KX : S.K.In s₁.heap) (hns : s₁.heap.Ns mainGlobals S.mg) (hb : s₁.heap.Ns builtinsNs mb) (hbb : ∀ x : Str, x ≠ "__name__" → mb x = bootBuiltins x) (hlim : s₁.heap.NoLimit) (hg : s₁.gens = #[])
    (ha : s₁.heap.get? a = some { cls := .type "list", data := .seq vs.toArray }) (hi : IntsAre vs ns) (hn : ns.length ≤ n) (hl : ns.length ≤ sizeLine) (hr : Room k callerA)
    (Fn : ∀ base : Heap, S.K.In base → base.Ns mainGlobals S.mg → FnG { S with base := base } k fa fd [x] (spD { S with base := base } F)) (hbind : ∀ (s : Shared) (u : Value), BindsTo s fd ⟨[u], []⟩ [(x, u)]) (law : lawSp S F n) :
    codeAny (model S.P S.w) callerA (.call (.ref fa) ⟨[.ref a], []⟩) (fun r s' => r = .ok (.ret (.bool true)) ∧ OldK s₁.heap s'.heap ∧ s'.os = s₁.os ∧ AllBare s'.gens) s₁ := by
  have rv := vals_ints hi
  have lenV := hi.length
  let ob : Obj := { cls := .type "list", data := .seq vs.toArray }
  obtain ⟨m, hF⟩ := law ns hn
  suffices core : ∀ H : Hp, (∀ b u, H b = some u → b = a ∧ u = .frz ob (.lst (ns.map V.int)) ∧ S.K.lookup a = none) → SqL S.K H a (ns.map V.int) → codeAny (model S.P S.w) callerA (.call (.ref fa) ⟨[.ref a], []⟩)
      (fun r s' => r = .ok (.ret (.bool true)) ∧ OldK s₁.heap s'.heap ∧ s'.os = s₁.os ∧ AllBare s'.gens) s₁ by
    cases hk : S.K.lookup a with
    | some o =>
      have e := KX a o hk
      rw [ha] at e
      cases e
      exact core (fun _ => none) (fun b u z => by cases z) (.inr ⟨_, vs.toArray, _, hk, rfl, rfl, rfl, by rw [List.size_toArray, lenV]; exact hl, by simpa using rv⟩)
    | none =>
      refine core (fun b => if b = a then some (.frz ob (.lst (ns.map V.int))) else none) (fun b u z => ?_) (.inl (.inr ⟨ob, if_pos rfl⟩))
      by_cases q : b = a
      · rw [if_pos q] at z; cases z; exact ⟨q, rfl, hk⟩
      · rw [if_neg q] at z; cases z
  intro H hO hS
  have hok : HOk S.P S.w H s₁.heap := fun b u z => by
    obtain ⟨rfl, rfl, _⟩ := hO b u z
    exact ⟨ha, by rw [List.length_map]; exact hl, vs, _, rv, ha⟩
  have free : ∀ {b : Addr} {o : Obj}, s₁.heap.get? b = some o → (∀ es ep, o.data = .dict es ep → True) → (H b = none ∨ o = ob) := fun {b o} e _ => by
    cases q : H b with
    | none => exact .inl rfl
    | some u => obtain ⟨rfl, _, _⟩ := hO b u q; rw [ha] at e; cases e; exact .inr rfl
  have keepNs : ∀ {b : Addr} {m : Str → Option Value}, s₁.heap.Ns b m → (hidT s₁.heap H).Ns b m := fun {b m} ⟨o, es, ep, e, d, r⟩ => by
    rcases free e (fun _ _ _ => trivial) with z | z
    · exact ⟨o, es, ep, hidT_get e z, d, r⟩
    · rw [z] at d
      have d' : Data.seq vs.toArray _ = Data.dict es ep := d
      cases d'
  have hKb : S.K.In (hidT s₁.heap H) := fun b o e => hidT_get (KX b o e) (by
    cases q : H b with
    | none => rfl
    | some u => obtain ⟨rfl, _, z⟩ := hO b u q; rw [z] at e; cases e)
  have hM : Mod S.K S.mg (hidT s₁.heap H) := ⟨hKb, keepNs hns, ⟨mb, keepNs hb, hbb⟩, let ⟨mc, h1, h2⟩ := hlim; ⟨mc, keepNs h1, h2⟩⟩
  have no : ∀ b : Addr, b ∉ ([] : List Addr) := fun b z => by cases z
  have e0 : Env0 S.P S.w S.K S.mg (hidT s₁.heap H) callerA [] s₁ H := ⟨rfl, hM, fun b o e => of_hidT e, Nat.le_of_eq (hidT_size _ _), trivial, fun b hb => absurd hb (no b), hok, .of_eq hg⟩
  have A0 : Abs { S with base := hidT s₁.heap H } (fun _ => none) H H [] [] := ⟨Same.refl _, (fun _ _ z => by cases z), rfl, (fun i mo a h => by simp at h), (fun i j mo mo' a h => by simp at h)⟩
  have R0 : Reps { S with base := hidT s₁.heap H } H [] [.lst (ns.map D.int)] [.ref a] := Reps.one (by rw [Rep]; exact ⟨a, ns.map V.int, rfl, hS, ints_reps ns⟩)
  have run := (Fn _ hKb (keepNs hns)).run callerA [] s₁ H ⟨[.ref a], []⟩ [.ref a] [.ref a] (fun v _ => v = .bl true) (fun _ _ _ => False) hr rfl e0 (hbind s₁ (.ref a)) (.cons rfl .nil)
    ⟨_, H, [], [], _, A0, R0, by rw [hF]; exact fun G' α' H' v _ _ _ r => by have r' : Rep _ G' α' (.bl true) v := r; rw [Rep] at r'; exact r'⟩
  refine codeAny_mono run fun r s' h => ?_
  cases r with
  | error e =>
    obtain ⟨x1, x2, x3, x4, x5, x6, x7, x8, x9⟩ := h
    simp_all
  | ok fl =>
    cases fl with
    | next => exact False.elim h
    | brk => exact False.elim h
    | cont => exact False.elim h
    | ret u =>
      obtain ⟨v, H', os, bare, un, hok', r', q⟩ := h
      have q' : v = .bl true := q
      subst q'
      obtain rfl : u = Value.bool true := r'
      refine ⟨rfl, OldK.of_keep fun b o e => ?_, os, bare⟩
      cases q : H b with
      | none => exact un.keep b o e q (no b) (no b)
      | some u =>
        obtain ⟨rfl, rfl, _⟩ := hO b u q
        obtain ⟨e2, _⟩ := hok' b _ (un.frzs b ob _ q)
        rw [ha] at e; cases e
        exact e2
end
/-- a law of the head's kind, by what the evaluator says -/
theorem walkG {l : PySem.W.OpenLaw} {n k : Nat} {q : Program} {loose : List Str} {XP : (Str → Option Value) → Heap → Prop} {YP : World → Heap → Prop} {d : DefRec} {x : Str}
    (hn : l.most = some n) (hn2 : n ≤ sizeLine) (hdf : d.params.defaults = []) (hr : Room k callerA)
    (F : ∀ (w : World) (mg : Str → Option Value) (fa : Addr) (h : Heap), YP w h → h.Ns mainGlobals mg → mg d.name = some (.ref fa) →
      ∃ (K : PySem.W.Frag) (fd : FuncData) (sp : List D → Mem → Res D) (cls fna : Nat → Addr), K.In h ∧ (∀ (s : Shared) (u : Value), BindsTo s fd ⟨[u], []⟩ [(x, u)]) ∧ lawSp ⟨l.prog, w, K, mg, h, cls, fna⟩ sp n ∧
        ∀ base : Heap, K.In base → base.Ns mainGlobals mg → FnG ⟨l.prog, w, K, mg, base, cls, fna⟩ k fa fd [x] (spD ⟨l.prog, w, K, mg, base, cls, fna⟩ sp)) :
    PySem.W.WalkO q loose XP YP l.row.toRowW d [] (fun f vs => PySem.call f vs) := by
  refine Att.attach_call hn hdf fun w s₀ s₁ mg mb fa o pm cd doc a vs ns G Y ho hd hcd hmg hobj hints hlen hg => ?_
  obtain ⟨K, fd, sp, cls, fna, KX, hb, hsp, hF⟩ := F w mg fa _ Y G.T.g hmg
  exact law_run (S := ⟨l.prog, w, K, mg, s₁.heap, cls, fna⟩) KX G.T.g G.T.b G.T.builtins G.T.nolimit hg hobj hints hlen (Nat.le_trans hlen hn2) hr hF hb hsp
end OB
namespace OB
open PySem PySem.Spec PyProof.Rows L2
/-! ## the defs of a text, the last one first -/
noncomputable def phi : List FD → Fns
  | [] => fun _ _ _ => .bad
  | f :: L => fun i => if i = L.length then runF (phi L) f else phi L i
theorem phi_top {f : FD} {L : List FD} {i : Nat} (h : i = L.length) : phi (f :: L) i = runF (phi L) f := if_pos h
theorem phi_pop {f : FD} {L : List FD} {i : Nat} (h : i ≠ L.length) : phi (f :: L) i = phi L i := if_neg h
section
variable {S : Sys}
theorem Fx.nil {gi : List (Str × Int)} {fv cl : List Str} (h1 : ∀ p ∈ gi, ∃ t, S.mg p.1 = some (.int p.2 t)) (h2 : ∀ x ∈ fv, S.mg x = none) : Fx S ⟨[], gi, fv, cl⟩ (phi []) :=
  ⟨fun i x k h => (by simp at h), h1, h2⟩
theorem Fx.more {L : List FD} {t : List (Str × Nat)} {gi : List (Str × Int)} {fv cl : List Str} (F : Fx S ⟨t, gi, fv, cl⟩ (phi L)) (hl : t.length = L.length) {f : FD} {fd : FuncData} {ps : List Str} {x : Str} {k : Nat} {a : Addr} (ha : S.fna L.length = a)
    (m1 : S.mg x = some (.ref a)) (kp : PySem.W.keepIn S.K (.ref a) = true) (G : FnG S k a fd ps (spD S (runF (phi L) f))) (b : Binds S.K fd ps []) : Fx S ⟨t ++ [(x, k)], gi, fv, cl⟩ (phi (f :: L)) := by
  refine ⟨fun i y j h => ?_, F.gi, F.fv⟩
  by_cases q : i < t.length
  · rw [List.getElem?_append_left q] at h
    rw [phi_pop (by omega)]
    exact F.fns i y j h
  · have hi := (List.getElem?_eq_some_iff.mp h).1
    rw [List.length_append] at hi
    have e : i = t.length := by simp at hi; omega
    subst e
    rw [List.getElem?_append_right (Nat.le_refl _)] at h
    simp at h
    obtain ⟨rfl, rfl⟩ := h
    rw [phi_top hl, hl, ha]
    exact ⟨fd, ps, m1, kp, G, b⟩
end

/-! ## what is asked before, by the evaluator -/
inductive Res.wp {A : Type} : Res A → (A → Mem → Prop) → (Nat → List (Str × D) → Mem → Prop) → Prop
  | ok {a : A} {m : Mem} {Q : A → Mem → Prop} {E : Nat → List (Str × D) → Mem → Prop} (h : Q a m) : Res.wp (.ok a m) Q E
  | exn {c : Nat} {fs : List (Str × D)} {m : Mem} {Q : A → Mem → Prop} {E : Nat → List (Str × D) → Mem → Prop} (h : E c fs m) : Res.wp (.exn c fs m) Q E
structure Ks where
  nx : Env' → Mem → Prop
  rt : D → Mem → Prop
  bk : Env' → Mem → Prop
  ct : Env' → Mem → Prop
  ex : Env' → Nat → List (Str × D) → Mem → Prop
abbrev Ks.to (K : Ks) (f : Env' → Mem → Prop) : Ks := { K with nx := f }
inductive SR.wp : SR → Ks → Prop
  | nx {ρ : Env'} {m : Mem} {K : Ks} (h : K.nx ρ m) : SR.wp (.nx ρ m) K
  | rt {d : D} {m : Mem} {K : Ks} (h : K.rt d m) : SR.wp (.rt d m) K
  | bk {ρ : Env'} {m : Mem} {K : Ks} (h : K.bk ρ m) : SR.wp (.bk ρ m) K
  | ct {ρ : Env'} {m : Mem} {K : Ks} (h : K.ct ρ m) : SR.wp (.ct ρ m) K
  | exn {ρ : Env'} {c : Nat} {fs : List (Str × D)} {m : Mem} {K : Ks} (h : K.ex ρ c fs m) : SR.wp (.exn ρ c fs m) K
abbrev EX := Nat → List (Str × D) → Mem → Prop
section
variable {A B : Type} {E : EX}
theorem wp_ok {a : A} {m : Mem} {Q : A → Mem → Prop} : (Res.ok a m).wp Q E ↔ Q a m := ⟨fun h => by cases h; assumption, .ok⟩
theorem wp_exn {c : Nat} {fs : List (Str × D)} {m : Mem} {Q : A → Mem → Prop} : (Res.exn c fs m : Res A).wp Q E ↔ E c fs m := ⟨fun h => by cases h; assumption, .exn⟩
theorem wp_bad {Q : A → Mem → Prop} : (Res.bad : Res A).wp Q E ↔ False := ⟨fun h => (by cases h), False.elim⟩
theorem sp_nx {ρ : Env'} {m : Mem} {K : Ks} : (SR.nx ρ m).wp K ↔ K.nx ρ m := ⟨fun h => by cases h; assumption, .nx⟩
theorem sp_rt {d : D} {m : Mem} {K : Ks} : (SR.rt d m).wp K ↔ K.rt d m := ⟨fun h => by cases h; assumption, .rt⟩
theorem sp_bk {ρ : Env'} {m : Mem} {K : Ks} : (SR.bk ρ m).wp K ↔ K.bk ρ m := ⟨fun h => by cases h; assumption, .bk⟩
theorem sp_ct {ρ : Env'} {m : Mem} {K : Ks} : (SR.ct ρ m).wp K ↔ K.ct ρ m := ⟨fun h => by cases h; assumption, .ct⟩
theorem sp_exn {ρ : Env'} {c : Nat} {fs : List (Str × D)} {m : Mem} {K : Ks} : (SR.exn ρ c fs m).wp K ↔ K.ex ρ c fs m := ⟨fun h => by cases h; assumption, .exn⟩
theorem sp_bad {K : Ks} : SR.bad.wp K ↔ False := ⟨fun h => (by cases h), False.elim⟩
theorem wp_bind {r : Res A} {f : A → Mem → Res B} {Q : B → Mem → Prop} : (r.bind f).wp Q E ↔ r.wp (fun a m => (f a m).wp Q E) E := by
  cases r with
  | ok a m => rw [wp_ok]; exact Iff.rfl
  | exn c fs m => rw [wp_exn]; exact wp_exn
  | bad => rw [wp_bad]; exact wp_bad
theorem wp_lift {o : Option A} {m : Mem} {Q : A → Mem → Prop} : (lift o m).wp Q E ↔ ∃ a, o = some a ∧ Q a m := by
  cases o with
  | none => exact ⟨fun h => (wp_bad.mp h).elim, fun ⟨_, h, _⟩ => by cases h⟩
  | some a => exact ⟨fun h => ⟨a, rfl, wp_ok.mp h⟩, fun ⟨_, h, q⟩ => by cases h; exact .ok q⟩
theorem wp_ite {c : Prop} [Decidable c] {a b : Res A} {Q : A → Mem → Prop} : (if c then a else b).wp Q E ↔ if c then a.wp Q E else b.wp Q E := by
  split <;> exact Iff.rfl
theorem ifT {c : Bool} {P Q : Prop} (h : c = true) (p : P) : if c = true then P else Q := by rw [if_pos h]; exact p
theorem ifF {c : Bool} {P Q : Prop} (h : c = false) (p : Q) : if c = true then P else Q := by rw [h]; exact p
theorem wp_mono {r : Res A} {Q Q' : A → Mem → Prop} {E' : EX} (h : r.wp Q E) (h1 : ∀ a m, Q a m → Q' a m) (h2 : ∀ c fs m, E c fs m → E' c fs m) : r.wp Q' E' := by
  cases h with
  | ok h => exact .ok (h1 _ _ h)
  | exn h => exact .exn (h2 _ _ _ h)
end
section
variable {Φ : Fns} {ρ : Env'} {μ : Mem} {E : EX} {Q : D → Mem → Prop}
theorem w_var {i : Nat} : (evE Φ (.var i) ρ μ).wp Q E ↔ ∃ d, ρ[i]? = some (some d) ∧ Q d μ := by
  unfold evE
  cases h : ρ[i]? with
  | none => simp [wp_bad]
  | some o => cases o with
    | none => simp [wp_bad]
    | some d => simp [wp_ok]
theorem w_int {i : Int} : (evE Φ (.int i) ρ μ).wp Q E ↔ Q (.int i) μ := by unfold evE; exact wp_ok
theorem w_bl {i : Bool} : (evE Φ (.bl i) ρ μ).wp Q E ↔ Q (.bl i) μ := by unfold evE; exact wp_ok
theorem w_non : (evE Φ .non ρ μ).wp Q E ↔ Q .non μ := by unfold evE; exact wp_ok
theorem w_str {s : String} : (evE Φ (.str s) ρ μ).wp Q E ↔ Q (.str (Str.ofString s)) μ := by unfold evE; exact wp_ok
theorem w_glob {s : String} {i : Int} : (evE Φ (.glob s i) ρ μ).wp Q E ↔ Q (.int i) μ := by unfold evE; exact wp_ok
theorem w_bin {op : Operator} {a b : Ex} : (evE Φ (.bin op a b) ρ μ).wp Q E ↔ (evE Φ a ρ μ).wp (fun x μ1 => (evE Φ b ρ μ1).wp (fun y μ2 => ∃ d, binD op x y = some d ∧ Q d μ2) E) E := by
  conv => lhs; unfold evE
  simp only [wp_bind, wp_lift]
theorem w_neg {a : Ex} : (evE Φ (.neg a) ρ μ).wp Q E ↔ (evE Φ a ρ μ).wp (fun x μ1 => ∃ i, x = .int i ∧ Q (.int (-i)) μ1) E := by
  conv => lhs; unfold evE
  simp only [wp_bind, wp_lift]
  refine iff_of_eq (congrArg (fun q => Res.wp _ q E) (funext fun x => funext fun m => propext ?_))
  cases x <;> simp [intOf?]
theorem w_cmp {op : CmpOp} {a b : Ex} : (evE Φ (.cmp op a b) ρ μ).wp Q E ↔ (evE Φ a ρ μ).wp (fun x μ1 => (evE Φ b ρ μ1).wp (fun y μ2 => ∃ t, cmpD op x y = some t ∧ Q (.bl t) μ2) E) E := by
  conv => lhs; unfold evE
  simp only [wp_bind, wp_lift]
  refine iff_of_eq (congrArg (fun q => Res.wp _ q E) (funext fun x => funext fun m => congrArg (fun q => Res.wp _ q E) (funext fun y => funext fun m => propext ?_)))
  cases cmpD op x y <;> simp
theorem w_chain {o1 o2 : CmpOp} {a b c : Ex} : (evE Φ (.chain o1 o2 a b c) ρ μ).wp Q E ↔ (evE Φ a ρ μ).wp (fun x μ1 => (evE Φ b ρ μ1).wp (fun y μ2 => ∃ t, cmpD o1 x y = some t ∧
    if t = true then (evE Φ c ρ μ2).wp (fun z μ3 => ∃ u, cmpD o2 y z = some u ∧ Q (.bl u) μ3) E else Q (.bl false) μ2) E) E := by
  conv => lhs; unfold evE
  simp only [wp_bind]
  refine iff_of_eq (congrArg (fun q => Res.wp _ q E) (funext fun x => funext fun m => congrArg (fun q => Res.wp _ q E) (funext fun y => funext fun m => propext ?_)))
  cases cmpD o1 x y with
  | none => simp [wp_ok, wp_exn, wp_bad]
  | some t =>
    cases t with
    | false => simp [wp_ok, wp_exn, wp_bad]
    | true =>
      simp only [wp_bind, wp_lift, Option.some.injEq, exists_eq_left', if_true]
      refine iff_of_eq (congrArg (fun q => Res.wp _ q E) (funext fun x => funext fun m => propext ?_))
      cases cmpD o2 y x <;> simp
theorem w_and {a b : Ex} : (evE Φ (.and a b) ρ μ).wp Q E ↔ (evE Φ a ρ μ).wp (fun x μ1 => ∃ t, x = .bl t ∧ if t = true then (evE Φ b ρ μ1).wp Q E else Q (.bl false) μ1) E := by
  conv => lhs; unfold evE
  simp only [wp_bind]
  refine iff_of_eq (congrArg (fun q => Res.wp _ q E) (funext fun x => funext fun m => propext ?_))
  cases x with
  | bl t => cases t <;> simp [wp_ok, wp_exn, wp_bad]
  | _ => simp [wp_ok, wp_exn, wp_bad]
theorem w_or {a b : Ex} : (evE Φ (.or a b) ρ μ).wp Q E ↔ (evE Φ a ρ μ).wp (fun x μ1 => ∃ t, x = .bl t ∧ if t = true then Q (.bl true) μ1 else (evE Φ b ρ μ1).wp Q E) E := by
  conv => lhs; unfold evE
  simp only [wp_bind]
  refine iff_of_eq (congrArg (fun q => Res.wp _ q E) (funext fun x => funext fun m => propext ?_))
  cases x with
  | bl t => cases t <;> simp [wp_ok, wp_exn, wp_bad]
  | _ => simp [wp_ok, wp_exn, wp_bad]
theorem w_not {a : Ex} : (evE Φ (.not a) ρ μ).wp Q E ↔ (evE Φ a ρ μ).wp (fun x μ1 => ∃ t, x = .bl t ∧ Q (.bl (!t)) μ1) E := by
  conv => lhs; unfold evE
  simp only [wp_bind, wp_lift]
  refine iff_of_eq (congrArg (fun q => Res.wp _ q E) (funext fun x => funext fun m => propext ?_))
  cases x <;> simp [blOf?]
theorem w_ite {t : Ts} {a b : Ex} : (evE Φ (.ite t a b) ρ μ).wp Q E ↔ (evT Φ t ρ μ).wp (fun c μ1 => if c = true then (evE Φ a ρ μ1).wp Q E else (evE Φ b ρ μ1).wp Q E) E := by
  conv => lhs; unfold evE
  simp only [wp_bind, wp_ite]
theorem w_tup {es : Exs} : (evE Φ (.tup es) ρ μ).wp Q E ↔ (evEs Φ es ρ μ).wp (fun xs μ1 => xs.length ≤ sizeLine ∧ Q (.tup xs) μ1) E := by
  conv => lhs; unfold evE
  simp only [wp_bind]
  refine iff_of_eq (congrArg (fun q => Res.wp _ q E) (funext fun x => funext fun m => propext ?_))
  split <;> simp [wp_ok, wp_exn, wp_bad, *]
theorem w_lst {es : Exs} : (evE Φ (.lst es) ρ μ).wp Q E ↔ (evEs Φ es ρ μ).wp (fun xs μ1 => xs.length ≤ sizeLine ∧ Q (.lst xs) μ1) E := by
  conv => lhs; unfold evE
  simp only [wp_bind]
  refine iff_of_eq (congrArg (fun q => Res.wp _ q E) (funext fun x => funext fun m => propext ?_))
  split <;> simp [wp_ok, wp_exn, wp_bad, *]
theorem w_newl {es : Exs} : (evE Φ (.newl es) ρ μ).wp Q E ↔ (evEs Φ es ρ μ).wp (fun xs μ1 => xs.length ≤ sizeLine ∧ Q (.ref μ1.length) (μ1 ++ [.lst xs])) E := by
  conv => lhs; unfold evE
  simp only [wp_bind]
  refine iff_of_eq (congrArg (fun q => Res.wp _ q E) (funext fun x => funext fun m => propext ?_))
  split <;> simp [wp_ok, wp_exn, wp_bad, *]
theorem w_idx {a i : Ex} : (evE Φ (.idx a i) ρ μ).wp Q E ↔ (evE Φ a ρ μ).wp (fun x μ1 => (evE Φ i ρ μ1).wp (fun y μ2 => ∃ d, idxD x y = some d ∧ Q d μ2) E) E := by
  conv => lhs; unfold evE
  simp only [wp_bind, wp_lift]
theorem w_slc {a : Ex} {lo hi : Oe} : (evE Φ (.slc a lo hi) ρ μ).wp Q E ↔ (evE Φ a ρ μ).wp (fun x μ1 => (evO Φ lo ρ μ1).wp (fun l μ2 => (evO Φ hi ρ μ2).wp (fun h μ3 => ∃ d, slcD x l h = some d ∧ Q d μ3) E) E) E := by
  conv => lhs; unfold evE
  simp only [wp_bind, wp_lift]
/-- what a call asks -/
def Called (Φ : Fns) (f k : Nat) (xs : List D) (μ1 : Mem) (Q : D → Mem → Prop) (E : EX) : Prop := (decide (k ≤ μ1.length) && D.lts k xs && Mem.lt k (μ1.take k)) = true ∧
  (Φ f xs (μ1.take k)).wp (fun d μ2 => if μ2.length = k then Q d (μ2 ++ μ1.drop k) else k = μ1.length ∧ Q d μ2) (fun c fs μ2 => μ2.length = k ∧ E c fs (μ2 ++ μ1.drop k))
theorem w_call {f k : Nat} {es : Exs} : (evE Φ (.call f k es) ρ μ).wp Q E ↔ (evEs Φ es ρ μ).wp (fun xs μ1 => Called Φ f k xs μ1 Q E) E := by
  conv => lhs; unfold evE
  simp only [wp_bind]
  unfold Called
  refine iff_of_eq (congrArg (fun q => Res.wp _ q E) (funext fun x => funext fun m => propext ?_))
  split
  · rename_i h
    simp only [h, true_and]
    cases Φ f x (m.take k) with
    | ok d μ2 =>
      simp only [wp_ok]
      split
      · exact wp_ok
      · split
        · rename_i h; subst h; simp [wp_ok]
        · rename_i h; simp [wp_bad, h]
    | exn c fs μ2 => simp only; split <;> simp [wp_ok, wp_exn, wp_bad, *]
    | bad => simp [wp_bad]
  · rename_i h; simp [wp_ok, wp_exn, wp_bad, h]
theorem w_blt {f : Blt} {es : Exs} : (evE Φ (.blt f es) ρ μ).wp Q E ↔ (evEs Φ es ρ μ).wp (fun xs μ1 => ∃ d, bltD μ1 f xs = some d ∧ Q d μ1) E := by
  conv => lhs; unfold evE
  simp only [wp_bind, wp_lift]
theorem w_isi {a : Ex} {tys : List String} {one : Bool} : (evE Φ (.isi a tys one) ρ μ).wp Q E ↔ (evE Φ a ρ μ).wp (fun x μ1 => ∃ t, tyD x = some t ∧ Q (.bl (tys.any (isiD t))) μ1) E := by
  conv => lhs; unfold evE
  simp only [wp_bind, wp_lift]
  refine iff_of_eq (congrArg (fun q => Res.wp _ q E) (funext fun x => funext fun m => propext ?_))
  cases tyD x <;> simp
theorem w_lc {elt : Ex} {own : List Nat} {tg : Tg} {it : Iw} {ifs : Tss} : (evE Φ (.lc elt own tg it ifs) ρ μ).wp Q E ↔ (evI Φ it ρ μ).wp (fun xs μ1 => (lcLoop (evG Φ tg) (evC Φ ifs) (evE Φ elt) (wipeD ρ own) xs [] μ1).wp (fun ds μ2 => Q (.lst ds) μ2) (fun _ _ _ => False)) E := by
  conv => lhs; unfold evE
  simp only [wp_bind]
  refine iff_of_eq (congrArg (fun q => Res.wp _ q E) (funext fun x => funext fun m => propext ?_))
  cases lcLoop (evG Φ tg) (evC Φ ifs) (evE Φ elt) (wipeD ρ own) x [] m <;> simp [wp_ok, wp_exn, wp_bad]
theorem w_dget {d : Ex} {k : String} : (evE Φ (.dget d k) ρ μ).wp Q E ↔ (evE Φ d ρ μ).wp (fun x μ1 => ∃ i kvs v, x = .ref i ∧ μ1[i]? = some (.dct kvs) ∧ valD kvs (keyS k) = some v ∧ Q v μ1) E := by
  conv => lhs; unfold evE
  simp only [wp_bind]
  refine iff_of_eq (congrArg (fun q => Res.wp _ q E) (funext fun x => funext fun m => propext ?_))
  cases x with
  | ref i =>
    simp only
    cases h : m[i]? with
    | none => simp [wp_ok, wp_exn, wp_bad, h]
    | some mo => cases mo with
      | dct kvs =>
        simp only [wp_lift]
        constructor
        · rintro ⟨v, h1, h2⟩; exact ⟨i, kvs, v, rfl, h, h1, h2⟩
        · rintro ⟨i', kvs', v, e1, e2, h1, h2⟩
          cases e1
          rw [h] at e2; cases e2
          exact ⟨v, h1, h2⟩
      | _ => simp [wp_ok, wp_exn, wp_bad, h]
  | _ => simp [wp_ok, wp_exn, wp_bad]
theorem w_disp {kvs : Kvs} : (evE Φ (.disp kvs) ρ μ).wp Q E ↔ (evK Φ kvs ρ (μ ++ [.dct []])).wp (fun ps μ1 => μ1[μ.length]? = some (.dct []) ∧ ps.length ≤ 15 ∧ Q (.ref μ.length) (μ1.set μ.length (.dct (ps.foldl (fun m kv => putKD m kv.1 kv.2) [])))) E := by
  conv => lhs; unfold evE
  simp only [wp_bind]
  refine iff_of_eq (congrArg (fun q => Res.wp _ q E) (funext fun x => funext fun m => propext ?_))
  split
  · rename_i h
    split <;> simp [wp_ok, wp_exn, wp_bad, *]
  · rename_i h
    constructor
    · intro z; exact (wp_bad.mp z).elim
    · rintro ⟨z, _⟩; exact (h z).elim
end
section
variable {Φ : Fns} {ρ : Env'} {μ : Mem} {E : EX}
theorem w_esn {Q : List D → Mem → Prop} : (evEs Φ .nil ρ μ).wp Q E ↔ Q [] μ := by unfold evEs; exact wp_ok
theorem w_esc {e : Ex} {r : Exs} {Q : List D → Mem → Prop} : (evEs Φ (.cons e r) ρ μ).wp Q E ↔ (evE Φ e ρ μ).wp (fun x μ1 => (evEs Φ r ρ μ1).wp (fun xs μ2 => Q (x :: xs) μ2) E) E := by
  conv => lhs; unfold evEs
  simp only [wp_bind, wp_ok]
theorem w_tval {e : Ex} {Q : Bool → Mem → Prop} : (evT Φ (.val e) ρ μ).wp Q E ↔ (evE Φ e ρ μ).wp (fun x μ1 => ∃ b, truD μ1 x = some b ∧ Q b μ1) E := by
  conv => lhs; unfold evT
  simp only [wp_bind, wp_lift]
theorem w_tnot {t : Ts} {Q : Bool → Mem → Prop} : (evT Φ (.not t) ρ μ).wp Q E ↔ (evT Φ t ρ μ).wp (fun b μ1 => Q (!b) μ1) E := by
  conv => lhs; unfold evT
  simp only [wp_bind, wp_ok]
theorem w_tand {a b : Ts} {Q : Bool → Mem → Prop} : (evT Φ (.and a b) ρ μ).wp Q E ↔ (evT Φ a ρ μ).wp (fun c μ1 => if c = true then (evT Φ b ρ μ1).wp Q E else Q false μ1) E := by
  conv => lhs; unfold evT
  simp only [wp_bind, wp_ite, wp_ok]
theorem w_tor {a b : Ts} {Q : Bool → Mem → Prop} : (evT Φ (.or a b) ρ μ).wp Q E ↔ (evT Φ a ρ μ).wp (fun c μ1 => if c = true then Q true μ1 else (evT Φ b ρ μ1).wp Q E) E := by
  conv => lhs; unfold evT
  simp only [wp_bind, wp_ite, wp_ok]
theorem w_cn {Q : Bool → Mem → Prop} : (evC Φ .nil ρ μ).wp Q E ↔ Q true μ := by unfold evC; exact wp_ok
theorem w_c1 {t : Ts} {Q : Bool → Mem → Prop} : (evC Φ (.one t) ρ μ).wp Q E ↔ (evT Φ t ρ μ).wp Q E := by conv => lhs; unfold evC
theorem w_on {Q : Option Int → Mem → Prop} : (evO Φ .none ρ μ).wp Q E ↔ Q none μ := by unfold evO; exact wp_ok
theorem w_os {e : Ex} {Q : Option Int → Mem → Prop} : (evO Φ (.some e) ρ μ).wp Q E ↔ (evE Φ e ρ μ).wp (fun x μ1 => ∃ i, x = .int i ∧ Q (some i) μ1) E := by
  conv => lhs; unfold evO
  simp only [wp_bind, wp_lift]
  refine iff_of_eq (congrArg (fun q => Res.wp _ q E) (funext fun x => funext fun m => propext ?_))
  cases x <;> simp [intOf?]
theorem w_ilst {e : Ex} {Q : List D → Mem → Prop} : (evI Φ (.lst e) ρ μ).wp Q E ↔ (evE Φ e ρ μ).wp (fun x μ1 => ∃ xs, x = .lst xs ∧ Q xs μ1) E := by
  conv => lhs; unfold evI
  simp only [wp_bind]
  refine iff_of_eq (congrArg (fun q => Res.wp _ q E) (funext fun x => funext fun m => propext ?_))
  cases x <;> simp [wp_ok, wp_exn, wp_bad]
theorem w_itup {e : Ex} {Q : List D → Mem → Prop} : (evI Φ (.tup e) ρ μ).wp Q E ↔ (evE Φ e ρ μ).wp (fun x μ1 => ∃ xs, x = .tup xs ∧ Q xs μ1) E := by
  conv => lhs; unfold evI
  simp only [wp_bind]
  refine iff_of_eq (congrArg (fun q => Res.wp _ q E) (funext fun x => funext fun m => propext ?_))
  cases x <;> simp [wp_ok, wp_exn, wp_bad]
theorem w_rng1 {e : Ex} {Q : List D → Mem → Prop} : (evI Φ (.rng1 e) ρ μ).wp Q E ↔ (evE Φ e ρ μ).wp (fun x μ1 => ∃ j, x = .int j ∧ (-(2 ^ 62) ≤ j ∧ j < 2 ^ 62) ∧ Q (rangeD 0 j.toNat) μ1) E := by
  conv => lhs; unfold evI
  simp only [wp_bind]
  refine iff_of_eq (congrArg (fun q => Res.wp _ q E) (funext fun x => funext fun m => propext ?_))
  cases x with
  | int j =>
    simp only [wp_ite, D.int.injEq, exists_eq_left']
    split
    · rename_i h; exact ⟨fun q => ⟨h, wp_ok.mp q⟩, fun q => .ok q.2⟩
    · rename_i h; exact ⟨fun q => (wp_bad.mp q).elim, fun q => (h q.1).elim⟩
  | _ => simp [wp_ok, wp_exn, wp_bad]
theorem w_rng2 {a b : Ex} {Q : List D → Mem → Prop} : (evI Φ (.rng2 a b) ρ μ).wp Q E ↔ (evE Φ a ρ μ).wp (fun x μ1 => (evE Φ b ρ μ1).wp (fun y μ2 => ∃ i j, x = .int i ∧ y = .int j ∧ ((-(2 ^ 62) ≤ i ∧ i < 2 ^ 62) ∧ (-(2 ^ 62) ≤ j ∧ j < 2 ^ 62)) ∧ Q (rangeD i (j - i).toNat) μ2) E) E := by
  conv => lhs; unfold evI
  simp only [wp_bind]
  refine iff_of_eq (congrArg (fun q => Res.wp _ q E) (funext fun x => funext fun m => congrArg (fun q => Res.wp _ q E) (funext fun y => funext fun m => propext ?_)))
  cases x with
  | int i => cases y with
    | int j =>
      simp only [wp_ite]
      split
      · rename_i h; exact ⟨fun q => ⟨i, j, rfl, rfl, h, wp_ok.mp q⟩, fun ⟨_, _, e1, e2, _, q⟩ => by cases e1; cases e2; exact .ok q⟩
      · rename_i h; exact ⟨fun q => (wp_bad.mp q).elim, fun ⟨_, _, e1, e2, z, q⟩ => by cases e1; cases e2; exact (h z).elim⟩
    | _ => simp [wp_ok, wp_exn, wp_bad]
  | _ => simp [wp_ok, wp_exn, wp_bad]
theorem w_gnm {i : Nat} {d : D} {Q : Env' → Mem → Prop} : (evG Φ (.nm i) d ρ μ).wp Q E ↔ Q (ρ.set i (some d)) μ := by unfold evG; exact wp_ok
theorem w_gtup {ts : Tgs} {d : D} {Q : Env' → Mem → Prop} : (evG Φ (.tup ts) d ρ μ).wp Q E ↔ ∃ xs, d = .tup xs ∧ (evGs Φ ts xs ρ μ).wp Q E := by
  conv => lhs; unfold evG
  cases d <;> simp [wp_ok, wp_exn, wp_bad]
theorem w_gltup {ts : Tgs} {d : D} {Q : Env' → Mem → Prop} : (evG Φ (.ltup ts) d ρ μ).wp Q E ↔ ∃ xs, d = .lst xs ∧ (evGs Φ ts xs ρ μ).wp Q E := by
  conv => lhs; unfold evG
  cases d <;> simp [wp_ok, wp_exn, wp_bad]
theorem w_gsn {ds : List D} {Q : Env' → Mem → Prop} : (evGs Φ .nil ds ρ μ).wp Q E ↔ ds = [] ∧ Q ρ μ := by
  conv => lhs; unfold evGs
  cases ds <;> simp [wp_ok, wp_exn, wp_bad]
theorem w_gsc {t : Tg} {r : Tgs} {ds : List D} {Q : Env' → Mem → Prop} : (evGs Φ (.cons t r) ds ρ μ).wp Q E ↔ ∃ d ds', ds = d :: ds' ∧ (evG Φ t d ρ μ).wp (fun ρ1 μ1 => (evGs Φ r ds' ρ1 μ1).wp Q E) E := by
  conv => lhs; unfold evGs
  cases ds with
  | nil => simp [wp_ok, wp_exn, wp_bad]
  | cons d ds =>
    simp only [wp_bind]
    exact ⟨fun h => ⟨d, ds, rfl, h⟩, fun ⟨_, _, e, h⟩ => by cases e; exact h⟩
theorem w_kn {Q : List (Key × D) → Mem → Prop} : (evK Φ .nil ρ μ).wp Q E ↔ Q [] μ := by unfold evK; exact wp_ok
theorem w_kc {k : String} {e : Ex} {r : Kvs} {Q : List (Key × D) → Mem → Prop} : (evK Φ (.cons k e r) ρ μ).wp Q E ↔ (evE Φ e ρ μ).wp (fun x μ1 => (evK Φ r ρ μ1).wp (fun ps μ2 => Q ((keyS k, x) :: ps) μ2) E) E := by
  conv => lhs; unfold evK
  simp only [wp_bind, wp_ok]
end
section
variable {Φ : Fns} {ρ : Env'} {μ : Mem} {K : Ks}
theorem wp_toS {A : Type} {r : Res A} {f : A → Mem → SR} : (r.toS ρ f).wp K ↔ r.wp (fun a m => (f a m).wp K) (K.ex ρ) := by
  cases r with
  | ok a m => rw [wp_ok]; exact Iff.rfl
  | exn c fs m => rw [wp_exn]; exact sp_exn
  | bad => rw [wp_bad]; exact sp_bad
theorem w_asg {t : Tg} {e : Ex} : (evS Φ (.asg t e) ρ μ).wp K ↔ (evE Φ e ρ μ).wp (fun d μ1 => (evG Φ t d ρ μ1).wp K.nx (K.ex ρ)) (K.ex ρ) := by
  conv => lhs; unfold evS
  simp only [wp_toS, sp_nx, sp_rt]
theorem w_par2 {i j : Nat} {a b : Ex} : (evS Φ (.par2 i j a b) ρ μ).wp K ↔ (evE Φ a ρ μ).wp (fun x μ1 => (evE Φ b ρ μ1).wp (fun y μ2 => K.nx ((ρ.set i (some x)).set j (some y)) μ2) (K.ex ρ)) (K.ex ρ) := by
  conv => lhs; unfold evS
  simp only [wp_toS, sp_nx, sp_rt]
theorem w_expr {e : Ex} : (evS Φ (.expr e) ρ μ).wp K ↔ (evE Φ e ρ μ).wp (fun _ μ1 => K.nx ρ μ1) (K.ex ρ) := by
  conv => lhs; unfold evS
  simp only [wp_toS, sp_nx, sp_rt]
theorem wp_iteS {c : Prop} [Decidable c] {a b : SR} : (if c then a else b).wp K ↔ if c then a.wp K else b.wp K := by
  split <;> exact Iff.rfl
theorem w_ifs {c : Ts} {a b : Sms} : (evS Φ (.ifs c a b) ρ μ).wp K ↔ (evT Φ c ρ μ).wp (fun k μ1 => if k = true then (evSs Φ a ρ μ1).wp K else (evSs Φ b ρ μ1).wp K) (K.ex ρ) := by
  conv => lhs; unfold evS
  simp only [wp_toS, wp_iteS]
theorem w_forr {t : Tg} {it : Iw} {b : Sms} : (evS Φ (.forr t it b) ρ μ).wp K ↔ (evI Φ it ρ μ).wp (fun xs μ1 => (forLoop (evG Φ t) (evSs Φ b) xs ρ μ1).wp K) (K.ex ρ) := by
  conv => lhs; unfold evS
  simp only [wp_toS]
theorem w_whl {c : Ts} {b : Sms} : (evS Φ (.whl c b) ρ μ).wp K ↔ (whileL (evT Φ c) (evSs Φ b) ρ μ).wp K := by
  conv => lhs; unfold evS
theorem w_ret {e : Ex} : (evS Φ (.ret e) ρ μ).wp K ↔ (evE Φ e ρ μ).wp K.rt (K.ex ρ) := by
  conv => lhs; unfold evS
  simp only [wp_toS, sp_nx, sp_rt]
theorem w_retN : (evS Φ .retN ρ μ).wp K ↔ K.rt .non μ := by unfold evS; exact sp_rt
theorem w_brk : (evS Φ .brk ρ μ).wp K ↔ K.bk ρ μ := by unfold evS; exact sp_bk
theorem w_cnt : (evS Φ .cnt ρ μ).wp K ↔ K.ct ρ μ := by unfold evS; exact sp_ct
theorem w_pass : (evS Φ .pass ρ μ).wp K ↔ K.nx ρ μ := by unfold evS; exact sp_nx
theorem w_nev : (evS Φ .nev ρ μ).wp K ↔ False := by unfold evS; exact sp_bad
theorem w_raise {c : Nat} {e : Ex} : (evS Φ (.raise c (.cons e .nil)) ρ μ).wp K ↔ (evE Φ e ρ μ).wp (fun x μ1 => K.ex ρ c [(Str.ofString "value", x)] μ1) (K.ex ρ) := by
  conv => lhs; unfold evS
  simp only [wp_toS, w_esc, w_esn, sp_exn]
theorem w_dset {d e : Ex} {k : String} : (evS Φ (.dset d k e) ρ μ).wp K ↔ (evE Φ e ρ μ).wp (fun x μ1 => (evE Φ d ρ μ1).wp (fun o μ2 => ∃ j kvs, o = .ref j ∧ μ2[j]? = some (.dct kvs) ∧ kvs.length < sizeLine ∧ K.nx ρ (μ2.set j (.dct (putKD kvs (keyS k) x)))) (K.ex ρ)) (K.ex ρ) := by
  conv => lhs; unfold evS
  simp only [wp_toS]
  refine iff_of_eq (congrArg (fun q => Res.wp _ q (K.ex ρ)) (funext fun x => funext fun m => congrArg (fun q => Res.wp _ q (K.ex ρ)) (funext fun o => funext fun m => propext ?_)))
  cases o with
  | ref j =>
    simp only
    split
    · rename_i kvs h
      split
      · rename_i l; exact ⟨fun q => ⟨j, kvs, rfl, h, l, sp_nx.mp q⟩, fun ⟨_, _, e1, e2, _, q⟩ => by cases e1; rw [h] at e2; cases e2; exact .nx q⟩
      · rename_i l; exact ⟨fun q => (sp_bad.mp q).elim, fun ⟨_, _, e1, e2, l', q⟩ => by cases e1; rw [h] at e2; cases e2; exact (l l').elim⟩
    · rename_i h; exact ⟨fun q => (sp_bad.mp q).elim, fun ⟨_, kvs, e1, e2, _, q⟩ => by cases e1; exact (h _ e2).elim⟩
  | _ => simp [sp_nx, sp_bad]
theorem w_app {i : Nat} {e : Ex} {j : Nat} (hi : ρ[i]? = some (some (.ref j))) {ys : List D} (hj : μ[j]? = some (.lst ys)) : (evS Φ (.app i e) ρ μ).wp K ↔ (evE Φ e ρ μ).wp (fun x μ1 => ∃ xs, μ1[j]? = some (.lst xs) ∧ xs.length < sizeLine ∧ K.nx ρ (μ1.set j (.lst (xs ++ [x])))) (K.ex ρ) := by
  conv => lhs; unfold evS
  rw [hi]; simp only; rw [hj]; simp only
  simp only [wp_toS]
  refine iff_of_eq (congrArg (fun q => Res.wp _ q (K.ex ρ)) (funext fun x => funext fun m => propext ?_))
  split
  · rename_i xs h
    split
    · rename_i l; exact ⟨fun q => ⟨xs, h, l, sp_nx.mp q⟩, fun ⟨_, e2, _, q⟩ => by rw [h] at e2; cases e2; exact .nx q⟩
    · rename_i l; exact ⟨fun q => (sp_bad.mp q).elim, fun ⟨_, e2, l', q⟩ => by rw [h] at e2; cases e2; exact (l l').elim⟩
  · rename_i h; exact ⟨fun q => (sp_bad.mp q).elim, fun ⟨_, e2, _, q⟩ => (h _ e2).elim⟩
theorem w_frz {i : Nat} {j : Nat} (hi : ρ[i]? = some (some (.ref j))) {ys : List D} (hj : μ[j]? = some (.lst ys)) : (evS Φ (.frz i) ρ μ).wp K ↔ K.nx (ρ.set i (some (.lst ys))) (μ.set j .dead) := by
  conv => lhs; unfold evS
  rw [hi]; simp only; rw [hj]; exact sp_nx
theorem w_sn : (evSs Φ .nil ρ μ).wp K ↔ K.nx ρ μ := by unfold evSs; exact sp_nx
theorem w_sc {s : Sm} {r : Sms} : (evSs Φ (.cons s r) ρ μ).wp K ↔ (evS Φ s ρ μ).wp (K.to fun ρ1 μ1 => (evSs Φ r ρ1 μ1).wp K) := by
  conv => lhs; unfold evSs
  cases evS Φ s ρ μ <;> simp only [sp_nx, sp_rt, sp_bk, sp_ct, sp_exn, sp_bad]
theorem SR.mono {r : SR} {K K' : Ks} (h : r.wp K) (h1 : ∀ a m, K.nx a m → K'.nx a m) (h2 : ∀ a m, K.rt a m → K'.rt a m) (h3 : ∀ a m, K.bk a m → K'.bk a m) (h4 : ∀ a m, K.ct a m → K'.ct a m) (h5 : ∀ a c fs m, K.ex a c fs m → K'.ex a c fs m) : r.wp K' := by
  cases h with
  | nx h => exact .nx (h1 _ _ h)
  | rt h => exact .rt (h2 _ _ h)
  | bk h => exact .bk (h3 _ _ h)
  | ct h => exact .ct (h4 _ _ h)
  | exn h => exact .exn (h5 _ _ _ _ h)
end
/-! ## loops -/
section
variable {K : Ks}
theorem for_wp {g : D → Env' → Mem → Res Env'} {b : Env' → Mem → SR} (I : Nat → Env' → Mem → Prop) {xs : List D} {ρ : Env'} {μ : Mem} (h0 : I 0 ρ μ)
    (hs : ∀ i x ρ μ, xs[i]? = some x → I i ρ μ → (g x ρ μ).wp (fun ρ1 μ1 => (b ρ1 μ1).wp { nx := I (i + 1), rt := K.rt, bk := K.nx, ct := I (i + 1), ex := K.ex }) (fun _ _ _ => False))
    (hd : ∀ ρ μ, I xs.length ρ μ → K.nx ρ μ) : (forLoop g b xs ρ μ).wp K := by
  induction xs generalizing ρ μ I with
  | nil => unfold forLoop; exact .nx (hd _ _ h0)
  | cons x xs ih =>
    unfold forLoop
    have st := hs 0 x ρ μ rfl h0
    cases e : g x ρ μ with
    | bad => rw [e] at st; cases st
    | exn _ _ _ => rw [e] at st; cases st; contradiction
    | ok ρ1 μ1 =>
      rw [e] at st
      simp only
      have st2 := wp_ok.mp st
      have go : ∀ ρ2 μ2, I 1 ρ2 μ2 → (forLoop g b xs ρ2 μ2).wp K := fun ρ2 μ2 h => ih (fun i => I (i + 1)) h (fun i x ρ μ hx hI => hs (i + 1) x ρ μ hx hI) (fun ρ μ h => hd ρ μ h)
      cases e2 : b ρ1 μ1 with
      | nx ρ2 μ2 => rw [e2] at st2; exact go _ _ (sp_nx.mp st2)
      | ct ρ2 μ2 => rw [e2] at st2; exact go _ _ (sp_ct.mp st2)
      | bk ρ2 μ2 => rw [e2] at st2; exact .nx (sp_bk.mp st2)
      | rt d m => rw [e2] at st2; have z := sp_rt.mp st2; exact .rt z
      | exn _ _ _ _ => rw [e2] at st2; have z := sp_exn.mp st2; exact .exn z
      | bad => rw [e2] at st2; cases st2
theorem lc_wp {g : D → Env' → Mem → Res Env'} {t : Env' → Mem → Res Bool} {e : Env' → Mem → Res D} {ρ : Env'} {Q : List D → Mem → Prop} {E : EX} (I : Nat → List D → Mem → Prop) {xs acc : List D} {μ : Mem} (h0 : I 0 acc μ)
    (hs : ∀ i x acc μ, xs[i]? = some x → I i acc μ → (g x ρ μ).wp (fun ρ1 μ1 => (t ρ1 μ1).wp (fun c μ2 => if c = true then (e ρ1 μ2).wp (fun d μ3 => acc.length < sizeLine ∧ I (i + 1) (acc ++ [d]) μ3) (fun _ _ _ => False) else I (i + 1) acc μ2) (fun _ _ _ => False)) (fun _ _ _ => False))
    (hd : ∀ acc μ, I xs.length acc μ → Q acc μ) : (lcLoop g t e ρ xs acc μ).wp Q E := by
  induction xs generalizing acc μ I with
  | nil => unfold lcLoop; exact .ok (hd _ _ h0)
  | cons x xs ih =>
    unfold lcLoop
    have st := hs 0 x acc μ rfl h0
    have go : ∀ acc μ2, I 1 acc μ2 → (lcLoop g t e ρ xs acc μ2).wp Q E := fun acc μ2 h => ih (fun i => I (i + 1)) h (fun i x ρ μ hx hI => hs (i + 1) x ρ μ hx hI) (fun ρ μ h => hd ρ μ h)
    cases e1 : g x ρ μ with
    | bad => rw [e1] at st; cases st
    | exn _ _ _ => rw [e1] at st; cases st; contradiction
    | ok ρ1 μ1 =>
      rw [e1] at st
      simp only
      have st2 := wp_ok.mp st
      cases e2 : t ρ1 μ1 with
      | bad => rw [e2] at st2; cases st2
      | exn _ _ _ => rw [e2] at st2; cases st2; contradiction
      | ok c μ2 =>
        rw [e2] at st2
        have st3 := wp_ok.mp st2
        cases c with
        | false =>
          rw [if_neg Bool.false_ne_true] at st3
          simp only
          exact go _ _ st3
        | true =>
          rw [if_pos rfl] at st3
          simp only
          cases e3 : e ρ1 μ2 with
          | bad => rw [e3] at st3; cases st3
          | exn _ _ _ => rw [e3] at st3; cases st3; contradiction
          | ok d μ3 =>
            rw [e3] at st3
            obtain ⟨l, q⟩ := wp_ok.mp st3
            simp only
            rw [if_pos l]
            exact go _ _ q
theorem whileN_more {t : Env' → Mem → Res Bool} {b : Env' → Mem → SR} : ∀ {n : Nat} {ρ : Env'} {μ : Mem}, whileN t b n ρ μ ≠ .bad → ∀ k, whileN t b (n + k) ρ μ = whileN t b n ρ μ
  | 0, _, _, h, _ => absurd rfl h
  | n + 1, ρ, μ, h, k => by
    rw [show n + 1 + k = (n + k) + 1 by omega]
    unfold whileN at h ⊢
    cases e1 : t ρ μ with
    | bad => rfl
    | exn _ _ _ => rfl
    | ok c μ1 =>
      rw [e1] at h
      cases c with
      | false => rfl
      | true =>
        simp only at h ⊢
        cases e2 : b ρ μ1 with
        | nx ρ2 μ2 => rw [e2] at h; exact whileN_more h k
        | ct ρ2 μ2 => rw [e2] at h; exact whileN_more h k
        | bk _ _ => rfl
        | rt _ _ => rfl
        | exn _ _ _ _ => rfl
        | bad => rfl
theorem whileL_of {t : Env' → Mem → Res Bool} {b : Env' → Mem → SR} {ρ : Env'} {μ : Mem} {n : Nat} (h : whileN t b n ρ μ ≠ .bad) : whileL t b ρ μ = whileN t b n ρ μ := by
  have ex : ∃ n, whileN t b n ρ μ ≠ .bad := ⟨n, h⟩
  unfold whileL
  rw [dif_pos ex]
  have h2 := Classical.choose_spec ex
  rw [← whileN_more h2 n, ← whileN_more h (Classical.choose ex), Nat.add_comm]
theorem while_wp {t : Env' → Mem → Res Bool} {b : Env' → Mem → SR} (I : Nat → Env' → Mem → Prop) {n : Nat} {ρ : Env'} {μ : Mem} (h0 : I n ρ μ)
    (hs : ∀ n ρ μ, I n ρ μ → (t ρ μ).wp (fun c μ1 => if c = true then (b ρ μ1).wp { nx := fun ρ2 μ2 => ∃ m, m < n ∧ I m ρ2 μ2, rt := K.rt, bk := K.nx, ct := fun ρ2 μ2 => ∃ m, m < n ∧ I m ρ2 μ2, ex := K.ex } else K.nx ρ μ1) (K.ex ρ)) : (whileL t b ρ μ).wp K := by
  suffices h : ∀ n ρ μ, I n ρ μ → (whileN t b (n + 1) ρ μ).wp K by
    have z := h n ρ μ h0
    have nb : whileN t b (n + 1) ρ μ ≠ .bad := fun e => by rw [e] at z; cases z
    rw [whileL_of nb]; exact z
  intro n
  induction n using Nat.strongRecOn with
  | ind n ih =>
    intro ρ μ hI
    have st := hs n ρ μ hI
    unfold whileN
    cases e1 : t ρ μ with
    | bad => rw [e1] at st; cases st
    | exn _ _ _ => rw [e1] at st; exact .exn (wp_exn.mp st)
    | ok c μ1 =>
      rw [e1] at st
      have st2 := wp_ok.mp st
      cases c with
      | false => rw [if_neg Bool.false_ne_true] at st2; exact .nx st2
      | true =>
        rw [if_pos rfl] at st2
        simp only
        have go : ∀ ρ2 μ2, (∃ m, m < n ∧ I m ρ2 μ2) → (whileN t b n ρ2 μ2).wp K := fun ρ2 μ2 ⟨m, hm, h⟩ => by
          have z := ih m hm ρ2 μ2 h
          have nb : whileN t b (m + 1) ρ2 μ2 ≠ .bad := fun e => by rw [e] at z; cases z
          rw [show n = m + 1 + (n - (m + 1)) by omega, whileN_more nb]
          exact z
        cases e2 : b ρ μ1 with
        | nx ρ2 μ2 => rw [e2] at st2; exact go _ _ (sp_nx.mp st2)
        | ct ρ2 μ2 => rw [e2] at st2; exact go _ _ (sp_ct.mp st2)
        | bk ρ2 μ2 => rw [e2] at st2; exact .nx (sp_bk.mp st2)
        | rt d m => rw [e2] at st2; have z := sp_rt.mp st2; exact .rt z
        | exn _ _ _ _ => rw [e2] at st2; have z := sp_exn.mp st2; exact .exn z
        | bad => rw [e2] at st2; cases st2
end
/-! ## a def -/
theorem run_wp {Φ : Fns} {f : FD} {args : List D} {μ : Mem} {Q : D → Mem → Prop} {E : EX} (hl : args.length = f.np)
    (h : (evSs Φ f.body (args.map some ++ List.replicate (f.ns - f.np) none) μ).wp { nx := fun _ m => (fin μ.length .non m).wp Q E, rt := fun d m => (fin μ.length d m).wp Q E, bk := fun _ _ => False, ct := fun _ _ => False, ex := fun _ c fs m => (finX μ.length c fs m).wp Q E }) :
    (runF Φ f args μ).wp Q E := by
  unfold runF
  rw [if_pos hl]
  cases e : evSs Φ f.body (args.map some ++ List.replicate (f.ns - f.np) none) μ with
  | nx _ m => rw [e] at h; exact sp_nx.mp h
  | rt _ m => rw [e] at h; exact sp_rt.mp h
  | exn _ _ _ _ => rw [e] at h; exact sp_exn.mp h
  | bk _ _ => rw [e] at h; exact (sp_bk.mp h).elim
  | ct _ _ => rw [e] at h; exact (sp_ct.mp h).elim
  | bad => rw [e] at h; cases h
theorem fin_wp {n : Nat} {d : D} {μ : Mem} {Q : D → Mem → Prop} {E : EX} (h1 : n ≤ μ.length) (h2 : d.lt n = true) (h3 : Mem.lt n (μ.take n) = true) (q : Q d (μ.take n)) : (fin n d μ).wp Q E := by
  unfold fin
  rw [if_pos (by simp [h1, h2, h3])]
  exact .ok q
theorem fin_0 {d : D} {μ : Mem} {Q : D → Mem → Prop} {E : EX} (h2 : d.lt 0 = true) (q : Q d []) : (fin 0 d μ).wp Q E := fin_wp (Nat.zero_le _) h2 rfl q
end OB
namespace OB
open PySem PySem.Spec PyProof.Rows L2
/-! ## operators on whole numbers -/
theorem b_add (i j : Int) : binD .Add (.int i) (.int j) = some (.int (i + j)) := rfl
theorem b_sub (i j : Int) : binD .Sub (.int i) (.int j) = some (.int (i - j)) := rfl
theorem b_mul {i j : Int} {P : D → Prop} : (∃ d, binD .Mult (.int i) (.int j) = some d ∧ P d) ↔ mulOk i j = true ∧ P (.int (i * j)) := by
  unfold binD
  by_cases h : mulOk i j = true
  · simp [h]
  · simp [h]
theorem b_div {i j : Int} {P : D → Prop} : (∃ d, binD .FloorDiv (.int i) (.int j) = some d ∧ P d) ↔ divOk j = true ∧ P (.int (i / j)) := by
  unfold binD
  by_cases h : divOk j = true <;> simp [h]
theorem b_mod {i j : Int} {P : D → Prop} : (∃ d, binD .Mod (.int i) (.int j) = some d ∧ P d) ↔ 0 < j ∧ P (.int (i % j)) := by
  unfold binD
  by_cases h : 0 < j <;> simp [h]
theorem b_pow {i j : Int} {P : D → Prop} : (∃ d, binD .Pow (.int i) (.int j) = some d ∧ P d) ↔ (decide (0 ≤ j) && decide (j ≤ 1000000) && decide (i.natAbs < 2 ^ 64)) = true ∧ P (.int (i ^ j.toNat)) := by
  unfold binD
  by_cases h : (decide (0 ≤ j) && decide (j ≤ 1000000) && decide (i.natAbs < 2 ^ 64)) = true <;> simp [h]
theorem c_lt (i j : Int) : cmpD .Lt (.int i) (.int j) = some (decide (i < j)) := rfl
theorem c_le (i j : Int) : cmpD .LtE (.int i) (.int j) = some (decide (i ≤ j)) := rfl
theorem c_gt (i j : Int) : cmpD .Gt (.int i) (.int j) = some (decide (j < i)) := rfl
theorem c_ge (i j : Int) : cmpD .GtE (.int i) (.int j) = some (decide (j ≤ i)) := rfl
theorem e_int (i j : Int) : eqD (.int i) (.int j) = some (i == j) := by
  simp [eqD, D.toPy, SeqAt.shaped, PyData.canLay0, PyData.depth, PyData.eqv]
theorem c_eq (a b : D) : cmpD .Eq a b = eqD a b := by cases a <;> cases b <;> rfl
theorem c_ne (a b : D) : cmpD .NotEq a b = (eqD a b).map (!·) := by cases a <;> cases b <;> rfl
theorem mulOk_l {i j : Int} (h1 : -(2 ^ 64) < i) (h2 : i < 2 ^ 64) : mulOk i j = true := by
  unfold mulOk
  rw [decide_eq_true h1, decide_eq_true h2]
  rfl
theorem mulOk_r {i j : Int} (h1 : -(2 ^ 64) < j) (h2 : j < 2 ^ 64) : mulOk i j = true := by
  unfold mulOk
  rw [decide_eq_true h1, decide_eq_true h2]
  simp
theorem mulOk_big {i j : Int} {a b : Nat} (h1 : i.natAbs < 2 ^ a) (h2 : j.natAbs < 2 ^ b) (h : a + b ≤ 1000000) (ha : 0 < a) (hb : 0 < b) : mulOk i j = true := by
  unfold mulOk
  have l1 : i.natAbs.log2 < a := by
    by_cases z : i.natAbs = 0
    · rw [z]; simpa using ha
    · exact (Nat.log2_lt z).mpr h1
  have l2 : j.natAbs.log2 < b := by
    by_cases z : j.natAbs = 0
    · rw [z]; simpa using hb
    · exact (Nat.log2_lt z).mpr h2
  have : i.natAbs.log2 + j.natAbs.log2 < 1000000 := by omega
  rw [decide_eq_true this]
  simp
theorem divOk_of {j : Int} (h1 : 0 < j) (h2 : j < 2 ^ 64) : divOk j = true := by
  unfold divOk
  have l1 : j.natAbs.log2 < 9000 := by
    by_cases z : j.natAbs = 0
    · omega
    · exact Nat.lt_trans ((Nat.log2_lt z).mpr (show j.natAbs < 2 ^ 64 by omega)) (by decide)
  simp [h1, l1]
/-! ## lists of whole numbers -/
theorem toPys_ints : ∀ ns : List Int, D.toPys (ns.map D.int) = some (ns.map PyData.int)
  | [] => rfl
  | n :: ns => by simp [D.toPys, D.toPy, toPys_ints ns]
theorem canLay_ints : ∀ ns : List Int, PyData.canLayAll0 (ns.map PyData.int) = true
  | [] => rfl
  | n :: ns => by simp [PyData.canLayAll0, PyData.canLay0, canLay_ints ns]
theorem depth_ints : ∀ ns : List Int, PyData.depthAll (ns.map PyData.int) = 0
  | [] => rfl
  | n :: ns => by simp [PyData.depthAll, PyData.depth, depth_ints ns]
theorem eqv_ints : ∀ ns ms : List Int, PyData.eqvAll (ns.map PyData.int) (ms.map PyData.int) = decide (ns = ms)
  | [], [] => rfl
  | [], _ :: _ => rfl
  | _ :: _, [] => rfl
  | n :: ns, m :: ms => by
    simp only [List.map_cons, PyData.eqvAll, PyData.eqv, eqv_ints ns ms, List.cons.injEq]
    by_cases h : n = m <;> simp [h]
theorem e_lsts (ns ms : List Int) : eqD (.lst (ns.map .int)) (.lst (ms.map .int)) = some (decide (ns = ms)) := by
  simp [eqD, D.toPy, toPys_ints, SeqAt.shaped, PyData.canLay0, PyData.depth, PyData.eqv, canLay_ints, depth_ints, eqv_ints]
theorem e_tups (ns ms : List Int) : eqD (.tup (ns.map .int)) (.tup (ms.map .int)) = some (decide (ns = ms)) := by
  simp [eqD, D.toPy, toPys_ints, SeqAt.shaped, PyData.canLay0, PyData.depth, PyData.eqv, canLay_ints, depth_ints, eqv_ints]
theorem lts_ints (n : Nat) : ∀ ns : List Int, D.lts n (ns.map D.int) = true
  | [] => rfl
  | m :: ms => by simp [D.lts, D.lt, lts_ints n ms]
/-! ## the law's pen -/
def penM (cs : List Int) (t l : Int) : Mem := [.dct [(keyS "cells", .lst (cs.map .int)), (keyS "turn", .int t), (keyS "left", .int l)]]
def Pen (B : Nat) (μ : Mem) : Prop := ∃ cs t l, μ = penM cs t l ∧ cs.length ≤ 63 ∧ 0 ≤ t ∧ t ≤ B ∧ 0 ≤ l
theorem Pen.mono {B C : Nat} {μ : Mem} (h : Pen B μ) (l : B ≤ C) : Pen C μ := by
  obtain ⟨cs, t, l', e, h1, h2, h3, h4⟩ := h
  exact ⟨cs, t, l', e, h1, h2, by omega, h4⟩
theorem Pen.len {B : Nat} {μ : Mem} (h : Pen B μ) : μ.length = 1 := by
  obtain ⟨cs, t, l', e, _⟩ := h
  rw [e]; rfl
theorem penM_lt {cs : List Int} {t l : Int} : Mem.lt 1 (penM cs t l) = true := by
  simp [penM, Mem.lt, MO.lt, ltk, D.lt, lts_ints]
theorem Pen.lt {B : Nat} {μ : Mem} (h : Pen B μ) : Mem.lt 1 μ = true := by
  obtain ⟨cs, t, l', e, _⟩ := h
  rw [e]; exact penM_lt
theorem Pen.take {B : Nat} {μ : Mem} (h : Pen B μ) : μ.take 1 = μ := List.take_of_length_le (by rw [h.len]; exact Nat.le_refl _)
theorem Pen.drop {B : Nat} {μ : Mem} (h : Pen B μ) : μ.drop 1 = [] := List.drop_of_length_le (by rw [h.len]; exact Nat.le_refl _)
theorem fin_pen {B : Nat} {d : D} {μ : Mem} {Q : D → Mem → Prop} {E : EX} (h : Pen B μ) (h2 : d.lt 1 = true) (q : Q d μ) : (fin 1 d μ).wp Q E :=
  fin_wp (by rw [h.len]; exact Nat.le_refl _) h2 (by rw [h.take]; exact h.lt) (by rw [h.take]; exact q)
def drawPrimes : Sms := (.cons (.asg (.nm 5) (.lst (.cons (.int 2147483647) (.cons (.int 2147483629) (.cons (.int 2147483587) (.cons (.int 2147483579) (.cons (.int 2147483563) .nil))))))) (.cons (.asg (.nm 6) (.idx (.var 5) (.bin .Mod (.var 3) (.int 5)))) (.cons (.asg (.nm 7) (.bin .Mod (.bin .Add (.bin .Add (.bin .Mult (.bin .Mod (.var 4) (.var 6)) (.int 48271)) (.bin .Mult (.bin .Mult (.int 40692) (.var 3)) (.var 3))) (.int 31)) (.var 6))) (.cons (.asg (.nm 7) (.bin .Mod (.bin .Mult (.var 7) (.bin .Add (.var 7) (.int 69621))) (.idx (.var 5) (.bin .Mod (.bin .Add (.var 3) (.int 3)) (.int 5))))) (.cons (.ret (.bin .Mod (.bin .FloorDiv (.bin .Mod (.bin .Mult (.var 7) (.var 7)) (.int 2147483549)) (.int 64)) (.var 1))) .nil)))))
def drawTail : Sms := (.cons (.ifs (.and (.val (.cmp .Lt (.var 3) (.blt .len (.cons (.dget (.var 0) "cells") .nil)))) (.val (.cmp .GtE (.blt .abs (.cons (.var 4) .nil)) (.bin .Pow (.int 10) (.int 18))))) (.cons (.dset (.var 0) "left" (.bin .FloorDiv (.bin .Sub (.blt .abs (.cons (.var 4) .nil)) (.bin .Pow (.int 10) (.int 18))) (.var 1))) (.cons (.ret (.bin .Mod (.bin .Sub (.blt .abs (.cons (.var 4) .nil)) (.bin .Pow (.int 10) (.int 18))) (.var 1))) .nil)) .nil) drawPrimes)
def f_draw : FD := ⟨2, 8, (.cons (.ifs (.val (.cmp .Gt (.dget (.var 0) "left") (.int 0))) (.cons (.asg (.nm 2) (.bin .Mod (.dget (.var 0) "left") (.var 1))) (.cons (.dset (.var 0) "left" (.bin .FloorDiv (.dget (.var 0) "left") (.var 1))) (.cons (.ret (.var 2)) .nil))) .nil) (.cons (.asg (.nm 3) (.dget (.var 0) "turn")) (.cons (.dset (.var 0) "turn" (.bin .Add (.var 3) (.int 1))) (.cons (.asg (.nm 4) (.bin .Add (.bin .Mult (.int 41) (.var 3)) (.int 17))) (.cons (.ifs (.val (.cmp .NotEq (.dget (.var 0) "cells") (.lst .nil))) (.cons (.asg (.nm 4) (.idx (.dget (.var 0) "cells") (.bin .Mod (.var 3) (.blt .len (.cons (.dget (.var 0) "cells") .nil))))) .nil) .nil) drawTail)))))⟩
theorem k1 : (keyS "cells" = keyS "turn") = False := eq_false (by decide)
theorem k2 : (keyS "cells" = keyS "left") = False := eq_false (by decide)
theorem k3 : (keyS "turn" = keyS "cells") = False := eq_false (by decide)
theorem k4 : (keyS "turn" = keyS "left") = False := eq_false (by decide)
theorem k5 : (keyS "left" = keyS "cells") = False := eq_false (by decide)
theorem k6 : (keyS "left" = keyS "turn") = False := eq_false (by decide)
theorem g_cells {a b c : D} : valD [(keyS "cells", a), (keyS "turn", b), (keyS "left", c)] (keyS "cells") = some a := by simp [valD]
theorem g_turn {a b c : D} : valD [(keyS "cells", a), (keyS "turn", b), (keyS "left", c)] (keyS "turn") = some b := by simp [valD, List.find?, k1, k2, k3, k4, k5, k6]
theorem g_left {a b c : D} : valD [(keyS "cells", a), (keyS "turn", b), (keyS "left", c)] (keyS "left") = some c := by simp [valD, List.find?, k1, k2, k3, k4, k5, k6]
theorem p_turn {a b c d : D} : putKD [(keyS "cells", a), (keyS "turn", b), (keyS "left", c)] (keyS "turn") d = [(keyS "cells", a), (keyS "turn", d), (keyS "left", c)] := by simp [putKD, k1, k2, k3, k4, k5, k6]
theorem p_left {a b c d : D} : putKD [(keyS "cells", a), (keyS "turn", b), (keyS "left", c)] (keyS "left") d = [(keyS "cells", a), (keyS "turn", b), (keyS "left", d)] := by simp [putKD, k1, k2, k3, k4, k5, k6]
theorem run_wp2 {Φ : Fns} {f : FD} {args : List D} {μ : Mem} {Q : D → Mem → Prop} {E : EX} (ρ : Env') (hl : args.length = f.np) (hr : args.map some ++ List.replicate (f.ns - f.np) none = ρ)
    (h : (evSs Φ f.body ρ μ).wp { nx := fun _ m => (fin μ.length .non m).wp Q E, rt := fun d m => (fin μ.length d m).wp Q E, bk := fun _ _ => False, ct := fun _ _ => False, ex := fun _ c fs m => (finX μ.length c fs m).wp Q E }) :
    (runF Φ f args μ).wp Q E := by
  subst hr
  exact run_wp hl h
theorem ne_nil (cs : List Int) : cmpD .NotEq (.lst (cs.map .int)) (.lst []) = some (!decide (cs = [])) := by
  rw [c_ne, show (D.lst []) = .lst (([] : List Int).map .int) from rfl, e_lsts]; rfl
theorem atI_ints {cs : List Int} {i : Int} (h0 : 0 ≤ i) (h : i < cs.length) : ∃ c, atI (cs.map D.int) i = some (.int c) := by
  have hl : i.toNat < cs.length := by omega
  refine ⟨cs[i.toNat], ?_⟩
  unfold atI ixN
  rw [if_pos h0, List.length_map, if_pos h]
  simp [hl]
section
variable {Φ : Fns} {cs : List Int} {t l : Int} {i : Nat} {ρ : Env'} {E : EX}
theorem lenOk {A : Type} {xs : List A} {P : Prop} (h : decide (xs.length ≤ sizeLine) = true) (q : P) : xs.length ≤ sizeLine ∧ P := ⟨of_decide_eq_true h, q⟩
theorem pg_turn {Q : D → Mem → Prop} (h : ρ[i]? = some (some (.ref 0))) (q : Q (.int t) (penM cs t l)) : (evE Φ (.dget (.var i) "turn") ρ (penM cs t l)).wp Q E :=
  w_dget.mpr (w_var.mpr ⟨_, h, _, _, _, rfl, rfl, g_turn, q⟩)
theorem pg_left {Q : D → Mem → Prop} (h : ρ[i]? = some (some (.ref 0))) (q : Q (.int l) (penM cs t l)) : (evE Φ (.dget (.var i) "left") ρ (penM cs t l)).wp Q E :=
  w_dget.mpr (w_var.mpr ⟨_, h, _, _, _, rfl, rfl, g_left, q⟩)
theorem pg_cells {Q : D → Mem → Prop} (h : ρ[i]? = some (some (.ref 0))) (q : Q (.lst (cs.map .int)) (penM cs t l)) : (evE Φ (.dget (.var i) "cells") ρ (penM cs t l)).wp Q E :=
  w_dget.mpr (w_var.mpr ⟨_, h, _, _, _, rfl, rfl, g_cells, q⟩)
theorem ps_turn {e : Ex} {K : Ks} (h : ρ[i]? = some (some (.ref 0))) (q : (evE Φ e ρ (penM cs t l)).wp (fun x μ1 => ∃ v, x = .int v ∧ μ1 = penM cs t l ∧ K.nx ρ (penM cs v l)) (K.ex ρ)) : (evS Φ (.dset (.var i) "turn" e) ρ (penM cs t l)).wp K :=
  w_dset.mpr (wp_mono q (fun a m ⟨v, e1, e2, z⟩ => by subst e1; subst e2; exact w_var.mpr ⟨_, h, 0, _, rfl, rfl, of_decide_eq_true rfl, by rw [p_turn]; exact z⟩) (fun _ _ _ h => h))
theorem ps_left {e : Ex} {K : Ks} (h : ρ[i]? = some (some (.ref 0))) (q : (evE Φ e ρ (penM cs t l)).wp (fun x μ1 => ∃ v, x = .int v ∧ μ1 = penM cs t l ∧ K.nx ρ (penM cs t v)) (K.ex ρ)) : (evS Φ (.dset (.var i) "left" e) ρ (penM cs t l)).wp K :=
  w_dset.mpr (wp_mono q (fun a m ⟨v, e1, e2, z⟩ => by subst e1; subst e2; exact w_var.mpr ⟨_, h, 0, _, rfl, rfl, of_decide_eq_true rfl, by rw [p_left]; exact z⟩) (fun _ _ _ h => h))
end
def primesD : D := .lst [.int 2147483647, .int 2147483629, .int 2147483587, .int 2147483579, .int 2147483563]
theorem prime_at {i : Int} (h0 : 0 ≤ i) (h1 : i < 5) : ∃ p : Int, idxD primesD (.int i) = some (.int p) ∧ 2147483563 ≤ p ∧ p ≤ 2147483647 := by
  have : i = 0 ∨ i = 1 ∨ i = 2 ∨ i = 3 ∨ i = 4 := by omega
  rcases this with rfl | rfl | rfl | rfl | rfl <;> exact ⟨_, rfl, by decide, by decide⟩
theorem draw_primes {Φ : Fns} {K : Ks} {μ : Mem} {t c many : Int} {ρ : Env'} (hρ : ρ = [some (.ref 0), some (.int many), none, some (.int t), some (.int c), none, none, none]) (h1 : 0 < many) (ht : 0 ≤ t) (htB : t < 2 ^ 60)
    (hK : ∀ r, 0 ≤ r → r < many → K.rt (.int r) μ) : (evSs Φ drawPrimes ρ μ).wp K := by
  subst hρ
  unfold drawPrimes
  obtain ⟨p, hp, p1, p2⟩ := prime_at (i := t % 5) (Int.emod_nonneg _ (by decide)) (Int.emod_lt_of_pos _ (by decide))
  obtain ⟨p', hp', p1', p2'⟩ := prime_at (i := (t + 3) % 5) (Int.emod_nonneg _ (by decide)) (Int.emod_lt_of_pos _ (by decide))
  repeat (first | ((with_reducible refine pg_turn ?_ ?_); rfl) | ((with_reducible refine pg_left ?_ ?_); rfl) | ((with_reducible refine pg_cells ?_ ?_); rfl) | ((with_reducible refine ps_turn ?_ ?_); rfl) | ((with_reducible refine ps_left ?_ ?_); rfl) | ((with_reducible refine w_var.mpr ?_); refine ⟨_, rfl, ?_⟩) | with_reducible refine wp_ok.mpr ?_ | with_reducible refine w_int.mpr ?_ | with_reducible refine w_bl.mpr ?_ | with_reducible refine w_non.mpr ?_ | with_reducible refine w_str.mpr ?_ | with_reducible refine w_glob.mpr ?_ | with_reducible refine w_chain.mpr ?_ | with_reducible refine w_ite.mpr ?_ | with_reducible refine w_esn.mpr ?_ | with_reducible refine w_esc.mpr ?_ | with_reducible refine w_tnot.mpr ?_ | with_reducible refine w_tand.mpr ?_ | with_reducible refine w_tor.mpr ?_ | with_reducible refine w_cn.mpr ?_ | with_reducible refine w_c1.mpr ?_ | with_reducible refine w_on.mpr ?_ | with_reducible refine w_rng2.mpr ?_ | with_reducible refine w_gnm.mpr ?_ | with_reducible refine w_kn.mpr ?_ | with_reducible refine w_kc.mpr ?_ | with_reducible refine w_asg.mpr ?_ | with_reducible refine w_par2.mpr ?_ | with_reducible refine w_expr.mpr ?_ | with_reducible refine w_ifs.mpr ?_ | with_reducible refine w_brk.mpr ?_ | with_reducible refine w_cnt.mpr ?_ | with_reducible refine w_pass.mpr ?_ | with_reducible refine w_raise.mpr ?_ | with_reducible refine w_sn.mpr ?_ | with_reducible refine w_sc.mpr ?_ | with_reducible refine w_call.mpr ?_ | with_reducible refine w_and.mpr ?_ | with_reducible refine w_or.mpr ?_ | with_reducible refine w_not.mpr ?_ | with_reducible refine w_neg.mpr ?_ | with_reducible refine w_dget.mpr ?_ | with_reducible refine w_dset.mpr ?_ | with_reducible refine w_gtup.mpr ?_ | with_reducible refine w_gltup.mpr ?_ | with_reducible refine w_gsn.mpr (And.intro rfl ?_) | with_reducible refine w_gsc.mpr ?_ | with_reducible refine w_ilst.mpr ?_ | with_reducible refine w_itup.mpr ?_ | with_reducible refine w_blt.mpr ?_ | with_reducible refine w_isi.mpr ?_ | with_reducible refine w_os.mpr ?_ | with_reducible refine w_idx.mpr ?_ | with_reducible refine w_slc.mpr ?_ | with_reducible refine w_bin.mpr ?_ | with_reducible refine w_cmp.mpr ?_ | with_reducible refine w_tval.mpr ?_ | with_reducible refine w_forr.mpr ?_ | with_reducible refine w_whl.mpr ?_ | with_reducible refine w_lc.mpr ?_ | with_reducible refine w_ret.mpr ?_ | with_reducible refine w_retN.mpr ?_ | (with_reducible refine w_tup.mpr ?_) | (with_reducible refine w_lst.mpr ?_) | (with_reducible refine b_mul.mpr (And.symm ⟨?_, by first | exact mulOk_l (by omega) (by omega) | exact mulOk_r (by omega) (by omega) | exact mulOk_bd (a := 1000) (b := 1000) (by assumption) (by assumption) (by decide) (by decide) (by decide) | assumption⟩)) | (with_reducible refine b_mod.mpr (And.symm ⟨?_, by first | omega | assumption⟩)) | (with_reducible refine b_div.mpr (And.symm ⟨?_, by first | exact divOk_of (by omega) (by omega) | assumption⟩)) | (with_reducible refine b_pow.mpr ⟨by decide, ?_⟩) | refine ⟨_, rfl, Eq.refl (penM _ _ _), ?_⟩ | refine ⟨_, rfl, ⟨by omega, by omega⟩, ?_⟩ | refine ⟨_, rfl, ?_⟩ | refine ⟨_, _, rfl, ?_⟩ | refine ⟨_, _, _, rfl, rfl, rfl, ?_⟩ | refine ⟨_, _, rfl, rfl, of_decide_eq_true rfl, ?_⟩ | refine ⟨_, ne_nil _, ?_⟩ | ((with_reducible refine lenOk ?_ ?_); rfl) | refine ⟨_, rfl, rfl, ?_⟩ | with_reducible refine w_rng1.mpr ?_ | with_reducible refine w_rng2.mpr ?_ | ((with_reducible refine ifT ?_ ?_); rfl) | ((with_reducible refine ifF ?_ ?_); rfl))
  refine ⟨_, hp, ?_⟩
  repeat (first | ((with_reducible refine pg_turn ?_ ?_); rfl) | ((with_reducible refine pg_left ?_ ?_); rfl) | ((with_reducible refine pg_cells ?_ ?_); rfl) | ((with_reducible refine ps_turn ?_ ?_); rfl) | ((with_reducible refine ps_left ?_ ?_); rfl) | ((with_reducible refine w_var.mpr ?_); refine ⟨_, rfl, ?_⟩) | with_reducible refine wp_ok.mpr ?_ | with_reducible refine w_int.mpr ?_ | with_reducible refine w_bl.mpr ?_ | with_reducible refine w_non.mpr ?_ | with_reducible refine w_str.mpr ?_ | with_reducible refine w_glob.mpr ?_ | with_reducible refine w_chain.mpr ?_ | with_reducible refine w_ite.mpr ?_ | with_reducible refine w_esn.mpr ?_ | with_reducible refine w_esc.mpr ?_ | with_reducible refine w_tnot.mpr ?_ | with_reducible refine w_tand.mpr ?_ | with_reducible refine w_tor.mpr ?_ | with_reducible refine w_cn.mpr ?_ | with_reducible refine w_c1.mpr ?_ | with_reducible refine w_on.mpr ?_ | with_reducible refine w_rng2.mpr ?_ | with_reducible refine w_gnm.mpr ?_ | with_reducible refine w_kn.mpr ?_ | with_reducible refine w_kc.mpr ?_ | with_reducible refine w_asg.mpr ?_ | with_reducible refine w_par2.mpr ?_ | with_reducible refine w_expr.mpr ?_ | with_reducible refine w_ifs.mpr ?_ | with_reducible refine w_brk.mpr ?_ | with_reducible refine w_cnt.mpr ?_ | with_reducible refine w_pass.mpr ?_ | with_reducible refine w_raise.mpr ?_ | with_reducible refine w_sn.mpr ?_ | with_reducible refine w_sc.mpr ?_ | with_reducible refine w_call.mpr ?_ | with_reducible refine w_and.mpr ?_ | with_reducible refine w_or.mpr ?_ | with_reducible refine w_not.mpr ?_ | with_reducible refine w_neg.mpr ?_ | with_reducible refine w_dget.mpr ?_ | with_reducible refine w_dset.mpr ?_ | with_reducible refine w_gtup.mpr ?_ | with_reducible refine w_gltup.mpr ?_ | with_reducible refine w_gsn.mpr (And.intro rfl ?_) | with_reducible refine w_gsc.mpr ?_ | with_reducible refine w_ilst.mpr ?_ | with_reducible refine w_itup.mpr ?_ | with_reducible refine w_blt.mpr ?_ | with_reducible refine w_isi.mpr ?_ | with_reducible refine w_os.mpr ?_ | with_reducible refine w_idx.mpr ?_ | with_reducible refine w_slc.mpr ?_ | with_reducible refine w_bin.mpr ?_ | with_reducible refine w_cmp.mpr ?_ | with_reducible refine w_tval.mpr ?_ | with_reducible refine w_forr.mpr ?_ | with_reducible refine w_whl.mpr ?_ | with_reducible refine w_lc.mpr ?_ | with_reducible refine w_ret.mpr ?_ | with_reducible refine w_retN.mpr ?_ | (with_reducible refine w_tup.mpr ?_) | (with_reducible refine w_lst.mpr ?_) | (with_reducible refine b_mul.mpr (And.symm ⟨?_, by first | exact mulOk_l (by omega) (by omega) | exact mulOk_r (by omega) (by omega) | exact mulOk_bd (a := 1000) (b := 1000) (by assumption) (by assumption) (by decide) (by decide) (by decide) | assumption⟩)) | (with_reducible refine b_mod.mpr (And.symm ⟨?_, by first | omega | assumption⟩)) | (with_reducible refine b_div.mpr (And.symm ⟨?_, by first | exact divOk_of (by omega) (by omega) | assumption⟩)) | (with_reducible refine b_pow.mpr ⟨by decide, ?_⟩) | refine ⟨_, rfl, Eq.refl (penM _ _ _), ?_⟩ | refine ⟨_, rfl, ⟨by omega, by omega⟩, ?_⟩ | refine ⟨_, rfl, ?_⟩ | refine ⟨_, _, rfl, ?_⟩ | refine ⟨_, _, _, rfl, rfl, rfl, ?_⟩ | refine ⟨_, _, rfl, rfl, of_decide_eq_true rfl, ?_⟩ | refine ⟨_, ne_nil _, ?_⟩ | ((with_reducible refine lenOk ?_ ?_); rfl) | refine ⟨_, rfl, rfl, ?_⟩ | with_reducible refine w_rng1.mpr ?_ | with_reducible refine w_rng2.mpr ?_ | ((with_reducible refine ifT ?_ ?_); rfl) | ((with_reducible refine ifF ?_ ?_); rfl))
  have d0 := Int.emod_nonneg (c % p * 48271 + 40692 * t * t + 31) (b := p) (by omega)
  have d1 := Int.emod_lt_of_pos (c % p * 48271 + 40692 * t * t + 31) (b := p) (by omega)
  generalize (c % p * 48271 + 40692 * t * t + 31) % p = dr at *
  repeat (first | ((with_reducible refine pg_turn ?_ ?_); rfl) | ((with_reducible refine pg_left ?_ ?_); rfl) | ((with_reducible refine pg_cells ?_ ?_); rfl) | ((with_reducible refine ps_turn ?_ ?_); rfl) | ((with_reducible refine ps_left ?_ ?_); rfl) | ((with_reducible refine w_var.mpr ?_); refine ⟨_, rfl, ?_⟩) | with_reducible refine wp_ok.mpr ?_ | with_reducible refine w_int.mpr ?_ | with_reducible refine w_bl.mpr ?_ | with_reducible refine w_non.mpr ?_ | with_reducible refine w_str.mpr ?_ | with_reducible refine w_glob.mpr ?_ | with_reducible refine w_chain.mpr ?_ | with_reducible refine w_ite.mpr ?_ | with_reducible refine w_esn.mpr ?_ | with_reducible refine w_esc.mpr ?_ | with_reducible refine w_tnot.mpr ?_ | with_reducible refine w_tand.mpr ?_ | with_reducible refine w_tor.mpr ?_ | with_reducible refine w_cn.mpr ?_ | with_reducible refine w_c1.mpr ?_ | with_reducible refine w_on.mpr ?_ | with_reducible refine w_rng2.mpr ?_ | with_reducible refine w_gnm.mpr ?_ | with_reducible refine w_kn.mpr ?_ | with_reducible refine w_kc.mpr ?_ | with_reducible refine w_asg.mpr ?_ | with_reducible refine w_par2.mpr ?_ | with_reducible refine w_expr.mpr ?_ | with_reducible refine w_ifs.mpr ?_ | with_reducible refine w_brk.mpr ?_ | with_reducible refine w_cnt.mpr ?_ | with_reducible refine w_pass.mpr ?_ | with_reducible refine w_raise.mpr ?_ | with_reducible refine w_sn.mpr ?_ | with_reducible refine w_sc.mpr ?_ | with_reducible refine w_call.mpr ?_ | with_reducible refine w_and.mpr ?_ | with_reducible refine w_or.mpr ?_ | with_reducible refine w_not.mpr ?_ | with_reducible refine w_neg.mpr ?_ | with_reducible refine w_dget.mpr ?_ | with_reducible refine w_dset.mpr ?_ | with_reducible refine w_gtup.mpr ?_ | with_reducible refine w_gltup.mpr ?_ | with_reducible refine w_gsn.mpr (And.intro rfl ?_) | with_reducible refine w_gsc.mpr ?_ | with_reducible refine w_ilst.mpr ?_ | with_reducible refine w_itup.mpr ?_ | with_reducible refine w_blt.mpr ?_ | with_reducible refine w_isi.mpr ?_ | with_reducible refine w_os.mpr ?_ | with_reducible refine w_idx.mpr ?_ | with_reducible refine w_slc.mpr ?_ | with_reducible refine w_bin.mpr ?_ | with_reducible refine w_cmp.mpr ?_ | with_reducible refine w_tval.mpr ?_ | with_reducible refine w_forr.mpr ?_ | with_reducible refine w_whl.mpr ?_ | with_reducible refine w_lc.mpr ?_ | with_reducible refine w_ret.mpr ?_ | with_reducible refine w_retN.mpr ?_ | (with_reducible refine w_tup.mpr ?_) | (with_reducible refine w_lst.mpr ?_) | (with_reducible refine b_mul.mpr (And.symm ⟨?_, by first | exact mulOk_l (by omega) (by omega) | exact mulOk_r (by omega) (by omega) | exact mulOk_bd (a := 1000) (b := 1000) (by assumption) (by assumption) (by decide) (by decide) (by decide) | assumption⟩)) | (with_reducible refine b_mod.mpr (And.symm ⟨?_, by first | omega | assumption⟩)) | (with_reducible refine b_div.mpr (And.symm ⟨?_, by first | exact divOk_of (by omega) (by omega) | assumption⟩)) | (with_reducible refine b_pow.mpr ⟨by decide, ?_⟩) | refine ⟨_, rfl, Eq.refl (penM _ _ _), ?_⟩ | refine ⟨_, rfl, ⟨by omega, by omega⟩, ?_⟩ | refine ⟨_, rfl, ?_⟩ | refine ⟨_, _, rfl, ?_⟩ | refine ⟨_, _, _, rfl, rfl, rfl, ?_⟩ | refine ⟨_, _, rfl, rfl, of_decide_eq_true rfl, ?_⟩ | refine ⟨_, ne_nil _, ?_⟩ | ((with_reducible refine lenOk ?_ ?_); rfl) | refine ⟨_, rfl, rfl, ?_⟩ | with_reducible refine w_rng1.mpr ?_ | with_reducible refine w_rng2.mpr ?_ | ((with_reducible refine ifT ?_ ?_); rfl) | ((with_reducible refine ifF ?_ ?_); rfl))
  refine ⟨_, hp', ?_⟩
  repeat (first | ((with_reducible refine pg_turn ?_ ?_); rfl) | ((with_reducible refine pg_left ?_ ?_); rfl) | ((with_reducible refine pg_cells ?_ ?_); rfl) | ((with_reducible refine ps_turn ?_ ?_); rfl) | ((with_reducible refine ps_left ?_ ?_); rfl) | ((with_reducible refine w_var.mpr ?_); refine ⟨_, rfl, ?_⟩) | with_reducible refine wp_ok.mpr ?_ | with_reducible refine w_int.mpr ?_ | with_reducible refine w_bl.mpr ?_ | with_reducible refine w_non.mpr ?_ | with_reducible refine w_str.mpr ?_ | with_reducible refine w_glob.mpr ?_ | with_reducible refine w_chain.mpr ?_ | with_reducible refine w_ite.mpr ?_ | with_reducible refine w_esn.mpr ?_ | with_reducible refine w_esc.mpr ?_ | with_reducible refine w_tnot.mpr ?_ | with_reducible refine w_tand.mpr ?_ | with_reducible refine w_tor.mpr ?_ | with_reducible refine w_cn.mpr ?_ | with_reducible refine w_c1.mpr ?_ | with_reducible refine w_on.mpr ?_ | with_reducible refine w_rng2.mpr ?_ | with_reducible refine w_gnm.mpr ?_ | with_reducible refine w_kn.mpr ?_ | with_reducible refine w_kc.mpr ?_ | with_reducible refine w_asg.mpr ?_ | with_reducible refine w_par2.mpr ?_ | with_reducible refine w_expr.mpr ?_ | with_reducible refine w_ifs.mpr ?_ | with_reducible refine w_brk.mpr ?_ | with_reducible refine w_cnt.mpr ?_ | with_reducible refine w_pass.mpr ?_ | with_reducible refine w_raise.mpr ?_ | with_reducible refine w_sn.mpr ?_ | with_reducible refine w_sc.mpr ?_ | with_reducible refine w_call.mpr ?_ | with_reducible refine w_and.mpr ?_ | with_reducible refine w_or.mpr ?_ | with_reducible refine w_not.mpr ?_ | with_reducible refine w_neg.mpr ?_ | with_reducible refine w_dget.mpr ?_ | with_reducible refine w_dset.mpr ?_ | with_reducible refine w_gtup.mpr ?_ | with_reducible refine w_gltup.mpr ?_ | with_reducible refine w_gsn.mpr (And.intro rfl ?_) | with_reducible refine w_gsc.mpr ?_ | with_reducible refine w_ilst.mpr ?_ | with_reducible refine w_itup.mpr ?_ | with_reducible refine w_blt.mpr ?_ | with_reducible refine w_isi.mpr ?_ | with_reducible refine w_os.mpr ?_ | with_reducible refine w_idx.mpr ?_ | with_reducible refine w_slc.mpr ?_ | with_reducible refine w_bin.mpr ?_ | with_reducible refine w_cmp.mpr ?_ | with_reducible refine w_tval.mpr ?_ | with_reducible refine w_forr.mpr ?_ | with_reducible refine w_whl.mpr ?_ | with_reducible refine w_lc.mpr ?_ | with_reducible refine w_ret.mpr ?_ | with_reducible refine w_retN.mpr ?_ | (with_reducible refine w_tup.mpr ?_) | (with_reducible refine w_lst.mpr ?_) | (with_reducible refine b_mul.mpr (And.symm ⟨?_, by first | exact mulOk_l (by omega) (by omega) | exact mulOk_r (by omega) (by omega) | exact mulOk_bd (a := 1000) (b := 1000) (by assumption) (by assumption) (by decide) (by decide) (by decide) | assumption⟩)) | (with_reducible refine b_mod.mpr (And.symm ⟨?_, by first | omega | assumption⟩)) | (with_reducible refine b_div.mpr (And.symm ⟨?_, by first | exact divOk_of (by omega) (by omega) | assumption⟩)) | (with_reducible refine b_pow.mpr ⟨by decide, ?_⟩) | refine ⟨_, rfl, Eq.refl (penM _ _ _), ?_⟩ | refine ⟨_, rfl, ⟨by omega, by omega⟩, ?_⟩ | refine ⟨_, rfl, ?_⟩ | refine ⟨_, _, rfl, ?_⟩ | refine ⟨_, _, _, rfl, rfl, rfl, ?_⟩ | refine ⟨_, _, rfl, rfl, of_decide_eq_true rfl, ?_⟩ | refine ⟨_, ne_nil _, ?_⟩ | ((with_reducible refine lenOk ?_ ?_); rfl) | refine ⟨_, rfl, rfl, ?_⟩ | with_reducible refine w_rng1.mpr ?_ | with_reducible refine w_rng2.mpr ?_ | ((with_reducible refine ifT ?_ ?_); rfl) | ((with_reducible refine ifF ?_ ?_); rfl))
  have e0 := Int.emod_nonneg (dr * (dr + 69621)) (b := p') (by omega)
  have e1 := Int.emod_lt_of_pos (dr * (dr + 69621)) (b := p') (by omega)
  generalize dr * (dr + 69621) % p' = dq at *
  repeat (first | ((with_reducible refine pg_turn ?_ ?_); rfl) | ((with_reducible refine pg_left ?_ ?_); rfl) | ((with_reducible refine pg_cells ?_ ?_); rfl) | ((with_reducible refine ps_turn ?_ ?_); rfl) | ((with_reducible refine ps_left ?_ ?_); rfl) | ((with_reducible refine w_var.mpr ?_); refine ⟨_, rfl, ?_⟩) | with_reducible refine wp_ok.mpr ?_ | with_reducible refine w_int.mpr ?_ | with_reducible refine w_bl.mpr ?_ | with_reducible refine w_non.mpr ?_ | with_reducible refine w_str.mpr ?_ | with_reducible refine w_glob.mpr ?_ | with_reducible refine w_chain.mpr ?_ | with_reducible refine w_ite.mpr ?_ | with_reducible refine w_esn.mpr ?_ | with_reducible refine w_esc.mpr ?_ | with_reducible refine w_tnot.mpr ?_ | with_reducible refine w_tand.mpr ?_ | with_reducible refine w_tor.mpr ?_ | with_reducible refine w_cn.mpr ?_ | with_reducible refine w_c1.mpr ?_ | with_reducible refine w_on.mpr ?_ | with_reducible refine w_rng2.mpr ?_ | with_reducible refine w_gnm.mpr ?_ | with_reducible refine w_kn.mpr ?_ | with_reducible refine w_kc.mpr ?_ | with_reducible refine w_asg.mpr ?_ | with_reducible refine w_par2.mpr ?_ | with_reducible refine w_expr.mpr ?_ | with_reducible refine w_ifs.mpr ?_ | with_reducible refine w_brk.mpr ?_ | with_reducible refine w_cnt.mpr ?_ | with_reducible refine w_pass.mpr ?_ | with_reducible refine w_raise.mpr ?_ | with_reducible refine w_sn.mpr ?_ | with_reducible refine w_sc.mpr ?_ | with_reducible refine w_call.mpr ?_ | with_reducible refine w_and.mpr ?_ | with_reducible refine w_or.mpr ?_ | with_reducible refine w_not.mpr ?_ | with_reducible refine w_neg.mpr ?_ | with_reducible refine w_dget.mpr ?_ | with_reducible refine w_dset.mpr ?_ | with_reducible refine w_gtup.mpr ?_ | with_reducible refine w_gltup.mpr ?_ | with_reducible refine w_gsn.mpr (And.intro rfl ?_) | with_reducible refine w_gsc.mpr ?_ | with_reducible refine w_ilst.mpr ?_ | with_reducible refine w_itup.mpr ?_ | with_reducible refine w_blt.mpr ?_ | with_reducible refine w_isi.mpr ?_ | with_reducible refine w_os.mpr ?_ | with_reducible refine w_idx.mpr ?_ | with_reducible refine w_slc.mpr ?_ | with_reducible refine w_bin.mpr ?_ | with_reducible refine w_cmp.mpr ?_ | with_reducible refine w_tval.mpr ?_ | with_reducible refine w_forr.mpr ?_ | with_reducible refine w_whl.mpr ?_ | with_reducible refine w_lc.mpr ?_ | with_reducible refine w_ret.mpr ?_ | with_reducible refine w_retN.mpr ?_ | (with_reducible refine w_tup.mpr ?_) | (with_reducible refine w_lst.mpr ?_) | (with_reducible refine b_mul.mpr (And.symm ⟨?_, by first | exact mulOk_l (by omega) (by omega) | exact mulOk_r (by omega) (by omega) | exact mulOk_bd (a := 1000) (b := 1000) (by assumption) (by assumption) (by decide) (by decide) (by decide) | assumption⟩)) | (with_reducible refine b_mod.mpr (And.symm ⟨?_, by first | omega | assumption⟩)) | (with_reducible refine b_div.mpr (And.symm ⟨?_, by first | exact divOk_of (by omega) (by omega) | assumption⟩)) | (with_reducible refine b_pow.mpr ⟨by decide, ?_⟩) | refine ⟨_, rfl, Eq.refl (penM _ _ _), ?_⟩ | refine ⟨_, rfl, ⟨by omega, by omega⟩, ?_⟩ | refine ⟨_, rfl, ?_⟩ | refine ⟨_, _, rfl, ?_⟩ | refine ⟨_, _, _, rfl, rfl, rfl, ?_⟩ | refine ⟨_, _, rfl, rfl, of_decide_eq_true rfl, ?_⟩ | refine ⟨_, ne_nil _, ?_⟩ | ((with_reducible refine lenOk ?_ ?_); rfl) | refine ⟨_, rfl, rfl, ?_⟩ | with_reducible refine w_rng1.mpr ?_ | with_reducible refine w_rng2.mpr ?_ | ((with_reducible refine ifT ?_ ?_); rfl) | ((with_reducible refine ifF ?_ ?_); rfl))
  exact hK _ (Int.emod_nonneg _ (by omega)) (Int.emod_lt_of_pos _ h1)
theorem draw_tail {Φ : Fns} {K : Ks} {cs : List Int} {t l c many : Int} {ρ : Env'} (hρ : ρ = [some (.ref 0), some (.int many), none, some (.int t), some (.int c), none, none, none]) (h1 : 0 < many) (h2 : many < 2 ^ 64) (ht : 0 ≤ t) (htB : t < 2 ^ 60) (hl : 0 ≤ l)
    (hK : ∀ r l', 0 ≤ r → r < many → 0 ≤ l' → K.rt (.int r) (penM cs (t + 1) l')) : (evSs Φ drawTail ρ (penM cs (t + 1) l)).wp K := by
  subst hρ
  unfold drawTail
  have pr : (evSs Φ drawPrimes [some (.ref 0), some (.int many), none, some (.int t), some (.int c), none, none, none] (penM cs (t + 1) l)).wp K := draw_primes rfl h1 ht htB fun r a b => hK r l a b hl
  repeat (first | ((with_reducible refine pg_turn ?_ ?_); rfl) | ((with_reducible refine pg_left ?_ ?_); rfl) | ((with_reducible refine pg_cells ?_ ?_); rfl) | ((with_reducible refine ps_turn ?_ ?_); rfl) | ((with_reducible refine ps_left ?_ ?_); rfl) | ((with_reducible refine w_var.mpr ?_); refine ⟨_, rfl, ?_⟩) | with_reducible refine wp_ok.mpr ?_ | with_reducible refine w_int.mpr ?_ | with_reducible refine w_bl.mpr ?_ | with_reducible refine w_non.mpr ?_ | with_reducible refine w_str.mpr ?_ | with_reducible refine w_glob.mpr ?_ | with_reducible refine w_chain.mpr ?_ | with_reducible refine w_ite.mpr ?_ | with_reducible refine w_esn.mpr ?_ | with_reducible refine w_esc.mpr ?_ | with_reducible refine w_tnot.mpr ?_ | with_reducible refine w_tand.mpr ?_ | with_reducible refine w_tor.mpr ?_ | with_reducible refine w_cn.mpr ?_ | with_reducible refine w_c1.mpr ?_ | with_reducible refine w_on.mpr ?_ | with_reducible refine w_rng2.mpr ?_ | with_reducible refine w_gnm.mpr ?_ | with_reducible refine w_kn.mpr ?_ | with_reducible refine w_kc.mpr ?_ | with_reducible refine w_asg.mpr ?_ | with_reducible refine w_par2.mpr ?_ | with_reducible refine w_expr.mpr ?_ | with_reducible refine w_ifs.mpr ?_ | with_reducible refine w_brk.mpr ?_ | with_reducible refine w_cnt.mpr ?_ | with_reducible refine w_pass.mpr ?_ | with_reducible refine w_raise.mpr ?_ | with_reducible refine w_sn.mpr ?_ | with_reducible refine w_sc.mpr ?_ | with_reducible refine w_call.mpr ?_ | with_reducible refine w_and.mpr ?_ | with_reducible refine w_or.mpr ?_ | with_reducible refine w_not.mpr ?_ | with_reducible refine w_neg.mpr ?_ | with_reducible refine w_dget.mpr ?_ | with_reducible refine w_dset.mpr ?_ | with_reducible refine w_gtup.mpr ?_ | with_reducible refine w_gltup.mpr ?_ | with_reducible refine w_gsn.mpr (And.intro rfl ?_) | with_reducible refine w_gsc.mpr ?_ | with_reducible refine w_ilst.mpr ?_ | with_reducible refine w_itup.mpr ?_ | with_reducible refine w_blt.mpr ?_ | with_reducible refine w_isi.mpr ?_ | with_reducible refine w_os.mpr ?_ | with_reducible refine w_idx.mpr ?_ | with_reducible refine w_slc.mpr ?_ | with_reducible refine w_bin.mpr ?_ | with_reducible refine w_cmp.mpr ?_ | with_reducible refine w_tval.mpr ?_ | with_reducible refine w_forr.mpr ?_ | with_reducible refine w_whl.mpr ?_ | with_reducible refine w_lc.mpr ?_ | with_reducible refine w_ret.mpr ?_ | with_reducible refine w_retN.mpr ?_ | (with_reducible refine w_tup.mpr ?_) | (with_reducible refine w_lst.mpr ?_) | (with_reducible refine b_mul.mpr (And.symm ⟨?_, by first | exact mulOk_l (by omega) (by omega) | exact mulOk_r (by omega) (by omega) | exact mulOk_bd (a := 1000) (b := 1000) (by assumption) (by assumption) (by decide) (by decide) (by decide) | assumption⟩)) | (with_reducible refine b_mod.mpr (And.symm ⟨?_, by first | omega | assumption⟩)) | (with_reducible refine b_div.mpr (And.symm ⟨?_, by first | exact divOk_of (by omega) (by omega) | assumption⟩)) | (with_reducible refine b_pow.mpr ⟨by decide, ?_⟩) | refine ⟨_, rfl, Eq.refl (penM _ _ _), ?_⟩ | refine ⟨_, rfl, ⟨by omega, by omega⟩, ?_⟩ | refine ⟨_, rfl, ?_⟩ | refine ⟨_, _, rfl, ?_⟩ | refine ⟨_, _, _, rfl, rfl, rfl, ?_⟩ | refine ⟨_, _, rfl, rfl, of_decide_eq_true rfl, ?_⟩ | refine ⟨_, ne_nil _, ?_⟩ | ((with_reducible refine lenOk ?_ ?_); rfl) | refine ⟨_, rfl, rfl, ?_⟩ | with_reducible refine w_rng1.mpr ?_ | with_reducible refine w_rng2.mpr ?_ | ((with_reducible refine ifT ?_ ?_); rfl) | ((with_reducible refine ifF ?_ ?_); rfl))
  split
  · repeat (first | ((with_reducible refine pg_turn ?_ ?_); rfl) | ((with_reducible refine pg_left ?_ ?_); rfl) | ((with_reducible refine pg_cells ?_ ?_); rfl) | ((with_reducible refine ps_turn ?_ ?_); rfl) | ((with_reducible refine ps_left ?_ ?_); rfl) | ((with_reducible refine w_var.mpr ?_); refine ⟨_, rfl, ?_⟩) | with_reducible refine wp_ok.mpr ?_ | with_reducible refine w_int.mpr ?_ | with_reducible refine w_bl.mpr ?_ | with_reducible refine w_non.mpr ?_ | with_reducible refine w_str.mpr ?_ | with_reducible refine w_glob.mpr ?_ | with_reducible refine w_chain.mpr ?_ | with_reducible refine w_ite.mpr ?_ | with_reducible refine w_esn.mpr ?_ | with_reducible refine w_esc.mpr ?_ | with_reducible refine w_tnot.mpr ?_ | with_reducible refine w_tand.mpr ?_ | with_reducible refine w_tor.mpr ?_ | with_reducible refine w_cn.mpr ?_ | with_reducible refine w_c1.mpr ?_ | with_reducible refine w_on.mpr ?_ | with_reducible refine w_rng2.mpr ?_ | with_reducible refine w_gnm.mpr ?_ | with_reducible refine w_kn.mpr ?_ | with_reducible refine w_kc.mpr ?_ | with_reducible refine w_asg.mpr ?_ | with_reducible refine w_par2.mpr ?_ | with_reducible refine w_expr.mpr ?_ | with_reducible refine w_ifs.mpr ?_ | with_reducible refine w_brk.mpr ?_ | with_reducible refine w_cnt.mpr ?_ | with_reducible refine w_pass.mpr ?_ | with_reducible refine w_raise.mpr ?_ | with_reducible refine w_sn.mpr ?_ | with_reducible refine w_sc.mpr ?_ | with_reducible refine w_call.mpr ?_ | with_reducible refine w_and.mpr ?_ | with_reducible refine w_or.mpr ?_ | with_reducible refine w_not.mpr ?_ | with_reducible refine w_neg.mpr ?_ | with_reducible refine w_dget.mpr ?_ | with_reducible refine w_dset.mpr ?_ | with_reducible refine w_gtup.mpr ?_ | with_reducible refine w_gltup.mpr ?_ | with_reducible refine w_gsn.mpr (And.intro rfl ?_) | with_reducible refine w_gsc.mpr ?_ | with_reducible refine w_ilst.mpr ?_ | with_reducible refine w_itup.mpr ?_ | with_reducible refine w_blt.mpr ?_ | with_reducible refine w_isi.mpr ?_ | with_reducible refine w_os.mpr ?_ | with_reducible refine w_idx.mpr ?_ | with_reducible refine w_slc.mpr ?_ | with_reducible refine w_bin.mpr ?_ | with_reducible refine w_cmp.mpr ?_ | with_reducible refine w_tval.mpr ?_ | with_reducible refine w_forr.mpr ?_ | with_reducible refine w_whl.mpr ?_ | with_reducible refine w_lc.mpr ?_ | with_reducible refine w_ret.mpr ?_ | with_reducible refine w_retN.mpr ?_ | (with_reducible refine w_tup.mpr ?_) | (with_reducible refine w_lst.mpr ?_) | (with_reducible refine b_mul.mpr (And.symm ⟨?_, by first | exact mulOk_l (by omega) (by omega) | exact mulOk_r (by omega) (by omega) | exact mulOk_bd (a := 1000) (b := 1000) (by assumption) (by assumption) (by decide) (by decide) (by decide) | assumption⟩)) | (with_reducible refine b_mod.mpr (And.symm ⟨?_, by first | omega | assumption⟩)) | (with_reducible refine b_div.mpr (And.symm ⟨?_, by first | exact divOk_of (by omega) (by omega) | assumption⟩)) | (with_reducible refine b_pow.mpr ⟨by decide, ?_⟩) | refine ⟨_, rfl, Eq.refl (penM _ _ _), ?_⟩ | refine ⟨_, rfl, ⟨by omega, by omega⟩, ?_⟩ | refine ⟨_, rfl, ?_⟩ | refine ⟨_, _, rfl, ?_⟩ | refine ⟨_, _, _, rfl, rfl, rfl, ?_⟩ | refine ⟨_, _, rfl, rfl, of_decide_eq_true rfl, ?_⟩ | refine ⟨_, ne_nil _, ?_⟩ | ((with_reducible refine lenOk ?_ ?_); rfl) | refine ⟨_, rfl, rfl, ?_⟩ | with_reducible refine w_rng1.mpr ?_ | with_reducible refine w_rng2.mpr ?_ | ((with_reducible refine ifT ?_ ?_); rfl) | ((with_reducible refine ifF ?_ ?_); rfl))
    split
    · rename_i q
      have q2 : (10 : Int) ^ 18 ≤ absI c := of_decide_eq_true q
      repeat (first | ((with_reducible refine pg_turn ?_ ?_); rfl) | ((with_reducible refine pg_left ?_ ?_); rfl) | ((with_reducible refine pg_cells ?_ ?_); rfl) | ((with_reducible refine ps_turn ?_ ?_); rfl) | ((with_reducible refine ps_left ?_ ?_); rfl) | ((with_reducible refine w_var.mpr ?_); refine ⟨_, rfl, ?_⟩) | with_reducible refine wp_ok.mpr ?_ | with_reducible refine w_int.mpr ?_ | with_reducible refine w_bl.mpr ?_ | with_reducible refine w_non.mpr ?_ | with_reducible refine w_str.mpr ?_ | with_reducible refine w_glob.mpr ?_ | with_reducible refine w_chain.mpr ?_ | with_reducible refine w_ite.mpr ?_ | with_reducible refine w_esn.mpr ?_ | with_reducible refine w_esc.mpr ?_ | with_reducible refine w_tnot.mpr ?_ | with_reducible refine w_tand.mpr ?_ | with_reducible refine w_tor.mpr ?_ | with_reducible refine w_cn.mpr ?_ | with_reducible refine w_c1.mpr ?_ | with_reducible refine w_on.mpr ?_ | with_reducible refine w_rng2.mpr ?_ | with_reducible refine w_gnm.mpr ?_ | with_reducible refine w_kn.mpr ?_ | with_reducible refine w_kc.mpr ?_ | with_reducible refine w_asg.mpr ?_ | with_reducible refine w_par2.mpr ?_ | with_reducible refine w_expr.mpr ?_ | with_reducible refine w_ifs.mpr ?_ | with_reducible refine w_brk.mpr ?_ | with_reducible refine w_cnt.mpr ?_ | with_reducible refine w_pass.mpr ?_ | with_reducible refine w_raise.mpr ?_ | with_reducible refine w_sn.mpr ?_ | with_reducible refine w_sc.mpr ?_ | with_reducible refine w_call.mpr ?_ | with_reducible refine w_and.mpr ?_ | with_reducible refine w_or.mpr ?_ | with_reducible refine w_not.mpr ?_ | with_reducible refine w_neg.mpr ?_ | with_reducible refine w_dget.mpr ?_ | with_reducible refine w_dset.mpr ?_ | with_reducible refine w_gtup.mpr ?_ | with_reducible refine w_gltup.mpr ?_ | with_reducible refine w_gsn.mpr (And.intro rfl ?_) | with_reducible refine w_gsc.mpr ?_ | with_reducible refine w_ilst.mpr ?_ | with_reducible refine w_itup.mpr ?_ | with_reducible refine w_blt.mpr ?_ | with_reducible refine w_isi.mpr ?_ | with_reducible refine w_os.mpr ?_ | with_reducible refine w_idx.mpr ?_ | with_reducible refine w_slc.mpr ?_ | with_reducible refine w_bin.mpr ?_ | with_reducible refine w_cmp.mpr ?_ | with_reducible refine w_tval.mpr ?_ | with_reducible refine w_forr.mpr ?_ | with_reducible refine w_whl.mpr ?_ | with_reducible refine w_lc.mpr ?_ | with_reducible refine w_ret.mpr ?_ | with_reducible refine w_retN.mpr ?_ | (with_reducible refine w_tup.mpr ?_) | (with_reducible refine w_lst.mpr ?_) | (with_reducible refine b_mul.mpr (And.symm ⟨?_, by first | exact mulOk_l (by omega) (by omega) | exact mulOk_r (by omega) (by omega) | exact mulOk_bd (a := 1000) (b := 1000) (by assumption) (by assumption) (by decide) (by decide) (by decide) | assumption⟩)) | (with_reducible refine b_mod.mpr (And.symm ⟨?_, by first | omega | assumption⟩)) | (with_reducible refine b_div.mpr (And.symm ⟨?_, by first | exact divOk_of (by omega) (by omega) | assumption⟩)) | (with_reducible refine b_pow.mpr ⟨by decide, ?_⟩) | refine ⟨_, rfl, Eq.refl (penM _ _ _), ?_⟩ | refine ⟨_, rfl, ⟨by omega, by omega⟩, ?_⟩ | refine ⟨_, rfl, ?_⟩ | refine ⟨_, _, rfl, ?_⟩ | refine ⟨_, _, _, rfl, rfl, rfl, ?_⟩ | refine ⟨_, _, rfl, rfl, of_decide_eq_true rfl, ?_⟩ | refine ⟨_, ne_nil _, ?_⟩ | ((with_reducible refine lenOk ?_ ?_); rfl) | refine ⟨_, rfl, rfl, ?_⟩ | with_reducible refine w_rng1.mpr ?_ | with_reducible refine w_rng2.mpr ?_ | ((with_reducible refine ifT ?_ ?_); rfl) | ((with_reducible refine ifF ?_ ?_); rfl))
      exact hK _ _ (Int.emod_nonneg _ (by omega)) (Int.emod_lt_of_pos _ h1) (Int.ediv_nonneg (by show (0 : Int) ≤ absI c - 10 ^ 18; omega) (by omega))
    · repeat (first | ((with_reducible refine pg_turn ?_ ?_); rfl) | ((with_reducible refine pg_left ?_ ?_); rfl) | ((with_reducible refine pg_cells ?_ ?_); rfl) | ((with_reducible refine ps_turn ?_ ?_); rfl) | ((with_reducible refine ps_left ?_ ?_); rfl) | ((with_reducible refine w_var.mpr ?_); refine ⟨_, rfl, ?_⟩) | with_reducible refine wp_ok.mpr ?_ | with_reducible refine w_int.mpr ?_ | with_reducible refine w_bl.mpr ?_ | with_reducible refine w_non.mpr ?_ | with_reducible refine w_str.mpr ?_ | with_reducible refine w_glob.mpr ?_ | with_reducible refine w_chain.mpr ?_ | with_reducible refine w_ite.mpr ?_ | with_reducible refine w_esn.mpr ?_ | with_reducible refine w_esc.mpr ?_ | with_reducible refine w_tnot.mpr ?_ | with_reducible refine w_tand.mpr ?_ | with_reducible refine w_tor.mpr ?_ | with_reducible refine w_cn.mpr ?_ | with_reducible refine w_c1.mpr ?_ | with_reducible refine w_on.mpr ?_ | with_reducible refine w_rng2.mpr ?_ | with_reducible refine w_gnm.mpr ?_ | with_reducible refine w_kn.mpr ?_ | with_reducible refine w_kc.mpr ?_ | with_reducible refine w_asg.mpr ?_ | with_reducible refine w_par2.mpr ?_ | with_reducible refine w_expr.mpr ?_ | with_reducible refine w_ifs.mpr ?_ | with_reducible refine w_brk.mpr ?_ | with_reducible refine w_cnt.mpr ?_ | with_reducible refine w_pass.mpr ?_ | with_reducible refine w_raise.mpr ?_ | with_reducible refine w_sn.mpr ?_ | with_reducible refine w_sc.mpr ?_ | with_reducible refine w_call.mpr ?_ | with_reducible refine w_and.mpr ?_ | with_reducible refine w_or.mpr ?_ | with_reducible refine w_not.mpr ?_ | with_reducible refine w_neg.mpr ?_ | with_reducible refine w_dget.mpr ?_ | with_reducible refine w_dset.mpr ?_ | with_reducible refine w_gtup.mpr ?_ | with_reducible refine w_gltup.mpr ?_ | with_reducible refine w_gsn.mpr (And.intro rfl ?_) | with_reducible refine w_gsc.mpr ?_ | with_reducible refine w_ilst.mpr ?_ | with_reducible refine w_itup.mpr ?_ | with_reducible refine w_blt.mpr ?_ | with_reducible refine w_isi.mpr ?_ | with_reducible refine w_os.mpr ?_ | with_reducible refine w_idx.mpr ?_ | with_reducible refine w_slc.mpr ?_ | with_reducible refine w_bin.mpr ?_ | with_reducible refine w_cmp.mpr ?_ | with_reducible refine w_tval.mpr ?_ | with_reducible refine w_forr.mpr ?_ | with_reducible refine w_whl.mpr ?_ | with_reducible refine w_lc.mpr ?_ | with_reducible refine w_ret.mpr ?_ | with_reducible refine w_retN.mpr ?_ | (with_reducible refine w_tup.mpr ?_) | (with_reducible refine w_lst.mpr ?_) | (with_reducible refine b_mul.mpr (And.symm ⟨?_, by first | exact mulOk_l (by omega) (by omega) | exact mulOk_r (by omega) (by omega) | exact mulOk_bd (a := 1000) (b := 1000) (by assumption) (by assumption) (by decide) (by decide) (by decide) | assumption⟩)) | (with_reducible refine b_mod.mpr (And.symm ⟨?_, by first | omega | assumption⟩)) | (with_reducible refine b_div.mpr (And.symm ⟨?_, by first | exact divOk_of (by omega) (by omega) | assumption⟩)) | (with_reducible refine b_pow.mpr ⟨by decide, ?_⟩) | refine ⟨_, rfl, Eq.refl (penM _ _ _), ?_⟩ | refine ⟨_, rfl, ⟨by omega, by omega⟩, ?_⟩ | refine ⟨_, rfl, ?_⟩ | refine ⟨_, _, rfl, ?_⟩ | refine ⟨_, _, _, rfl, rfl, rfl, ?_⟩ | refine ⟨_, _, rfl, rfl, of_decide_eq_true rfl, ?_⟩ | refine ⟨_, ne_nil _, ?_⟩ | ((with_reducible refine lenOk ?_ ?_); rfl) | refine ⟨_, rfl, rfl, ?_⟩ | with_reducible refine w_rng1.mpr ?_ | with_reducible refine w_rng2.mpr ?_ | ((with_reducible refine ifT ?_ ?_); rfl) | ((with_reducible refine ifF ?_ ?_); rfl))
      exact pr
  · repeat (first | ((with_reducible refine pg_turn ?_ ?_); rfl) | ((with_reducible refine pg_left ?_ ?_); rfl) | ((with_reducible refine pg_cells ?_ ?_); rfl) | ((with_reducible refine ps_turn ?_ ?_); rfl) | ((with_reducible refine ps_left ?_ ?_); rfl) | ((with_reducible refine w_var.mpr ?_); refine ⟨_, rfl, ?_⟩) | with_reducible refine wp_ok.mpr ?_ | with_reducible refine w_int.mpr ?_ | with_reducible refine w_bl.mpr ?_ | with_reducible refine w_non.mpr ?_ | with_reducible refine w_str.mpr ?_ | with_reducible refine w_glob.mpr ?_ | with_reducible refine w_chain.mpr ?_ | with_reducible refine w_ite.mpr ?_ | with_reducible refine w_esn.mpr ?_ | with_reducible refine w_esc.mpr ?_ | with_reducible refine w_tnot.mpr ?_ | with_reducible refine w_tand.mpr ?_ | with_reducible refine w_tor.mpr ?_ | with_reducible refine w_cn.mpr ?_ | with_reducible refine w_c1.mpr ?_ | with_reducible refine w_on.mpr ?_ | with_reducible refine w_rng2.mpr ?_ | with_reducible refine w_gnm.mpr ?_ | with_reducible refine w_kn.mpr ?_ | with_reducible refine w_kc.mpr ?_ | with_reducible refine w_asg.mpr ?_ | with_reducible refine w_par2.mpr ?_ | with_reducible refine w_expr.mpr ?_ | with_reducible refine w_ifs.mpr ?_ | with_reducible refine w_brk.mpr ?_ | with_reducible refine w_cnt.mpr ?_ | with_reducible refine w_pass.mpr ?_ | with_reducible refine w_raise.mpr ?_ | with_reducible refine w_sn.mpr ?_ | with_reducible refine w_sc.mpr ?_ | with_reducible refine w_call.mpr ?_ | with_reducible refine w_and.mpr ?_ | with_reducible refine w_or.mpr ?_ | with_reducible refine w_not.mpr ?_ | with_reducible refine w_neg.mpr ?_ | with_reducible refine w_dget.mpr ?_ | with_reducible refine w_dset.mpr ?_ | with_reducible refine w_gtup.mpr ?_ | with_reducible refine w_gltup.mpr ?_ | with_reducible refine w_gsn.mpr (And.intro rfl ?_) | with_reducible refine w_gsc.mpr ?_ | with_reducible refine w_ilst.mpr ?_ | with_reducible refine w_itup.mpr ?_ | with_reducible refine w_blt.mpr ?_ | with_reducible refine w_isi.mpr ?_ | with_reducible refine w_os.mpr ?_ | with_reducible refine w_idx.mpr ?_ | with_reducible refine w_slc.mpr ?_ | with_reducible refine w_bin.mpr ?_ | with_reducible refine w_cmp.mpr ?_ | with_reducible refine w_tval.mpr ?_ | with_reducible refine w_forr.mpr ?_ | with_reducible refine w_whl.mpr ?_ | with_reducible refine w_lc.mpr ?_ | with_reducible refine w_ret.mpr ?_ | with_reducible refine w_retN.mpr ?_ | (with_reducible refine w_tup.mpr ?_) | (with_reducible refine w_lst.mpr ?_) | (with_reducible refine b_mul.mpr (And.symm ⟨?_, by first | exact mulOk_l (by omega) (by omega) | exact mulOk_r (by omega) (by omega) | exact mulOk_bd (a := 1000) (b := 1000) (by assumption) (by assumption) (by decide) (by decide) (by decide) | assumption⟩)) | (with_reducible refine b_mod.mpr (And.symm ⟨?_, by first | omega | assumption⟩)) | (with_reducible refine b_div.mpr (And.symm ⟨?_, by first | exact divOk_of (by omega) (by omega) | assumption⟩)) | (with_reducible refine b_pow.mpr ⟨by decide, ?_⟩) | refine ⟨_, rfl, Eq.refl (penM _ _ _), ?_⟩ | refine ⟨_, rfl, ⟨by omega, by omega⟩, ?_⟩ | refine ⟨_, rfl, ?_⟩ | refine ⟨_, _, rfl, ?_⟩ | refine ⟨_, _, _, rfl, rfl, rfl, ?_⟩ | refine ⟨_, _, rfl, rfl, of_decide_eq_true rfl, ?_⟩ | refine ⟨_, ne_nil _, ?_⟩ | ((with_reducible refine lenOk ?_ ?_); rfl) | refine ⟨_, rfl, rfl, ?_⟩ | with_reducible refine w_rng1.mpr ?_ | with_reducible refine w_rng2.mpr ?_ | ((with_reducible refine ifT ?_ ?_); rfl) | ((with_reducible refine ifF ?_ ?_); rfl))
    exact pr
theorem draw_ok {Φ : Fns} {B : Nat} {many : Int} {μ : Mem} {Q : D → Mem → Prop} {E : EX} (hp : Pen B μ) (h1 : 0 < many) (h2 : many < 2 ^ 64) (hB : B < 2 ^ 60) (hQ : ∀ r μ', 0 ≤ r → r < many → Pen (B + 1) μ' → Q (.int r) μ') :
    (runF Φ f_draw [.ref 0, .int many] μ).wp Q E := by
  obtain ⟨cs, t, l, rfl, hc, ht, htB, hl⟩ := hp
  refine run_wp2 [some (.ref 0), some (.int many), none, none, none, none, none, none] rfl rfl ?_
  unfold f_draw
  have fi : ∀ r l', 0 ≤ r → r < many → 0 ≤ l' → (fin (penM cs t l).length (.int r) (penM cs (t + 1) l')).wp Q E := fun r l' a b c => by
    have q : Pen (B + 1) (penM cs (t + 1) l') := ⟨cs, t + 1, l', rfl, hc, by omega, by omega, c⟩
    exact fin_pen q rfl (hQ _ _ a b q)
  repeat (first | ((with_reducible refine pg_turn ?_ ?_); rfl) | ((with_reducible refine pg_left ?_ ?_); rfl) | ((with_reducible refine pg_cells ?_ ?_); rfl) | ((with_reducible refine ps_turn ?_ ?_); rfl) | ((with_reducible refine ps_left ?_ ?_); rfl) | ((with_reducible refine w_var.mpr ?_); refine ⟨_, rfl, ?_⟩) | with_reducible refine wp_ok.mpr ?_ | with_reducible refine w_int.mpr ?_ | with_reducible refine w_bl.mpr ?_ | with_reducible refine w_non.mpr ?_ | with_reducible refine w_str.mpr ?_ | with_reducible refine w_glob.mpr ?_ | with_reducible refine w_chain.mpr ?_ | with_reducible refine w_ite.mpr ?_ | with_reducible refine w_esn.mpr ?_ | with_reducible refine w_esc.mpr ?_ | with_reducible refine w_tnot.mpr ?_ | with_reducible refine w_tand.mpr ?_ | with_reducible refine w_tor.mpr ?_ | with_reducible refine w_cn.mpr ?_ | with_reducible refine w_c1.mpr ?_ | with_reducible refine w_on.mpr ?_ | with_reducible refine w_rng2.mpr ?_ | with_reducible refine w_gnm.mpr ?_ | with_reducible refine w_kn.mpr ?_ | with_reducible refine w_kc.mpr ?_ | with_reducible refine w_asg.mpr ?_ | with_reducible refine w_par2.mpr ?_ | with_reducible refine w_expr.mpr ?_ | with_reducible refine w_ifs.mpr ?_ | with_reducible refine w_brk.mpr ?_ | with_reducible refine w_cnt.mpr ?_ | with_reducible refine w_pass.mpr ?_ | with_reducible refine w_raise.mpr ?_ | with_reducible refine w_sn.mpr ?_ | with_reducible refine w_sc.mpr ?_ | with_reducible refine w_call.mpr ?_ | with_reducible refine w_and.mpr ?_ | with_reducible refine w_or.mpr ?_ | with_reducible refine w_not.mpr ?_ | with_reducible refine w_neg.mpr ?_ | with_reducible refine w_dget.mpr ?_ | with_reducible refine w_dset.mpr ?_ | with_reducible refine w_gtup.mpr ?_ | with_reducible refine w_gltup.mpr ?_ | with_reducible refine w_gsn.mpr (And.intro rfl ?_) | with_reducible refine w_gsc.mpr ?_ | with_reducible refine w_ilst.mpr ?_ | with_reducible refine w_itup.mpr ?_ | with_reducible refine w_blt.mpr ?_ | with_reducible refine w_isi.mpr ?_ | with_reducible refine w_os.mpr ?_ | with_reducible refine w_idx.mpr ?_ | with_reducible refine w_slc.mpr ?_ | with_reducible refine w_bin.mpr ?_ | with_reducible refine w_cmp.mpr ?_ | with_reducible refine w_tval.mpr ?_ | with_reducible refine w_forr.mpr ?_ | with_reducible refine w_whl.mpr ?_ | with_reducible refine w_lc.mpr ?_ | with_reducible refine w_ret.mpr ?_ | with_reducible refine w_retN.mpr ?_ | (with_reducible refine w_tup.mpr ?_) | (with_reducible refine w_lst.mpr ?_) | (with_reducible refine b_mul.mpr (And.symm ⟨?_, by first | exact mulOk_l (by omega) (by omega) | exact mulOk_r (by omega) (by omega) | exact mulOk_bd (a := 1000) (b := 1000) (by assumption) (by assumption) (by decide) (by decide) (by decide) | assumption⟩)) | (with_reducible refine b_mod.mpr (And.symm ⟨?_, by first | omega | assumption⟩)) | (with_reducible refine b_div.mpr (And.symm ⟨?_, by first | exact divOk_of (by omega) (by omega) | assumption⟩)) | (with_reducible refine b_pow.mpr ⟨by decide, ?_⟩) | refine ⟨_, rfl, Eq.refl (penM _ _ _), ?_⟩ | refine ⟨_, rfl, ⟨by omega, by omega⟩, ?_⟩ | refine ⟨_, rfl, ?_⟩ | refine ⟨_, _, rfl, ?_⟩ | refine ⟨_, _, _, rfl, rfl, rfl, ?_⟩ | refine ⟨_, _, rfl, rfl, of_decide_eq_true rfl, ?_⟩ | refine ⟨_, ne_nil _, ?_⟩ | ((with_reducible refine lenOk ?_ ?_); rfl) | refine ⟨_, rfl, rfl, ?_⟩ | with_reducible refine w_rng1.mpr ?_ | with_reducible refine w_rng2.mpr ?_ | ((with_reducible refine ifT ?_ ?_); rfl) | ((with_reducible refine ifF ?_ ?_); rfl))
  split
  · rename_i hl0
    repeat (first | ((with_reducible refine pg_turn ?_ ?_); rfl) | ((with_reducible refine pg_left ?_ ?_); rfl) | ((with_reducible refine pg_cells ?_ ?_); rfl) | ((with_reducible refine ps_turn ?_ ?_); rfl) | ((with_reducible refine ps_left ?_ ?_); rfl) | ((with_reducible refine w_var.mpr ?_); refine ⟨_, rfl, ?_⟩) | with_reducible refine wp_ok.mpr ?_ | with_reducible refine w_int.mpr ?_ | with_reducible refine w_bl.mpr ?_ | with_reducible refine w_non.mpr ?_ | with_reducible refine w_str.mpr ?_ | with_reducible refine w_glob.mpr ?_ | with_reducible refine w_chain.mpr ?_ | with_reducible refine w_ite.mpr ?_ | with_reducible refine w_esn.mpr ?_ | with_reducible refine w_esc.mpr ?_ | with_reducible refine w_tnot.mpr ?_ | with_reducible refine w_tand.mpr ?_ | with_reducible refine w_tor.mpr ?_ | with_reducible refine w_cn.mpr ?_ | with_reducible refine w_c1.mpr ?_ | with_reducible refine w_on.mpr ?_ | with_reducible refine w_rng2.mpr ?_ | with_reducible refine w_gnm.mpr ?_ | with_reducible refine w_kn.mpr ?_ | with_reducible refine w_kc.mpr ?_ | with_reducible refine w_asg.mpr ?_ | with_reducible refine w_par2.mpr ?_ | with_reducible refine w_expr.mpr ?_ | with_reducible refine w_ifs.mpr ?_ | with_reducible refine w_brk.mpr ?_ | with_reducible refine w_cnt.mpr ?_ | with_reducible refine w_pass.mpr ?_ | with_reducible refine w_raise.mpr ?_ | with_reducible refine w_sn.mpr ?_ | with_reducible refine w_sc.mpr ?_ | with_reducible refine w_call.mpr ?_ | with_reducible refine w_and.mpr ?_ | with_reducible refine w_or.mpr ?_ | with_reducible refine w_not.mpr ?_ | with_reducible refine w_neg.mpr ?_ | with_reducible refine w_dget.mpr ?_ | with_reducible refine w_dset.mpr ?_ | with_reducible refine w_gtup.mpr ?_ | with_reducible refine w_gltup.mpr ?_ | with_reducible refine w_gsn.mpr (And.intro rfl ?_) | with_reducible refine w_gsc.mpr ?_ | with_reducible refine w_ilst.mpr ?_ | with_reducible refine w_itup.mpr ?_ | with_reducible refine w_blt.mpr ?_ | with_reducible refine w_isi.mpr ?_ | with_reducible refine w_os.mpr ?_ | with_reducible refine w_idx.mpr ?_ | with_reducible refine w_slc.mpr ?_ | with_reducible refine w_bin.mpr ?_ | with_reducible refine w_cmp.mpr ?_ | with_reducible refine w_tval.mpr ?_ | with_reducible refine w_forr.mpr ?_ | with_reducible refine w_whl.mpr ?_ | with_reducible refine w_lc.mpr ?_ | with_reducible refine w_ret.mpr ?_ | with_reducible refine w_retN.mpr ?_ | (with_reducible refine w_tup.mpr ?_) | (with_reducible refine w_lst.mpr ?_) | (with_reducible refine b_mul.mpr (And.symm ⟨?_, by first | exact mulOk_l (by omega) (by omega) | exact mulOk_r (by omega) (by omega) | exact mulOk_bd (a := 1000) (b := 1000) (by assumption) (by assumption) (by decide) (by decide) (by decide) | assumption⟩)) | (with_reducible refine b_mod.mpr (And.symm ⟨?_, by first | omega | assumption⟩)) | (with_reducible refine b_div.mpr (And.symm ⟨?_, by first | exact divOk_of (by omega) (by omega) | assumption⟩)) | (with_reducible refine b_pow.mpr ⟨by decide, ?_⟩) | refine ⟨_, rfl, Eq.refl (penM _ _ _), ?_⟩ | refine ⟨_, rfl, ⟨by omega, by omega⟩, ?_⟩ | refine ⟨_, rfl, ?_⟩ | refine ⟨_, _, rfl, ?_⟩ | refine ⟨_, _, _, rfl, rfl, rfl, ?_⟩ | refine ⟨_, _, rfl, rfl, of_decide_eq_true rfl, ?_⟩ | refine ⟨_, ne_nil _, ?_⟩ | ((with_reducible refine lenOk ?_ ?_); rfl) | refine ⟨_, rfl, rfl, ?_⟩ | with_reducible refine w_rng1.mpr ?_ | with_reducible refine w_rng2.mpr ?_ | ((with_reducible refine ifT ?_ ?_); rfl) | ((with_reducible refine ifF ?_ ?_); rfl))
    have q : Pen (B + 1) (penM cs t (l / many)) := ⟨cs, t, l / many, rfl, hc, ht, by omega, Int.ediv_nonneg hl (by omega)⟩
    exact fin_pen q rfl (hQ _ _ (Int.emod_nonneg _ (by omega)) (Int.emod_lt_of_pos _ h1) q)
  · repeat (first | ((with_reducible refine pg_turn ?_ ?_); rfl) | ((with_reducible refine pg_left ?_ ?_); rfl) | ((with_reducible refine pg_cells ?_ ?_); rfl) | ((with_reducible refine ps_turn ?_ ?_); rfl) | ((with_reducible refine ps_left ?_ ?_); rfl) | ((with_reducible refine w_var.mpr ?_); refine ⟨_, rfl, ?_⟩) | with_reducible refine wp_ok.mpr ?_ | with_reducible refine w_int.mpr ?_ | with_reducible refine w_bl.mpr ?_ | with_reducible refine w_non.mpr ?_ | with_reducible refine w_str.mpr ?_ | with_reducible refine w_glob.mpr ?_ | with_reducible refine w_chain.mpr ?_ | with_reducible refine w_ite.mpr ?_ | with_reducible refine w_esn.mpr ?_ | with_reducible refine w_esc.mpr ?_ | with_reducible refine w_tnot.mpr ?_ | with_reducible refine w_tand.mpr ?_ | with_reducible refine w_tor.mpr ?_ | with_reducible refine w_cn.mpr ?_ | with_reducible refine w_c1.mpr ?_ | with_reducible refine w_on.mpr ?_ | with_reducible refine w_rng2.mpr ?_ | with_reducible refine w_gnm.mpr ?_ | with_reducible refine w_kn.mpr ?_ | with_reducible refine w_kc.mpr ?_ | with_reducible refine w_asg.mpr ?_ | with_reducible refine w_par2.mpr ?_ | with_reducible refine w_expr.mpr ?_ | with_reducible refine w_ifs.mpr ?_ | with_reducible refine w_brk.mpr ?_ | with_reducible refine w_cnt.mpr ?_ | with_reducible refine w_pass.mpr ?_ | with_reducible refine w_raise.mpr ?_ | with_reducible refine w_sn.mpr ?_ | with_reducible refine w_sc.mpr ?_ | with_reducible refine w_call.mpr ?_ | with_reducible refine w_and.mpr ?_ | with_reducible refine w_or.mpr ?_ | with_reducible refine w_not.mpr ?_ | with_reducible refine w_neg.mpr ?_ | with_reducible refine w_dget.mpr ?_ | with_reducible refine w_dset.mpr ?_ | with_reducible refine w_gtup.mpr ?_ | with_reducible refine w_gltup.mpr ?_ | with_reducible refine w_gsn.mpr (And.intro rfl ?_) | with_reducible refine w_gsc.mpr ?_ | with_reducible refine w_ilst.mpr ?_ | with_reducible refine w_itup.mpr ?_ | with_reducible refine w_blt.mpr ?_ | with_reducible refine w_isi.mpr ?_ | with_reducible refine w_os.mpr ?_ | with_reducible refine w_idx.mpr ?_ | with_reducible refine w_slc.mpr ?_ | with_reducible refine w_bin.mpr ?_ | with_reducible refine w_cmp.mpr ?_ | with_reducible refine w_tval.mpr ?_ | with_reducible refine w_forr.mpr ?_ | with_reducible refine w_whl.mpr ?_ | with_reducible refine w_lc.mpr ?_ | with_reducible refine w_ret.mpr ?_ | with_reducible refine w_retN.mpr ?_ | (with_reducible refine w_tup.mpr ?_) | (with_reducible refine w_lst.mpr ?_) | (with_reducible refine b_mul.mpr (And.symm ⟨?_, by first | exact mulOk_l (by omega) (by omega) | exact mulOk_r (by omega) (by omega) | exact mulOk_bd (a := 1000) (b := 1000) (by assumption) (by assumption) (by decide) (by decide) (by decide) | assumption⟩)) | (with_reducible refine b_mod.mpr (And.symm ⟨?_, by first | omega | assumption⟩)) | (with_reducible refine b_div.mpr (And.symm ⟨?_, by first | exact divOk_of (by omega) (by omega) | assumption⟩)) | (with_reducible refine b_pow.mpr ⟨by decide, ?_⟩) | refine ⟨_, rfl, Eq.refl (penM _ _ _), ?_⟩ | refine ⟨_, rfl, ⟨by omega, by omega⟩, ?_⟩ | refine ⟨_, rfl, ?_⟩ | refine ⟨_, _, rfl, ?_⟩ | refine ⟨_, _, _, rfl, rfl, rfl, ?_⟩ | refine ⟨_, _, rfl, rfl, of_decide_eq_true rfl, ?_⟩ | refine ⟨_, ne_nil _, ?_⟩ | ((with_reducible refine lenOk ?_ ?_); rfl) | refine ⟨_, rfl, rfl, ?_⟩ | with_reducible refine w_rng1.mpr ?_ | with_reducible refine w_rng2.mpr ?_ | ((with_reducible refine ifT ?_ ?_); rfl) | ((with_reducible refine ifF ?_ ?_); rfl))
    by_cases hcs : cs = []
    · subst hcs
      repeat (first | ((with_reducible refine pg_turn ?_ ?_); rfl) | ((with_reducible refine pg_left ?_ ?_); rfl) | ((with_reducible refine pg_cells ?_ ?_); rfl) | ((with_reducible refine ps_turn ?_ ?_); rfl) | ((with_reducible refine ps_left ?_ ?_); rfl) | ((with_reducible refine w_var.mpr ?_); refine ⟨_, rfl, ?_⟩) | with_reducible refine wp_ok.mpr ?_ | with_reducible refine w_int.mpr ?_ | with_reducible refine w_bl.mpr ?_ | with_reducible refine w_non.mpr ?_ | with_reducible refine w_str.mpr ?_ | with_reducible refine w_glob.mpr ?_ | with_reducible refine w_chain.mpr ?_ | with_reducible refine w_ite.mpr ?_ | with_reducible refine w_esn.mpr ?_ | with_reducible refine w_esc.mpr ?_ | with_reducible refine w_tnot.mpr ?_ | with_reducible refine w_tand.mpr ?_ | with_reducible refine w_tor.mpr ?_ | with_reducible refine w_cn.mpr ?_ | with_reducible refine w_c1.mpr ?_ | with_reducible refine w_on.mpr ?_ | with_reducible refine w_rng2.mpr ?_ | with_reducible refine w_gnm.mpr ?_ | with_reducible refine w_kn.mpr ?_ | with_reducible refine w_kc.mpr ?_ | with_reducible refine w_asg.mpr ?_ | with_reducible refine w_par2.mpr ?_ | with_reducible refine w_expr.mpr ?_ | with_reducible refine w_ifs.mpr ?_ | with_reducible refine w_brk.mpr ?_ | with_reducible refine w_cnt.mpr ?_ | with_reducible refine w_pass.mpr ?_ | with_reducible refine w_raise.mpr ?_ | with_reducible refine w_sn.mpr ?_ | with_reducible refine w_sc.mpr ?_ | with_reducible refine w_call.mpr ?_ | with_reducible refine w_and.mpr ?_ | with_reducible refine w_or.mpr ?_ | with_reducible refine w_not.mpr ?_ | with_reducible refine w_neg.mpr ?_ | with_reducible refine w_dget.mpr ?_ | with_reducible refine w_dset.mpr ?_ | with_reducible refine w_gtup.mpr ?_ | with_reducible refine w_gltup.mpr ?_ | with_reducible refine w_gsn.mpr (And.intro rfl ?_) | with_reducible refine w_gsc.mpr ?_ | with_reducible refine w_ilst.mpr ?_ | with_reducible refine w_itup.mpr ?_ | with_reducible refine w_blt.mpr ?_ | with_reducible refine w_isi.mpr ?_ | with_reducible refine w_os.mpr ?_ | with_reducible refine w_idx.mpr ?_ | with_reducible refine w_slc.mpr ?_ | with_reducible refine w_bin.mpr ?_ | with_reducible refine w_cmp.mpr ?_ | with_reducible refine w_tval.mpr ?_ | with_reducible refine w_forr.mpr ?_ | with_reducible refine w_whl.mpr ?_ | with_reducible refine w_lc.mpr ?_ | with_reducible refine w_ret.mpr ?_ | with_reducible refine w_retN.mpr ?_ | (with_reducible refine w_tup.mpr ?_) | (with_reducible refine w_lst.mpr ?_) | (with_reducible refine b_mul.mpr (And.symm ⟨?_, by first | exact mulOk_l (by omega) (by omega) | exact mulOk_r (by omega) (by omega) | exact mulOk_bd (a := 1000) (b := 1000) (by assumption) (by assumption) (by decide) (by decide) (by decide) | assumption⟩)) | (with_reducible refine b_mod.mpr (And.symm ⟨?_, by first | omega | assumption⟩)) | (with_reducible refine b_div.mpr (And.symm ⟨?_, by first | exact divOk_of (by omega) (by omega) | assumption⟩)) | (with_reducible refine b_pow.mpr ⟨by decide, ?_⟩) | refine ⟨_, rfl, Eq.refl (penM _ _ _), ?_⟩ | refine ⟨_, rfl, ⟨by omega, by omega⟩, ?_⟩ | refine ⟨_, rfl, ?_⟩ | refine ⟨_, _, rfl, ?_⟩ | refine ⟨_, _, _, rfl, rfl, rfl, ?_⟩ | refine ⟨_, _, rfl, rfl, of_decide_eq_true rfl, ?_⟩ | refine ⟨_, ne_nil _, ?_⟩ | ((with_reducible refine lenOk ?_ ?_); rfl) | refine ⟨_, rfl, rfl, ?_⟩ | with_reducible refine w_rng1.mpr ?_ | with_reducible refine w_rng2.mpr ?_ | ((with_reducible refine ifT ?_ ?_); rfl) | ((with_reducible refine ifF ?_ ?_); rfl))
      exact draw_tail rfl h1 h2 ht (by omega) hl fi
    · rw [decide_eq_false hcs, Bool.not_false, if_pos rfl]
      have hn : 0 < cs.length := List.length_pos_iff.mpr hcs
      repeat (first | ((with_reducible refine pg_turn ?_ ?_); rfl) | ((with_reducible refine pg_left ?_ ?_); rfl) | ((with_reducible refine pg_cells ?_ ?_); rfl) | ((with_reducible refine ps_turn ?_ ?_); rfl) | ((with_reducible refine ps_left ?_ ?_); rfl) | ((with_reducible refine w_var.mpr ?_); refine ⟨_, rfl, ?_⟩) | with_reducible refine wp_ok.mpr ?_ | with_reducible refine w_int.mpr ?_ | with_reducible refine w_bl.mpr ?_ | with_reducible refine w_non.mpr ?_ | with_reducible refine w_str.mpr ?_ | with_reducible refine w_glob.mpr ?_ | with_reducible refine w_chain.mpr ?_ | with_reducible refine w_ite.mpr ?_ | with_reducible refine w_esn.mpr ?_ | with_reducible refine w_esc.mpr ?_ | with_reducible refine w_tnot.mpr ?_ | with_reducible refine w_tand.mpr ?_ | with_reducible refine w_tor.mpr ?_ | with_reducible refine w_cn.mpr ?_ | with_reducible refine w_c1.mpr ?_ | with_reducible refine w_on.mpr ?_ | with_reducible refine w_rng2.mpr ?_ | with_reducible refine w_gnm.mpr ?_ | with_reducible refine w_kn.mpr ?_ | with_reducible refine w_kc.mpr ?_ | with_reducible refine w_asg.mpr ?_ | with_reducible refine w_par2.mpr ?_ | with_reducible refine w_expr.mpr ?_ | with_reducible refine w_ifs.mpr ?_ | with_reducible refine w_brk.mpr ?_ | with_reducible refine w_cnt.mpr ?_ | with_reducible refine w_pass.mpr ?_ | with_reducible refine w_raise.mpr ?_ | with_reducible refine w_sn.mpr ?_ | with_reducible refine w_sc.mpr ?_ | with_reducible refine w_call.mpr ?_ | with_reducible refine w_and.mpr ?_ | with_reducible refine w_or.mpr ?_ | with_reducible refine w_not.mpr ?_ | with_reducible refine w_neg.mpr ?_ | with_reducible refine w_dget.mpr ?_ | with_reducible refine w_dset.mpr ?_ | with_reducible refine w_gtup.mpr ?_ | with_reducible refine w_gltup.mpr ?_ | with_reducible refine w_gsn.mpr (And.intro rfl ?_) | with_reducible refine w_gsc.mpr ?_ | with_reducible refine w_ilst.mpr ?_ | with_reducible refine w_itup.mpr ?_ | with_reducible refine w_blt.mpr ?_ | with_reducible refine w_isi.mpr ?_ | with_reducible refine w_os.mpr ?_ | with_reducible refine w_idx.mpr ?_ | with_reducible refine w_slc.mpr ?_ | with_reducible refine w_bin.mpr ?_ | with_reducible refine w_cmp.mpr ?_ | with_reducible refine w_tval.mpr ?_ | with_reducible refine w_forr.mpr ?_ | with_reducible refine w_whl.mpr ?_ | with_reducible refine w_lc.mpr ?_ | with_reducible refine w_ret.mpr ?_ | with_reducible refine w_retN.mpr ?_ | (with_reducible refine w_tup.mpr ?_) | (with_reducible refine w_lst.mpr ?_) | (with_reducible refine b_mul.mpr (And.symm ⟨?_, by first | exact mulOk_l (by omega) (by omega) | exact mulOk_r (by omega) (by omega) | exact mulOk_bd (a := 1000) (b := 1000) (by assumption) (by assumption) (by decide) (by decide) (by decide) | assumption⟩)) | (with_reducible refine b_mod.mpr (And.symm ⟨?_, by first | omega | assumption⟩)) | (with_reducible refine b_div.mpr (And.symm ⟨?_, by first | exact divOk_of (by omega) (by omega) | assumption⟩)) | (with_reducible refine b_pow.mpr ⟨by decide, ?_⟩) | refine ⟨_, rfl, Eq.refl (penM _ _ _), ?_⟩ | refine ⟨_, rfl, ⟨by omega, by omega⟩, ?_⟩ | refine ⟨_, rfl, ?_⟩ | refine ⟨_, _, rfl, ?_⟩ | refine ⟨_, _, _, rfl, rfl, rfl, ?_⟩ | refine ⟨_, _, rfl, rfl, of_decide_eq_true rfl, ?_⟩ | refine ⟨_, ne_nil _, ?_⟩ | ((with_reducible refine lenOk ?_ ?_); rfl) | refine ⟨_, rfl, rfl, ?_⟩ | with_reducible refine w_rng1.mpr ?_ | with_reducible refine w_rng2.mpr ?_ | ((with_reducible refine ifT ?_ ?_); rfl) | ((with_reducible refine ifF ?_ ?_); rfl))
      refine b_mod.mpr ⟨by rw [List.length_map]; omega, ?_⟩
      obtain ⟨c, hc2⟩ := atI_ints (cs := cs) (i := t % ((cs.map D.int).length : Int)) (Int.emod_nonneg _ (by rw [List.length_map]; omega)) (by rw [List.length_map]; exact Int.emod_lt_of_pos _ (by omega))
      refine ⟨_, hc2, ?_⟩
      repeat (first | ((with_reducible refine pg_turn ?_ ?_); rfl) | ((with_reducible refine pg_left ?_ ?_); rfl) | ((with_reducible refine pg_cells ?_ ?_); rfl) | ((with_reducible refine ps_turn ?_ ?_); rfl) | ((with_reducible refine ps_left ?_ ?_); rfl) | ((with_reducible refine w_var.mpr ?_); refine ⟨_, rfl, ?_⟩) | with_reducible refine wp_ok.mpr ?_ | with_reducible refine w_int.mpr ?_ | with_reducible refine w_bl.mpr ?_ | with_reducible refine w_non.mpr ?_ | with_reducible refine w_str.mpr ?_ | with_reducible refine w_glob.mpr ?_ | with_reducible refine w_chain.mpr ?_ | with_reducible refine w_ite.mpr ?_ | with_reducible refine w_esn.mpr ?_ | with_reducible refine w_esc.mpr ?_ | with_reducible refine w_tnot.mpr ?_ | with_reducible refine w_tand.mpr ?_ | with_reducible refine w_tor.mpr ?_ | with_reducible refine w_cn.mpr ?_ | with_reducible refine w_c1.mpr ?_ | with_reducible refine w_on.mpr ?_ | with_reducible refine w_rng2.mpr ?_ | with_reducible refine w_gnm.mpr ?_ | with_reducible refine w_kn.mpr ?_ | with_reducible refine w_kc.mpr ?_ | with_reducible refine w_asg.mpr ?_ | with_reducible refine w_par2.mpr ?_ | with_reducible refine w_expr.mpr ?_ | with_reducible refine w_ifs.mpr ?_ | with_reducible refine w_brk.mpr ?_ | with_reducible refine w_cnt.mpr ?_ | with_reducible refine w_pass.mpr ?_ | with_reducible refine w_raise.mpr ?_ | with_reducible refine w_sn.mpr ?_ | with_reducible refine w_sc.mpr ?_ | with_reducible refine w_call.mpr ?_ | with_reducible refine w_and.mpr ?_ | with_reducible refine w_or.mpr ?_ | with_reducible refine w_not.mpr ?_ | with_reducible refine w_neg.mpr ?_ | with_reducible refine w_dget.mpr ?_ | with_reducible refine w_dset.mpr ?_ | with_reducible refine w_gtup.mpr ?_ | with_reducible refine w_gltup.mpr ?_ | with_reducible refine w_gsn.mpr (And.intro rfl ?_) | with_reducible refine w_gsc.mpr ?_ | with_reducible refine w_ilst.mpr ?_ | with_reducible refine w_itup.mpr ?_ | with_reducible refine w_blt.mpr ?_ | with_reducible refine w_isi.mpr ?_ | with_reducible refine w_os.mpr ?_ | with_reducible refine w_idx.mpr ?_ | with_reducible refine w_slc.mpr ?_ | with_reducible refine w_bin.mpr ?_ | with_reducible refine w_cmp.mpr ?_ | with_reducible refine w_tval.mpr ?_ | with_reducible refine w_forr.mpr ?_ | with_reducible refine w_whl.mpr ?_ | with_reducible refine w_lc.mpr ?_ | with_reducible refine w_ret.mpr ?_ | with_reducible refine w_retN.mpr ?_ | (with_reducible refine w_tup.mpr ?_) | (with_reducible refine w_lst.mpr ?_) | (with_reducible refine b_mul.mpr (And.symm ⟨?_, by first | exact mulOk_l (by omega) (by omega) | exact mulOk_r (by omega) (by omega) | exact mulOk_bd (a := 1000) (b := 1000) (by assumption) (by assumption) (by decide) (by decide) (by decide) | assumption⟩)) | (with_reducible refine b_mod.mpr (And.symm ⟨?_, by first | omega | assumption⟩)) | (with_reducible refine b_div.mpr (And.symm ⟨?_, by first | exact divOk_of (by omega) (by omega) | assumption⟩)) | (with_reducible refine b_pow.mpr ⟨by decide, ?_⟩) | refine ⟨_, rfl, Eq.refl (penM _ _ _), ?_⟩ | refine ⟨_, rfl, ⟨by omega, by omega⟩, ?_⟩ | refine ⟨_, rfl, ?_⟩ | refine ⟨_, _, rfl, ?_⟩ | refine ⟨_, _, _, rfl, rfl, rfl, ?_⟩ | refine ⟨_, _, rfl, rfl, of_decide_eq_true rfl, ?_⟩ | refine ⟨_, ne_nil _, ?_⟩ | ((with_reducible refine lenOk ?_ ?_); rfl) | refine ⟨_, rfl, rfl, ?_⟩ | with_reducible refine w_rng1.mpr ?_ | with_reducible refine w_rng2.mpr ?_ | ((with_reducible refine ifT ?_ ?_); rfl) | ((with_reducible refine ifF ?_ ?_); rfl))
      exact draw_tail rfl h1 h2 ht (by omega) hl fi
end OB
namespace OB
open PySem PySem.Spec PyProof.Rows L2
section
variable {Φ : Fns}
theorem phi_get {M : List FD} {f : FD} {i : Nat} : ∀ {L : List FD} (n : Nat), L.drop n = f :: M → M.length = i → phi L i = runF (phi M) f
  | [], n, h, _ => by rw [List.drop_nil] at h; cases h
  | a :: L, 0, h, hi => by
    rw [List.drop_zero] at h
    cases h
    exact phi_top hi.symm
  | a :: L, n + 1, h, hi => by
    rw [List.drop_succ_cons] at h
    have hl : M.length < L.length := by
      have := congrArg List.length h
      rw [List.length_drop, List.length_cons] at this
      omega
    rw [phi_pop (by omega)]
    exact phi_get n h hi
theorem pen_step {B : Nat} {μ : Mem} {f : Nat} {xs : List D} {Q : D → Mem → Prop} {E : EX} (hp : Pen B μ) (ha : D.lts 1 xs = true) (h : (Φ f xs μ).wp (fun d μ2 => μ2.length = 1 ∧ Q d μ2) (fun _ _ _ => False)) :
    Called Φ f 1 xs μ Q E := by
  unfold Called
  rw [hp.take, hp.drop, ha, hp.lt, hp.len]
  refine ⟨rfl, wp_mono h (fun a m ⟨e, q⟩ => ?_) (fun _ _ _ h => h.elim)⟩
  rw [if_pos e, List.append_nil]
  exact q
theorem pure_step {μ : Mem} {f : Nat} {xs : List D} {Q : D → Mem → Prop} {E : EX} {v : D} (h : Φ f xs [] = .ok v []) (ha : D.lts 0 xs = true) (q : Q v μ) :
    Called Φ f 0 xs μ Q E := by
  unfold Called
  rw [List.take_zero, ha, h]
  refine ⟨rfl, .ok ?_⟩
  exact q
theorem wp_eq {r : Res D} {v : D} (h : r.wp (fun d m => d = v ∧ m = []) (fun _ _ _ => False)) : r = .ok v [] := by
  cases h with
  | ok h => obtain ⟨rfl, rfl⟩ := h; rfl
  | exn h => exact h.elim
theorem fin_v {v : D} {μ : Mem} (h : v.lt 0 = true) : (fin 0 v μ).wp (fun d m => d = v ∧ m = []) (fun _ _ _ => False) := fin_0 h ⟨rfl, rfl⟩
/-- x is below a power of two -/
def Bd (k : Nat) (x : Int) : Prop := x.natAbs < 2 ^ k
theorem mulOk_bd {a b : Nat} {x y : Int} (h1 : Bd a x) (h2 : Bd b y) (h : a + b ≤ 1000000) (ha : 0 < a) (hb : 0 < b) : mulOk x y = true := mulOk_big h1 h2 h ha hb
/-! ## the law's own helpers -/
def DrawOK (Φ : Fns) (i : Nat) : Prop := ∀ (B : Nat) (many : Int) (μ : Mem) (Q : D → Mem → Prop) (E : EX), Pen B μ → 0 < many → many < 2 ^ 64 → B < 2 ^ 60 → (∀ r μ', 0 ≤ r → r < many → Pen (B + 1) μ' → Q (.int r) μ') → (Φ i [.ref 0, .int many] μ).wp Q E
def f_pick (i : Nat) : FD := ⟨2, 2, (.cons (.ret (.idx (.var 1) (.call i 1 (.cons (.var 0) (.cons (.blt .len (.cons (.var 1) .nil)) .nil))))) .nil)⟩
def f_great (i : Nat) : FD := ⟨2, 4, (.cons (.asg (.nm 2) (.int 0)) (.cons (.forr (.nm 3) (.rng1 (.var 1)) (.cons (.asg (.nm 2) (.bin .Add (.bin .Mult (.int 10) (.var 2)) (.call i 1 (.cons (.var 0) (.cons (.int 10) .nil))))) .nil)) (.cons (.ret (.var 2)) .nil)))⟩
def f_gcd : FD := ⟨2, 2, (.cons (.par2 0 1 (.blt .abs (.cons (.var 0) .nil)) (.blt .abs (.cons (.var 1) .nil))) (.cons (.whl (.val (.cmp .Gt (.var 1) (.int 0))) (.cons (.par2 0 1 (.var 1) (.bin .Mod (.var 0) (.var 1))) .nil)) (.cons (.ret (.var 0)) .nil)))⟩
/-- a pick of a list: one of its items -/
theorem pick_ok {i B : Nat} {xs : List D} {μ : Mem} {Q : D → Mem → Prop} {E : EX} (hd : DrawOK Φ i) (hp : Pen B μ) (hl : 0 < xs.length) (hl2 : xs.length < 2 ^ 64) (hx : D.lts 1 xs = true) (hB : B < 2 ^ 60) (hQ : ∀ (j : Nat) x μ', xs[j]? = some x → Pen (B + 1) μ' → Q x μ') :
    (runF Φ (f_pick i) [.ref 0, .lst xs] μ).wp Q E := by
  refine run_wp2 [some (.ref 0), some (.lst xs)] rfl rfl ?_
  unfold f_pick
  rw [hp.len]
  repeat (first | ((with_reducible refine pg_turn ?_ ?_); rfl) | ((with_reducible refine pg_left ?_ ?_); rfl) | ((with_reducible refine pg_cells ?_ ?_); rfl) | ((with_reducible refine ps_turn ?_ ?_); rfl) | ((with_reducible refine ps_left ?_ ?_); rfl) | ((with_reducible refine w_var.mpr ?_); refine ⟨_, rfl, ?_⟩) | with_reducible refine wp_ok.mpr ?_ | with_reducible refine w_int.mpr ?_ | with_reducible refine w_bl.mpr ?_ | with_reducible refine w_non.mpr ?_ | with_reducible refine w_str.mpr ?_ | with_reducible refine w_glob.mpr ?_ | with_reducible refine w_chain.mpr ?_ | with_reducible refine w_ite.mpr ?_ | with_reducible refine w_esn.mpr ?_ | with_reducible refine w_esc.mpr ?_ | with_reducible refine w_tnot.mpr ?_ | with_reducible refine w_tand.mpr ?_ | with_reducible refine w_tor.mpr ?_ | with_reducible refine w_cn.mpr ?_ | with_reducible refine w_c1.mpr ?_ | with_reducible refine w_on.mpr ?_ | with_reducible refine w_rng2.mpr ?_ | with_reducible refine w_gnm.mpr ?_ | with_reducible refine w_kn.mpr ?_ | with_reducible refine w_kc.mpr ?_ | with_reducible refine w_asg.mpr ?_ | with_reducible refine w_par2.mpr ?_ | with_reducible refine w_expr.mpr ?_ | with_reducible refine w_ifs.mpr ?_ | with_reducible refine w_brk.mpr ?_ | with_reducible refine w_cnt.mpr ?_ | with_reducible refine w_pass.mpr ?_ | with_reducible refine w_raise.mpr ?_ | with_reducible refine w_sn.mpr ?_ | with_reducible refine w_sc.mpr ?_ | with_reducible refine w_call.mpr ?_ | with_reducible refine w_and.mpr ?_ | with_reducible refine w_or.mpr ?_ | with_reducible refine w_not.mpr ?_ | with_reducible refine w_neg.mpr ?_ | with_reducible refine w_dget.mpr ?_ | with_reducible refine w_dset.mpr ?_ | with_reducible refine w_gtup.mpr ?_ | with_reducible refine w_gltup.mpr ?_ | with_reducible refine w_gsn.mpr (And.intro rfl ?_) | with_reducible refine w_gsc.mpr ?_ | with_reducible refine w_ilst.mpr ?_ | with_reducible refine w_itup.mpr ?_ | with_reducible refine w_blt.mpr ?_ | with_reducible refine w_isi.mpr ?_ | with_reducible refine w_os.mpr ?_ | with_reducible refine w_idx.mpr ?_ | with_reducible refine w_slc.mpr ?_ | with_reducible refine w_bin.mpr ?_ | with_reducible refine w_cmp.mpr ?_ | with_reducible refine w_tval.mpr ?_ | with_reducible refine w_forr.mpr ?_ | with_reducible refine w_whl.mpr ?_ | with_reducible refine w_lc.mpr ?_ | with_reducible refine w_ret.mpr ?_ | with_reducible refine w_retN.mpr ?_ | (with_reducible refine w_tup.mpr ?_) | (with_reducible refine w_lst.mpr ?_) | (with_reducible refine b_mul.mpr (And.symm ⟨?_, by first | exact mulOk_l (by omega) (by omega) | exact mulOk_r (by omega) (by omega) | exact mulOk_bd (a := 1000) (b := 1000) (by assumption) (by assumption) (by decide) (by decide) (by decide) | assumption⟩)) | (with_reducible refine b_mod.mpr (And.symm ⟨?_, by first | omega | assumption⟩)) | (with_reducible refine b_div.mpr (And.symm ⟨?_, by first | exact divOk_of (by omega) (by omega) | assumption⟩)) | (with_reducible refine b_pow.mpr ⟨by decide, ?_⟩) | refine ⟨_, rfl, Eq.refl (penM _ _ _), ?_⟩ | refine ⟨_, rfl, ⟨by omega, by omega⟩, ?_⟩ | refine ⟨_, rfl, ?_⟩ | refine ⟨_, _, rfl, ?_⟩ | refine ⟨_, _, _, rfl, rfl, rfl, ?_⟩ | refine ⟨_, _, rfl, rfl, of_decide_eq_true rfl, ?_⟩ | refine ⟨_, ne_nil _, ?_⟩ | ((with_reducible refine lenOk ?_ ?_); rfl) | refine ⟨_, rfl, rfl, ?_⟩ | with_reducible refine w_rng1.mpr ?_ | with_reducible refine w_rng2.mpr ?_ | ((with_reducible refine ifT ?_ ?_); rfl) | ((with_reducible refine ifF ?_ ?_); rfl))
  refine pen_step hp rfl (hd _ _ _ _ _ hp (by omega) (by omega) hB fun r μ' r0 r1 hp' => ⟨hp'.len, ?_⟩)
  have hr : r.toNat < xs.length := by omega
  refine ⟨xs[r.toNat], ?_, ?_⟩
  · show atI xs r = _
    unfold atI ixN
    rw [if_pos r0, if_pos r1]
    simp [hr]
  · refine fin_pen hp' ?_ (hQ r.toNat _ _ (List.getElem?_eq_getElem hr) hp')
    have : ∀ (l : List D) (j : Nat) (h : j < l.length), D.lts 1 l = true → (l[j]).lt 1 = true := by
      intro l
      induction l with
      | nil => intro j h; cases h
      | cons a l ih =>
        intro j h hlt
        rw [D.lts] at hlt
        obtain ⟨x1, x2⟩ := ba2 hlt
        cases j with
        | zero => exact x1
        | succ j => exact ih j (by simpa using h) x2
    exact this xs _ hr hx
/-- a great number of at most n figures -/
theorem great_ok {i B n : Nat} {μ : Mem} {Q : D → Mem → Prop} {E : EX} (hd : DrawOK Φ i) (hp : Pen B μ) (hB : B + n < 2 ^ 60) (hn : n < 2 ^ 60) (hQ : ∀ r μ', 0 ≤ r → r < 10 ^ n → Pen (B + n) μ' → Q (.int r) μ') :
    (runF Φ (f_great i) [.ref 0, .int (n : Int)] μ).wp Q E := by
  refine run_wp2 [some (.ref 0), some (.int (n : Int)), none, none] rfl rfl ?_
  unfold f_great
  rw [hp.len]
  repeat (first | ((with_reducible refine pg_turn ?_ ?_); rfl) | ((with_reducible refine pg_left ?_ ?_); rfl) | ((with_reducible refine pg_cells ?_ ?_); rfl) | ((with_reducible refine ps_turn ?_ ?_); rfl) | ((with_reducible refine ps_left ?_ ?_); rfl) | ((with_reducible refine w_var.mpr ?_); refine ⟨_, rfl, ?_⟩) | with_reducible refine wp_ok.mpr ?_ | with_reducible refine w_int.mpr ?_ | with_reducible refine w_bl.mpr ?_ | with_reducible refine w_non.mpr ?_ | with_reducible refine w_str.mpr ?_ | with_reducible refine w_glob.mpr ?_ | with_reducible refine w_chain.mpr ?_ | with_reducible refine w_ite.mpr ?_ | with_reducible refine w_esn.mpr ?_ | with_reducible refine w_esc.mpr ?_ | with_reducible refine w_tnot.mpr ?_ | with_reducible refine w_tand.mpr ?_ | with_reducible refine w_tor.mpr ?_ | with_reducible refine w_cn.mpr ?_ | with_reducible refine w_c1.mpr ?_ | with_reducible refine w_on.mpr ?_ | with_reducible refine w_rng2.mpr ?_ | with_reducible refine w_gnm.mpr ?_ | with_reducible refine w_kn.mpr ?_ | with_reducible refine w_kc.mpr ?_ | with_reducible refine w_asg.mpr ?_ | with_reducible refine w_par2.mpr ?_ | with_reducible refine w_expr.mpr ?_ | with_reducible refine w_ifs.mpr ?_ | with_reducible refine w_brk.mpr ?_ | with_reducible refine w_cnt.mpr ?_ | with_reducible refine w_pass.mpr ?_ | with_reducible refine w_raise.mpr ?_ | with_reducible refine w_sn.mpr ?_ | with_reducible refine w_sc.mpr ?_ | with_reducible refine w_call.mpr ?_ | with_reducible refine w_and.mpr ?_ | with_reducible refine w_or.mpr ?_ | with_reducible refine w_not.mpr ?_ | with_reducible refine w_neg.mpr ?_ | with_reducible refine w_dget.mpr ?_ | with_reducible refine w_dset.mpr ?_ | with_reducible refine w_gtup.mpr ?_ | with_reducible refine w_gltup.mpr ?_ | with_reducible refine w_gsn.mpr (And.intro rfl ?_) | with_reducible refine w_gsc.mpr ?_ | with_reducible refine w_ilst.mpr ?_ | with_reducible refine w_itup.mpr ?_ | with_reducible refine w_blt.mpr ?_ | with_reducible refine w_isi.mpr ?_ | with_reducible refine w_os.mpr ?_ | with_reducible refine w_idx.mpr ?_ | with_reducible refine w_slc.mpr ?_ | with_reducible refine w_bin.mpr ?_ | with_reducible refine w_cmp.mpr ?_ | with_reducible refine w_tval.mpr ?_ | with_reducible refine w_forr.mpr ?_ | with_reducible refine w_whl.mpr ?_ | with_reducible refine w_lc.mpr ?_ | with_reducible refine w_ret.mpr ?_ | with_reducible refine w_retN.mpr ?_ | (with_reducible refine w_tup.mpr ?_) | (with_reducible refine w_lst.mpr ?_) | (with_reducible refine b_mul.mpr (And.symm ⟨?_, by first | exact mulOk_l (by omega) (by omega) | exact mulOk_r (by omega) (by omega) | exact mulOk_bd (a := 1000) (b := 1000) (by assumption) (by assumption) (by decide) (by decide) (by decide) | assumption⟩)) | (with_reducible refine b_mod.mpr (And.symm ⟨?_, by first | omega | assumption⟩)) | (with_reducible refine b_div.mpr (And.symm ⟨?_, by first | exact divOk_of (by omega) (by omega) | assumption⟩)) | (with_reducible refine b_pow.mpr ⟨by decide, ?_⟩) | refine ⟨_, rfl, Eq.refl (penM _ _ _), ?_⟩ | refine ⟨_, rfl, ⟨by omega, by omega⟩, ?_⟩ | refine ⟨_, rfl, ?_⟩ | refine ⟨_, _, rfl, ?_⟩ | refine ⟨_, _, _, rfl, rfl, rfl, ?_⟩ | refine ⟨_, _, rfl, rfl, of_decide_eq_true rfl, ?_⟩ | refine ⟨_, ne_nil _, ?_⟩ | ((with_reducible refine lenOk ?_ ?_); rfl) | refine ⟨_, rfl, rfl, ?_⟩ | with_reducible refine w_rng1.mpr ?_ | with_reducible refine w_rng2.mpr ?_ | ((with_reducible refine ifT ?_ ?_); rfl) | ((with_reducible refine ifF ?_ ?_); rfl))
  refine for_wp (fun j ρ μ => ∃ r : Int, ∃ k, ρ = [some (.ref 0), some (.int n), some (.int r), k] ∧ 0 ≤ r ∧ r < 10 ^ j ∧ Pen (B + j) μ) ⟨0, none, rfl, by decide, by decide, hp⟩ ?_ ?_
  · rintro j x ρ μ hx ⟨r, k, rfl, r0, r1, hpj⟩
    have hj : j < n := by
      have := (List.getElem?_eq_some_iff.mp hx).1
      simp [rangeD] at this; omega
    repeat (first | ((with_reducible refine pg_turn ?_ ?_); rfl) | ((with_reducible refine pg_left ?_ ?_); rfl) | ((with_reducible refine pg_cells ?_ ?_); rfl) | ((with_reducible refine ps_turn ?_ ?_); rfl) | ((with_reducible refine ps_left ?_ ?_); rfl) | ((with_reducible refine w_var.mpr ?_); refine ⟨_, rfl, ?_⟩) | with_reducible refine wp_ok.mpr ?_ | with_reducible refine w_int.mpr ?_ | with_reducible refine w_bl.mpr ?_ | with_reducible refine w_non.mpr ?_ | with_reducible refine w_str.mpr ?_ | with_reducible refine w_glob.mpr ?_ | with_reducible refine w_chain.mpr ?_ | with_reducible refine w_ite.mpr ?_ | with_reducible refine w_esn.mpr ?_ | with_reducible refine w_esc.mpr ?_ | with_reducible refine w_tnot.mpr ?_ | with_reducible refine w_tand.mpr ?_ | with_reducible refine w_tor.mpr ?_ | with_reducible refine w_cn.mpr ?_ | with_reducible refine w_c1.mpr ?_ | with_reducible refine w_on.mpr ?_ | with_reducible refine w_rng2.mpr ?_ | with_reducible refine w_gnm.mpr ?_ | with_reducible refine w_kn.mpr ?_ | with_reducible refine w_kc.mpr ?_ | with_reducible refine w_asg.mpr ?_ | with_reducible refine w_par2.mpr ?_ | with_reducible refine w_expr.mpr ?_ | with_reducible refine w_ifs.mpr ?_ | with_reducible refine w_brk.mpr ?_ | with_reducible refine w_cnt.mpr ?_ | with_reducible refine w_pass.mpr ?_ | with_reducible refine w_raise.mpr ?_ | with_reducible refine w_sn.mpr ?_ | with_reducible refine w_sc.mpr ?_ | with_reducible refine w_call.mpr ?_ | with_reducible refine w_and.mpr ?_ | with_reducible refine w_or.mpr ?_ | with_reducible refine w_not.mpr ?_ | with_reducible refine w_neg.mpr ?_ | with_reducible refine w_dget.mpr ?_ | with_reducible refine w_dset.mpr ?_ | with_reducible refine w_gtup.mpr ?_ | with_reducible refine w_gltup.mpr ?_ | with_reducible refine w_gsn.mpr (And.intro rfl ?_) | with_reducible refine w_gsc.mpr ?_ | with_reducible refine w_ilst.mpr ?_ | with_reducible refine w_itup.mpr ?_ | with_reducible refine w_blt.mpr ?_ | with_reducible refine w_isi.mpr ?_ | with_reducible refine w_os.mpr ?_ | with_reducible refine w_idx.mpr ?_ | with_reducible refine w_slc.mpr ?_ | with_reducible refine w_bin.mpr ?_ | with_reducible refine w_cmp.mpr ?_ | with_reducible refine w_tval.mpr ?_ | with_reducible refine w_forr.mpr ?_ | with_reducible refine w_whl.mpr ?_ | with_reducible refine w_lc.mpr ?_ | with_reducible refine w_ret.mpr ?_ | with_reducible refine w_retN.mpr ?_ | (with_reducible refine w_tup.mpr ?_) | (with_reducible refine w_lst.mpr ?_) | (with_reducible refine b_mul.mpr (And.symm ⟨?_, by first | exact mulOk_l (by omega) (by omega) | exact mulOk_r (by omega) (by omega) | exact mulOk_bd (a := 1000) (b := 1000) (by assumption) (by assumption) (by decide) (by decide) (by decide) | assumption⟩)) | (with_reducible refine b_mod.mpr (And.symm ⟨?_, by first | omega | assumption⟩)) | (with_reducible refine b_div.mpr (And.symm ⟨?_, by first | exact divOk_of (by omega) (by omega) | assumption⟩)) | (with_reducible refine b_pow.mpr ⟨by decide, ?_⟩) | refine ⟨_, rfl, Eq.refl (penM _ _ _), ?_⟩ | refine ⟨_, rfl, ⟨by omega, by omega⟩, ?_⟩ | refine ⟨_, rfl, ?_⟩ | refine ⟨_, _, rfl, ?_⟩ | refine ⟨_, _, _, rfl, rfl, rfl, ?_⟩ | refine ⟨_, _, rfl, rfl, of_decide_eq_true rfl, ?_⟩ | refine ⟨_, ne_nil _, ?_⟩ | ((with_reducible refine lenOk ?_ ?_); rfl) | refine ⟨_, rfl, rfl, ?_⟩ | with_reducible refine w_rng1.mpr ?_ | with_reducible refine w_rng2.mpr ?_ | ((with_reducible refine ifT ?_ ?_); rfl) | ((with_reducible refine ifF ?_ ?_); rfl))
    refine pen_step hpj rfl (hd _ _ _ _ _ hpj (by decide) (by decide) (by omega) fun z μ' z0 z1 hp' => ⟨hp'.len, ?_⟩)
    repeat (first | ((with_reducible refine pg_turn ?_ ?_); rfl) | ((with_reducible refine pg_left ?_ ?_); rfl) | ((with_reducible refine pg_cells ?_ ?_); rfl) | ((with_reducible refine ps_turn ?_ ?_); rfl) | ((with_reducible refine ps_left ?_ ?_); rfl) | ((with_reducible refine w_var.mpr ?_); refine ⟨_, rfl, ?_⟩) | with_reducible refine wp_ok.mpr ?_ | with_reducible refine w_int.mpr ?_ | with_reducible refine w_bl.mpr ?_ | with_reducible refine w_non.mpr ?_ | with_reducible refine w_str.mpr ?_ | with_reducible refine w_glob.mpr ?_ | with_reducible refine w_chain.mpr ?_ | with_reducible refine w_ite.mpr ?_ | with_reducible refine w_esn.mpr ?_ | with_reducible refine w_esc.mpr ?_ | with_reducible refine w_tnot.mpr ?_ | with_reducible refine w_tand.mpr ?_ | with_reducible refine w_tor.mpr ?_ | with_reducible refine w_cn.mpr ?_ | with_reducible refine w_c1.mpr ?_ | with_reducible refine w_on.mpr ?_ | with_reducible refine w_rng2.mpr ?_ | with_reducible refine w_gnm.mpr ?_ | with_reducible refine w_kn.mpr ?_ | with_reducible refine w_kc.mpr ?_ | with_reducible refine w_asg.mpr ?_ | with_reducible refine w_par2.mpr ?_ | with_reducible refine w_expr.mpr ?_ | with_reducible refine w_ifs.mpr ?_ | with_reducible refine w_brk.mpr ?_ | with_reducible refine w_cnt.mpr ?_ | with_reducible refine w_pass.mpr ?_ | with_reducible refine w_raise.mpr ?_ | with_reducible refine w_sn.mpr ?_ | with_reducible refine w_sc.mpr ?_ | with_reducible refine w_call.mpr ?_ | with_reducible refine w_and.mpr ?_ | with_reducible refine w_or.mpr ?_ | with_reducible refine w_not.mpr ?_ | with_reducible refine w_neg.mpr ?_ | with_reducible refine w_dget.mpr ?_ | with_reducible refine w_dset.mpr ?_ | with_reducible refine w_gtup.mpr ?_ | with_reducible refine w_gltup.mpr ?_ | with_reducible refine w_gsn.mpr (And.intro rfl ?_) | with_reducible refine w_gsc.mpr ?_ | with_reducible refine w_ilst.mpr ?_ | with_reducible refine w_itup.mpr ?_ | with_reducible refine w_blt.mpr ?_ | with_reducible refine w_isi.mpr ?_ | with_reducible refine w_os.mpr ?_ | with_reducible refine w_idx.mpr ?_ | with_reducible refine w_slc.mpr ?_ | with_reducible refine w_bin.mpr ?_ | with_reducible refine w_cmp.mpr ?_ | with_reducible refine w_tval.mpr ?_ | with_reducible refine w_forr.mpr ?_ | with_reducible refine w_whl.mpr ?_ | with_reducible refine w_lc.mpr ?_ | with_reducible refine w_ret.mpr ?_ | with_reducible refine w_retN.mpr ?_ | (with_reducible refine w_tup.mpr ?_) | (with_reducible refine w_lst.mpr ?_) | (with_reducible refine b_mul.mpr (And.symm ⟨?_, by first | exact mulOk_l (by omega) (by omega) | exact mulOk_r (by omega) (by omega) | exact mulOk_bd (a := 1000) (b := 1000) (by assumption) (by assumption) (by decide) (by decide) (by decide) | assumption⟩)) | (with_reducible refine b_mod.mpr (And.symm ⟨?_, by first | omega | assumption⟩)) | (with_reducible refine b_div.mpr (And.symm ⟨?_, by first | exact divOk_of (by omega) (by omega) | assumption⟩)) | (with_reducible refine b_pow.mpr ⟨by decide, ?_⟩) | refine ⟨_, rfl, Eq.refl (penM _ _ _), ?_⟩ | refine ⟨_, rfl, ⟨by omega, by omega⟩, ?_⟩ | refine ⟨_, rfl, ?_⟩ | refine ⟨_, _, rfl, ?_⟩ | refine ⟨_, _, _, rfl, rfl, rfl, ?_⟩ | refine ⟨_, _, rfl, rfl, of_decide_eq_true rfl, ?_⟩ | refine ⟨_, ne_nil _, ?_⟩ | ((with_reducible refine lenOk ?_ ?_); rfl) | refine ⟨_, rfl, rfl, ?_⟩ | with_reducible refine w_rng1.mpr ?_ | with_reducible refine w_rng2.mpr ?_ | ((with_reducible refine ifT ?_ ?_); rfl) | ((with_reducible refine ifF ?_ ?_); rfl))
    refine ⟨by omega, ?_, hp'⟩
    rw [Int.pow_succ]; omega
  · rintro ρ μ ⟨r, k, rfl, r0, r1, hpj⟩
    have hl : (rangeD 0 ((n : Int)).toNat).length = n := by simp [rangeD]
    rw [hl] at r1 hpj
    repeat (first | ((with_reducible refine pg_turn ?_ ?_); rfl) | ((with_reducible refine pg_left ?_ ?_); rfl) | ((with_reducible refine pg_cells ?_ ?_); rfl) | ((with_reducible refine ps_turn ?_ ?_); rfl) | ((with_reducible refine ps_left ?_ ?_); rfl) | ((with_reducible refine w_var.mpr ?_); refine ⟨_, rfl, ?_⟩) | with_reducible refine wp_ok.mpr ?_ | with_reducible refine w_int.mpr ?_ | with_reducible refine w_bl.mpr ?_ | with_reducible refine w_non.mpr ?_ | with_reducible refine w_str.mpr ?_ | with_reducible refine w_glob.mpr ?_ | with_reducible refine w_chain.mpr ?_ | with_reducible refine w_ite.mpr ?_ | with_reducible refine w_esn.mpr ?_ | with_reducible refine w_esc.mpr ?_ | with_reducible refine w_tnot.mpr ?_ | with_reducible refine w_tand.mpr ?_ | with_reducible refine w_tor.mpr ?_ | with_reducible refine w_cn.mpr ?_ | with_reducible refine w_c1.mpr ?_ | with_reducible refine w_on.mpr ?_ | with_reducible refine w_rng2.mpr ?_ | with_reducible refine w_gnm.mpr ?_ | with_reducible refine w_kn.mpr ?_ | with_reducible refine w_kc.mpr ?_ | with_reducible refine w_asg.mpr ?_ | with_reducible refine w_par2.mpr ?_ | with_reducible refine w_expr.mpr ?_ | with_reducible refine w_ifs.mpr ?_ | with_reducible refine w_brk.mpr ?_ | with_reducible refine w_cnt.mpr ?_ | with_reducible refine w_pass.mpr ?_ | with_reducible refine w_raise.mpr ?_ | with_reducible refine w_sn.mpr ?_ | with_reducible refine w_sc.mpr ?_ | with_reducible refine w_call.mpr ?_ | with_reducible refine w_and.mpr ?_ | with_reducible refine w_or.mpr ?_ | with_reducible refine w_not.mpr ?_ | with_reducible refine w_neg.mpr ?_ | with_reducible refine w_dget.mpr ?_ | with_reducible refine w_dset.mpr ?_ | with_reducible refine w_gtup.mpr ?_ | with_reducible refine w_gltup.mpr ?_ | with_reducible refine w_gsn.mpr (And.intro rfl ?_) | with_reducible refine w_gsc.mpr ?_ | with_reducible refine w_ilst.mpr ?_ | with_reducible refine w_itup.mpr ?_ | with_reducible refine w_blt.mpr ?_ | with_reducible refine w_isi.mpr ?_ | with_reducible refine w_os.mpr ?_ | with_reducible refine w_idx.mpr ?_ | with_reducible refine w_slc.mpr ?_ | with_reducible refine w_bin.mpr ?_ | with_reducible refine w_cmp.mpr ?_ | with_reducible refine w_tval.mpr ?_ | with_reducible refine w_forr.mpr ?_ | with_reducible refine w_whl.mpr ?_ | with_reducible refine w_lc.mpr ?_ | with_reducible refine w_ret.mpr ?_ | with_reducible refine w_retN.mpr ?_ | (with_reducible refine w_tup.mpr ?_) | (with_reducible refine w_lst.mpr ?_) | (with_reducible refine b_mul.mpr (And.symm ⟨?_, by first | exact mulOk_l (by omega) (by omega) | exact mulOk_r (by omega) (by omega) | exact mulOk_bd (a := 1000) (b := 1000) (by assumption) (by assumption) (by decide) (by decide) (by decide) | assumption⟩)) | (with_reducible refine b_mod.mpr (And.symm ⟨?_, by first | omega | assumption⟩)) | (with_reducible refine b_div.mpr (And.symm ⟨?_, by first | exact divOk_of (by omega) (by omega) | assumption⟩)) | (with_reducible refine b_pow.mpr ⟨by decide, ?_⟩) | refine ⟨_, rfl, Eq.refl (penM _ _ _), ?_⟩ | refine ⟨_, rfl, ⟨by omega, by omega⟩, ?_⟩ | refine ⟨_, rfl, ?_⟩ | refine ⟨_, _, rfl, ?_⟩ | refine ⟨_, _, _, rfl, rfl, rfl, ?_⟩ | refine ⟨_, _, rfl, rfl, of_decide_eq_true rfl, ?_⟩ | refine ⟨_, ne_nil _, ?_⟩ | ((with_reducible refine lenOk ?_ ?_); rfl) | refine ⟨_, rfl, rfl, ?_⟩ | with_reducible refine w_rng1.mpr ?_ | with_reducible refine w_rng2.mpr ?_ | ((with_reducible refine ifT ?_ ?_); rfl) | ((with_reducible refine ifF ?_ ?_); rfl))
    exact fin_pen hpj rfl (hQ _ _ r0 r1 hpj)
theorem gcd_ok (Φ : Fns) (a b : Int) : runF Φ f_gcd [.int a, .int b] [] = .ok (.int (Int.gcd a b)) [] := by
  refine wp_eq (run_wp2 [some (.int a), some (.int b)] rfl rfl ?_)
  unfold f_gcd
  repeat (first | ((with_reducible refine pg_turn ?_ ?_); rfl) | ((with_reducible refine pg_left ?_ ?_); rfl) | ((with_reducible refine pg_cells ?_ ?_); rfl) | ((with_reducible refine ps_turn ?_ ?_); rfl) | ((with_reducible refine ps_left ?_ ?_); rfl) | ((with_reducible refine w_var.mpr ?_); refine ⟨_, rfl, ?_⟩) | with_reducible refine wp_ok.mpr ?_ | with_reducible refine w_int.mpr ?_ | with_reducible refine w_bl.mpr ?_ | with_reducible refine w_non.mpr ?_ | with_reducible refine w_str.mpr ?_ | with_reducible refine w_glob.mpr ?_ | with_reducible refine w_chain.mpr ?_ | with_reducible refine w_ite.mpr ?_ | with_reducible refine w_esn.mpr ?_ | with_reducible refine w_esc.mpr ?_ | with_reducible refine w_tnot.mpr ?_ | with_reducible refine w_tand.mpr ?_ | with_reducible refine w_tor.mpr ?_ | with_reducible refine w_cn.mpr ?_ | with_reducible refine w_c1.mpr ?_ | with_reducible refine w_on.mpr ?_ | with_reducible refine w_rng2.mpr ?_ | with_reducible refine w_gnm.mpr ?_ | with_reducible refine w_kn.mpr ?_ | with_reducible refine w_kc.mpr ?_ | with_reducible refine w_asg.mpr ?_ | with_reducible refine w_par2.mpr ?_ | with_reducible refine w_expr.mpr ?_ | with_reducible refine w_ifs.mpr ?_ | with_reducible refine w_brk.mpr ?_ | with_reducible refine w_cnt.mpr ?_ | with_reducible refine w_pass.mpr ?_ | with_reducible refine w_raise.mpr ?_ | with_reducible refine w_sn.mpr ?_ | with_reducible refine w_sc.mpr ?_ | with_reducible refine w_call.mpr ?_ | with_reducible refine w_and.mpr ?_ | with_reducible refine w_or.mpr ?_ | with_reducible refine w_not.mpr ?_ | with_reducible refine w_neg.mpr ?_ | with_reducible refine w_dget.mpr ?_ | with_reducible refine w_dset.mpr ?_ | with_reducible refine w_gtup.mpr ?_ | with_reducible refine w_gltup.mpr ?_ | with_reducible refine w_gsn.mpr (And.intro rfl ?_) | with_reducible refine w_gsc.mpr ?_ | with_reducible refine w_ilst.mpr ?_ | with_reducible refine w_itup.mpr ?_ | with_reducible refine w_blt.mpr ?_ | with_reducible refine w_isi.mpr ?_ | with_reducible refine w_os.mpr ?_ | with_reducible refine w_idx.mpr ?_ | with_reducible refine w_slc.mpr ?_ | with_reducible refine w_bin.mpr ?_ | with_reducible refine w_cmp.mpr ?_ | with_reducible refine w_tval.mpr ?_ | with_reducible refine w_forr.mpr ?_ | with_reducible refine w_whl.mpr ?_ | with_reducible refine w_lc.mpr ?_ | with_reducible refine w_ret.mpr ?_ | with_reducible refine w_retN.mpr ?_ | (with_reducible refine w_tup.mpr ?_) | (with_reducible refine w_lst.mpr ?_) | (with_reducible refine b_mul.mpr (And.symm ⟨?_, by first | exact mulOk_l (by omega) (by omega) | exact mulOk_r (by omega) (by omega) | exact mulOk_bd (a := 1000) (b := 1000) (by assumption) (by assumption) (by decide) (by decide) (by decide) | assumption⟩)) | (with_reducible refine b_mod.mpr (And.symm ⟨?_, by first | omega | assumption⟩)) | (with_reducible refine b_div.mpr (And.symm ⟨?_, by first | exact divOk_of (by omega) (by omega) | assumption⟩)) | (with_reducible refine b_pow.mpr ⟨by decide, ?_⟩) | refine ⟨_, rfl, Eq.refl (penM _ _ _), ?_⟩ | refine ⟨_, rfl, ⟨by omega, by omega⟩, ?_⟩ | refine ⟨_, rfl, ?_⟩ | refine ⟨_, _, rfl, ?_⟩ | refine ⟨_, _, _, rfl, rfl, rfl, ?_⟩ | refine ⟨_, _, rfl, rfl, of_decide_eq_true rfl, ?_⟩ | refine ⟨_, ne_nil _, ?_⟩ | ((with_reducible refine lenOk ?_ ?_); rfl) | refine ⟨_, rfl, rfl, ?_⟩ | with_reducible refine w_rng1.mpr ?_ | with_reducible refine w_rng2.mpr ?_ | ((with_reducible refine ifT ?_ ?_); rfl) | ((with_reducible refine ifF ?_ ?_); rfl))
  refine while_wp (fun n ρ μ => μ = [] ∧ ∃ x y : Int, ρ = [some (.int x), some (.int y)] ∧ 0 ≤ x ∧ 0 ≤ y ∧ y.toNat = n ∧ Int.gcd x y = Int.gcd a b) (n := (absI b).toNat) ?_ ?_
  · have ha : absI a = (a.natAbs : Int) := by unfold absI; omega
    have hb : absI b = (b.natAbs : Int) := by unfold absI; omega
    exact ⟨rfl, absI a, absI b, rfl, by omega, by omega, rfl, by rw [ha, hb]; simp [Int.gcd]⟩
  · rintro n ρ μ ⟨rfl, x, y, rfl, x0, y0, rfl, hg⟩
    repeat (first | ((with_reducible refine pg_turn ?_ ?_); rfl) | ((with_reducible refine pg_left ?_ ?_); rfl) | ((with_reducible refine pg_cells ?_ ?_); rfl) | ((with_reducible refine ps_turn ?_ ?_); rfl) | ((with_reducible refine ps_left ?_ ?_); rfl) | ((with_reducible refine w_var.mpr ?_); refine ⟨_, rfl, ?_⟩) | with_reducible refine wp_ok.mpr ?_ | with_reducible refine w_int.mpr ?_ | with_reducible refine w_bl.mpr ?_ | with_reducible refine w_non.mpr ?_ | with_reducible refine w_str.mpr ?_ | with_reducible refine w_glob.mpr ?_ | with_reducible refine w_chain.mpr ?_ | with_reducible refine w_ite.mpr ?_ | with_reducible refine w_esn.mpr ?_ | with_reducible refine w_esc.mpr ?_ | with_reducible refine w_tnot.mpr ?_ | with_reducible refine w_tand.mpr ?_ | with_reducible refine w_tor.mpr ?_ | with_reducible refine w_cn.mpr ?_ | with_reducible refine w_c1.mpr ?_ | with_reducible refine w_on.mpr ?_ | with_reducible refine w_rng2.mpr ?_ | with_reducible refine w_gnm.mpr ?_ | with_reducible refine w_kn.mpr ?_ | with_reducible refine w_kc.mpr ?_ | with_reducible refine w_asg.mpr ?_ | with_reducible refine w_par2.mpr ?_ | with_reducible refine w_expr.mpr ?_ | with_reducible refine w_ifs.mpr ?_ | with_reducible refine w_brk.mpr ?_ | with_reducible refine w_cnt.mpr ?_ | with_reducible refine w_pass.mpr ?_ | with_reducible refine w_raise.mpr ?_ | with_reducible refine w_sn.mpr ?_ | with_reducible refine w_sc.mpr ?_ | with_reducible refine w_call.mpr ?_ | with_reducible refine w_and.mpr ?_ | with_reducible refine w_or.mpr ?_ | with_reducible refine w_not.mpr ?_ | with_reducible refine w_neg.mpr ?_ | with_reducible refine w_dget.mpr ?_ | with_reducible refine w_dset.mpr ?_ | with_reducible refine w_gtup.mpr ?_ | with_reducible refine w_gltup.mpr ?_ | with_reducible refine w_gsn.mpr (And.intro rfl ?_) | with_reducible refine w_gsc.mpr ?_ | with_reducible refine w_ilst.mpr ?_ | with_reducible refine w_itup.mpr ?_ | with_reducible refine w_blt.mpr ?_ | with_reducible refine w_isi.mpr ?_ | with_reducible refine w_os.mpr ?_ | with_reducible refine w_idx.mpr ?_ | with_reducible refine w_slc.mpr ?_ | with_reducible refine w_bin.mpr ?_ | with_reducible refine w_cmp.mpr ?_ | with_reducible refine w_tval.mpr ?_ | with_reducible refine w_forr.mpr ?_ | with_reducible refine w_whl.mpr ?_ | with_reducible refine w_lc.mpr ?_ | with_reducible refine w_ret.mpr ?_ | with_reducible refine w_retN.mpr ?_ | (with_reducible refine w_tup.mpr ?_) | (with_reducible refine w_lst.mpr ?_) | (with_reducible refine b_mul.mpr (And.symm ⟨?_, by first | exact mulOk_l (by omega) (by omega) | exact mulOk_r (by omega) (by omega) | exact mulOk_bd (a := 1000) (b := 1000) (by assumption) (by assumption) (by decide) (by decide) (by decide) | assumption⟩)) | (with_reducible refine b_mod.mpr (And.symm ⟨?_, by first | omega | assumption⟩)) | (with_reducible refine b_div.mpr (And.symm ⟨?_, by first | exact divOk_of (by omega) (by omega) | assumption⟩)) | (with_reducible refine b_pow.mpr ⟨by decide, ?_⟩) | refine ⟨_, rfl, Eq.refl (penM _ _ _), ?_⟩ | refine ⟨_, rfl, ⟨by omega, by omega⟩, ?_⟩ | refine ⟨_, rfl, ?_⟩ | refine ⟨_, _, rfl, ?_⟩ | refine ⟨_, _, _, rfl, rfl, rfl, ?_⟩ | refine ⟨_, _, rfl, rfl, of_decide_eq_true rfl, ?_⟩ | refine ⟨_, ne_nil _, ?_⟩ | ((with_reducible refine lenOk ?_ ?_); rfl) | refine ⟨_, rfl, rfl, ?_⟩ | with_reducible refine w_rng1.mpr ?_ | with_reducible refine w_rng2.mpr ?_ | ((with_reducible refine ifT ?_ ?_); rfl) | ((with_reducible refine ifF ?_ ?_); rfl))
    by_cases hy : 0 < y
    · rw [decide_eq_true hy, if_pos rfl]
      repeat (first | ((with_reducible refine pg_turn ?_ ?_); rfl) | ((with_reducible refine pg_left ?_ ?_); rfl) | ((with_reducible refine pg_cells ?_ ?_); rfl) | ((with_reducible refine ps_turn ?_ ?_); rfl) | ((with_reducible refine ps_left ?_ ?_); rfl) | ((with_reducible refine w_var.mpr ?_); refine ⟨_, rfl, ?_⟩) | with_reducible refine wp_ok.mpr ?_ | with_reducible refine w_int.mpr ?_ | with_reducible refine w_bl.mpr ?_ | with_reducible refine w_non.mpr ?_ | with_reducible refine w_str.mpr ?_ | with_reducible refine w_glob.mpr ?_ | with_reducible refine w_chain.mpr ?_ | with_reducible refine w_ite.mpr ?_ | with_reducible refine w_esn.mpr ?_ | with_reducible refine w_esc.mpr ?_ | with_reducible refine w_tnot.mpr ?_ | with_reducible refine w_tand.mpr ?_ | with_reducible refine w_tor.mpr ?_ | with_reducible refine w_cn.mpr ?_ | with_reducible refine w_c1.mpr ?_ | with_reducible refine w_on.mpr ?_ | with_reducible refine w_rng2.mpr ?_ | with_reducible refine w_gnm.mpr ?_ | with_reducible refine w_kn.mpr ?_ | with_reducible refine w_kc.mpr ?_ | with_reducible refine w_asg.mpr ?_ | with_reducible refine w_par2.mpr ?_ | with_reducible refine w_expr.mpr ?_ | with_reducible refine w_ifs.mpr ?_ | with_reducible refine w_brk.mpr ?_ | with_reducible refine w_cnt.mpr ?_ | with_reducible refine w_pass.mpr ?_ | with_reducible refine w_raise.mpr ?_ | with_reducible refine w_sn.mpr ?_ | with_reducible refine w_sc.mpr ?_ | with_reducible refine w_call.mpr ?_ | with_reducible refine w_and.mpr ?_ | with_reducible refine w_or.mpr ?_ | with_reducible refine w_not.mpr ?_ | with_reducible refine w_neg.mpr ?_ | with_reducible refine w_dget.mpr ?_ | with_reducible refine w_dset.mpr ?_ | with_reducible refine w_gtup.mpr ?_ | with_reducible refine w_gltup.mpr ?_ | with_reducible refine w_gsn.mpr (And.intro rfl ?_) | with_reducible refine w_gsc.mpr ?_ | with_reducible refine w_ilst.mpr ?_ | with_reducible refine w_itup.mpr ?_ | with_reducible refine w_blt.mpr ?_ | with_reducible refine w_isi.mpr ?_ | with_reducible refine w_os.mpr ?_ | with_reducible refine w_idx.mpr ?_ | with_reducible refine w_slc.mpr ?_ | with_reducible refine w_bin.mpr ?_ | with_reducible refine w_cmp.mpr ?_ | with_reducible refine w_tval.mpr ?_ | with_reducible refine w_forr.mpr ?_ | with_reducible refine w_whl.mpr ?_ | with_reducible refine w_lc.mpr ?_ | with_reducible refine w_ret.mpr ?_ | with_reducible refine w_retN.mpr ?_ | (with_reducible refine w_tup.mpr ?_) | (with_reducible refine w_lst.mpr ?_) | (with_reducible refine b_mul.mpr (And.symm ⟨?_, by first | exact mulOk_l (by omega) (by omega) | exact mulOk_r (by omega) (by omega) | exact mulOk_bd (a := 1000) (b := 1000) (by assumption) (by assumption) (by decide) (by decide) (by decide) | assumption⟩)) | (with_reducible refine b_mod.mpr (And.symm ⟨?_, by first | omega | assumption⟩)) | (with_reducible refine b_div.mpr (And.symm ⟨?_, by first | exact divOk_of (by omega) (by omega) | assumption⟩)) | (with_reducible refine b_pow.mpr ⟨by decide, ?_⟩) | refine ⟨_, rfl, Eq.refl (penM _ _ _), ?_⟩ | refine ⟨_, rfl, ⟨by omega, by omega⟩, ?_⟩ | refine ⟨_, rfl, ?_⟩ | refine ⟨_, _, rfl, ?_⟩ | refine ⟨_, _, _, rfl, rfl, rfl, ?_⟩ | refine ⟨_, _, rfl, rfl, of_decide_eq_true rfl, ?_⟩ | refine ⟨_, ne_nil _, ?_⟩ | ((with_reducible refine lenOk ?_ ?_); rfl) | refine ⟨_, rfl, rfl, ?_⟩ | with_reducible refine w_rng1.mpr ?_ | with_reducible refine w_rng2.mpr ?_ | ((with_reducible refine ifT ?_ ?_); rfl) | ((with_reducible refine ifF ?_ ?_); rfl))
      have m0 := Int.emod_nonneg x (b := y) (by omega)
      have m1 := Int.emod_lt_of_pos x hy
      refine ⟨(x % y).toNat, by omega, rfl, y, x % y, rfl, y0, m0, rfl, ?_⟩
      have e1 : (x % y).natAbs = x.natAbs % y.natAbs := by
        rw [Int.natAbs_emod x (by omega), if_pos (.inl x0)]
      rw [← hg]
      show Nat.gcd y.natAbs (x % y).natAbs = Nat.gcd x.natAbs y.natAbs
      rw [e1, Nat.gcd_comm y.natAbs, ← Nat.gcd_rec, Nat.gcd_comm]
    · rw [decide_eq_false hy, if_neg (by decide)]
      repeat (first | ((with_reducible refine pg_turn ?_ ?_); rfl) | ((with_reducible refine pg_left ?_ ?_); rfl) | ((with_reducible refine pg_cells ?_ ?_); rfl) | ((with_reducible refine ps_turn ?_ ?_); rfl) | ((with_reducible refine ps_left ?_ ?_); rfl) | ((with_reducible refine w_var.mpr ?_); refine ⟨_, rfl, ?_⟩) | with_reducible refine wp_ok.mpr ?_ | with_reducible refine w_int.mpr ?_ | with_reducible refine w_bl.mpr ?_ | with_reducible refine w_non.mpr ?_ | with_reducible refine w_str.mpr ?_ | with_reducible refine w_glob.mpr ?_ | with_reducible refine w_chain.mpr ?_ | with_reducible refine w_ite.mpr ?_ | with_reducible refine w_esn.mpr ?_ | with_reducible refine w_esc.mpr ?_ | with_reducible refine w_tnot.mpr ?_ | with_reducible refine w_tand.mpr ?_ | with_reducible refine w_tor.mpr ?_ | with_reducible refine w_cn.mpr ?_ | with_reducible refine w_c1.mpr ?_ | with_reducible refine w_on.mpr ?_ | with_reducible refine w_rng2.mpr ?_ | with_reducible refine w_gnm.mpr ?_ | with_reducible refine w_kn.mpr ?_ | with_reducible refine w_kc.mpr ?_ | with_reducible refine w_asg.mpr ?_ | with_reducible refine w_par2.mpr ?_ | with_reducible refine w_expr.mpr ?_ | with_reducible refine w_ifs.mpr ?_ | with_reducible refine w_brk.mpr ?_ | with_reducible refine w_cnt.mpr ?_ | with_reducible refine w_pass.mpr ?_ | with_reducible refine w_raise.mpr ?_ | with_reducible refine w_sn.mpr ?_ | with_reducible refine w_sc.mpr ?_ | with_reducible refine w_call.mpr ?_ | with_reducible refine w_and.mpr ?_ | with_reducible refine w_or.mpr ?_ | with_reducible refine w_not.mpr ?_ | with_reducible refine w_neg.mpr ?_ | with_reducible refine w_dget.mpr ?_ | with_reducible refine w_dset.mpr ?_ | with_reducible refine w_gtup.mpr ?_ | with_reducible refine w_gltup.mpr ?_ | with_reducible refine w_gsn.mpr (And.intro rfl ?_) | with_reducible refine w_gsc.mpr ?_ | with_reducible refine w_ilst.mpr ?_ | with_reducible refine w_itup.mpr ?_ | with_reducible refine w_blt.mpr ?_ | with_reducible refine w_isi.mpr ?_ | with_reducible refine w_os.mpr ?_ | with_reducible refine w_idx.mpr ?_ | with_reducible refine w_slc.mpr ?_ | with_reducible refine w_bin.mpr ?_ | with_reducible refine w_cmp.mpr ?_ | with_reducible refine w_tval.mpr ?_ | with_reducible refine w_forr.mpr ?_ | with_reducible refine w_whl.mpr ?_ | with_reducible refine w_lc.mpr ?_ | with_reducible refine w_ret.mpr ?_ | with_reducible refine w_retN.mpr ?_ | (with_reducible refine w_tup.mpr ?_) | (with_reducible refine w_lst.mpr ?_) | (with_reducible refine b_mul.mpr (And.symm ⟨?_, by first | exact mulOk_l (by omega) (by omega) | exact mulOk_r (by omega) (by omega) | exact mulOk_bd (a := 1000) (b := 1000) (by assumption) (by assumption) (by decide) (by decide) (by decide) | assumption⟩)) | (with_reducible refine b_mod.mpr (And.symm ⟨?_, by first | omega | assumption⟩)) | (with_reducible refine b_div.mpr (And.symm ⟨?_, by first | exact divOk_of (by omega) (by omega) | assumption⟩)) | (with_reducible refine b_pow.mpr ⟨by decide, ?_⟩) | refine ⟨_, rfl, Eq.refl (penM _ _ _), ?_⟩ | refine ⟨_, rfl, ⟨by omega, by omega⟩, ?_⟩ | refine ⟨_, rfl, ?_⟩ | refine ⟨_, _, rfl, ?_⟩ | refine ⟨_, _, _, rfl, rfl, rfl, ?_⟩ | refine ⟨_, _, rfl, rfl, of_decide_eq_true rfl, ?_⟩ | refine ⟨_, ne_nil _, ?_⟩ | ((with_reducible refine lenOk ?_ ?_); rfl) | refine ⟨_, rfl, rfl, ?_⟩ | with_reducible refine w_rng1.mpr ?_ | with_reducible refine w_rng2.mpr ?_ | ((with_reducible refine ifT ?_ ?_); rfl) | ((with_reducible refine ifF ?_ ?_); rfl))
      have : y = 0 := by omega
      subst this
      have e : x = ((Int.gcd a b : Nat) : Int) := by rw [← hg]; simp [Int.gcd]; omega
      have fz : ∀ z : Int, x = z → (fin ([] : Mem).length (.int x) []).wp (fun d m => d = .int z ∧ m = []) (fun _ _ _ => False) := fun z hz => by subst hz; exact fin_v rfl
      exact fz _ e
end
end OB
namespace K70
open PySem PySem.Spec PyProof.Rows L2 OB
def top (i : Nat) : Stmt := PySem.Challenge.pw_outleap_k70_inverse_and_compose.main.body.getD i (.Pass ⟨0, 0, 0, 0⟩)
/-- _law_draw(_law_pen_here, _law_many): places 0=_law_pen_here 1=_law_many 2=_law_digit 3=_law_turn 4=_law_cell 5=_law_primes 6=_law_prime 7=_law_drawn -/
def f_law_draw : FD := ⟨2, 8, (.cons (.ifs (.val (.cmp .Gt (.dget (.var 0) "left") (.int 0))) (.cons (.asg (.nm 2) (.bin .Mod (.dget (.var 0) "left") (.var 1))) (.cons (.dset (.var 0) "left" (.bin .FloorDiv (.dget (.var 0) "left") (.var 1))) (.cons (.ret (.var 2)) .nil))) .nil) (.cons (.asg (.nm 3) (.dget (.var 0) "turn")) (.cons (.dset (.var 0) "turn" (.bin .Add (.var 3) (.int 1))) (.cons (.asg (.nm 4) (.bin .Add (.bin .Mult (.int 41) (.var 3)) (.int 17))) (.cons (.ifs (.val (.cmp .NotEq (.dget (.var 0) "cells") (.lst .nil))) (.cons (.asg (.nm 4) (.idx (.dget (.var 0) "cells") (.bin .Mod (.var 3) (.blt .len (.cons (.dget (.var 0) "cells") .nil))))) .nil) .nil) (.cons (.ifs (.and (.val (.cmp .Lt (.var 3) (.blt .len (.cons (.dget (.var 0) "cells") .nil)))) (.val (.cmp .GtE (.blt .abs (.cons (.var 4) .nil)) (.bin .Pow (.int 10) (.int 18))))) (.cons (.dset (.var 0) "left" (.bin .FloorDiv (.bin .Sub (.blt .abs (.cons (.var 4) .nil)) (.bin .Pow (.int 10) (.int 18))) (.var 1))) (.cons (.ret (.bin .Mod (.bin .Sub (.blt .abs (.cons (.var 4) .nil)) (.bin .Pow (.int 10) (.int 18))) (.var 1))) .nil)) .nil) (.cons (.asg (.nm 5) (.lst (.cons (.int 2147483647) (.cons (.int 2147483629) (.cons (.int 2147483587) (.cons (.int 2147483579) (.cons (.int 2147483563) .nil))))))) (.cons (.asg (.nm 6) (.idx (.var 5) (.bin .Mod (.var 3) (.int 5)))) (.cons (.asg (.nm 7) (.bin .Mod (.bin .Add (.bin .Add (.bin .Mult (.bin .Mod (.var 4) (.var 6)) (.int 48271)) (.bin .Mult (.bin .Mult (.int 40692) (.var 3)) (.var 3))) (.int 31)) (.var 6))) (.cons (.asg (.nm 7) (.bin .Mod (.bin .Mult (.var 7) (.bin .Add (.var 7) (.int 69621))) (.idx (.var 5) (.bin .Mod (.bin .Add (.var 3) (.int 3)) (.int 5))))) (.cons (.ret (.bin .Mod (.bin .FloorDiv (.bin .Mod (.bin .Mult (.var 7) (.var 7)) (.int 2147483549)) (.int 64)) (.var 1))) .nil)))))))))))⟩
/-- _law_great(_law_pen_here, _law_figures): places 0=_law_pen_here 1=_law_figures 2=_law_result 3=_law_k -/
def f_law_great : FD := ⟨2, 4, (.cons (.asg (.nm 2) (.int 0)) (.cons (.forr (.nm 3) (.rng1 (.var 1)) (.cons (.asg (.nm 2) (.bin .Add (.bin .Mult (.int 10) (.var 2)) (.call 0 1 (.cons (.var 0) (.cons (.int 10) .nil))))) .nil)) (.cons (.ret (.var 2)) .nil)))⟩
/-- _law_map_corner(_law_table_here, _law_corner): places 0=_law_table_here 1=_law_corner 2=_law_a 3=_law_b 4=_law_c 5=_law_d 6=_law_p 7=_law_q -/
def f_law_map_corner : FD := ⟨2, 8, (.cons (.asg (.tup (.cons (.nm 2) (.cons (.nm 3) (.cons (.nm 4) (.cons (.nm 5) (.cons (.nm 6) (.cons (.nm 7) .nil))))))) (.var 0)) (.cons (.ret (.tup (.cons (.bin .Add (.bin .Add (.bin .Mult (.var 2) (.idx (.var 1) (.int 0))) (.bin .Mult (.var 3) (.idx (.var 1) (.int 1)))) (.var 6)) (.cons (.bin .Add (.bin .Add (.bin .Mult (.var 4) (.idx (.var 1) (.int 0))) (.bin .Mult (.var 5) (.idx (.var 1) (.int 1)))) (.var 7)) .nil)))) .nil))⟩
/-- _law_pen(_law_script): places 0=_law_script -/
def f_law_pen : FD := ⟨1, 1, (.cons (.ret (.disp (.cons "cells" (.blt .list (.cons (.slc (.var 0) .none (.some (.int 63))) .nil)) (.cons "turn" (.int 0) (.cons "left" (.int 0) .nil))))) .nil)⟩
/-- _law_pick(_law_pen_here, _law_options): places 0=_law_pen_here 1=_law_options -/
def f_law_pick : FD := ⟨2, 2, (.cons (.ret (.idx (.var 1) (.call 0 1 (.cons (.var 0) (.cons (.blt .len (.cons (.var 1) .nil)) .nil))))) .nil)⟩
/-- _law_gcd(_law_one, _law_two): places 0=_law_one 1=_law_two -/
def f_law_gcd : FD := ⟨2, 2, (.cons (.par2 0 1 (.blt .abs (.cons (.var 0) .nil)) (.blt .abs (.cons (.var 1) .nil))) (.cons (.whl (.val (.cmp .Gt (.var 1) (.int 0))) (.cons (.par2 0 1 (.var 1) (.bin .Mod (.var 0) (.var 1))) .nil)) (.cons (.ret (.var 0)) .nil)))⟩
/-- _law_point_form(_law_x, _law_y, _law_d): places 0=_law_x 1=_law_y 2=_law_d 3=_law_both -/
def f_law_point_form : FD := ⟨3, 4, (.cons (.asg (.nm 3) (.call 5 0 (.cons (.call 5 0 (.cons (.var 0) (.cons (.var 1) .nil))) (.cons (.var 2) .nil)))) (.cons (.ret (.tup (.cons (.bin .FloorDiv (.var 0) (.var 3)) (.cons (.bin .FloorDiv (.var 1) (.var 3)) (.cons (.bin .FloorDiv (.var 2) (.var 3)) .nil))))) .nil))⟩
/-- _law_table(_law_pen_here, _law_far): places 0=_law_pen_here 1=_law_far 2=_law_rows 3=_law_one 4=_law_two 5=_law_k 6=_law_table_here 7=_law_p 8=_law_q -/
def f_law_table : FD := ⟨2, 9, (.cons (.asg (.nm 2) (.lst (.cons (.tup (.cons (.int 1) (.cons (.int 0) (.cons (.int 0) (.cons (.int 1) .nil))))) (.cons (.tup (.cons (.int 1) (.cons (.int 1) (.cons (.int 0) (.cons (.int 1) .nil))))) (.cons (.tup (.cons (.int 1) (.cons (.int 0) (.cons (.int 1) (.cons (.int 1) .nil))))) (.cons (.tup (.cons (.int 0) (.cons (.neg (.int 1)) (.cons (.int 1) (.cons (.int 0) .nil))))) .nil)))))) (.cons (.asg (.nm 2) (.bin .Add (.var 2) (.lst (.cons (.tup (.cons (.int 1) (.cons (.neg (.int 1)) (.cons (.int 0) (.cons (.int 1) .nil))))) (.cons (.tup (.cons (.int 1) (.cons (.int 0) (.cons (.neg (.int 1)) (.cons (.int 1) .nil))))) (.cons (.tup (.cons (.int 0) (.cons (.int 1) (.cons (.int 1) (.cons (.int 0) .nil))))) (.cons (.tup (.cons (.int 2) (.cons (.int 1) (.cons (.int 1) (.cons (.int 1) .nil))))) .nil))))))) (.cons (.asg (.tup (.cons (.nm 3) (.cons (.nm 4) .nil))) (.tup (.cons (.tup (.cons (.int 1) (.cons (.int 0) .nil))) (.cons (.tup (.cons (.int 0) (.cons (.int 1) .nil))) .nil)))) (.cons (.forr (.nm 5) (.rng1 (.call 0 1 (.cons (.var 0) (.cons (.int 4) .nil)))) (.cons (.asg (.nm 6) (.bin .Add (.call 4 1 (.cons (.var 0) (.cons (.var 2) .nil))) (.tup (.cons (.int 0) (.cons (.int 0) .nil))))) (.cons (.par2 3 4 (.call 2 0 (.cons (.var 6) (.cons (.var 3) .nil))) (.call 2 0 (.cons (.var 6) (.cons (.var 4) .nil)))) .nil))) (.cons (.par2 7 8 (.bin .Sub (.call 0 1 (.cons (.var 0) (.cons (.bin .Add (.bin .Mult (.int 2) (.var 1)) (.int 1)) .nil))) (.var 1)) (.bin .Sub (.call 0 1 (.cons (.var 0) (.cons (.bin .Add (.bin .Mult (.int 2) (.var 1)) (.int 1)) .nil))) (.var 1))) (.cons (.ret (.tup (.cons (.idx (.var 3) (.int 0)) (.cons (.idx (.var 4) (.int 0)) (.cons (.idx (.var 3) (.int 1)) (.cons (.idx (.var 4) (.int 1)) (.cons (.var 7) (.cons (.var 8) .nil)))))))) .nil))))))⟩
/-- map_vertex(mapping, vertex): places 0=mapping 1=vertex 2=a 3=b 4=c 5=d 6=p 7=q 8=x 9=y -/
def f_map_vertex : FD := ⟨2, 10, (.cons (.asg (.tup (.cons (.nm 2) (.cons (.nm 3) (.cons (.nm 4) (.cons (.nm 5) (.cons (.nm 6) (.cons (.nm 7) .nil))))))) (.var 0)) (.cons (.asg (.tup (.cons (.nm 8) (.cons (.nm 9) .nil))) (.var 1)) (.cons (.ret (.tup (.cons (.bin .Add (.bin .Add (.bin .Mult (.var 2) (.var 8)) (.bin .Mult (.var 3) (.var 9))) (.var 6)) (.cons (.bin .Add (.bin .Add (.bin .Mult (.var 4) (.var 8)) (.bin .Mult (.var 5) (.var 9))) (.var 7)) .nil)))) .nil)))⟩
/-- cross(first, second): places 0=first 1=second -/
def f_cross : FD := ⟨2, 2, (.cons (.ret (.bin .Sub (.bin .Mult (.idx (.var 0) (.int 0)) (.idx (.var 1) (.int 1))) (.bin .Mult (.idx (.var 0) (.int 1)) (.idx (.var 1) (.int 0))))) .nil)⟩
/-- determinant(mapping): places 0=mapping -/
def f_determinant : FD := ⟨1, 1, (.cons (.ret (.call 9 0 (.cons (.slc (.var 0) .none (.some (.int 2))) (.cons (.slc (.var 0) (.some (.int 2)) (.some (.int 4))) .nil)))) .nil)⟩
/-- is_int(value): places 0=value -/
def f_is_int : FD := ⟨1, 1, (.cons (.ret (.and (.isi (.var 0) ["int"] true) (.not (.isi (.var 0) ["bool"] true)))) .nil)⟩
/-- is_map(value): places 0=value 1=number -/
def f_is_map : FD := ⟨1, 2, (.cons (.ifs (.or (.not (.val (.isi (.var 0) ["tuple"] true))) (.or (.val (.cmp .NotEq (.blt .len (.cons (.var 0) .nil)) (.int 6))) (.not (.val (.blt .all (.cons (.lc (.call 11 0 (.cons (.var 1) .nil)) [1] (.nm 1) (.tup (.var 0)) .nil) .nil)))))) (.cons (.ret (.bl false)) .nil) .nil) (.cons (.ret (.cmp .In (.call 10 0 (.cons (.var 0) .nil)) (.tup (.cons (.int 1) (.cons (.neg (.int 1)) .nil))))) .nil))⟩
/-- require_map(mapping): places 0=mapping -/
def f_require_map : FD := ⟨1, 1, (.cons (.ifs (.not (.val (.call 12 0 (.cons (.var 0) .nil)))) (.cons .nev .nil) .nil) .nil)⟩
/-- compose(first, second): places 0=first 1=second 2=a 3=b 4=c 5=d 6=p 7=q 8=linear 9=left 10=right -/
def f_compose : FD := ⟨2, 11, (.cons (.expr (.call 13 0 (.cons (.var 0) .nil))) (.cons (.expr (.call 13 0 (.cons (.var 1) .nil))) (.cons (.asg (.tup (.cons (.nm 2) (.cons (.nm 3) (.cons (.nm 4) (.cons (.nm 5) (.cons (.nm 6) (.cons (.nm 7) .nil))))))) (.var 0)) (.cons (.asg (.nm 8) (.bin .Add (.slc (.var 1) .none (.some (.int 4))) (.tup (.cons (.int 0) (.cons (.int 0) .nil))))) (.cons (.par2 9 10 (.call 8 0 (.cons (.var 8) (.cons (.tup (.cons (.var 2) (.cons (.var 4) .nil))) .nil))) (.call 8 0 (.cons (.var 8) (.cons (.tup (.cons (.var 3) (.cons (.var 5) .nil))) .nil)))) (.cons (.ret (.bin .Add (.tup (.cons (.idx (.var 9) (.int 0)) (.cons (.idx (.var 10) (.int 0)) (.cons (.idx (.var 9) (.int 1)) (.cons (.idx (.var 10) (.int 1)) .nil))))) (.call 8 0 (.cons (.var 1) (.cons (.tup (.cons (.var 6) (.cons (.var 7) .nil))) .nil))))) .nil))))))⟩
/-- inverse(mapping): places 0=mapping 1=a 2=b 3=c 4=d 5=p 6=q 7=sign -/
def f_inverse : FD := ⟨1, 8, (.cons (.expr (.call 13 0 (.cons (.var 0) .nil))) (.cons (.asg (.tup (.cons (.nm 1) (.cons (.nm 2) (.cons (.nm 3) (.cons (.nm 4) (.cons (.nm 5) (.cons (.nm 6) .nil))))))) (.var 0)) (.cons (.asg (.nm 7) (.call 10 0 (.cons (.var 0) .nil))) (.cons (.asg (.tup (.cons (.nm 1) (.cons (.nm 2) (.cons (.nm 3) (.cons (.nm 4) .nil))))) (.tup (.cons (.bin .Mult (.var 7) (.var 4)) (.cons (.bin .Mult (.neg (.var 7)) (.var 2)) (.cons (.bin .Mult (.neg (.var 7)) (.var 3)) (.cons (.bin .Mult (.var 7) (.var 1)) .nil)))))) (.cons (.ret (.tup (.cons (.var 1) (.cons (.var 2) (.cons (.var 3) (.cons (.var 4) (.cons (.bin .Sub (.bin .Mult (.neg (.var 1)) (.var 5)) (.bin .Mult (.var 2) (.var 6))) (.cons (.bin .Sub (.bin .Mult (.neg (.var 3)) (.var 5)) (.bin .Mult (.var 4) (.var 6))) .nil)))))))) .nil)))))⟩
/-- map_point(mapping, point): places 0=mapping 1=point 2=a 3=b 4=c 5=d 6=p 7=q 8=x 9=y 10=denominator -/
def f_map_point : FD := ⟨2, 11, (.cons (.asg (.tup (.cons (.nm 2) (.cons (.nm 3) (.cons (.nm 4) (.cons (.nm 5) (.cons (.nm 6) (.cons (.nm 7) .nil))))))) (.var 0)) (.cons (.asg (.tup (.cons (.nm 8) (.cons (.nm 9) (.cons (.nm 10) .nil)))) (.var 1)) (.cons (.ret (.tup (.cons (.bin .Add (.bin .Add (.bin .Mult (.var 2) (.var 8)) (.bin .Mult (.var 3) (.var 9))) (.bin .Mult (.var 6) (.var 10))) (.cons (.bin .Add (.bin .Add (.bin .Mult (.var 4) (.var 8)) (.bin .Mult (.var 5) (.var 9))) (.bin .Mult (.var 7) (.var 10))) (.cons (.var 10) .nil))))) .nil)))⟩
/-- is_int_in(value, low, high): places 0=value 1=low 2=high -/
def f_is_int_in : FD := ⟨3, 3, (.cons (.ret (.and (.call 11 0 (.cons (.var 0) .nil)) (.chain .LtE .LtE (.var 1) (.var 0) (.var 2)))) .nil)⟩
/-- gcd(first, second): places 0=first 1=second -/
def f_gcd : FD := ⟨2, 2, (.cons (.par2 0 1 (.blt .abs (.cons (.var 0) .nil)) (.blt .abs (.cons (.var 1) .nil))) (.cons (.whl (.val (.cmp .Gt (.var 1) (.int 0))) (.cons (.par2 0 1 (.var 1) (.bin .Mod (.var 0) (.var 1))) .nil)) (.cons (.ret (.var 0)) .nil)))⟩
/-- is_point_shape(value): places 0=value 1=number -/
def f_is_point_shape : FD := ⟨1, 2, (.cons (.ifs (.or (.not (.val (.isi (.var 0) ["tuple"] true))) (.or (.val (.cmp .NotEq (.blt .len (.cons (.var 0) .nil)) (.int 3))) (.not (.val (.blt .all (.cons (.lc (.call 11 0 (.cons (.var 1) .nil)) [1] (.nm 1) (.tup (.var 0)) .nil) .nil)))))) (.cons (.ret (.bl false)) .nil) .nil) (.cons (.ret (.and (.cmp .GtE (.idx (.var 0) (.int 2)) (.int 1)) (.cmp .Eq (.call 18 0 (.cons (.call 18 0 (.cons (.idx (.var 0) (.int 0)) (.cons (.idx (.var 0) (.int 1)) .nil))) (.cons (.idx (.var 0) (.int 2)) .nil))) (.int 1)))) .nil))⟩
/-- is_point(value): places 0=value 1=limit 2=number -/
def f_is_point : FD := ⟨1, 3, (.cons (.ifs (.or (.not (.val (.call 19 0 (.cons (.var 0) .nil)))) (.val (.cmp .Gt (.idx (.var 0) (.int 2)) (.glob "MAX_DENOMINATOR" 1000000)))) (.cons (.ret (.bl false)) .nil) .nil) (.cons (.asg (.nm 1) (.bin .Mult (.glob "MAX_DISTANCE" 10000000000000000000000000000000000000000) (.idx (.var 0) (.int 2)))) (.cons (.ret (.blt .all (.cons (.lc (.call 17 0 (.cons (.var 2) (.cons (.neg (.var 1)) (.cons (.var 1) .nil)))) [2] (.nm 2) (.tup (.slc (.var 0) .none (.some (.int 2)))) .nil) .nil))) .nil)))⟩
/-- require_point(point): places 0=point -/
def f_require_point : FD := ⟨1, 1, (.cons (.ifs (.not (.val (.call 20 0 (.cons (.var 0) .nil)))) (.cons .nev .nil) .nil) .nil)⟩
/-- transform_point(mapping, point): places 0=mapping 1=point -/
def f_transform_point : FD := ⟨2, 2, (.cons (.expr (.call 13 0 (.cons (.var 0) .nil))) (.cons (.expr (.call 21 0 (.cons (.var 1) .nil))) (.cons (.ret (.call 16 0 (.cons (.var 0) (.cons (.var 1) .nil)))) .nil)))⟩
/-- law(_law_script): places 0=_law_script 1=_law_pen_here 2=_law_still 3=_law_turn 4=_law_one 5=_law_two 6=_law_three 7=_law_back 8=_law_both 9=_law_k 10=_law_place 11=_law_corner 12=_law_there -/
def f_law : FD := ⟨1, 13, (.cons (.asg (.nm 1) (.call 3 0 (.cons (.var 0) .nil))) (.cons (.asg (.nm 2) (.tup (.cons (.int 1) (.cons (.int 0) (.cons (.int 0) (.cons (.int 1) (.cons (.int 0) (.cons (.int 0) .nil)))))))) (.cons (.forr (.nm 3) (.rng1 (.int 20)) (.cons (.asg (.ltup (.cons (.nm 4) (.cons (.nm 5) (.cons (.nm 6) .nil)))) (.lc (.call 7 1 (.cons (.var 1) (.cons (.call 4 1 (.cons (.var 1) (.cons (.lst (.cons (.int 2) (.cons (.int 60) (.cons (.bin .Pow (.int 10) (.int 9)) .nil)))) .nil))) .nil))) [9] (.nm 9) (.rng1 (.int 3)) .nil)) (.cons (.ifs (.val (.cmp .Eq (.call 0 1 (.cons (.var 1) (.cons (.int 3) .nil))) (.int 0))) (.cons (.asg (.nm 4) (.call 14 0 (.cons (.var 4) (.cons (.tup (.cons (.int 1) (.cons (.call 1 1 (.cons (.var 1) (.cons (.int 9) .nil))) (.cons (.int 0) (.cons (.int 1) (.cons (.int 0) (.cons (.int 0) .nil))))))) .nil)))) .nil) .nil) (.cons (.asg (.nm 7) (.call 15 0 (.cons (.var 4) .nil))) (.cons (.ifs (.or (.val (.cmp .NotEq (.call 14 0 (.cons (.var 4) (.cons (.var 7) .nil))) (.var 2))) (.or (.val (.cmp .NotEq (.call 14 0 (.cons (.var 7) (.cons (.var 4) .nil))) (.var 2))) (.val (.cmp .NotEq (.blt .repr (.cons (.call 15 0 (.cons (.var 7) .nil)) .nil)) (.blt .repr (.cons (.var 4) .nil)))))) (.cons (.ret (.bl false)) .nil) .nil) (.cons (.asg (.nm 8) (.call 14 0 (.cons (.var 4) (.cons (.var 5) .nil)))) (.cons (.forr (.nm 9) (.rng1 (.int 4)) (.cons (.asg (.nm 11) (.tup (.cons (.bin .Sub (.call 0 1 (.cons (.var 1) (.cons (.int 121) .nil))) (.int 60)) (.cons (.bin .Sub (.call 0 1 (.cons (.var 1) (.cons (.int 121) .nil))) (.int 60)) .nil)))) (.cons (.asg (.nm 12) (.call 2 0 (.cons (.var 5) (.cons (.call 2 0 (.cons (.var 4) (.cons (.var 11) .nil))) .nil)))) (.cons (.ifs (.or (.val (.cmp .NotEq (.call 2 0 (.cons (.var 8) (.cons (.var 11) .nil))) (.var 12))) (.val (.cmp .NotEq (.call 2 0 (.cons (.var 7) (.cons (.call 2 0 (.cons (.var 4) (.cons (.var 11) .nil))) .nil))) (.var 11)))) (.cons (.ret (.bl false)) .nil) .nil) .nil)))) (.cons (.ifs (.val (.cmp .NotEq (.call 14 0 (.cons (.call 14 0 (.cons (.var 4) (.cons (.var 5) .nil))) (.cons (.var 6) .nil))) (.call 14 0 (.cons (.var 4) (.cons (.call 14 0 (.cons (.var 5) (.cons (.var 6) .nil))) .nil))))) (.cons (.ret (.bl false)) .nil) .nil) (.cons (.ifs (.or (.val (.cmp .NotEq (.call 15 0 (.cons (.var 8) .nil)) (.call 14 0 (.cons (.call 15 0 (.cons (.var 5) .nil)) (.cons (.var 7) .nil))))) (.val (.cmp .NotEq (.call 14 0 (.cons (.var 2) (.cons (.var 4) .nil))) (.var 4)))) (.cons (.ret (.bl false)) .nil) .nil) (.cons (.asg (.nm 10) (.call 6 0 (.cons (.call 1 1 (.cons (.var 1) (.cons (.int 20) .nil))) (.cons (.bin .Sub (.int 0) (.call 1 1 (.cons (.var 1) (.cons (.int 20) .nil)))) (.cons (.bin .Add (.int 1) (.call 0 1 (.cons (.var 1) (.cons (.int 99) .nil)))) .nil))))) (.cons (.ifs (.val (.cmp .NotEq (.call 22 0 (.cons (.var 8) (.cons (.var 10) .nil))) (.call 22 0 (.cons (.var 5) (.cons (.call 22 0 (.cons (.var 4) (.cons (.var 10) .nil))) .nil))))) (.cons (.ret (.bl false)) .nil) .nil) .nil))))))))))) (.cons (.ret (.bl true)) .nil))))⟩
def gi : List (Str × Int) := [("MAX_DENOMINATOR", 1000000), ("MAX_DISTANCE", 10000000000000000000000000000000000000000)]
def fv : List Str := ["len", "abs", "range", "list", "isinstance", "int", "bool", "tuple", "all", "repr"]
def tb0 : List (Str × Nat) := []
def tb1 : List (Str × Nat) := [("_law_draw", 1)]
def tb2 : List (Str × Nat) := [("_law_draw", 1), ("_law_great", 2)]
def tb3 : List (Str × Nat) := [("_law_draw", 1), ("_law_great", 2), ("_law_map_corner", 1)]
def tb4 : List (Str × Nat) := [("_law_draw", 1), ("_law_great", 2), ("_law_map_corner", 1), ("_law_pen", 1)]
def tb5 : List (Str × Nat) := [("_law_draw", 1), ("_law_great", 2), ("_law_map_corner", 1), ("_law_pen", 1), ("_law_pick", 2)]
def tb6 : List (Str × Nat) := [("_law_draw", 1), ("_law_great", 2), ("_law_map_corner", 1), ("_law_pen", 1), ("_law_pick", 2), ("_law_gcd", 1)]
def tb7 : List (Str × Nat) := [("_law_draw", 1), ("_law_great", 2), ("_law_map_corner", 1), ("_law_pen", 1), ("_law_pick", 2), ("_law_gcd", 1), ("_law_point_form", 2)]
def tb8 : List (Str × Nat) := [("_law_draw", 1), ("_law_great", 2), ("_law_map_corner", 1), ("_law_pen", 1), ("_law_pick", 2), ("_law_gcd", 1), ("_law_point_form", 2), ("_law_table", 3)]
def tb9 : List (Str × Nat) := [("_law_draw", 1), ("_law_great", 2), ("_law_map_corner", 1), ("_law_pen", 1), ("_law_pick", 2), ("_law_gcd", 1), ("_law_point_form", 2), ("_law_table", 3), ("map_vertex", 1)]
def tb10 : List (Str × Nat) := [("_law_draw", 1), ("_law_great", 2), ("_law_map_corner", 1), ("_law_pen", 1), ("_law_pick", 2), ("_law_gcd", 1), ("_law_point_form", 2), ("_law_table", 3), ("map_vertex", 1), ("cross", 1)]
def tb11 : List (Str × Nat) := [("_law_draw", 1), ("_law_great", 2), ("_law_map_corner", 1), ("_law_pen", 1), ("_law_pick", 2), ("_law_gcd", 1), ("_law_point_form", 2), ("_law_table", 3), ("map_vertex", 1), ("cross", 1), ("determinant", 2)]
def tb12 : List (Str × Nat) := [("_law_draw", 1), ("_law_great", 2), ("_law_map_corner", 1), ("_law_pen", 1), ("_law_pick", 2), ("_law_gcd", 1), ("_law_point_form", 2), ("_law_table", 3), ("map_vertex", 1), ("cross", 1), ("determinant", 2), ("is_int", 1)]
def tb13 : List (Str × Nat) := [("_law_draw", 1), ("_law_great", 2), ("_law_map_corner", 1), ("_law_pen", 1), ("_law_pick", 2), ("_law_gcd", 1), ("_law_point_form", 2), ("_law_table", 3), ("map_vertex", 1), ("cross", 1), ("determinant", 2), ("is_int", 1), ("is_map", 3)]
def tb14 : List (Str × Nat) := [("_law_draw", 1), ("_law_great", 2), ("_law_map_corner", 1), ("_law_pen", 1), ("_law_pick", 2), ("_law_gcd", 1), ("_law_point_form", 2), ("_law_table", 3), ("map_vertex", 1), ("cross", 1), ("determinant", 2), ("is_int", 1), ("is_map", 3), ("require_map", 4)]
def tb15 : List (Str × Nat) := [("_law_draw", 1), ("_law_great", 2), ("_law_map_corner", 1), ("_law_pen", 1), ("_law_pick", 2), ("_law_gcd", 1), ("_law_point_form", 2), ("_law_table", 3), ("map_vertex", 1), ("cross", 1), ("determinant", 2), ("is_int", 1), ("is_map", 3), ("require_map", 4), ("compose", 5)]
def tb16 : List (Str × Nat) := [("_law_draw", 1), ("_law_great", 2), ("_law_map_corner", 1), ("_law_pen", 1), ("_law_pick", 2), ("_law_gcd", 1), ("_law_point_form", 2), ("_law_table", 3), ("map_vertex", 1), ("cross", 1), ("determinant", 2), ("is_int", 1), ("is_map", 3), ("require_map", 4), ("compose", 5), ("inverse", 5)]
def tb17 : List (Str × Nat) := [("_law_draw", 1), ("_law_great", 2), ("_law_map_corner", 1), ("_law_pen", 1), ("_law_pick", 2), ("_law_gcd", 1), ("_law_point_form", 2), ("_law_table", 3), ("map_vertex", 1), ("cross", 1), ("determinant", 2), ("is_int", 1), ("is_map", 3), ("require_map", 4), ("compose", 5), ("inverse", 5), ("map_point", 1)]
def tb18 : List (Str × Nat) := [("_law_draw", 1), ("_law_great", 2), ("_law_map_corner", 1), ("_law_pen", 1), ("_law_pick", 2), ("_law_gcd", 1), ("_law_point_form", 2), ("_law_table", 3), ("map_vertex", 1), ("cross", 1), ("determinant", 2), ("is_int", 1), ("is_map", 3), ("require_map", 4), ("compose", 5), ("inverse", 5), ("map_point", 1), ("is_int_in", 2)]
def tb19 : List (Str × Nat) := [("_law_draw", 1), ("_law_great", 2), ("_law_map_corner", 1), ("_law_pen", 1), ("_law_pick", 2), ("_law_gcd", 1), ("_law_point_form", 2), ("_law_table", 3), ("map_vertex", 1), ("cross", 1), ("determinant", 2), ("is_int", 1), ("is_map", 3), ("require_map", 4), ("compose", 5), ("inverse", 5), ("map_point", 1), ("is_int_in", 2), ("gcd", 1)]
def tb20 : List (Str × Nat) := [("_law_draw", 1), ("_law_great", 2), ("_law_map_corner", 1), ("_law_pen", 1), ("_law_pick", 2), ("_law_gcd", 1), ("_law_point_form", 2), ("_law_table", 3), ("map_vertex", 1), ("cross", 1), ("determinant", 2), ("is_int", 1), ("is_map", 3), ("require_map", 4), ("compose", 5), ("inverse", 5), ("map_point", 1), ("is_int_in", 2), ("gcd", 1), ("is_point_shape", 2)]
def tb21 : List (Str × Nat) := [("_law_draw", 1), ("_law_great", 2), ("_law_map_corner", 1), ("_law_pen", 1), ("_law_pick", 2), ("_law_gcd", 1), ("_law_point_form", 2), ("_law_table", 3), ("map_vertex", 1), ("cross", 1), ("determinant", 2), ("is_int", 1), ("is_map", 3), ("require_map", 4), ("compose", 5), ("inverse", 5), ("map_point", 1), ("is_int_in", 2), ("gcd", 1), ("is_point_shape", 2), ("is_point", 3)]
def tb22 : List (Str × Nat) := [("_law_draw", 1), ("_law_great", 2), ("_law_map_corner", 1), ("_law_pen", 1), ("_law_pick", 2), ("_law_gcd", 1), ("_law_point_form", 2), ("_law_table", 3), ("map_vertex", 1), ("cross", 1), ("determinant", 2), ("is_int", 1), ("is_map", 3), ("require_map", 4), ("compose", 5), ("inverse", 5), ("map_point", 1), ("is_int_in", 2), ("gcd", 1), ("is_point_shape", 2), ("is_point", 3), ("require_point", 4)]
def tb23 : List (Str × Nat) := [("_law_draw", 1), ("_law_great", 2), ("_law_map_corner", 1), ("_law_pen", 1), ("_law_pick", 2), ("_law_gcd", 1), ("_law_point_form", 2), ("_law_table", 3), ("map_vertex", 1), ("cross", 1), ("determinant", 2), ("is_int", 1), ("is_map", 3), ("require_map", 4), ("compose", 5), ("inverse", 5), ("map_point", 1), ("is_int_in", 2), ("gcd", 1), ("is_point_shape", 2), ("is_point", 3), ("require_point", 4), ("transform_point", 5)]
section
theorem sc_law_draw : FnScope ["_law_pen_here", "_law_many", "_law_digit", "_law_turn", "_law_cell", "_law_primes", "_law_prime", "_law_drawn"] ["_law_pen_here", "_law_many"] (defScope (top 25)) := ⟨rfl, rfl, rfl, by decide +kernel, rfl, by decide +kernel, by decide +kernel⟩
theorem ck_law_draw : chkSs ⟨tb0, gi, fv, []⟩ ⟨["_law_pen_here", "_law_many", "_law_digit", "_law_turn", "_law_cell", "_law_primes", "_law_prime", "_law_drawn"], defScope (top 25), true, 0⟩ f_law_draw.body (defBody (top 25)) = true := by decide +kernel
theorem sc_law_great : FnScope ["_law_pen_here", "_law_figures", "_law_result", "_law_k"] ["_law_pen_here", "_law_figures"] (defScope (top 27)) := ⟨rfl, rfl, rfl, by decide +kernel, rfl, by decide +kernel, by decide +kernel⟩
theorem ck_law_great : chkSs ⟨tb1, gi, fv, []⟩ ⟨["_law_pen_here", "_law_figures", "_law_result", "_law_k"], defScope (top 27), true, 1⟩ f_law_great.body (defBody (top 27)) = true := by decide +kernel
theorem sc_law_map_corner : FnScope ["_law_table_here", "_law_corner", "_law_a", "_law_b", "_law_c", "_law_d", "_law_p", "_law_q"] ["_law_table_here", "_law_corner"] (defScope (top 30)) := ⟨rfl, rfl, rfl, by decide +kernel, rfl, by decide +kernel, by decide +kernel⟩
theorem ck_law_map_corner : chkSs ⟨tb2, gi, fv, []⟩ ⟨["_law_table_here", "_law_corner", "_law_a", "_law_b", "_law_c", "_law_d", "_law_p", "_law_q"], defScope (top 30), true, 0⟩ f_law_map_corner.body (defBody (top 30)) = true := by decide +kernel
theorem sc_law_pen : FnScope ["_law_script"] ["_law_script"] (defScope (top 24)) := ⟨rfl, rfl, rfl, by decide +kernel, rfl, by decide +kernel, by decide +kernel⟩
theorem ck_law_pen : chkSs ⟨tb3, gi, fv, []⟩ ⟨["_law_script"], defScope (top 24), true, 0⟩ f_law_pen.body (defBody (top 24)) = true := by decide +kernel
theorem sc_law_pick : FnScope ["_law_pen_here", "_law_options"] ["_law_pen_here", "_law_options"] (defScope (top 26)) := ⟨rfl, rfl, rfl, by decide +kernel, rfl, by decide +kernel, by decide +kernel⟩
theorem ck_law_pick : chkSs ⟨tb4, gi, fv, []⟩ ⟨["_law_pen_here", "_law_options"], defScope (top 26), true, 1⟩ f_law_pick.body (defBody (top 26)) = true := by decide +kernel
theorem sc_law_gcd : FnScope ["_law_one", "_law_two"] ["_law_one", "_law_two"] (defScope (top 28)) := ⟨rfl, rfl, rfl, by decide +kernel, rfl, by decide +kernel, by decide +kernel⟩
theorem ck_law_gcd : chkSs ⟨tb5, gi, fv, []⟩ ⟨["_law_one", "_law_two"], defScope (top 28), true, 0⟩ f_law_gcd.body (defBody (top 28)) = true := by decide +kernel
theorem sc_law_point_form : FnScope ["_law_x", "_law_y", "_law_d", "_law_both"] ["_law_x", "_law_y", "_law_d"] (defScope (top 29)) := ⟨rfl, rfl, rfl, by decide +kernel, rfl, by decide +kernel, by decide +kernel⟩
theorem ck_law_point_form : chkSs ⟨tb6, gi, fv, []⟩ ⟨["_law_x", "_law_y", "_law_d", "_law_both"], defScope (top 29), true, 1⟩ f_law_point_form.body (defBody (top 29)) = true := by decide +kernel
theorem sc_law_table : FnScope ["_law_pen_here", "_law_far", "_law_rows", "_law_one", "_law_two", "_law_k", "_law_table_here", "_law_p", "_law_q"] ["_law_pen_here", "_law_far"] (defScope (top 31)) := ⟨rfl, rfl, rfl, by decide +kernel, rfl, by decide +kernel, by decide +kernel⟩
theorem ck_law_table : chkSs ⟨tb7, gi, fv, []⟩ ⟨["_law_pen_here", "_law_far", "_law_rows", "_law_one", "_law_two", "_law_k", "_law_table_here", "_law_p", "_law_q"], defScope (top 31), true, 2⟩ f_law_table.body (defBody (top 31)) = true := by decide +kernel
theorem sc_map_vertex : FnScope ["mapping", "vertex", "a", "b", "c", "d", "p", "q", "x", "y"] ["mapping", "vertex"] (defScope (top 18)) := ⟨rfl, rfl, rfl, by decide +kernel, rfl, by decide +kernel, by decide +kernel⟩
theorem ck_map_vertex : chkSs ⟨tb8, gi, fv, []⟩ ⟨["mapping", "vertex", "a", "b", "c", "d", "p", "q", "x", "y"], defScope (top 18), true, 0⟩ f_map_vertex.body (defBody (top 18)) = true := by decide +kernel
theorem sc_cross : FnScope ["first", "second"] ["first", "second"] (defScope (top 7)) := ⟨rfl, rfl, rfl, by decide +kernel, rfl, by decide +kernel, by decide +kernel⟩
theorem ck_cross : chkSs ⟨tb9, gi, fv, []⟩ ⟨["first", "second"], defScope (top 7), true, 0⟩ f_cross.body (defBody (top 7)) = true := by decide +kernel
theorem sc_determinant : FnScope ["mapping"] ["mapping"] (defScope (top 15)) := ⟨rfl, rfl, rfl, by decide +kernel, rfl, by decide +kernel, by decide +kernel⟩
theorem ck_determinant : chkSs ⟨tb10, gi, fv, []⟩ ⟨["mapping"], defScope (top 15), true, 1⟩ f_determinant.body (defBody (top 15)) = true := by decide +kernel
theorem sc_is_int : FnScope ["value"] ["value"] (defScope (top 4)) := ⟨rfl, rfl, rfl, by decide +kernel, rfl, by decide +kernel, by decide +kernel⟩
theorem ck_is_int : chkSs ⟨tb11, gi, fv, []⟩ ⟨["value"], defScope (top 4), true, 0⟩ f_is_int.body (defBody (top 4)) = true := by decide +kernel
theorem sc_is_map : FnScope ["value", "number"] ["value"] (defScope (top 16)) := ⟨rfl, rfl, rfl, by decide +kernel, rfl, by decide +kernel, by decide +kernel⟩
theorem ck_is_map : chkSs ⟨tb12, gi, fv, []⟩ ⟨["value", "number"], defScope (top 16), true, 2⟩ f_is_map.body (defBody (top 16)) = true := by decide +kernel
theorem sc_require_map : FnScope ["mapping"] ["mapping"] (defScope (top 17)) := ⟨rfl, rfl, rfl, by decide +kernel, rfl, by decide +kernel, by decide +kernel⟩
theorem ck_require_map : chkSs ⟨tb13, gi, fv, []⟩ ⟨["mapping"], defScope (top 17), true, 3⟩ f_require_map.body (defBody (top 17)) = true := by decide +kernel
theorem sc_compose : FnScope ["first", "second", "a", "b", "c", "d", "p", "q", "linear", "left", "right"] ["first", "second"] (defScope (top 22)) := ⟨rfl, rfl, rfl, by decide +kernel, rfl, by decide +kernel, by decide +kernel⟩
theorem ck_compose : chkSs ⟨tb14, gi, fv, []⟩ ⟨["first", "second", "a", "b", "c", "d", "p", "q", "linear", "left", "right"], defScope (top 22), true, 4⟩ f_compose.body (defBody (top 22)) = true := by decide +kernel
theorem sc_inverse : FnScope ["mapping", "a", "b", "c", "d", "p", "q", "sign"] ["mapping"] (defScope (top 21)) := ⟨rfl, rfl, rfl, by decide +kernel, rfl, by decide +kernel, by decide +kernel⟩
theorem ck_inverse : chkSs ⟨tb15, gi, fv, []⟩ ⟨["mapping", "a", "b", "c", "d", "p", "q", "sign"], defScope (top 21), true, 4⟩ f_inverse.body (defBody (top 21)) = true := by decide +kernel
theorem sc_map_point : FnScope ["mapping", "point", "a", "b", "c", "d", "p", "q", "x", "y", "denominator"] ["mapping", "point"] (defScope (top 19)) := ⟨rfl, rfl, rfl, by decide +kernel, rfl, by decide +kernel, by decide +kernel⟩
theorem ck_map_point : chkSs ⟨tb16, gi, fv, []⟩ ⟨["mapping", "point", "a", "b", "c", "d", "p", "q", "x", "y", "denominator"], defScope (top 19), true, 0⟩ f_map_point.body (defBody (top 19)) = true := by decide +kernel
theorem sc_is_int_in : FnScope ["value", "low", "high"] ["value", "low", "high"] (defScope (top 5)) := ⟨rfl, rfl, rfl, by decide +kernel, rfl, by decide +kernel, by decide +kernel⟩
theorem ck_is_int_in : chkSs ⟨tb17, gi, fv, []⟩ ⟨["value", "low", "high"], defScope (top 5), true, 1⟩ f_is_int_in.body (defBody (top 5)) = true := by decide +kernel
theorem sc_gcd : FnScope ["first", "second"] ["first", "second"] (defScope (top 6)) := ⟨rfl, rfl, rfl, by decide +kernel, rfl, by decide +kernel, by decide +kernel⟩
theorem ck_gcd : chkSs ⟨tb18, gi, fv, []⟩ ⟨["first", "second"], defScope (top 6), true, 0⟩ f_gcd.body (defBody (top 6)) = true := by decide +kernel
theorem sc_is_point_shape : FnScope ["value", "number"] ["value"] (defScope (top 11)) := ⟨rfl, rfl, rfl, by decide +kernel, rfl, by decide +kernel, by decide +kernel⟩
theorem ck_is_point_shape : chkSs ⟨tb19, gi, fv, []⟩ ⟨["value", "number"], defScope (top 11), true, 1⟩ f_is_point_shape.body (defBody (top 11)) = true := by decide +kernel
theorem sc_is_point : FnScope ["value", "limit", "number"] ["value"] (defScope (top 12)) := ⟨rfl, rfl, rfl, by decide +kernel, rfl, by decide +kernel, by decide +kernel⟩
theorem ck_is_point : chkSs ⟨tb20, gi, fv, []⟩ ⟨["value", "limit", "number"], defScope (top 12), true, 2⟩ f_is_point.body (defBody (top 12)) = true := by decide +kernel
theorem sc_require_point : FnScope ["point"] ["point"] (defScope (top 13)) := ⟨rfl, rfl, rfl, by decide +kernel, rfl, by decide +kernel, by decide +kernel⟩
theorem ck_require_point : chkSs ⟨tb21, gi, fv, []⟩ ⟨["point"], defScope (top 13), true, 3⟩ f_require_point.body (defBody (top 13)) = true := by decide +kernel
theorem sc_transform_point : FnScope ["mapping", "point"] ["mapping", "point"] (defScope (top 20)) := ⟨rfl, rfl, rfl, by decide +kernel, rfl, by decide +kernel, by decide +kernel⟩
theorem ck_transform_point : chkSs ⟨tb22, gi, fv, []⟩ ⟨["mapping", "point"], defScope (top 20), true, 4⟩ f_transform_point.body (defBody (top 20)) = true := by decide +kernel
theorem sc_law : FnScope ["_law_script", "_law_pen_here", "_law_still", "_law_turn", "_law_one", "_law_two", "_law_three", "_law_back", "_law_both", "_law_k", "_law_place", "_law_corner", "_law_there"] ["_law_script"] (defScope (top 32)) := ⟨rfl, rfl, rfl, by decide +kernel, rfl, by decide +kernel, by decide +kernel⟩
theorem ck_law : chkSs ⟨tb23, gi, fv, []⟩ ⟨["_law_script", "_law_pen_here", "_law_still", "_law_turn", "_law_one", "_law_two", "_law_three", "_law_back", "_law_both", "_law_k", "_law_place", "_law_corner", "_law_there"], defScope (top 32), true, 5⟩ f_law.body (defBody (top 32)) = true := by decide +kernel
end
def L0 : List FD := []
def L1 : List FD := [f_law_draw]
def L2 : List FD := [f_law_great, f_law_draw]
def L3 : List FD := [f_law_map_corner, f_law_great, f_law_draw]
def L4 : List FD := [f_law_pen, f_law_map_corner, f_law_great, f_law_draw]
def L5 : List FD := [f_law_pick, f_law_pen, f_law_map_corner, f_law_great, f_law_draw]
def L6 : List FD := [f_law_gcd, f_law_pick, f_law_pen, f_law_map_corner, f_law_great, f_law_draw]
def L7 : List FD := [f_law_point_form, f_law_gcd, f_law_pick, f_law_pen, f_law_map_corner, f_law_great, f_law_draw]
def L8 : List FD := [f_law_table, f_law_point_form, f_law_gcd, f_law_pick, f_law_pen, f_law_map_corner, f_law_great, f_law_draw]
def L9 : List FD := [f_map_vertex, f_law_table, f_law_point_form, f_law_gcd, f_law_pick, f_law_pen, f_law_map_corner, f_law_great, f_law_draw]
def L10 : List FD := [f_cross, f_map_vertex, f_law_table, f_law_point_form, f_law_gcd, f_law_pick, f_law_pen, f_law_map_corner, f_law_great, f_law_draw]
def L11 : List FD := [f_determinant, f_cross, f_map_vertex, f_law_table, f_law_point_form, f_law_gcd, f_law_pick, f_law_pen, f_law_map_corner, f_law_great, f_law_draw]
def L12 : List FD := [f_is_int, f_determinant, f_cross, f_map_vertex, f_law_table, f_law_point_form, f_law_gcd, f_law_pick, f_law_pen, f_law_map_corner, f_law_great, f_law_draw]
def L13 : List FD := [f_is_map, f_is_int, f_determinant, f_cross, f_map_vertex, f_law_table, f_law_point_form, f_law_gcd, f_law_pick, f_law_pen, f_law_map_corner, f_law_great, f_law_draw]
def L14 : List FD := [f_require_map, f_is_map, f_is_int, f_determinant, f_cross, f_map_vertex, f_law_table, f_law_point_form, f_law_gcd, f_law_pick, f_law_pen, f_law_map_corner, f_law_great, f_law_draw]
def L15 : List FD := [f_compose, f_require_map, f_is_map, f_is_int, f_determinant, f_cross, f_map_vertex, f_law_table, f_law_point_form, f_law_gcd, f_law_pick, f_law_pen, f_law_map_corner, f_law_great, f_law_draw]
def L16 : List FD := [f_inverse, f_compose, f_require_map, f_is_map, f_is_int, f_determinant, f_cross, f_map_vertex, f_law_table, f_law_point_form, f_law_gcd, f_law_pick, f_law_pen, f_law_map_corner, f_law_great, f_law_draw]
def L17 : List FD := [f_map_point, f_inverse, f_compose, f_require_map, f_is_map, f_is_int, f_determinant, f_cross, f_map_vertex, f_law_table, f_law_point_form, f_law_gcd, f_law_pick, f_law_pen, f_law_map_corner, f_law_great, f_law_draw]
def L18 : List FD := [f_is_int_in, f_map_point, f_inverse, f_compose, f_require_map, f_is_map, f_is_int, f_determinant, f_cross, f_map_vertex, f_law_table, f_law_point_form, f_law_gcd, f_law_pick, f_law_pen, f_law_map_corner, f_law_great, f_law_draw]
def L19 : List FD := [f_gcd, f_is_int_in, f_map_point, f_inverse, f_compose, f_require_map, f_is_map, f_is_int, f_determinant, f_cross, f_map_vertex, f_law_table, f_law_point_form, f_law_gcd, f_law_pick, f_law_pen, f_law_map_corner, f_law_great, f_law_draw]
def L20 : List FD := [f_is_point_shape, f_gcd, f_is_int_in, f_map_point, f_inverse, f_compose, f_require_map, f_is_map, f_is_int, f_determinant, f_cross, f_map_vertex, f_law_table, f_law_point_form, f_law_gcd, f_law_pick, f_law_pen, f_law_map_corner, f_law_great, f_law_draw]
def L21 : List FD := [f_is_point, f_is_point_shape, f_gcd, f_is_int_in, f_map_point, f_inverse, f_compose, f_require_map, f_is_map, f_is_int, f_determinant, f_cross, f_map_vertex, f_law_table, f_law_point_form, f_law_gcd, f_law_pick, f_law_pen, f_law_map_corner, f_law_great, f_law_draw]
def L22 : List FD := [f_require_point, f_is_point, f_is_point_shape, f_gcd, f_is_int_in, f_map_point, f_inverse, f_compose, f_require_map, f_is_map, f_is_int, f_determinant, f_cross, f_map_vertex, f_law_table, f_law_point_form, f_law_gcd, f_law_pick, f_law_pen, f_law_map_corner, f_law_great, f_law_draw]
def L23 : List FD := [f_transform_point, f_require_point, f_is_point, f_is_point_shape, f_gcd, f_is_int_in, f_map_point, f_inverse, f_compose, f_require_map, f_is_map, f_is_int, f_determinant, f_cross, f_map_vertex, f_law_table, f_law_point_form, f_law_gcd, f_law_pick, f_law_pen, f_law_map_corner, f_law_great, f_law_draw]
def d_law_draw : He.DefD := ⟨("_law_draw", none), "_law_draw", "_law_draw", defArgs (top 25), defBody (top 25), defScope (top 25), [], []⟩
def d_law_great : He.DefD := ⟨("_law_great", none), "_law_great", "_law_great", defArgs (top 27), defBody (top 27), defScope (top 27), [], []⟩
def d_law_map_corner : He.DefD := ⟨("_law_map_corner", none), "_law_map_corner", "_law_map_corner", defArgs (top 30), defBody (top 30), defScope (top 30), [], []⟩
def d_law_pen : He.DefD := ⟨("_law_pen", none), "_law_pen", "_law_pen", defArgs (top 24), defBody (top 24), defScope (top 24), [], []⟩
def d_law_pick : He.DefD := ⟨("_law_pick", none), "_law_pick", "_law_pick", defArgs (top 26), defBody (top 26), defScope (top 26), [], []⟩
def d_law_gcd : He.DefD := ⟨("_law_gcd", none), "_law_gcd", "_law_gcd", defArgs (top 28), defBody (top 28), defScope (top 28), [], []⟩
def d_law_point_form : He.DefD := ⟨("_law_point_form", none), "_law_point_form", "_law_point_form", defArgs (top 29), defBody (top 29), defScope (top 29), [], []⟩
def d_law_table : He.DefD := ⟨("_law_table", none), "_law_table", "_law_table", defArgs (top 31), defBody (top 31), defScope (top 31), [], []⟩
def d_map_vertex : He.DefD := ⟨("map_vertex", none), "map_vertex", "map_vertex", defArgs (top 18), defBody (top 18), defScope (top 18), [], []⟩
def d_cross : He.DefD := ⟨("cross", none), "cross", "cross", defArgs (top 7), defBody (top 7), defScope (top 7), [], []⟩
def d_determinant : He.DefD := ⟨("determinant", none), "determinant", "determinant", defArgs (top 15), defBody (top 15), defScope (top 15), [], []⟩
def d_is_int : He.DefD := ⟨("is_int", none), "is_int", "is_int", defArgs (top 4), defBody (top 4), defScope (top 4), [], []⟩
def d_is_map : He.DefD := ⟨("is_map", none), "is_map", "is_map", defArgs (top 16), defBody (top 16), defScope (top 16), [], []⟩
def d_require_map : He.DefD := ⟨("require_map", none), "require_map", "require_map", defArgs (top 17), defBody (top 17), defScope (top 17), [], []⟩
def d_compose : He.DefD := ⟨("compose", none), "compose", "compose", defArgs (top 22), defBody (top 22), defScope (top 22), [], []⟩
def d_inverse : He.DefD := ⟨("inverse", none), "inverse", "inverse", defArgs (top 21), defBody (top 21), defScope (top 21), [], []⟩
def d_map_point : He.DefD := ⟨("map_point", none), "map_point", "map_point", defArgs (top 19), defBody (top 19), defScope (top 19), [], []⟩
def d_is_int_in : He.DefD := ⟨("is_int_in", none), "is_int_in", "is_int_in", defArgs (top 5), defBody (top 5), defScope (top 5), [], []⟩
def d_gcd : He.DefD := ⟨("gcd", none), "gcd", "gcd", defArgs (top 6), defBody (top 6), defScope (top 6), [], []⟩
def d_is_point_shape : He.DefD := ⟨("is_point_shape", none), "is_point_shape", "is_point_shape", defArgs (top 11), defBody (top 11), defScope (top 11), [], []⟩
def d_is_point : He.DefD := ⟨("is_point", none), "is_point", "is_point", defArgs (top 12), defBody (top 12), defScope (top 12), [], []⟩
def d_require_point : He.DefD := ⟨("require_point", none), "require_point", "require_point", defArgs (top 13), defBody (top 13), defScope (top 13), [], []⟩
def d_transform_point : He.DefD := ⟨("transform_point", none), "transform_point", "transform_point", defArgs (top 20), defBody (top 20), defScope (top 20), [], []⟩
def d_law : He.DefD := ⟨("law", none), "law", "law", defArgs (top 32), defBody (top 32), defScope (top 32), [], []⟩
def fn : List He.DefD := [d_law_draw, d_law_great, d_law_map_corner, d_law_pen, d_law_pick, d_law_gcd, d_law_point_form, d_law_table, d_map_vertex, d_cross, d_determinant, d_is_int, d_is_map, d_require_map, d_compose, d_inverse, d_map_point, d_is_int_in, d_gcd, d_is_point_shape, d_is_point, d_require_point, d_transform_point, d_law]
def fa : List He.Fa := [.glo "_law_draw", .glo "_law_great", .glo "_law_map_corner", .glo "_law_pen", .glo "_law_pick", .glo "_law_gcd", .glo "_law_point_form", .glo "_law_table", .glo "map_vertex", .glo "cross", .glo "determinant", .glo "is_int", .glo "is_map", .glo "require_map", .glo "compose", .glo "inverse", .glo "map_point", .glo "is_int_in", .glo "gcd", .glo "is_point_shape", .glo "is_point", .glo "require_point", .glo "transform_point", .glo "law", .int "MAX_DENOMINATOR" 1000000, .int "MAX_DISTANCE" 10000000000000000000000000000000000000000, .free "len", .free "abs", .free "range", .free "list", .free "isinstance", .free "int", .free "bool", .free "tuple", .free "all", .free "repr"]
abbrev R : PySem.W.OpenRow := PySem.W.OpenLaw.row PySem.Challenge.rw_outleap_k70_inverse_and_compose
abbrev hk : PySem.W.Hook := He.hookD 4 fa fn
def ob (s : PySem.W.SharedT) : He.AlD := He.obsDG 4 fa fn (HandSHeadRun.getT s)
theorem ob_eq (s : PySem.W.SharedT) : ob s = hk.obs s.abs := He.obsDG_eq (HandSHeadRun.getT_eq s)
def loose : List Str := (["InvalidPoint", "InvalidMap", "is_int", "is_int_in", "gcd", "cross", "MAX_DENOMINATOR", "MAX_DISTANCE", "is_point_shape", "is_point", "require_point", "determinant", "is_map", "require_map", "map_vertex", "map_point", "transform_point", "inverse", "compose", "_law_pen", "_law_draw", "_law_pick", "_law_great", "_law_gcd", "_law_point_form", "_law_map_corner", "_law_table"] : List Str)
theorem run (w : World) : HandSHeadRun.RunEq R (PySem.W.view R.prog [32]) hk ob 4000 loose w := by
  intro os
  kernel_rfl
def nameAt : List Str := ["_law_draw", "_law_great", "_law_map_corner", "_law_pen", "_law_pick", "_law_gcd", "_law_point_form", "_law_table", "map_vertex", "cross", "determinant", "is_int", "is_map", "require_map", "compose", "inverse", "map_point", "is_int_in", "gcd", "is_point_shape", "is_point", "require_point", "transform_point", "law"]
def fnaK (K : PySem.W.Frag) (i : Nat) : Addr := He.ga K (nameAt.getD i "")
theorem facts {P : Program} {w : World} {K : PySem.W.Frag} {h : Heap} {mg : Str → Option Value} {f : Addr} (X : K.In h) (G : h.Ns mainGlobals mg) (hfa : mg ("law" : Str) = some (.ref f)) (c : He.SaysD fa fn K) :
    ∃ fd : FuncData, (∀ (s : Shared) (v : Value), BindsTo s fd ⟨[v], []⟩ [("_law_script", v)]) ∧ ∀ base : Heap, K.In base → base.Ns mainGlobals mg → FnG ⟨P, w, K, mg, base, fun _ => 0, fnaK K⟩ 6 f fd ["_law_script"] (spD ⟨P, w, K, mg, base, fun _ => 0, fnaK K⟩ (runF (phi L23) f_law)) := by
  obtain ⟨fd0, F0⟩ := c.def_ 0 (d := d_law_draw) rfl
  obtain ⟨fd1, F1⟩ := c.def_ 1 (d := d_law_great) rfl
  obtain ⟨fd2, F2⟩ := c.def_ 2 (d := d_law_map_corner) rfl
  obtain ⟨fd3, F3⟩ := c.def_ 3 (d := d_law_pen) rfl
  obtain ⟨fd4, F4⟩ := c.def_ 4 (d := d_law_pick) rfl
  obtain ⟨fd5, F5⟩ := c.def_ 5 (d := d_law_gcd) rfl
  obtain ⟨fd6, F6⟩ := c.def_ 6 (d := d_law_point_form) rfl
  obtain ⟨fd7, F7⟩ := c.def_ 7 (d := d_law_table) rfl
  obtain ⟨fd8, F8⟩ := c.def_ 8 (d := d_map_vertex) rfl
  obtain ⟨fd9, F9⟩ := c.def_ 9 (d := d_cross) rfl
  obtain ⟨fd10, F10⟩ := c.def_ 10 (d := d_determinant) rfl
  obtain ⟨fd11, F11⟩ := c.def_ 11 (d := d_is_int) rfl
  obtain ⟨fd12, F12⟩ := c.def_ 12 (d := d_is_map) rfl
  obtain ⟨fd13, F13⟩ := c.def_ 13 (d := d_require_map) rfl
  obtain ⟨fd14, F14⟩ := c.def_ 14 (d := d_compose) rfl
  obtain ⟨fd15, F15⟩ := c.def_ 15 (d := d_inverse) rfl
  obtain ⟨fd16, F16⟩ := c.def_ 16 (d := d_map_point) rfl
  obtain ⟨fd17, F17⟩ := c.def_ 17 (d := d_is_int_in) rfl
  obtain ⟨fd18, F18⟩ := c.def_ 18 (d := d_gcd) rfl
  obtain ⟨fd19, F19⟩ := c.def_ 19 (d := d_is_point_shape) rfl
  obtain ⟨fd20, F20⟩ := c.def_ 20 (d := d_is_point) rfl
  obtain ⟨fd21, F21⟩ := c.def_ 21 (d := d_require_point) rfl
  obtain ⟨fd22, F22⟩ := c.def_ 22 (d := d_transform_point) rfl
  obtain ⟨fd23, F23⟩ := c.def_ 23 (d := d_law) rfl
  have e := hfa.symm.trans (He.glo_ok X G (c.fact 23 (f := .glo "law") rfl))
  cases e
  have b := FunD.bindsA (ps := ["_law_script"]) F23 fun _ _ _ _ _ _ us hl => match us, hl with | [_], _ => rfl
  refine ⟨fd23, fun s v => b s [v] rfl, fun base _ _ => ?_⟩
  have X0 : Fx ⟨P, w, K, mg, base, fun _ => 0, fnaK K⟩ ⟨tb0, gi, fv, []⟩ (phi L0) := Fx.nil (fun p hp => by
    rcases List.mem_cons.mp hp with rfl | hp
    · exact He.int_ok X G (c.fact 24 rfl)
    rcases List.mem_cons.mp hp with rfl | hp
    · exact He.int_ok X G (c.fact 25 rfl)
    cases hp) (fun x hx => by
    rcases List.mem_cons.mp hx with rfl | hx
    · exact He.free_ok X G (c.fact 26 rfl)
    rcases List.mem_cons.mp hx with rfl | hx
    · exact He.free_ok X G (c.fact 27 rfl)
    rcases List.mem_cons.mp hx with rfl | hx
    · exact He.free_ok X G (c.fact 28 rfl)
    rcases List.mem_cons.mp hx with rfl | hx
    · exact He.free_ok X G (c.fact 29 rfl)
    rcases List.mem_cons.mp hx with rfl | hx
    · exact He.free_ok X G (c.fact 30 rfl)
    rcases List.mem_cons.mp hx with rfl | hx
    · exact He.free_ok X G (c.fact 31 rfl)
    rcases List.mem_cons.mp hx with rfl | hx
    · exact He.free_ok X G (c.fact 32 rfl)
    rcases List.mem_cons.mp hx with rfl | hx
    · exact He.free_ok X G (c.fact 33 rfl)
    rcases List.mem_cons.mp hx with rfl | hx
    · exact He.free_ok X G (c.fact 34 rfl)
    rcases List.mem_cons.mp hx with rfl | hx
    · exact He.free_ok X G (c.fact 35 rfl)
    cases hx)
  have X1 : Fx ⟨P, w, K, mg, base, fun _ => 0, fnaK K⟩ ⟨tb1, gi, fv, []⟩ (phi L1) := X0.more rfl rfl (He.glo_ok X G (c.fact 0 (f := .glo "_law_draw") rfl)) F0.kp (fnG_of F0 sc_law_draw X0 ck_law_draw rfl rfl) (F0.bindsN fun _ _ _ _ _ _ us hl => match us, hl with | [_, _], _ => rfl)
  have X2 : Fx ⟨P, w, K, mg, base, fun _ => 0, fnaK K⟩ ⟨tb2, gi, fv, []⟩ (phi L2) := X1.more rfl rfl (He.glo_ok X G (c.fact 1 (f := .glo "_law_great") rfl)) F1.kp (fnG_of F1 sc_law_great X1 ck_law_great rfl rfl) (F1.bindsN fun _ _ _ _ _ _ us hl => match us, hl with | [_, _], _ => rfl)
  have X3 : Fx ⟨P, w, K, mg, base, fun _ => 0, fnaK K⟩ ⟨tb3, gi, fv, []⟩ (phi L3) := X2.more rfl rfl (He.glo_ok X G (c.fact 2 (f := .glo "_law_map_corner") rfl)) F2.kp (fnG_of F2 sc_law_map_corner X2 ck_law_map_corner rfl rfl) (F2.bindsN fun _ _ _ _ _ _ us hl => match us, hl with | [_, _], _ => rfl)
  have X4 : Fx ⟨P, w, K, mg, base, fun _ => 0, fnaK K⟩ ⟨tb4, gi, fv, []⟩ (phi L4) := X3.more rfl rfl (He.glo_ok X G (c.fact 3 (f := .glo "_law_pen") rfl)) F3.kp (fnG_of F3 sc_law_pen X3 ck_law_pen rfl rfl) (F3.bindsN fun _ _ _ _ _ _ us hl => match us, hl with | [_], _ => rfl)
  have X5 : Fx ⟨P, w, K, mg, base, fun _ => 0, fnaK K⟩ ⟨tb5, gi, fv, []⟩ (phi L5) := X4.more rfl rfl (He.glo_ok X G (c.fact 4 (f := .glo "_law_pick") rfl)) F4.kp (fnG_of F4 sc_law_pick X4 ck_law_pick rfl rfl) (F4.bindsN fun _ _ _ _ _ _ us hl => match us, hl with | [_, _], _ => rfl)
  have X6 : Fx ⟨P, w, K, mg, base, fun _ => 0, fnaK K⟩ ⟨tb6, gi, fv, []⟩ (phi L6) := X5.more rfl rfl (He.glo_ok X G (c.fact 5 (f := .glo "_law_gcd") rfl)) F5.kp (fnG_of F5 sc_law_gcd X5 ck_law_gcd rfl rfl) (F5.bindsN fun _ _ _ _ _ _ us hl => match us, hl with | [_, _], _ => rfl)
  have X7 : Fx ⟨P, w, K, mg, base, fun _ => 0, fnaK K⟩ ⟨tb7, gi, fv, []⟩ (phi L7) := X6.more rfl rfl (He.glo_ok X G (c.fact 6 (f := .glo "_law_point_form") rfl)) F6.kp (fnG_of F6 sc_law_point_form X6 ck_law_point_form rfl rfl) (F6.bindsN fun _ _ _ _ _ _ us hl => match us, hl with | [_, _, _], _ => rfl)
  have X8 : Fx ⟨P, w, K, mg, base, fun _ => 0, fnaK K⟩ ⟨tb8, gi, fv, []⟩ (phi L8) := X7.more rfl rfl (He.glo_ok X G (c.fact 7 (f := .glo "_law_table") rfl)) F7.kp (fnG_of F7 sc_law_table X7 ck_law_table rfl rfl) (F7.bindsN fun _ _ _ _ _ _ us hl => match us, hl with | [_, _], _ => rfl)
  have X9 : Fx ⟨P, w, K, mg, base, fun _ => 0, fnaK K⟩ ⟨tb9, gi, fv, []⟩ (phi L9) := X8.more rfl rfl (He.glo_ok X G (c.fact 8 (f := .glo "map_vertex") rfl)) F8.kp (fnG_of F8 sc_map_vertex X8 ck_map_vertex rfl rfl) (F8.bindsN fun _ _ _ _ _ _ us hl => match us, hl with | [_, _], _ => rfl)
  have X10 : Fx ⟨P, w, K, mg, base, fun _ => 0, fnaK K⟩ ⟨tb10, gi, fv, []⟩ (phi L10) := X9.more rfl rfl (He.glo_ok X G (c.fact 9 (f := .glo "cross") rfl)) F9.kp (fnG_of F9 sc_cross X9 ck_cross rfl rfl) (F9.bindsN fun _ _ _ _ _ _ us hl => match us, hl with | [_, _], _ => rfl)
  have X11 : Fx ⟨P, w, K, mg, base, fun _ => 0, fnaK K⟩ ⟨tb11, gi, fv, []⟩ (phi L11) := X10.more rfl rfl (He.glo_ok X G (c.fact 10 (f := .glo "determinant") rfl)) F10.kp (fnG_of F10 sc_determinant X10 ck_determinant rfl rfl) (F10.bindsN fun _ _ _ _ _ _ us hl => match us, hl with | [_], _ => rfl)
  have X12 : Fx ⟨P, w, K, mg, base, fun _ => 0, fnaK K⟩ ⟨tb12, gi, fv, []⟩ (phi L12) := X11.more rfl rfl (He.glo_ok X G (c.fact 11 (f := .glo "is_int") rfl)) F11.kp (fnG_of F11 sc_is_int X11 ck_is_int rfl rfl) (F11.bindsN fun _ _ _ _ _ _ us hl => match us, hl with | [_], _ => rfl)
  have X13 : Fx ⟨P, w, K, mg, base, fun _ => 0, fnaK K⟩ ⟨tb13, gi, fv, []⟩ (phi L13) := X12.more rfl rfl (He.glo_ok X G (c.fact 12 (f := .glo "is_map") rfl)) F12.kp (fnG_of F12 sc_is_map X12 ck_is_map rfl rfl) (F12.bindsN fun _ _ _ _ _ _ us hl => match us, hl with | [_], _ => rfl)
  have X14 : Fx ⟨P, w, K, mg, base, fun _ => 0, fnaK K⟩ ⟨tb14, gi, fv, []⟩ (phi L14) := X13.more rfl rfl (He.glo_ok X G (c.fact 13 (f := .glo "require_map") rfl)) F13.kp (fnG_of F13 sc_require_map X13 ck_require_map rfl rfl) (F13.bindsN fun _ _ _ _ _ _ us hl => match us, hl with | [_], _ => rfl)
  have X15 : Fx ⟨P, w, K, mg, base, fun _ => 0, fnaK K⟩ ⟨tb15, gi, fv, []⟩ (phi L15) := X14.more rfl rfl (He.glo_ok X G (c.fact 14 (f := .glo "compose") rfl)) F14.kp (fnG_of F14 sc_compose X14 ck_compose rfl rfl) (F14.bindsN fun _ _ _ _ _ _ us hl => match us, hl with | [_, _], _ => rfl)
  have X16 : Fx ⟨P, w, K, mg, base, fun _ => 0, fnaK K⟩ ⟨tb16, gi, fv, []⟩ (phi L16) := X15.more rfl rfl (He.glo_ok X G (c.fact 15 (f := .glo "inverse") rfl)) F15.kp (fnG_of F15 sc_inverse X15 ck_inverse rfl rfl) (F15.bindsN fun _ _ _ _ _ _ us hl => match us, hl with | [_], _ => rfl)
  have X17 : Fx ⟨P, w, K, mg, base, fun _ => 0, fnaK K⟩ ⟨tb17, gi, fv, []⟩ (phi L17) := X16.more rfl rfl (He.glo_ok X G (c.fact 16 (f := .glo "map_point") rfl)) F16.kp (fnG_of F16 sc_map_point X16 ck_map_point rfl rfl) (F16.bindsN fun _ _ _ _ _ _ us hl => match us, hl with | [_, _], _ => rfl)
  have X18 : Fx ⟨P, w, K, mg, base, fun _ => 0, fnaK K⟩ ⟨tb18, gi, fv, []⟩ (phi L18) := X17.more rfl rfl (He.glo_ok X G (c.fact 17 (f := .glo "is_int_in") rfl)) F17.kp (fnG_of F17 sc_is_int_in X17 ck_is_int_in rfl rfl) (F17.bindsN fun _ _ _ _ _ _ us hl => match us, hl with | [_, _, _], _ => rfl)
  have X19 : Fx ⟨P, w, K, mg, base, fun _ => 0, fnaK K⟩ ⟨tb19, gi, fv, []⟩ (phi L19) := X18.more rfl rfl (He.glo_ok X G (c.fact 18 (f := .glo "gcd") rfl)) F18.kp (fnG_of F18 sc_gcd X18 ck_gcd rfl rfl) (F18.bindsN fun _ _ _ _ _ _ us hl => match us, hl with | [_, _], _ => rfl)
  have X20 : Fx ⟨P, w, K, mg, base, fun _ => 0, fnaK K⟩ ⟨tb20, gi, fv, []⟩ (phi L20) := X19.more rfl rfl (He.glo_ok X G (c.fact 19 (f := .glo "is_point_shape") rfl)) F19.kp (fnG_of F19 sc_is_point_shape X19 ck_is_point_shape rfl rfl) (F19.bindsN fun _ _ _ _ _ _ us hl => match us, hl with | [_], _ => rfl)
  have X21 : Fx ⟨P, w, K, mg, base, fun _ => 0, fnaK K⟩ ⟨tb21, gi, fv, []⟩ (phi L21) := X20.more rfl rfl (He.glo_ok X G (c.fact 20 (f := .glo "is_point") rfl)) F20.kp (fnG_of F20 sc_is_point X20 ck_is_point rfl rfl) (F20.bindsN fun _ _ _ _ _ _ us hl => match us, hl with | [_], _ => rfl)
  have X22 : Fx ⟨P, w, K, mg, base, fun _ => 0, fnaK K⟩ ⟨tb22, gi, fv, []⟩ (phi L22) := X21.more rfl rfl (He.glo_ok X G (c.fact 21 (f := .glo "require_point") rfl)) F21.kp (fnG_of F21 sc_require_point X21 ck_require_point rfl rfl) (F21.bindsN fun _ _ _ _ _ _ us hl => match us, hl with | [_], _ => rfl)
  have X23 : Fx ⟨P, w, K, mg, base, fun _ => 0, fnaK K⟩ ⟨tb23, gi, fv, []⟩ (phi L23) := X22.more rfl rfl (He.glo_ok X G (c.fact 22 (f := .glo "transform_point") rfl)) F22.kp (fnG_of F22 sc_transform_point X22 ck_transform_point rfl rfl) (F22.bindsN fun _ _ _ _ _ _ us hl => match us, hl with | [_, _], _ => rfl)
  exact fnG_of F23 sc_law X23 ck_law rfl rfl
end K70
namespace K70
open PySem PySem.Spec PyProof.Rows L2 OB
abbrev M6 (a b c d p q : Int) : D := .tup [.int a, .int b, .int c, .int d, .int p, .int q]
abbrev P3 (x y z : Int) : D := .tup [.int x, .int y, .int z]
abbrev P2 (x y : Int) : D := .tup [.int x, .int y]
abbrev BIG (x : Int) : Prop := Bd 1000 x
theorem fin_e {v w : D} {μ : Mem} (e : v = w) (h : w.lt 0 = true) : (fin 0 v μ).wp (fun d m => d = w ∧ m = []) (fun _ _ _ => False) := by
  subst e; exact fin_v h
theorem big_neg {x : Int} (h : BIG x) : BIG (-x) := by unfold BIG Bd at *; omega
theorem big_one {x : Int} (h : BIG x) : BIG (1 * x) := by rw [Int.one_mul]; exact h
theorem big_mone {x : Int} (h : BIG x) : BIG (-1 * x) := by rw [Int.neg_one_mul]; exact big_neg h
theorem big_i {x : Int} (h : -(2 ^ 64) < x) (h2 : x < 2 ^ 64) : BIG x := by
  unfold BIG Bd
  have : x.natAbs < 2 ^ 64 := by omega
  exact Nat.lt_of_lt_of_le this (Nat.pow_le_pow_right (by decide) (by decide))
theorem sem_is_int (Φ : Fns) (n : Int) : runF Φ f_is_int [.int n] [] = .ok (.bl true) [] := by
  refine wp_eq (run_wp2 [some (.int n)] rfl rfl ?_)
  unfold f_is_int
  repeat (first | ((with_reducible refine pg_turn ?_ ?_); rfl) | ((with_reducible refine pg_left ?_ ?_); rfl) | ((with_reducible refine pg_cells ?_ ?_); rfl) | ((with_reducible refine ps_turn ?_ ?_); rfl) | ((with_reducible refine ps_left ?_ ?_); rfl) | ((with_reducible refine w_var.mpr ?_); refine ⟨_, rfl, ?_⟩) | with_reducible refine wp_ok.mpr ?_ | with_reducible refine w_int.mpr ?_ | with_reducible refine w_bl.mpr ?_ | with_reducible refine w_non.mpr ?_ | with_reducible refine w_str.mpr ?_ | with_reducible refine w_glob.mpr ?_ | with_reducible refine w_chain.mpr ?_ | with_reducible refine w_ite.mpr ?_ | with_reducible refine w_esn.mpr ?_ | with_reducible refine w_esc.mpr ?_ | with_reducible refine w_tnot.mpr ?_ | with_reducible refine w_tand.mpr ?_ | with_reducible refine w_tor.mpr ?_ | with_reducible refine w_cn.mpr ?_ | with_reducible refine w_c1.mpr ?_ | with_reducible refine w_on.mpr ?_ | with_reducible refine w_rng2.mpr ?_ | with_reducible refine w_gnm.mpr ?_ | with_reducible refine w_kn.mpr ?_ | with_reducible refine w_kc.mpr ?_ | with_reducible refine w_asg.mpr ?_ | with_reducible refine w_par2.mpr ?_ | with_reducible refine w_expr.mpr ?_ | with_reducible refine w_ifs.mpr ?_ | with_reducible refine w_brk.mpr ?_ | with_reducible refine w_cnt.mpr ?_ | with_reducible refine w_pass.mpr ?_ | with_reducible refine w_raise.mpr ?_ | with_reducible refine w_sn.mpr ?_ | with_reducible refine w_sc.mpr ?_ | with_reducible refine w_call.mpr ?_ | with_reducible refine w_and.mpr ?_ | with_reducible refine w_or.mpr ?_ | with_reducible refine w_not.mpr ?_ | with_reducible refine w_neg.mpr ?_ | with_reducible refine w_dget.mpr ?_ | with_reducible refine w_dset.mpr ?_ | with_reducible refine w_gtup.mpr ?_ | with_reducible refine w_gltup.mpr ?_ | with_reducible refine w_gsn.mpr (And.intro rfl ?_) | with_reducible refine w_gsc.mpr ?_ | with_reducible refine w_ilst.mpr ?_ | with_reducible refine w_itup.mpr ?_ | with_reducible refine w_blt.mpr ?_ | with_reducible refine w_isi.mpr ?_ | with_reducible refine w_os.mpr ?_ | with_reducible refine w_idx.mpr ?_ | with_reducible refine w_slc.mpr ?_ | with_reducible refine w_bin.mpr ?_ | with_reducible refine w_cmp.mpr ?_ | with_reducible refine w_tval.mpr ?_ | with_reducible refine w_forr.mpr ?_ | with_reducible refine w_whl.mpr ?_ | with_reducible refine w_lc.mpr ?_ | with_reducible refine w_ret.mpr ?_ | with_reducible refine w_retN.mpr ?_ | (with_reducible refine w_tup.mpr ?_) | (with_reducible refine w_lst.mpr ?_) | (with_reducible refine b_mul.mpr (And.symm ⟨?_, by first | exact mulOk_l (by omega) (by omega) | exact mulOk_r (by omega) (by omega) | exact mulOk_bd (a := 1000) (b := 1000) (by assumption) (by assumption) (by decide) (by decide) (by decide) | assumption⟩)) | (with_reducible refine b_mod.mpr (And.symm ⟨?_, by first | omega | assumption⟩)) | (with_reducible refine b_div.mpr (And.symm ⟨?_, by first | exact divOk_of (by omega) (by omega) | assumption⟩)) | (with_reducible refine b_pow.mpr ⟨by decide, ?_⟩) | refine ⟨_, rfl, Eq.refl (penM _ _ _), ?_⟩ | refine ⟨_, rfl, ⟨by omega, by omega⟩, ?_⟩ | refine ⟨_, rfl, ?_⟩ | refine ⟨_, _, rfl, ?_⟩ | refine ⟨_, _, _, rfl, rfl, rfl, ?_⟩ | refine ⟨_, _, rfl, rfl, of_decide_eq_true rfl, ?_⟩ | refine ⟨_, ne_nil _, ?_⟩ | ((with_reducible refine lenOk ?_ ?_); rfl) | refine ⟨_, rfl, rfl, ?_⟩ | with_reducible refine w_rng1.mpr ?_ | with_reducible refine w_rng2.mpr ?_ | ((with_reducible refine ifT ?_ ?_); rfl) | ((with_reducible refine ifF ?_ ?_); rfl))
  exact fin_e rfl rfl
theorem sem_is_int_in (Φ : Fns) (n l h : Int) (hl : l ≤ n) (hh : n ≤ h) (h11 : Φ 11 [.int n] [] = .ok (.bl true) []) : runF Φ f_is_int_in [.int n, .int l, .int h] [] = .ok (.bl true) [] := by
  refine wp_eq (run_wp2 [some (.int n), some (.int l), some (.int h)] rfl rfl ?_)
  unfold f_is_int_in
  repeat (first | ((with_reducible refine pg_turn ?_ ?_); rfl) | ((with_reducible refine pg_left ?_ ?_); rfl) | ((with_reducible refine pg_cells ?_ ?_); rfl) | ((with_reducible refine ps_turn ?_ ?_); rfl) | ((with_reducible refine ps_left ?_ ?_); rfl) | ((with_reducible refine w_var.mpr ?_); refine ⟨_, rfl, ?_⟩) | with_reducible refine wp_ok.mpr ?_ | with_reducible refine w_int.mpr ?_ | with_reducible refine w_bl.mpr ?_ | with_reducible refine w_non.mpr ?_ | with_reducible refine w_str.mpr ?_ | with_reducible refine w_glob.mpr ?_ | with_reducible refine w_chain.mpr ?_ | with_reducible refine w_ite.mpr ?_ | with_reducible refine w_esn.mpr ?_ | with_reducible refine w_esc.mpr ?_ | with_reducible refine w_tnot.mpr ?_ | with_reducible refine w_tand.mpr ?_ | with_reducible refine w_tor.mpr ?_ | with_reducible refine w_cn.mpr ?_ | with_reducible refine w_c1.mpr ?_ | with_reducible refine w_on.mpr ?_ | with_reducible refine w_rng2.mpr ?_ | with_reducible refine w_gnm.mpr ?_ | with_reducible refine w_kn.mpr ?_ | with_reducible refine w_kc.mpr ?_ | with_reducible refine w_asg.mpr ?_ | with_reducible refine w_par2.mpr ?_ | with_reducible refine w_expr.mpr ?_ | with_reducible refine w_ifs.mpr ?_ | with_reducible refine w_brk.mpr ?_ | with_reducible refine w_cnt.mpr ?_ | with_reducible refine w_pass.mpr ?_ | with_reducible refine w_raise.mpr ?_ | with_reducible refine w_sn.mpr ?_ | with_reducible refine w_sc.mpr ?_ | with_reducible refine w_call.mpr ?_ | with_reducible refine w_and.mpr ?_ | with_reducible refine w_or.mpr ?_ | with_reducible refine w_not.mpr ?_ | with_reducible refine w_neg.mpr ?_ | with_reducible refine w_dget.mpr ?_ | with_reducible refine w_dset.mpr ?_ | with_reducible refine w_gtup.mpr ?_ | with_reducible refine w_gltup.mpr ?_ | with_reducible refine w_gsn.mpr (And.intro rfl ?_) | with_reducible refine w_gsc.mpr ?_ | with_reducible refine w_ilst.mpr ?_ | with_reducible refine w_itup.mpr ?_ | with_reducible refine w_blt.mpr ?_ | with_reducible refine w_isi.mpr ?_ | with_reducible refine w_os.mpr ?_ | with_reducible refine w_idx.mpr ?_ | with_reducible refine w_slc.mpr ?_ | with_reducible refine w_bin.mpr ?_ | with_reducible refine w_cmp.mpr ?_ | with_reducible refine w_tval.mpr ?_ | with_reducible refine w_forr.mpr ?_ | with_reducible refine w_whl.mpr ?_ | with_reducible refine w_lc.mpr ?_ | with_reducible refine w_ret.mpr ?_ | with_reducible refine w_retN.mpr ?_ | (with_reducible refine w_tup.mpr ?_) | (with_reducible refine w_lst.mpr ?_) | (with_reducible refine b_mul.mpr (And.symm ⟨?_, by first | exact mulOk_l (by omega) (by omega) | exact mulOk_r (by omega) (by omega) | exact mulOk_bd (a := 1000) (b := 1000) (by assumption) (by assumption) (by decide) (by decide) (by decide) | assumption⟩)) | (with_reducible refine b_mod.mpr (And.symm ⟨?_, by first | omega | assumption⟩)) | (with_reducible refine b_div.mpr (And.symm ⟨?_, by first | exact divOk_of (by omega) (by omega) | assumption⟩)) | (with_reducible refine b_pow.mpr ⟨by decide, ?_⟩) | refine ⟨_, rfl, Eq.refl (penM _ _ _), ?_⟩ | refine ⟨_, rfl, ⟨by omega, by omega⟩, ?_⟩ | refine ⟨_, rfl, ?_⟩ | refine ⟨_, _, rfl, ?_⟩ | refine ⟨_, _, _, rfl, rfl, rfl, ?_⟩ | refine ⟨_, _, rfl, rfl, of_decide_eq_true rfl, ?_⟩ | refine ⟨_, ne_nil _, ?_⟩ | ((with_reducible refine lenOk ?_ ?_); rfl) | refine ⟨_, rfl, rfl, ?_⟩ | with_reducible refine w_rng1.mpr ?_ | with_reducible refine w_rng2.mpr ?_ | ((with_reducible refine ifT ?_ ?_); rfl) | ((with_reducible refine ifF ?_ ?_); rfl))
  refine pure_step h11 rfl ?_
  repeat (first | ((with_reducible refine pg_turn ?_ ?_); rfl) | ((with_reducible refine pg_left ?_ ?_); rfl) | ((with_reducible refine pg_cells ?_ ?_); rfl) | ((with_reducible refine ps_turn ?_ ?_); rfl) | ((with_reducible refine ps_left ?_ ?_); rfl) | ((with_reducible refine w_var.mpr ?_); refine ⟨_, rfl, ?_⟩) | with_reducible refine wp_ok.mpr ?_ | with_reducible refine w_int.mpr ?_ | with_reducible refine w_bl.mpr ?_ | with_reducible refine w_non.mpr ?_ | with_reducible refine w_str.mpr ?_ | with_reducible refine w_glob.mpr ?_ | with_reducible refine w_chain.mpr ?_ | with_reducible refine w_ite.mpr ?_ | with_reducible refine w_esn.mpr ?_ | with_reducible refine w_esc.mpr ?_ | with_reducible refine w_tnot.mpr ?_ | with_reducible refine w_tand.mpr ?_ | with_reducible refine w_tor.mpr ?_ | with_reducible refine w_cn.mpr ?_ | with_reducible refine w_c1.mpr ?_ | with_reducible refine w_on.mpr ?_ | with_reducible refine w_rng2.mpr ?_ | with_reducible refine w_gnm.mpr ?_ | with_reducible refine w_kn.mpr ?_ | with_reducible refine w_kc.mpr ?_ | with_reducible refine w_asg.mpr ?_ | with_reducible refine w_par2.mpr ?_ | with_reducible refine w_expr.mpr ?_ | with_reducible refine w_ifs.mpr ?_ | with_reducible refine w_brk.mpr ?_ | with_reducible refine w_cnt.mpr ?_ | with_reducible refine w_pass.mpr ?_ | with_reducible refine w_raise.mpr ?_ | with_reducible refine w_sn.mpr ?_ | with_reducible refine w_sc.mpr ?_ | with_reducible refine w_call.mpr ?_ | with_reducible refine w_and.mpr ?_ | with_reducible refine w_or.mpr ?_ | with_reducible refine w_not.mpr ?_ | with_reducible refine w_neg.mpr ?_ | with_reducible refine w_dget.mpr ?_ | with_reducible refine w_dset.mpr ?_ | with_reducible refine w_gtup.mpr ?_ | with_reducible refine w_gltup.mpr ?_ | with_reducible refine w_gsn.mpr (And.intro rfl ?_) | with_reducible refine w_gsc.mpr ?_ | with_reducible refine w_ilst.mpr ?_ | with_reducible refine w_itup.mpr ?_ | with_reducible refine w_blt.mpr ?_ | with_reducible refine w_isi.mpr ?_ | with_reducible refine w_os.mpr ?_ | with_reducible refine w_idx.mpr ?_ | with_reducible refine w_slc.mpr ?_ | with_reducible refine w_bin.mpr ?_ | with_reducible refine w_cmp.mpr ?_ | with_reducible refine w_tval.mpr ?_ | with_reducible refine w_forr.mpr ?_ | with_reducible refine w_whl.mpr ?_ | with_reducible refine w_lc.mpr ?_ | with_reducible refine w_ret.mpr ?_ | with_reducible refine w_retN.mpr ?_ | (with_reducible refine w_tup.mpr ?_) | (with_reducible refine w_lst.mpr ?_) | (with_reducible refine b_mul.mpr (And.symm ⟨?_, by first | exact mulOk_l (by omega) (by omega) | exact mulOk_r (by omega) (by omega) | exact mulOk_bd (a := 1000) (b := 1000) (by assumption) (by assumption) (by decide) (by decide) (by decide) | assumption⟩)) | (with_reducible refine b_mod.mpr (And.symm ⟨?_, by first | omega | assumption⟩)) | (with_reducible refine b_div.mpr (And.symm ⟨?_, by first | exact divOk_of (by omega) (by omega) | assumption⟩)) | (with_reducible refine b_pow.mpr ⟨by decide, ?_⟩) | refine ⟨_, rfl, Eq.refl (penM _ _ _), ?_⟩ | refine ⟨_, rfl, ⟨by omega, by omega⟩, ?_⟩ | refine ⟨_, rfl, ?_⟩ | refine ⟨_, _, rfl, ?_⟩ | refine ⟨_, _, _, rfl, rfl, rfl, ?_⟩ | refine ⟨_, _, rfl, rfl, of_decide_eq_true rfl, ?_⟩ | refine ⟨_, ne_nil _, ?_⟩ | ((with_reducible refine lenOk ?_ ?_); rfl) | refine ⟨_, rfl, rfl, ?_⟩ | with_reducible refine w_rng1.mpr ?_ | with_reducible refine w_rng2.mpr ?_ | ((with_reducible refine ifT ?_ ?_); rfl) | ((with_reducible refine ifF ?_ ?_); rfl))
  rw [decide_eq_true hl, if_pos rfl]
  repeat (first | ((with_reducible refine pg_turn ?_ ?_); rfl) | ((with_reducible refine pg_left ?_ ?_); rfl) | ((with_reducible refine pg_cells ?_ ?_); rfl) | ((with_reducible refine ps_turn ?_ ?_); rfl) | ((with_reducible refine ps_left ?_ ?_); rfl) | ((with_reducible refine w_var.mpr ?_); refine ⟨_, rfl, ?_⟩) | with_reducible refine wp_ok.mpr ?_ | with_reducible refine w_int.mpr ?_ | with_reducible refine w_bl.mpr ?_ | with_reducible refine w_non.mpr ?_ | with_reducible refine w_str.mpr ?_ | with_reducible refine w_glob.mpr ?_ | with_reducible refine w_chain.mpr ?_ | with_reducible refine w_ite.mpr ?_ | with_reducible refine w_esn.mpr ?_ | with_reducible refine w_esc.mpr ?_ | with_reducible refine w_tnot.mpr ?_ | with_reducible refine w_tand.mpr ?_ | with_reducible refine w_tor.mpr ?_ | with_reducible refine w_cn.mpr ?_ | with_reducible refine w_c1.mpr ?_ | with_reducible refine w_on.mpr ?_ | with_reducible refine w_rng2.mpr ?_ | with_reducible refine w_gnm.mpr ?_ | with_reducible refine w_kn.mpr ?_ | with_reducible refine w_kc.mpr ?_ | with_reducible refine w_asg.mpr ?_ | with_reducible refine w_par2.mpr ?_ | with_reducible refine w_expr.mpr ?_ | with_reducible refine w_ifs.mpr ?_ | with_reducible refine w_brk.mpr ?_ | with_reducible refine w_cnt.mpr ?_ | with_reducible refine w_pass.mpr ?_ | with_reducible refine w_raise.mpr ?_ | with_reducible refine w_sn.mpr ?_ | with_reducible refine w_sc.mpr ?_ | with_reducible refine w_call.mpr ?_ | with_reducible refine w_and.mpr ?_ | with_reducible refine w_or.mpr ?_ | with_reducible refine w_not.mpr ?_ | with_reducible refine w_neg.mpr ?_ | with_reducible refine w_dget.mpr ?_ | with_reducible refine w_dset.mpr ?_ | with_reducible refine w_gtup.mpr ?_ | with_reducible refine w_gltup.mpr ?_ | with_reducible refine w_gsn.mpr (And.intro rfl ?_) | with_reducible refine w_gsc.mpr ?_ | with_reducible refine w_ilst.mpr ?_ | with_reducible refine w_itup.mpr ?_ | with_reducible refine w_blt.mpr ?_ | with_reducible refine w_isi.mpr ?_ | with_reducible refine w_os.mpr ?_ | with_reducible refine w_idx.mpr ?_ | with_reducible refine w_slc.mpr ?_ | with_reducible refine w_bin.mpr ?_ | with_reducible refine w_cmp.mpr ?_ | with_reducible refine w_tval.mpr ?_ | with_reducible refine w_forr.mpr ?_ | with_reducible refine w_whl.mpr ?_ | with_reducible refine w_lc.mpr ?_ | with_reducible refine w_ret.mpr ?_ | with_reducible refine w_retN.mpr ?_ | (with_reducible refine w_tup.mpr ?_) | (with_reducible refine w_lst.mpr ?_) | (with_reducible refine b_mul.mpr (And.symm ⟨?_, by first | exact mulOk_l (by omega) (by omega) | exact mulOk_r (by omega) (by omega) | exact mulOk_bd (a := 1000) (b := 1000) (by assumption) (by assumption) (by decide) (by decide) (by decide) | assumption⟩)) | (with_reducible refine b_mod.mpr (And.symm ⟨?_, by first | omega | assumption⟩)) | (with_reducible refine b_div.mpr (And.symm ⟨?_, by first | exact divOk_of (by omega) (by omega) | assumption⟩)) | (with_reducible refine b_pow.mpr ⟨by decide, ?_⟩) | refine ⟨_, rfl, Eq.refl (penM _ _ _), ?_⟩ | refine ⟨_, rfl, ⟨by omega, by omega⟩, ?_⟩ | refine ⟨_, rfl, ?_⟩ | refine ⟨_, _, rfl, ?_⟩ | refine ⟨_, _, _, rfl, rfl, rfl, ?_⟩ | refine ⟨_, _, rfl, rfl, of_decide_eq_true rfl, ?_⟩ | refine ⟨_, ne_nil _, ?_⟩ | ((with_reducible refine lenOk ?_ ?_); rfl) | refine ⟨_, rfl, rfl, ?_⟩ | with_reducible refine w_rng1.mpr ?_ | with_reducible refine w_rng2.mpr ?_ | ((with_reducible refine ifT ?_ ?_); rfl) | ((with_reducible refine ifF ?_ ?_); rfl))
  exact fin_e (by rw [decide_eq_true hh]) rfl
theorem sem_cross (Φ : Fns) (a b c d : Int) (ha : BIG a) (hb : BIG b) (hc : BIG c) (hd : BIG d) : runF Φ f_cross [P2 a b, P2 c d] [] = .ok (.int (a * d - b * c)) [] := by
  refine wp_eq (run_wp2 [some (P2 a b), some (P2 c d)] rfl rfl ?_)
  unfold f_cross
  repeat (first | ((with_reducible refine pg_turn ?_ ?_); rfl) | ((with_reducible refine pg_left ?_ ?_); rfl) | ((with_reducible refine pg_cells ?_ ?_); rfl) | ((with_reducible refine ps_turn ?_ ?_); rfl) | ((with_reducible refine ps_left ?_ ?_); rfl) | ((with_reducible refine w_var.mpr ?_); refine ⟨_, rfl, ?_⟩) | with_reducible refine wp_ok.mpr ?_ | with_reducible refine w_int.mpr ?_ | with_reducible refine w_bl.mpr ?_ | with_reducible refine w_non.mpr ?_ | with_reducible refine w_str.mpr ?_ | with_reducible refine w_glob.mpr ?_ | with_reducible refine w_chain.mpr ?_ | with_reducible refine w_ite.mpr ?_ | with_reducible refine w_esn.mpr ?_ | with_reducible refine w_esc.mpr ?_ | with_reducible refine w_tnot.mpr ?_ | with_reducible refine w_tand.mpr ?_ | with_reducible refine w_tor.mpr ?_ | with_reducible refine w_cn.mpr ?_ | with_reducible refine w_c1.mpr ?_ | with_reducible refine w_on.mpr ?_ | with_reducible refine w_rng2.mpr ?_ | with_reducible refine w_gnm.mpr ?_ | with_reducible refine w_kn.mpr ?_ | with_reducible refine w_kc.mpr ?_ | with_reducible refine w_asg.mpr ?_ | with_reducible refine w_par2.mpr ?_ | with_reducible refine w_expr.mpr ?_ | with_reducible refine w_ifs.mpr ?_ | with_reducible refine w_brk.mpr ?_ | with_reducible refine w_cnt.mpr ?_ | with_reducible refine w_pass.mpr ?_ | with_reducible refine w_raise.mpr ?_ | with_reducible refine w_sn.mpr ?_ | with_reducible refine w_sc.mpr ?_ | with_reducible refine w_call.mpr ?_ | with_reducible refine w_and.mpr ?_ | with_reducible refine w_or.mpr ?_ | with_reducible refine w_not.mpr ?_ | with_reducible refine w_neg.mpr ?_ | with_reducible refine w_dget.mpr ?_ | with_reducible refine w_dset.mpr ?_ | with_reducible refine w_gtup.mpr ?_ | with_reducible refine w_gltup.mpr ?_ | with_reducible refine w_gsn.mpr (And.intro rfl ?_) | with_reducible refine w_gsc.mpr ?_ | with_reducible refine w_ilst.mpr ?_ | with_reducible refine w_itup.mpr ?_ | with_reducible refine w_blt.mpr ?_ | with_reducible refine w_isi.mpr ?_ | with_reducible refine w_os.mpr ?_ | with_reducible refine w_idx.mpr ?_ | with_reducible refine w_slc.mpr ?_ | with_reducible refine w_bin.mpr ?_ | with_reducible refine w_cmp.mpr ?_ | with_reducible refine w_tval.mpr ?_ | with_reducible refine w_forr.mpr ?_ | with_reducible refine w_whl.mpr ?_ | with_reducible refine w_lc.mpr ?_ | with_reducible refine w_ret.mpr ?_ | with_reducible refine w_retN.mpr ?_ | (with_reducible refine w_tup.mpr ?_) | (with_reducible refine w_lst.mpr ?_) | (with_reducible refine b_mul.mpr (And.symm ⟨?_, by first | exact mulOk_l (by omega) (by omega) | exact mulOk_r (by omega) (by omega) | exact mulOk_bd (a := 1000) (b := 1000) (by assumption) (by assumption) (by decide) (by decide) (by decide) | assumption⟩)) | (with_reducible refine b_mod.mpr (And.symm ⟨?_, by first | omega | assumption⟩)) | (with_reducible refine b_div.mpr (And.symm ⟨?_, by first | exact divOk_of (by omega) (by omega) | assumption⟩)) | (with_reducible refine b_pow.mpr ⟨by decide, ?_⟩) | refine ⟨_, rfl, Eq.refl (penM _ _ _), ?_⟩ | refine ⟨_, rfl, ⟨by omega, by omega⟩, ?_⟩ | refine ⟨_, rfl, ?_⟩ | refine ⟨_, _, rfl, ?_⟩ | refine ⟨_, _, _, rfl, rfl, rfl, ?_⟩ | refine ⟨_, _, rfl, rfl, of_decide_eq_true rfl, ?_⟩ | refine ⟨_, ne_nil _, ?_⟩ | ((with_reducible refine lenOk ?_ ?_); rfl) | refine ⟨_, rfl, rfl, ?_⟩ | with_reducible refine w_rng1.mpr ?_ | with_reducible refine w_rng2.mpr ?_ | ((with_reducible refine ifT ?_ ?_); rfl) | ((with_reducible refine ifF ?_ ?_); rfl))
  exact fin_e rfl rfl
theorem sem_map_vertex (Φ : Fns) (a b c d p q x y : Int) (ha : BIG a) (hb : BIG b) (hc : BIG c) (hd : BIG d) (hx : BIG x) (hy : BIG y) :
    runF Φ f_map_vertex [M6 a b c d p q, P2 x y] [] = .ok (P2 (a * x + b * y + p) (c * x + d * y + q)) [] := by
  refine wp_eq (run_wp2 [some (M6 a b c d p q), some (P2 x y), none, none, none, none, none, none, none, none] rfl rfl ?_)
  unfold f_map_vertex
  repeat (first | ((with_reducible refine pg_turn ?_ ?_); rfl) | ((with_reducible refine pg_left ?_ ?_); rfl) | ((with_reducible refine pg_cells ?_ ?_); rfl) | ((with_reducible refine ps_turn ?_ ?_); rfl) | ((with_reducible refine ps_left ?_ ?_); rfl) | ((with_reducible refine w_var.mpr ?_); refine ⟨_, rfl, ?_⟩) | with_reducible refine wp_ok.mpr ?_ | with_reducible refine w_int.mpr ?_ | with_reducible refine w_bl.mpr ?_ | with_reducible refine w_non.mpr ?_ | with_reducible refine w_str.mpr ?_ | with_reducible refine w_glob.mpr ?_ | with_reducible refine w_chain.mpr ?_ | with_reducible refine w_ite.mpr ?_ | with_reducible refine w_esn.mpr ?_ | with_reducible refine w_esc.mpr ?_ | with_reducible refine w_tnot.mpr ?_ | with_reducible refine w_tand.mpr ?_ | with_reducible refine w_tor.mpr ?_ | with_reducible refine w_cn.mpr ?_ | with_reducible refine w_c1.mpr ?_ | with_reducible refine w_on.mpr ?_ | with_reducible refine w_rng2.mpr ?_ | with_reducible refine w_gnm.mpr ?_ | with_reducible refine w_kn.mpr ?_ | with_reducible refine w_kc.mpr ?_ | with_reducible refine w_asg.mpr ?_ | with_reducible refine w_par2.mpr ?_ | with_reducible refine w_expr.mpr ?_ | with_reducible refine w_ifs.mpr ?_ | with_reducible refine w_brk.mpr ?_ | with_reducible refine w_cnt.mpr ?_ | with_reducible refine w_pass.mpr ?_ | with_reducible refine w_raise.mpr ?_ | with_reducible refine w_sn.mpr ?_ | with_reducible refine w_sc.mpr ?_ | with_reducible refine w_call.mpr ?_ | with_reducible refine w_and.mpr ?_ | with_reducible refine w_or.mpr ?_ | with_reducible refine w_not.mpr ?_ | with_reducible refine w_neg.mpr ?_ | with_reducible refine w_dget.mpr ?_ | with_reducible refine w_dset.mpr ?_ | with_reducible refine w_gtup.mpr ?_ | with_reducible refine w_gltup.mpr ?_ | with_reducible refine w_gsn.mpr (And.intro rfl ?_) | with_reducible refine w_gsc.mpr ?_ | with_reducible refine w_ilst.mpr ?_ | with_reducible refine w_itup.mpr ?_ | with_reducible refine w_blt.mpr ?_ | with_reducible refine w_isi.mpr ?_ | with_reducible refine w_os.mpr ?_ | with_reducible refine w_idx.mpr ?_ | with_reducible refine w_slc.mpr ?_ | with_reducible refine w_bin.mpr ?_ | with_reducible refine w_cmp.mpr ?_ | with_reducible refine w_tval.mpr ?_ | with_reducible refine w_forr.mpr ?_ | with_reducible refine w_whl.mpr ?_ | with_reducible refine w_lc.mpr ?_ | with_reducible refine w_ret.mpr ?_ | with_reducible refine w_retN.mpr ?_ | (with_reducible refine w_tup.mpr ?_) | (with_reducible refine w_lst.mpr ?_) | (with_reducible refine b_mul.mpr (And.symm ⟨?_, by first | exact mulOk_l (by omega) (by omega) | exact mulOk_r (by omega) (by omega) | exact mulOk_bd (a := 1000) (b := 1000) (by assumption) (by assumption) (by decide) (by decide) (by decide) | assumption⟩)) | (with_reducible refine b_mod.mpr (And.symm ⟨?_, by first | omega | assumption⟩)) | (with_reducible refine b_div.mpr (And.symm ⟨?_, by first | exact divOk_of (by omega) (by omega) | assumption⟩)) | (with_reducible refine b_pow.mpr ⟨by decide, ?_⟩) | refine ⟨_, rfl, Eq.refl (penM _ _ _), ?_⟩ | refine ⟨_, rfl, ⟨by omega, by omega⟩, ?_⟩ | refine ⟨_, rfl, ?_⟩ | refine ⟨_, _, rfl, ?_⟩ | refine ⟨_, _, _, rfl, rfl, rfl, ?_⟩ | refine ⟨_, _, rfl, rfl, of_decide_eq_true rfl, ?_⟩ | refine ⟨_, ne_nil _, ?_⟩ | ((with_reducible refine lenOk ?_ ?_); rfl) | refine ⟨_, rfl, rfl, ?_⟩ | with_reducible refine w_rng1.mpr ?_ | with_reducible refine w_rng2.mpr ?_ | ((with_reducible refine ifT ?_ ?_); rfl) | ((with_reducible refine ifF ?_ ?_); rfl))
  exact fin_e rfl rfl
theorem sem_map_corner (Φ : Fns) (a b c d p q x y : Int) (ha : BIG a) (hb : BIG b) (hc : BIG c) (hd : BIG d) (hx : BIG x) (hy : BIG y) :
    runF Φ f_law_map_corner [M6 a b c d p q, P2 x y] [] = .ok (P2 (a * x + b * y + p) (c * x + d * y + q)) [] := by
  refine wp_eq (run_wp2 [some (M6 a b c d p q), some (P2 x y), none, none, none, none, none, none] rfl rfl ?_)
  unfold f_law_map_corner
  repeat (first | ((with_reducible refine pg_turn ?_ ?_); rfl) | ((with_reducible refine pg_left ?_ ?_); rfl) | ((with_reducible refine pg_cells ?_ ?_); rfl) | ((with_reducible refine ps_turn ?_ ?_); rfl) | ((with_reducible refine ps_left ?_ ?_); rfl) | ((with_reducible refine w_var.mpr ?_); refine ⟨_, rfl, ?_⟩) | with_reducible refine wp_ok.mpr ?_ | with_reducible refine w_int.mpr ?_ | with_reducible refine w_bl.mpr ?_ | with_reducible refine w_non.mpr ?_ | with_reducible refine w_str.mpr ?_ | with_reducible refine w_glob.mpr ?_ | with_reducible refine w_chain.mpr ?_ | with_reducible refine w_ite.mpr ?_ | with_reducible refine w_esn.mpr ?_ | with_reducible refine w_esc.mpr ?_ | with_reducible refine w_tnot.mpr ?_ | with_reducible refine w_tand.mpr ?_ | with_reducible refine w_tor.mpr ?_ | with_reducible refine w_cn.mpr ?_ | with_reducible refine w_c1.mpr ?_ | with_reducible refine w_on.mpr ?_ | with_reducible refine w_rng2.mpr ?_ | with_reducible refine w_gnm.mpr ?_ | with_reducible refine w_kn.mpr ?_ | with_reducible refine w_kc.mpr ?_ | with_reducible refine w_asg.mpr ?_ | with_reducible refine w_par2.mpr ?_ | with_reducible refine w_expr.mpr ?_ | with_reducible refine w_ifs.mpr ?_ | with_reducible refine w_brk.mpr ?_ | with_reducible refine w_cnt.mpr ?_ | with_reducible refine w_pass.mpr ?_ | with_reducible refine w_raise.mpr ?_ | with_reducible refine w_sn.mpr ?_ | with_reducible refine w_sc.mpr ?_ | with_reducible refine w_call.mpr ?_ | with_reducible refine w_and.mpr ?_ | with_reducible refine w_or.mpr ?_ | with_reducible refine w_not.mpr ?_ | with_reducible refine w_neg.mpr ?_ | with_reducible refine w_dget.mpr ?_ | with_reducible refine w_dset.mpr ?_ | with_reducible refine w_gtup.mpr ?_ | with_reducible refine w_gltup.mpr ?_ | with_reducible refine w_gsn.mpr (And.intro rfl ?_) | with_reducible refine w_gsc.mpr ?_ | with_reducible refine w_ilst.mpr ?_ | with_reducible refine w_itup.mpr ?_ | with_reducible refine w_blt.mpr ?_ | with_reducible refine w_isi.mpr ?_ | with_reducible refine w_os.mpr ?_ | with_reducible refine w_idx.mpr ?_ | with_reducible refine w_slc.mpr ?_ | with_reducible refine w_bin.mpr ?_ | with_reducible refine w_cmp.mpr ?_ | with_reducible refine w_tval.mpr ?_ | with_reducible refine w_forr.mpr ?_ | with_reducible refine w_whl.mpr ?_ | with_reducible refine w_lc.mpr ?_ | with_reducible refine w_ret.mpr ?_ | with_reducible refine w_retN.mpr ?_ | (with_reducible refine w_tup.mpr ?_) | (with_reducible refine w_lst.mpr ?_) | (with_reducible refine b_mul.mpr (And.symm ⟨?_, by first | exact mulOk_l (by omega) (by omega) | exact mulOk_r (by omega) (by omega) | exact mulOk_bd (a := 1000) (b := 1000) (by assumption) (by assumption) (by decide) (by decide) (by decide) | assumption⟩)) | (with_reducible refine b_mod.mpr (And.symm ⟨?_, by first | omega | assumption⟩)) | (with_reducible refine b_div.mpr (And.symm ⟨?_, by first | exact divOk_of (by omega) (by omega) | assumption⟩)) | (with_reducible refine b_pow.mpr ⟨by decide, ?_⟩) | refine ⟨_, rfl, Eq.refl (penM _ _ _), ?_⟩ | refine ⟨_, rfl, ⟨by omega, by omega⟩, ?_⟩ | refine ⟨_, rfl, ?_⟩ | refine ⟨_, _, rfl, ?_⟩ | refine ⟨_, _, _, rfl, rfl, rfl, ?_⟩ | refine ⟨_, _, rfl, rfl, of_decide_eq_true rfl, ?_⟩ | refine ⟨_, ne_nil _, ?_⟩ | ((with_reducible refine lenOk ?_ ?_); rfl) | refine ⟨_, rfl, rfl, ?_⟩ | with_reducible refine w_rng1.mpr ?_ | with_reducible refine w_rng2.mpr ?_ | ((with_reducible refine ifT ?_ ?_); rfl) | ((with_reducible refine ifF ?_ ?_); rfl))
  exact fin_e rfl rfl
theorem sem_map_point (Φ : Fns) (a b c d p q x y z : Int) (ha : BIG a) (hb : BIG b) (hc : BIG c) (hd : BIG d) (hp : BIG p) (hq : BIG q) (hx : BIG x) (hy : BIG y) (hz : BIG z) :
    runF Φ f_map_point [M6 a b c d p q, P3 x y z] [] = .ok (P3 (a * x + b * y + p * z) (c * x + d * y + q * z) z) [] := by
  refine wp_eq (run_wp2 [some (M6 a b c d p q), some (P3 x y z), none, none, none, none, none, none, none, none, none] rfl rfl ?_)
  unfold f_map_point
  repeat (first | ((with_reducible refine pg_turn ?_ ?_); rfl) | ((with_reducible refine pg_left ?_ ?_); rfl) | ((with_reducible refine pg_cells ?_ ?_); rfl) | ((with_reducible refine ps_turn ?_ ?_); rfl) | ((with_reducible refine ps_left ?_ ?_); rfl) | ((with_reducible refine w_var.mpr ?_); refine ⟨_, rfl, ?_⟩) | with_reducible refine wp_ok.mpr ?_ | with_reducible refine w_int.mpr ?_ | with_reducible refine w_bl.mpr ?_ | with_reducible refine w_non.mpr ?_ | with_reducible refine w_str.mpr ?_ | with_reducible refine w_glob.mpr ?_ | with_reducible refine w_chain.mpr ?_ | with_reducible refine w_ite.mpr ?_ | with_reducible refine w_esn.mpr ?_ | with_reducible refine w_esc.mpr ?_ | with_reducible refine w_tnot.mpr ?_ | with_reducible refine w_tand.mpr ?_ | with_reducible refine w_tor.mpr ?_ | with_reducible refine w_cn.mpr ?_ | with_reducible refine w_c1.mpr ?_ | with_reducible refine w_on.mpr ?_ | with_reducible refine w_rng2.mpr ?_ | with_reducible refine w_gnm.mpr ?_ | with_reducible refine w_kn.mpr ?_ | with_reducible refine w_kc.mpr ?_ | with_reducible refine w_asg.mpr ?_ | with_reducible refine w_par2.mpr ?_ | with_reducible refine w_expr.mpr ?_ | with_reducible refine w_ifs.mpr ?_ | with_reducible refine w_brk.mpr ?_ | with_reducible refine w_cnt.mpr ?_ | with_reducible refine w_pass.mpr ?_ | with_reducible refine w_raise.mpr ?_ | with_reducible refine w_sn.mpr ?_ | with_reducible refine w_sc.mpr ?_ | with_reducible refine w_call.mpr ?_ | with_reducible refine w_and.mpr ?_ | with_reducible refine w_or.mpr ?_ | with_reducible refine w_not.mpr ?_ | with_reducible refine w_neg.mpr ?_ | with_reducible refine w_dget.mpr ?_ | with_reducible refine w_dset.mpr ?_ | with_reducible refine w_gtup.mpr ?_ | with_reducible refine w_gltup.mpr ?_ | with_reducible refine w_gsn.mpr (And.intro rfl ?_) | with_reducible refine w_gsc.mpr ?_ | with_reducible refine w_ilst.mpr ?_ | with_reducible refine w_itup.mpr ?_ | with_reducible refine w_blt.mpr ?_ | with_reducible refine w_isi.mpr ?_ | with_reducible refine w_os.mpr ?_ | with_reducible refine w_idx.mpr ?_ | with_reducible refine w_slc.mpr ?_ | with_reducible refine w_bin.mpr ?_ | with_reducible refine w_cmp.mpr ?_ | with_reducible refine w_tval.mpr ?_ | with_reducible refine w_forr.mpr ?_ | with_reducible refine w_whl.mpr ?_ | with_reducible refine w_lc.mpr ?_ | with_reducible refine w_ret.mpr ?_ | with_reducible refine w_retN.mpr ?_ | (with_reducible refine w_tup.mpr ?_) | (with_reducible refine w_lst.mpr ?_) | (with_reducible refine b_mul.mpr (And.symm ⟨?_, by first | exact mulOk_l (by omega) (by omega) | exact mulOk_r (by omega) (by omega) | exact mulOk_bd (a := 1000) (b := 1000) (by assumption) (by assumption) (by decide) (by decide) (by decide) | assumption⟩)) | (with_reducible refine b_mod.mpr (And.symm ⟨?_, by first | omega | assumption⟩)) | (with_reducible refine b_div.mpr (And.symm ⟨?_, by first | exact divOk_of (by omega) (by omega) | assumption⟩)) | (with_reducible refine b_pow.mpr ⟨by decide, ?_⟩) | refine ⟨_, rfl, Eq.refl (penM _ _ _), ?_⟩ | refine ⟨_, rfl, ⟨by omega, by omega⟩, ?_⟩ | refine ⟨_, rfl, ?_⟩ | refine ⟨_, _, rfl, ?_⟩ | refine ⟨_, _, _, rfl, rfl, rfl, ?_⟩ | refine ⟨_, _, rfl, rfl, of_decide_eq_true rfl, ?_⟩ | refine ⟨_, ne_nil _, ?_⟩ | ((with_reducible refine lenOk ?_ ?_); rfl) | refine ⟨_, rfl, rfl, ?_⟩ | with_reducible refine w_rng1.mpr ?_ | with_reducible refine w_rng2.mpr ?_ | ((with_reducible refine ifT ?_ ?_); rfl) | ((with_reducible refine ifF ?_ ?_); rfl))
  exact fin_e rfl rfl
theorem sem_determinant (Φ : Fns) (a b c d p q : Int) (h9 : Φ 9 [P2 a b, P2 c d] [] = .ok (.int (a * d - b * c)) []) : runF Φ f_determinant [M6 a b c d p q] [] = .ok (.int (a * d - b * c)) [] := by
  refine wp_eq (run_wp2 [some (M6 a b c d p q)] rfl rfl ?_)
  unfold f_determinant
  repeat (first | ((with_reducible refine pg_turn ?_ ?_); rfl) | ((with_reducible refine pg_left ?_ ?_); rfl) | ((with_reducible refine pg_cells ?_ ?_); rfl) | ((with_reducible refine ps_turn ?_ ?_); rfl) | ((with_reducible refine ps_left ?_ ?_); rfl) | ((with_reducible refine w_var.mpr ?_); refine ⟨_, rfl, ?_⟩) | with_reducible refine wp_ok.mpr ?_ | with_reducible refine w_int.mpr ?_ | with_reducible refine w_bl.mpr ?_ | with_reducible refine w_non.mpr ?_ | with_reducible refine w_str.mpr ?_ | with_reducible refine w_glob.mpr ?_ | with_reducible refine w_chain.mpr ?_ | with_reducible refine w_ite.mpr ?_ | with_reducible refine w_esn.mpr ?_ | with_reducible refine w_esc.mpr ?_ | with_reducible refine w_tnot.mpr ?_ | with_reducible refine w_tand.mpr ?_ | with_reducible refine w_tor.mpr ?_ | with_reducible refine w_cn.mpr ?_ | with_reducible refine w_c1.mpr ?_ | with_reducible refine w_on.mpr ?_ | with_reducible refine w_rng2.mpr ?_ | with_reducible refine w_gnm.mpr ?_ | with_reducible refine w_kn.mpr ?_ | with_reducible refine w_kc.mpr ?_ | with_reducible refine w_asg.mpr ?_ | with_reducible refine w_par2.mpr ?_ | with_reducible refine w_expr.mpr ?_ | with_reducible refine w_ifs.mpr ?_ | with_reducible refine w_brk.mpr ?_ | with_reducible refine w_cnt.mpr ?_ | with_reducible refine w_pass.mpr ?_ | with_reducible refine w_raise.mpr ?_ | with_reducible refine w_sn.mpr ?_ | with_reducible refine w_sc.mpr ?_ | with_reducible refine w_call.mpr ?_ | with_reducible refine w_and.mpr ?_ | with_reducible refine w_or.mpr ?_ | with_reducible refine w_not.mpr ?_ | with_reducible refine w_neg.mpr ?_ | with_reducible refine w_dget.mpr ?_ | with_reducible refine w_dset.mpr ?_ | with_reducible refine w_gtup.mpr ?_ | with_reducible refine w_gltup.mpr ?_ | with_reducible refine w_gsn.mpr (And.intro rfl ?_) | with_reducible refine w_gsc.mpr ?_ | with_reducible refine w_ilst.mpr ?_ | with_reducible refine w_itup.mpr ?_ | with_reducible refine w_blt.mpr ?_ | with_reducible refine w_isi.mpr ?_ | with_reducible refine w_os.mpr ?_ | with_reducible refine w_idx.mpr ?_ | with_reducible refine w_slc.mpr ?_ | with_reducible refine w_bin.mpr ?_ | with_reducible refine w_cmp.mpr ?_ | with_reducible refine w_tval.mpr ?_ | with_reducible refine w_forr.mpr ?_ | with_reducible refine w_whl.mpr ?_ | with_reducible refine w_lc.mpr ?_ | with_reducible refine w_ret.mpr ?_ | with_reducible refine w_retN.mpr ?_ | (with_reducible refine w_tup.mpr ?_) | (with_reducible refine w_lst.mpr ?_) | (with_reducible refine b_mul.mpr (And.symm ⟨?_, by first | exact mulOk_l (by omega) (by omega) | exact mulOk_r (by omega) (by omega) | exact mulOk_bd (a := 1000) (b := 1000) (by assumption) (by assumption) (by decide) (by decide) (by decide) | assumption⟩)) | (with_reducible refine b_mod.mpr (And.symm ⟨?_, by first | omega | assumption⟩)) | (with_reducible refine b_div.mpr (And.symm ⟨?_, by first | exact divOk_of (by omega) (by omega) | assumption⟩)) | (with_reducible refine b_pow.mpr ⟨by decide, ?_⟩) | refine ⟨_, rfl, Eq.refl (penM _ _ _), ?_⟩ | refine ⟨_, rfl, ⟨by omega, by omega⟩, ?_⟩ | refine ⟨_, rfl, ?_⟩ | refine ⟨_, _, rfl, ?_⟩ | refine ⟨_, _, _, rfl, rfl, rfl, ?_⟩ | refine ⟨_, _, rfl, rfl, of_decide_eq_true rfl, ?_⟩ | refine ⟨_, ne_nil _, ?_⟩ | ((with_reducible refine lenOk ?_ ?_); rfl) | refine ⟨_, rfl, rfl, ?_⟩ | with_reducible refine w_rng1.mpr ?_ | with_reducible refine w_rng2.mpr ?_ | ((with_reducible refine ifT ?_ ?_); rfl) | ((with_reducible refine ifF ?_ ?_); rfl))
  refine pure_step h9 rfl ?_
  repeat (first | ((with_reducible refine pg_turn ?_ ?_); rfl) | ((with_reducible refine pg_left ?_ ?_); rfl) | ((with_reducible refine pg_cells ?_ ?_); rfl) | ((with_reducible refine ps_turn ?_ ?_); rfl) | ((with_reducible refine ps_left ?_ ?_); rfl) | ((with_reducible refine w_var.mpr ?_); refine ⟨_, rfl, ?_⟩) | with_reducible refine wp_ok.mpr ?_ | with_reducible refine w_int.mpr ?_ | with_reducible refine w_bl.mpr ?_ | with_reducible refine w_non.mpr ?_ | with_reducible refine w_str.mpr ?_ | with_reducible refine w_glob.mpr ?_ | with_reducible refine w_chain.mpr ?_ | with_reducible refine w_ite.mpr ?_ | with_reducible refine w_esn.mpr ?_ | with_reducible refine w_esc.mpr ?_ | with_reducible refine w_tnot.mpr ?_ | with_reducible refine w_tand.mpr ?_ | with_reducible refine w_tor.mpr ?_ | with_reducible refine w_cn.mpr ?_ | with_reducible refine w_c1.mpr ?_ | with_reducible refine w_on.mpr ?_ | with_reducible refine w_rng2.mpr ?_ | with_reducible refine w_gnm.mpr ?_ | with_reducible refine w_kn.mpr ?_ | with_reducible refine w_kc.mpr ?_ | with_reducible refine w_asg.mpr ?_ | with_reducible refine w_par2.mpr ?_ | with_reducible refine w_expr.mpr ?_ | with_reducible refine w_ifs.mpr ?_ | with_reducible refine w_brk.mpr ?_ | with_reducible refine w_cnt.mpr ?_ | with_reducible refine w_pass.mpr ?_ | with_reducible refine w_raise.mpr ?_ | with_reducible refine w_sn.mpr ?_ | with_reducible refine w_sc.mpr ?_ | with_reducible refine w_call.mpr ?_ | with_reducible refine w_and.mpr ?_ | with_reducible refine w_or.mpr ?_ | with_reducible refine w_not.mpr ?_ | with_reducible refine w_neg.mpr ?_ | with_reducible refine w_dget.mpr ?_ | with_reducible refine w_dset.mpr ?_ | with_reducible refine w_gtup.mpr ?_ | with_reducible refine w_gltup.mpr ?_ | with_reducible refine w_gsn.mpr (And.intro rfl ?_) | with_reducible refine w_gsc.mpr ?_ | with_reducible refine w_ilst.mpr ?_ | with_reducible refine w_itup.mpr ?_ | with_reducible refine w_blt.mpr ?_ | with_reducible refine w_isi.mpr ?_ | with_reducible refine w_os.mpr ?_ | with_reducible refine w_idx.mpr ?_ | with_reducible refine w_slc.mpr ?_ | with_reducible refine w_bin.mpr ?_ | with_reducible refine w_cmp.mpr ?_ | with_reducible refine w_tval.mpr ?_ | with_reducible refine w_forr.mpr ?_ | with_reducible refine w_whl.mpr ?_ | with_reducible refine w_lc.mpr ?_ | with_reducible refine w_ret.mpr ?_ | with_reducible refine w_retN.mpr ?_ | (with_reducible refine w_tup.mpr ?_) | (with_reducible refine w_lst.mpr ?_) | (with_reducible refine b_mul.mpr (And.symm ⟨?_, by first | exact mulOk_l (by omega) (by omega) | exact mulOk_r (by omega) (by omega) | exact mulOk_bd (a := 1000) (b := 1000) (by assumption) (by assumption) (by decide) (by decide) (by decide) | assumption⟩)) | (with_reducible refine b_mod.mpr (And.symm ⟨?_, by first | omega | assumption⟩)) | (with_reducible refine b_div.mpr (And.symm ⟨?_, by first | exact divOk_of (by omega) (by omega) | assumption⟩)) | (with_reducible refine b_pow.mpr ⟨by decide, ?_⟩) | refine ⟨_, rfl, Eq.refl (penM _ _ _), ?_⟩ | refine ⟨_, rfl, ⟨by omega, by omega⟩, ?_⟩ | refine ⟨_, rfl, ?_⟩ | refine ⟨_, _, rfl, ?_⟩ | refine ⟨_, _, _, rfl, rfl, rfl, ?_⟩ | refine ⟨_, _, rfl, rfl, of_decide_eq_true rfl, ?_⟩ | refine ⟨_, ne_nil _, ?_⟩ | ((with_reducible refine lenOk ?_ ?_); rfl) | refine ⟨_, rfl, rfl, ?_⟩ | with_reducible refine w_rng1.mpr ?_ | with_reducible refine w_rng2.mpr ?_ | ((with_reducible refine ifT ?_ ?_); rfl) | ((with_reducible refine ifF ?_ ?_); rfl))
  exact fin_e rfl rfl
theorem sem_is_map (Φ : Fns) (a b c d p q : Int) (h11 : ∀ n : Int, Φ 11 [.int n] [] = .ok (.bl true) []) (h10 : Φ 10 [M6 a b c d p q] [] = .ok (.int (a * d - b * c)) []) (hdet : a * d - b * c = 1 ∨ a * d - b * c = -1) :
    runF Φ f_is_map [M6 a b c d p q] [] = .ok (.bl true) [] := by
  refine wp_eq (run_wp2 [some (M6 a b c d p q), none] rfl rfl ?_)
  unfold f_is_map
  repeat (first | ((with_reducible refine pg_turn ?_ ?_); rfl) | ((with_reducible refine pg_left ?_ ?_); rfl) | ((with_reducible refine pg_cells ?_ ?_); rfl) | ((with_reducible refine ps_turn ?_ ?_); rfl) | ((with_reducible refine ps_left ?_ ?_); rfl) | ((with_reducible refine w_var.mpr ?_); refine ⟨_, rfl, ?_⟩) | with_reducible refine wp_ok.mpr ?_ | with_reducible refine w_int.mpr ?_ | with_reducible refine w_bl.mpr ?_ | with_reducible refine w_non.mpr ?_ | with_reducible refine w_str.mpr ?_ | with_reducible refine w_glob.mpr ?_ | with_reducible refine w_chain.mpr ?_ | with_reducible refine w_ite.mpr ?_ | with_reducible refine w_esn.mpr ?_ | with_reducible refine w_esc.mpr ?_ | with_reducible refine w_tnot.mpr ?_ | with_reducible refine w_tand.mpr ?_ | with_reducible refine w_tor.mpr ?_ | with_reducible refine w_cn.mpr ?_ | with_reducible refine w_c1.mpr ?_ | with_reducible refine w_on.mpr ?_ | with_reducible refine w_rng2.mpr ?_ | with_reducible refine w_gnm.mpr ?_ | with_reducible refine w_kn.mpr ?_ | with_reducible refine w_kc.mpr ?_ | with_reducible refine w_asg.mpr ?_ | with_reducible refine w_par2.mpr ?_ | with_reducible refine w_expr.mpr ?_ | with_reducible refine w_ifs.mpr ?_ | with_reducible refine w_brk.mpr ?_ | with_reducible refine w_cnt.mpr ?_ | with_reducible refine w_pass.mpr ?_ | with_reducible refine w_raise.mpr ?_ | with_reducible refine w_sn.mpr ?_ | with_reducible refine w_sc.mpr ?_ | with_reducible refine w_call.mpr ?_ | with_reducible refine w_and.mpr ?_ | with_reducible refine w_or.mpr ?_ | with_reducible refine w_not.mpr ?_ | with_reducible refine w_neg.mpr ?_ | with_reducible refine w_dget.mpr ?_ | with_reducible refine w_dset.mpr ?_ | with_reducible refine w_gtup.mpr ?_ | with_reducible refine w_gltup.mpr ?_ | with_reducible refine w_gsn.mpr (And.intro rfl ?_) | with_reducible refine w_gsc.mpr ?_ | with_reducible refine w_ilst.mpr ?_ | with_reducible refine w_itup.mpr ?_ | with_reducible refine w_blt.mpr ?_ | with_reducible refine w_isi.mpr ?_ | with_reducible refine w_os.mpr ?_ | with_reducible refine w_idx.mpr ?_ | with_reducible refine w_slc.mpr ?_ | with_reducible refine w_bin.mpr ?_ | with_reducible refine w_cmp.mpr ?_ | with_reducible refine w_tval.mpr ?_ | with_reducible refine w_forr.mpr ?_ | with_reducible refine w_whl.mpr ?_ | with_reducible refine w_lc.mpr ?_ | with_reducible refine w_ret.mpr ?_ | with_reducible refine w_retN.mpr ?_ | (with_reducible refine w_tup.mpr ?_) | (with_reducible refine w_lst.mpr ?_) | (with_reducible refine b_mul.mpr (And.symm ⟨?_, by first | exact mulOk_l (by omega) (by omega) | exact mulOk_r (by omega) (by omega) | exact mulOk_bd (a := 1000) (b := 1000) (by assumption) (by assumption) (by decide) (by decide) (by decide) | assumption⟩)) | (with_reducible refine b_mod.mpr (And.symm ⟨?_, by first | omega | assumption⟩)) | (with_reducible refine b_div.mpr (And.symm ⟨?_, by first | exact divOk_of (by omega) (by omega) | assumption⟩)) | (with_reducible refine b_pow.mpr ⟨by decide, ?_⟩) | refine ⟨_, rfl, Eq.refl (penM _ _ _), ?_⟩ | refine ⟨_, rfl, ⟨by omega, by omega⟩, ?_⟩ | refine ⟨_, rfl, ?_⟩ | refine ⟨_, _, rfl, ?_⟩ | refine ⟨_, _, _, rfl, rfl, rfl, ?_⟩ | refine ⟨_, _, rfl, rfl, of_decide_eq_true rfl, ?_⟩ | refine ⟨_, ne_nil _, ?_⟩ | ((with_reducible refine lenOk ?_ ?_); rfl) | refine ⟨_, rfl, rfl, ?_⟩ | with_reducible refine w_rng1.mpr ?_ | with_reducible refine w_rng2.mpr ?_ | ((with_reducible refine ifT ?_ ?_); rfl) | ((with_reducible refine ifF ?_ ?_); rfl))
  refine lc_wp (fun i acc μ => acc = List.replicate i (D.bl true) ∧ μ = []) ⟨rfl, rfl⟩ ?_ ?_
  · rintro i x acc μ hx ⟨rfl, rfl⟩
    have hi := (List.getElem?_eq_some_iff.mp hx).1
    obtain ⟨n, rfl⟩ : ∃ n : Int, x = .int n := by
      have : x ∈ [D.int a, D.int b, D.int c, D.int d, D.int p, D.int q] := List.mem_of_getElem? hx
      simp only [List.mem_cons, List.not_mem_nil, or_false] at this
      rcases this with h | h | h | h | h | h <;> exact ⟨_, h⟩
    repeat (first | ((with_reducible refine pg_turn ?_ ?_); rfl) | ((with_reducible refine pg_left ?_ ?_); rfl) | ((with_reducible refine pg_cells ?_ ?_); rfl) | ((with_reducible refine ps_turn ?_ ?_); rfl) | ((with_reducible refine ps_left ?_ ?_); rfl) | ((with_reducible refine w_var.mpr ?_); refine ⟨_, rfl, ?_⟩) | with_reducible refine wp_ok.mpr ?_ | with_reducible refine w_int.mpr ?_ | with_reducible refine w_bl.mpr ?_ | with_reducible refine w_non.mpr ?_ | with_reducible refine w_str.mpr ?_ | with_reducible refine w_glob.mpr ?_ | with_reducible refine w_chain.mpr ?_ | with_reducible refine w_ite.mpr ?_ | with_reducible refine w_esn.mpr ?_ | with_reducible refine w_esc.mpr ?_ | with_reducible refine w_tnot.mpr ?_ | with_reducible refine w_tand.mpr ?_ | with_reducible refine w_tor.mpr ?_ | with_reducible refine w_cn.mpr ?_ | with_reducible refine w_c1.mpr ?_ | with_reducible refine w_on.mpr ?_ | with_reducible refine w_rng2.mpr ?_ | with_reducible refine w_gnm.mpr ?_ | with_reducible refine w_kn.mpr ?_ | with_reducible refine w_kc.mpr ?_ | with_reducible refine w_asg.mpr ?_ | with_reducible refine w_par2.mpr ?_ | with_reducible refine w_expr.mpr ?_ | with_reducible refine w_ifs.mpr ?_ | with_reducible refine w_brk.mpr ?_ | with_reducible refine w_cnt.mpr ?_ | with_reducible refine w_pass.mpr ?_ | with_reducible refine w_raise.mpr ?_ | with_reducible refine w_sn.mpr ?_ | with_reducible refine w_sc.mpr ?_ | with_reducible refine w_call.mpr ?_ | with_reducible refine w_and.mpr ?_ | with_reducible refine w_or.mpr ?_ | with_reducible refine w_not.mpr ?_ | with_reducible refine w_neg.mpr ?_ | with_reducible refine w_dget.mpr ?_ | with_reducible refine w_dset.mpr ?_ | with_reducible refine w_gtup.mpr ?_ | with_reducible refine w_gltup.mpr ?_ | with_reducible refine w_gsn.mpr (And.intro rfl ?_) | with_reducible refine w_gsc.mpr ?_ | with_reducible refine w_ilst.mpr ?_ | with_reducible refine w_itup.mpr ?_ | with_reducible refine w_blt.mpr ?_ | with_reducible refine w_isi.mpr ?_ | with_reducible refine w_os.mpr ?_ | with_reducible refine w_idx.mpr ?_ | with_reducible refine w_slc.mpr ?_ | with_reducible refine w_bin.mpr ?_ | with_reducible refine w_cmp.mpr ?_ | with_reducible refine w_tval.mpr ?_ | with_reducible refine w_forr.mpr ?_ | with_reducible refine w_whl.mpr ?_ | with_reducible refine w_lc.mpr ?_ | with_reducible refine w_ret.mpr ?_ | with_reducible refine w_retN.mpr ?_ | (with_reducible refine w_tup.mpr ?_) | (with_reducible refine w_lst.mpr ?_) | (with_reducible refine b_mul.mpr (And.symm ⟨?_, by first | exact mulOk_l (by omega) (by omega) | exact mulOk_r (by omega) (by omega) | exact mulOk_bd (a := 1000) (b := 1000) (by assumption) (by assumption) (by decide) (by decide) (by decide) | assumption⟩)) | (with_reducible refine b_mod.mpr (And.symm ⟨?_, by first | omega | assumption⟩)) | (with_reducible refine b_div.mpr (And.symm ⟨?_, by first | exact divOk_of (by omega) (by omega) | assumption⟩)) | (with_reducible refine b_pow.mpr ⟨by decide, ?_⟩) | refine ⟨_, rfl, Eq.refl (penM _ _ _), ?_⟩ | refine ⟨_, rfl, ⟨by omega, by omega⟩, ?_⟩ | refine ⟨_, rfl, ?_⟩ | refine ⟨_, _, rfl, ?_⟩ | refine ⟨_, _, _, rfl, rfl, rfl, ?_⟩ | refine ⟨_, _, rfl, rfl, of_decide_eq_true rfl, ?_⟩ | refine ⟨_, ne_nil _, ?_⟩ | ((with_reducible refine lenOk ?_ ?_); rfl) | refine ⟨_, rfl, rfl, ?_⟩ | with_reducible refine w_rng1.mpr ?_ | with_reducible refine w_rng2.mpr ?_ | ((with_reducible refine ifT ?_ ?_); rfl) | ((with_reducible refine ifF ?_ ?_); rfl))
    refine pure_step (h11 n) rfl ?_
    exact ⟨by rw [List.length_replicate]; exact Nat.lt_trans hi (of_decide_eq_true rfl), by rw [List.replicate_succ'], rfl⟩
  · rintro acc μ ⟨rfl, rfl⟩
    repeat (first | ((with_reducible refine pg_turn ?_ ?_); rfl) | ((with_reducible refine pg_left ?_ ?_); rfl) | ((with_reducible refine pg_cells ?_ ?_); rfl) | ((with_reducible refine ps_turn ?_ ?_); rfl) | ((with_reducible refine ps_left ?_ ?_); rfl) | ((with_reducible refine w_var.mpr ?_); refine ⟨_, rfl, ?_⟩) | with_reducible refine wp_ok.mpr ?_ | with_reducible refine w_int.mpr ?_ | with_reducible refine w_bl.mpr ?_ | with_reducible refine w_non.mpr ?_ | with_reducible refine w_str.mpr ?_ | with_reducible refine w_glob.mpr ?_ | with_reducible refine w_chain.mpr ?_ | with_reducible refine w_ite.mpr ?_ | with_reducible refine w_esn.mpr ?_ | with_reducible refine w_esc.mpr ?_ | with_reducible refine w_tnot.mpr ?_ | with_reducible refine w_tand.mpr ?_ | with_reducible refine w_tor.mpr ?_ | with_reducible refine w_cn.mpr ?_ | with_reducible refine w_c1.mpr ?_ | with_reducible refine w_on.mpr ?_ | with_reducible refine w_rng2.mpr ?_ | with_reducible refine w_gnm.mpr ?_ | with_reducible refine w_kn.mpr ?_ | with_reducible refine w_kc.mpr ?_ | with_reducible refine w_asg.mpr ?_ | with_reducible refine w_par2.mpr ?_ | with_reducible refine w_expr.mpr ?_ | with_reducible refine w_ifs.mpr ?_ | with_reducible refine w_brk.mpr ?_ | with_reducible refine w_cnt.mpr ?_ | with_reducible refine w_pass.mpr ?_ | with_reducible refine w_raise.mpr ?_ | with_reducible refine w_sn.mpr ?_ | with_reducible refine w_sc.mpr ?_ | with_reducible refine w_call.mpr ?_ | with_reducible refine w_and.mpr ?_ | with_reducible refine w_or.mpr ?_ | with_reducible refine w_not.mpr ?_ | with_reducible refine w_neg.mpr ?_ | with_reducible refine w_dget.mpr ?_ | with_reducible refine w_dset.mpr ?_ | with_reducible refine w_gtup.mpr ?_ | with_reducible refine w_gltup.mpr ?_ | with_reducible refine w_gsn.mpr (And.intro rfl ?_) | with_reducible refine w_gsc.mpr ?_ | with_reducible refine w_ilst.mpr ?_ | with_reducible refine w_itup.mpr ?_ | with_reducible refine w_blt.mpr ?_ | with_reducible refine w_isi.mpr ?_ | with_reducible refine w_os.mpr ?_ | with_reducible refine w_idx.mpr ?_ | with_reducible refine w_slc.mpr ?_ | with_reducible refine w_bin.mpr ?_ | with_reducible refine w_cmp.mpr ?_ | with_reducible refine w_tval.mpr ?_ | with_reducible refine w_forr.mpr ?_ | with_reducible refine w_whl.mpr ?_ | with_reducible refine w_lc.mpr ?_ | with_reducible refine w_ret.mpr ?_ | with_reducible refine w_retN.mpr ?_ | (with_reducible refine w_tup.mpr ?_) | (with_reducible refine w_lst.mpr ?_) | (with_reducible refine b_mul.mpr (And.symm ⟨?_, by first | exact mulOk_l (by omega) (by omega) | exact mulOk_r (by omega) (by omega) | exact mulOk_bd (a := 1000) (b := 1000) (by assumption) (by assumption) (by decide) (by decide) (by decide) | assumption⟩)) | (with_reducible refine b_mod.mpr (And.symm ⟨?_, by first | omega | assumption⟩)) | (with_reducible refine b_div.mpr (And.symm ⟨?_, by first | exact divOk_of (by omega) (by omega) | assumption⟩)) | (with_reducible refine b_pow.mpr ⟨by decide, ?_⟩) | refine ⟨_, rfl, Eq.refl (penM _ _ _), ?_⟩ | refine ⟨_, rfl, ⟨by omega, by omega⟩, ?_⟩ | refine ⟨_, rfl, ?_⟩ | refine ⟨_, _, rfl, ?_⟩ | refine ⟨_, _, _, rfl, rfl, rfl, ?_⟩ | refine ⟨_, _, rfl, rfl, of_decide_eq_true rfl, ?_⟩ | refine ⟨_, ne_nil _, ?_⟩ | ((with_reducible refine lenOk ?_ ?_); rfl) | refine ⟨_, rfl, rfl, ?_⟩ | with_reducible refine w_rng1.mpr ?_ | with_reducible refine w_rng2.mpr ?_ | ((with_reducible refine ifT ?_ ?_); rfl) | ((with_reducible refine ifF ?_ ?_); rfl))
    refine pure_step h10 rfl ?_
    rcases hdet with e | e <;> rw [e]
    · repeat (first | ((with_reducible refine pg_turn ?_ ?_); rfl) | ((with_reducible refine pg_left ?_ ?_); rfl) | ((with_reducible refine pg_cells ?_ ?_); rfl) | ((with_reducible refine ps_turn ?_ ?_); rfl) | ((with_reducible refine ps_left ?_ ?_); rfl) | ((with_reducible refine w_var.mpr ?_); refine ⟨_, rfl, ?_⟩) | with_reducible refine wp_ok.mpr ?_ | with_reducible refine w_int.mpr ?_ | with_reducible refine w_bl.mpr ?_ | with_reducible refine w_non.mpr ?_ | with_reducible refine w_str.mpr ?_ | with_reducible refine w_glob.mpr ?_ | with_reducible refine w_chain.mpr ?_ | with_reducible refine w_ite.mpr ?_ | with_reducible refine w_esn.mpr ?_ | with_reducible refine w_esc.mpr ?_ | with_reducible refine w_tnot.mpr ?_ | with_reducible refine w_tand.mpr ?_ | with_reducible refine w_tor.mpr ?_ | with_reducible refine w_cn.mpr ?_ | with_reducible refine w_c1.mpr ?_ | with_reducible refine w_on.mpr ?_ | with_reducible refine w_rng2.mpr ?_ | with_reducible refine w_gnm.mpr ?_ | with_reducible refine w_kn.mpr ?_ | with_reducible refine w_kc.mpr ?_ | with_reducible refine w_asg.mpr ?_ | with_reducible refine w_par2.mpr ?_ | with_reducible refine w_expr.mpr ?_ | with_reducible refine w_ifs.mpr ?_ | with_reducible refine w_brk.mpr ?_ | with_reducible refine w_cnt.mpr ?_ | with_reducible refine w_pass.mpr ?_ | with_reducible refine w_raise.mpr ?_ | with_reducible refine w_sn.mpr ?_ | with_reducible refine w_sc.mpr ?_ | with_reducible refine w_call.mpr ?_ | with_reducible refine w_and.mpr ?_ | with_reducible refine w_or.mpr ?_ | with_reducible refine w_not.mpr ?_ | with_reducible refine w_neg.mpr ?_ | with_reducible refine w_dget.mpr ?_ | with_reducible refine w_dset.mpr ?_ | with_reducible refine w_gtup.mpr ?_ | with_reducible refine w_gltup.mpr ?_ | with_reducible refine w_gsn.mpr (And.intro rfl ?_) | with_reducible refine w_gsc.mpr ?_ | with_reducible refine w_ilst.mpr ?_ | with_reducible refine w_itup.mpr ?_ | with_reducible refine w_blt.mpr ?_ | with_reducible refine w_isi.mpr ?_ | with_reducible refine w_os.mpr ?_ | with_reducible refine w_idx.mpr ?_ | with_reducible refine w_slc.mpr ?_ | with_reducible refine w_bin.mpr ?_ | with_reducible refine w_cmp.mpr ?_ | with_reducible refine w_tval.mpr ?_ | with_reducible refine w_forr.mpr ?_ | with_reducible refine w_whl.mpr ?_ | with_reducible refine w_lc.mpr ?_ | with_reducible refine w_ret.mpr ?_ | with_reducible refine w_retN.mpr ?_ | (with_reducible refine w_tup.mpr ?_) | (with_reducible refine w_lst.mpr ?_) | (with_reducible refine b_mul.mpr (And.symm ⟨?_, by first | exact mulOk_l (by omega) (by omega) | exact mulOk_r (by omega) (by omega) | exact mulOk_bd (a := 1000) (b := 1000) (by assumption) (by assumption) (by decide) (by decide) (by decide) | assumption⟩)) | (with_reducible refine b_mod.mpr (And.symm ⟨?_, by first | omega | assumption⟩)) | (with_reducible refine b_div.mpr (And.symm ⟨?_, by first | exact divOk_of (by omega) (by omega) | assumption⟩)) | (with_reducible refine b_pow.mpr ⟨by decide, ?_⟩) | refine ⟨_, rfl, Eq.refl (penM _ _ _), ?_⟩ | refine ⟨_, rfl, ⟨by omega, by omega⟩, ?_⟩ | refine ⟨_, rfl, ?_⟩ | refine ⟨_, _, rfl, ?_⟩ | refine ⟨_, _, _, rfl, rfl, rfl, ?_⟩ | refine ⟨_, _, rfl, rfl, of_decide_eq_true rfl, ?_⟩ | refine ⟨_, ne_nil _, ?_⟩ | ((with_reducible refine lenOk ?_ ?_); rfl) | refine ⟨_, rfl, rfl, ?_⟩ | with_reducible refine w_rng1.mpr ?_ | with_reducible refine w_rng2.mpr ?_ | ((with_reducible refine ifT ?_ ?_); rfl) | ((with_reducible refine ifF ?_ ?_); rfl))
      exact fin_e rfl rfl
    · repeat (first | ((with_reducible refine pg_turn ?_ ?_); rfl) | ((with_reducible refine pg_left ?_ ?_); rfl) | ((with_reducible refine pg_cells ?_ ?_); rfl) | ((with_reducible refine ps_turn ?_ ?_); rfl) | ((with_reducible refine ps_left ?_ ?_); rfl) | ((with_reducible refine w_var.mpr ?_); refine ⟨_, rfl, ?_⟩) | with_reducible refine wp_ok.mpr ?_ | with_reducible refine w_int.mpr ?_ | with_reducible refine w_bl.mpr ?_ | with_reducible refine w_non.mpr ?_ | with_reducible refine w_str.mpr ?_ | with_reducible refine w_glob.mpr ?_ | with_reducible refine w_chain.mpr ?_ | with_reducible refine w_ite.mpr ?_ | with_reducible refine w_esn.mpr ?_ | with_reducible refine w_esc.mpr ?_ | with_reducible refine w_tnot.mpr ?_ | with_reducible refine w_tand.mpr ?_ | with_reducible refine w_tor.mpr ?_ | with_reducible refine w_cn.mpr ?_ | with_reducible refine w_c1.mpr ?_ | with_reducible refine w_on.mpr ?_ | with_reducible refine w_rng2.mpr ?_ | with_reducible refine w_gnm.mpr ?_ | with_reducible refine w_kn.mpr ?_ | with_reducible refine w_kc.mpr ?_ | with_reducible refine w_asg.mpr ?_ | with_reducible refine w_par2.mpr ?_ | with_reducible refine w_expr.mpr ?_ | with_reducible refine w_ifs.mpr ?_ | with_reducible refine w_brk.mpr ?_ | with_reducible refine w_cnt.mpr ?_ | with_reducible refine w_pass.mpr ?_ | with_reducible refine w_raise.mpr ?_ | with_reducible refine w_sn.mpr ?_ | with_reducible refine w_sc.mpr ?_ | with_reducible refine w_call.mpr ?_ | with_reducible refine w_and.mpr ?_ | with_reducible refine w_or.mpr ?_ | with_reducible refine w_not.mpr ?_ | with_reducible refine w_neg.mpr ?_ | with_reducible refine w_dget.mpr ?_ | with_reducible refine w_dset.mpr ?_ | with_reducible refine w_gtup.mpr ?_ | with_reducible refine w_gltup.mpr ?_ | with_reducible refine w_gsn.mpr (And.intro rfl ?_) | with_reducible refine w_gsc.mpr ?_ | with_reducible refine w_ilst.mpr ?_ | with_reducible refine w_itup.mpr ?_ | with_reducible refine w_blt.mpr ?_ | with_reducible refine w_isi.mpr ?_ | with_reducible refine w_os.mpr ?_ | with_reducible refine w_idx.mpr ?_ | with_reducible refine w_slc.mpr ?_ | with_reducible refine w_bin.mpr ?_ | with_reducible refine w_cmp.mpr ?_ | with_reducible refine w_tval.mpr ?_ | with_reducible refine w_forr.mpr ?_ | with_reducible refine w_whl.mpr ?_ | with_reducible refine w_lc.mpr ?_ | with_reducible refine w_ret.mpr ?_ | with_reducible refine w_retN.mpr ?_ | (with_reducible refine w_tup.mpr ?_) | (with_reducible refine w_lst.mpr ?_) | (with_reducible refine b_mul.mpr (And.symm ⟨?_, by first | exact mulOk_l (by omega) (by omega) | exact mulOk_r (by omega) (by omega) | exact mulOk_bd (a := 1000) (b := 1000) (by assumption) (by assumption) (by decide) (by decide) (by decide) | assumption⟩)) | (with_reducible refine b_mod.mpr (And.symm ⟨?_, by first | omega | assumption⟩)) | (with_reducible refine b_div.mpr (And.symm ⟨?_, by first | exact divOk_of (by omega) (by omega) | assumption⟩)) | (with_reducible refine b_pow.mpr ⟨by decide, ?_⟩) | refine ⟨_, rfl, Eq.refl (penM _ _ _), ?_⟩ | refine ⟨_, rfl, ⟨by omega, by omega⟩, ?_⟩ | refine ⟨_, rfl, ?_⟩ | refine ⟨_, _, rfl, ?_⟩ | refine ⟨_, _, _, rfl, rfl, rfl, ?_⟩ | refine ⟨_, _, rfl, rfl, of_decide_eq_true rfl, ?_⟩ | refine ⟨_, ne_nil _, ?_⟩ | ((with_reducible refine lenOk ?_ ?_); rfl) | refine ⟨_, rfl, rfl, ?_⟩ | with_reducible refine w_rng1.mpr ?_ | with_reducible refine w_rng2.mpr ?_ | ((with_reducible refine ifT ?_ ?_); rfl) | ((with_reducible refine ifF ?_ ?_); rfl))
      exact fin_e rfl rfl
theorem sem_require_map (Φ : Fns) (v : D) (hv : D.lts 0 [v] = true) (h12 : Φ 12 [v] [] = .ok (.bl true) []) : runF Φ f_require_map [v] [] = .ok .non [] := by
  refine wp_eq (run_wp2 [some v] rfl rfl ?_)
  unfold f_require_map
  repeat (first | ((with_reducible refine pg_turn ?_ ?_); rfl) | ((with_reducible refine pg_left ?_ ?_); rfl) | ((with_reducible refine pg_cells ?_ ?_); rfl) | ((with_reducible refine ps_turn ?_ ?_); rfl) | ((with_reducible refine ps_left ?_ ?_); rfl) | ((with_reducible refine w_var.mpr ?_); refine ⟨_, rfl, ?_⟩) | with_reducible refine wp_ok.mpr ?_ | with_reducible refine w_int.mpr ?_ | with_reducible refine w_bl.mpr ?_ | with_reducible refine w_non.mpr ?_ | with_reducible refine w_str.mpr ?_ | with_reducible refine w_glob.mpr ?_ | with_reducible refine w_chain.mpr ?_ | with_reducible refine w_ite.mpr ?_ | with_reducible refine w_esn.mpr ?_ | with_reducible refine w_esc.mpr ?_ | with_reducible refine w_tnot.mpr ?_ | with_reducible refine w_tand.mpr ?_ | with_reducible refine w_tor.mpr ?_ | with_reducible refine w_cn.mpr ?_ | with_reducible refine w_c1.mpr ?_ | with_reducible refine w_on.mpr ?_ | with_reducible refine w_rng2.mpr ?_ | with_reducible refine w_gnm.mpr ?_ | with_reducible refine w_kn.mpr ?_ | with_reducible refine w_kc.mpr ?_ | with_reducible refine w_asg.mpr ?_ | with_reducible refine w_par2.mpr ?_ | with_reducible refine w_expr.mpr ?_ | with_reducible refine w_ifs.mpr ?_ | with_reducible refine w_brk.mpr ?_ | with_reducible refine w_cnt.mpr ?_ | with_reducible refine w_pass.mpr ?_ | with_reducible refine w_raise.mpr ?_ | with_reducible refine w_sn.mpr ?_ | with_reducible refine w_sc.mpr ?_ | with_reducible refine w_call.mpr ?_ | with_reducible refine w_and.mpr ?_ | with_reducible refine w_or.mpr ?_ | with_reducible refine w_not.mpr ?_ | with_reducible refine w_neg.mpr ?_ | with_reducible refine w_dget.mpr ?_ | with_reducible refine w_dset.mpr ?_ | with_reducible refine w_gtup.mpr ?_ | with_reducible refine w_gltup.mpr ?_ | with_reducible refine w_gsn.mpr (And.intro rfl ?_) | with_reducible refine w_gsc.mpr ?_ | with_reducible refine w_ilst.mpr ?_ | with_reducible refine w_itup.mpr ?_ | with_reducible refine w_blt.mpr ?_ | with_reducible refine w_isi.mpr ?_ | with_reducible refine w_os.mpr ?_ | with_reducible refine w_idx.mpr ?_ | with_reducible refine w_slc.mpr ?_ | with_reducible refine w_bin.mpr ?_ | with_reducible refine w_cmp.mpr ?_ | with_reducible refine w_tval.mpr ?_ | with_reducible refine w_forr.mpr ?_ | with_reducible refine w_whl.mpr ?_ | with_reducible refine w_lc.mpr ?_ | with_reducible refine w_ret.mpr ?_ | with_reducible refine w_retN.mpr ?_ | (with_reducible refine w_tup.mpr ?_) | (with_reducible refine w_lst.mpr ?_) | (with_reducible refine b_mul.mpr (And.symm ⟨?_, by first | exact mulOk_l (by omega) (by omega) | exact mulOk_r (by omega) (by omega) | exact mulOk_bd (a := 1000) (b := 1000) (by assumption) (by assumption) (by decide) (by decide) (by decide) | assumption⟩)) | (with_reducible refine b_mod.mpr (And.symm ⟨?_, by first | omega | assumption⟩)) | (with_reducible refine b_div.mpr (And.symm ⟨?_, by first | exact divOk_of (by omega) (by omega) | assumption⟩)) | (with_reducible refine b_pow.mpr ⟨by decide, ?_⟩) | refine ⟨_, rfl, Eq.refl (penM _ _ _), ?_⟩ | refine ⟨_, rfl, ⟨by omega, by omega⟩, ?_⟩ | refine ⟨_, rfl, ?_⟩ | refine ⟨_, _, rfl, ?_⟩ | refine ⟨_, _, _, rfl, rfl, rfl, ?_⟩ | refine ⟨_, _, rfl, rfl, of_decide_eq_true rfl, ?_⟩ | refine ⟨_, ne_nil _, ?_⟩ | ((with_reducible refine lenOk ?_ ?_); rfl) | refine ⟨_, rfl, rfl, ?_⟩ | with_reducible refine w_rng1.mpr ?_ | with_reducible refine w_rng2.mpr ?_ | ((with_reducible refine ifT ?_ ?_); rfl) | ((with_reducible refine ifF ?_ ?_); rfl))
  refine pure_step h12 hv ?_
  repeat (first | ((with_reducible refine pg_turn ?_ ?_); rfl) | ((with_reducible refine pg_left ?_ ?_); rfl) | ((with_reducible refine pg_cells ?_ ?_); rfl) | ((with_reducible refine ps_turn ?_ ?_); rfl) | ((with_reducible refine ps_left ?_ ?_); rfl) | ((with_reducible refine w_var.mpr ?_); refine ⟨_, rfl, ?_⟩) | with_reducible refine wp_ok.mpr ?_ | with_reducible refine w_int.mpr ?_ | with_reducible refine w_bl.mpr ?_ | with_reducible refine w_non.mpr ?_ | with_reducible refine w_str.mpr ?_ | with_reducible refine w_glob.mpr ?_ | with_reducible refine w_chain.mpr ?_ | with_reducible refine w_ite.mpr ?_ | with_reducible refine w_esn.mpr ?_ | with_reducible refine w_esc.mpr ?_ | with_reducible refine w_tnot.mpr ?_ | with_reducible refine w_tand.mpr ?_ | with_reducible refine w_tor.mpr ?_ | with_reducible refine w_cn.mpr ?_ | with_reducible refine w_c1.mpr ?_ | with_reducible refine w_on.mpr ?_ | with_reducible refine w_rng2.mpr ?_ | with_reducible refine w_gnm.mpr ?_ | with_reducible refine w_kn.mpr ?_ | with_reducible refine w_kc.mpr ?_ | with_reducible refine w_asg.mpr ?_ | with_reducible refine w_par2.mpr ?_ | with_reducible refine w_expr.mpr ?_ | with_reducible refine w_ifs.mpr ?_ | with_reducible refine w_brk.mpr ?_ | with_reducible refine w_cnt.mpr ?_ | with_reducible refine w_pass.mpr ?_ | with_reducible refine w_raise.mpr ?_ | with_reducible refine w_sn.mpr ?_ | with_reducible refine w_sc.mpr ?_ | with_reducible refine w_call.mpr ?_ | with_reducible refine w_and.mpr ?_ | with_reducible refine w_or.mpr ?_ | with_reducible refine w_not.mpr ?_ | with_reducible refine w_neg.mpr ?_ | with_reducible refine w_dget.mpr ?_ | with_reducible refine w_dset.mpr ?_ | with_reducible refine w_gtup.mpr ?_ | with_reducible refine w_gltup.mpr ?_ | with_reducible refine w_gsn.mpr (And.intro rfl ?_) | with_reducible refine w_gsc.mpr ?_ | with_reducible refine w_ilst.mpr ?_ | with_reducible refine w_itup.mpr ?_ | with_reducible refine w_blt.mpr ?_ | with_reducible refine w_isi.mpr ?_ | with_reducible refine w_os.mpr ?_ | with_reducible refine w_idx.mpr ?_ | with_reducible refine w_slc.mpr ?_ | with_reducible refine w_bin.mpr ?_ | with_reducible refine w_cmp.mpr ?_ | with_reducible refine w_tval.mpr ?_ | with_reducible refine w_forr.mpr ?_ | with_reducible refine w_whl.mpr ?_ | with_reducible refine w_lc.mpr ?_ | with_reducible refine w_ret.mpr ?_ | with_reducible refine w_retN.mpr ?_ | (with_reducible refine w_tup.mpr ?_) | (with_reducible refine w_lst.mpr ?_) | (with_reducible refine b_mul.mpr (And.symm ⟨?_, by first | exact mulOk_l (by omega) (by omega) | exact mulOk_r (by omega) (by omega) | exact mulOk_bd (a := 1000) (b := 1000) (by assumption) (by assumption) (by decide) (by decide) (by decide) | assumption⟩)) | (with_reducible refine b_mod.mpr (And.symm ⟨?_, by first | omega | assumption⟩)) | (with_reducible refine b_div.mpr (And.symm ⟨?_, by first | exact divOk_of (by omega) (by omega) | assumption⟩)) | (with_reducible refine b_pow.mpr ⟨by decide, ?_⟩) | refine ⟨_, rfl, Eq.refl (penM _ _ _), ?_⟩ | refine ⟨_, rfl, ⟨by omega, by omega⟩, ?_⟩ | refine ⟨_, rfl, ?_⟩ | refine ⟨_, _, rfl, ?_⟩ | refine ⟨_, _, _, rfl, rfl, rfl, ?_⟩ | refine ⟨_, _, rfl, rfl, of_decide_eq_true rfl, ?_⟩ | refine ⟨_, ne_nil _, ?_⟩ | ((with_reducible refine lenOk ?_ ?_); rfl) | refine ⟨_, rfl, rfl, ?_⟩ | with_reducible refine w_rng1.mpr ?_ | with_reducible refine w_rng2.mpr ?_ | ((with_reducible refine ifT ?_ ?_); rfl) | ((with_reducible refine ifF ?_ ?_); rfl))
  exact fin_e rfl rfl
theorem sem_inverse (Φ : Fns) (a b c d p q s : Int) (h13 : Φ 13 [M6 a b c d p q] [] = .ok .non []) (h10 : Φ 10 [M6 a b c d p q] [] = .ok (.int s) []) (hs : s = 1 ∨ s = -1) (ha : BIG a) (hb : BIG b) (hc : BIG c) (hd : BIG d) (hp : BIG p) (hq : BIG q) :
    runF Φ f_inverse [M6 a b c d p q] [] = .ok (M6 (s * d) (-s * b) (-s * c) (s * a) (-(s * d) * p - -s * b * q) (-(-s * c) * p - s * a * q)) [] := by
  have hsb : ∀ x, BIG x → BIG (s * x) := fun x hx => by rcases hs with rfl | rfl; exact big_one hx; exact big_mone hx
  have hsn : ∀ x, BIG x → BIG (-s * x) := fun x hx => by rcases hs with rfl | rfl; exact big_mone hx; exact big_one hx
  have b1 := hsb d hd
  have b2 := hsn b hb
  have b3 := hsn c hc
  have b4 := hsb a ha
  have b5 := big_neg b1
  have b6 := big_neg b3
  have b7 : BIG s := big_i (by omega) (by omega)
  have b8 : BIG (-s) := big_neg b7
  refine wp_eq (run_wp2 [some (M6 a b c d p q), none, none, none, none, none, none, none] rfl rfl ?_)
  unfold f_inverse
  repeat (first | ((with_reducible refine pg_turn ?_ ?_); rfl) | ((with_reducible refine pg_left ?_ ?_); rfl) | ((with_reducible refine pg_cells ?_ ?_); rfl) | ((with_reducible refine ps_turn ?_ ?_); rfl) | ((with_reducible refine ps_left ?_ ?_); rfl) | ((with_reducible refine w_var.mpr ?_); refine ⟨_, rfl, ?_⟩) | with_reducible refine wp_ok.mpr ?_ | with_reducible refine w_int.mpr ?_ | with_reducible refine w_bl.mpr ?_ | with_reducible refine w_non.mpr ?_ | with_reducible refine w_str.mpr ?_ | with_reducible refine w_glob.mpr ?_ | with_reducible refine w_chain.mpr ?_ | with_reducible refine w_ite.mpr ?_ | with_reducible refine w_esn.mpr ?_ | with_reducible refine w_esc.mpr ?_ | with_reducible refine w_tnot.mpr ?_ | with_reducible refine w_tand.mpr ?_ | with_reducible refine w_tor.mpr ?_ | with_reducible refine w_cn.mpr ?_ | with_reducible refine w_c1.mpr ?_ | with_reducible refine w_on.mpr ?_ | with_reducible refine w_rng2.mpr ?_ | with_reducible refine w_gnm.mpr ?_ | with_reducible refine w_kn.mpr ?_ | with_reducible refine w_kc.mpr ?_ | with_reducible refine w_asg.mpr ?_ | with_reducible refine w_par2.mpr ?_ | with_reducible refine w_expr.mpr ?_ | with_reducible refine w_ifs.mpr ?_ | with_reducible refine w_brk.mpr ?_ | with_reducible refine w_cnt.mpr ?_ | with_reducible refine w_pass.mpr ?_ | with_reducible refine w_raise.mpr ?_ | with_reducible refine w_sn.mpr ?_ | with_reducible refine w_sc.mpr ?_ | with_reducible refine w_call.mpr ?_ | with_reducible refine w_and.mpr ?_ | with_reducible refine w_or.mpr ?_ | with_reducible refine w_not.mpr ?_ | with_reducible refine w_neg.mpr ?_ | with_reducible refine w_dget.mpr ?_ | with_reducible refine w_dset.mpr ?_ | with_reducible refine w_gtup.mpr ?_ | with_reducible refine w_gltup.mpr ?_ | with_reducible refine w_gsn.mpr (And.intro rfl ?_) | with_reducible refine w_gsc.mpr ?_ | with_reducible refine w_ilst.mpr ?_ | with_reducible refine w_itup.mpr ?_ | with_reducible refine w_blt.mpr ?_ | with_reducible refine w_isi.mpr ?_ | with_reducible refine w_os.mpr ?_ | with_reducible refine w_idx.mpr ?_ | with_reducible refine w_slc.mpr ?_ | with_reducible refine w_bin.mpr ?_ | with_reducible refine w_cmp.mpr ?_ | with_reducible refine w_tval.mpr ?_ | with_reducible refine w_forr.mpr ?_ | with_reducible refine w_whl.mpr ?_ | with_reducible refine w_lc.mpr ?_ | with_reducible refine w_ret.mpr ?_ | with_reducible refine w_retN.mpr ?_ | (with_reducible refine w_tup.mpr ?_) | (with_reducible refine w_lst.mpr ?_) | (with_reducible refine b_mul.mpr (And.symm ⟨?_, by first | exact mulOk_l (by omega) (by omega) | exact mulOk_r (by omega) (by omega) | exact mulOk_bd (a := 1000) (b := 1000) (by assumption) (by assumption) (by decide) (by decide) (by decide) | assumption⟩)) | (with_reducible refine b_mod.mpr (And.symm ⟨?_, by first | omega | assumption⟩)) | (with_reducible refine b_div.mpr (And.symm ⟨?_, by first | exact divOk_of (by omega) (by omega) | assumption⟩)) | (with_reducible refine b_pow.mpr ⟨by decide, ?_⟩) | refine ⟨_, rfl, Eq.refl (penM _ _ _), ?_⟩ | refine ⟨_, rfl, ⟨by omega, by omega⟩, ?_⟩ | refine ⟨_, rfl, ?_⟩ | refine ⟨_, _, rfl, ?_⟩ | refine ⟨_, _, _, rfl, rfl, rfl, ?_⟩ | refine ⟨_, _, rfl, rfl, of_decide_eq_true rfl, ?_⟩ | refine ⟨_, ne_nil _, ?_⟩ | ((with_reducible refine lenOk ?_ ?_); rfl) | refine ⟨_, rfl, rfl, ?_⟩ | with_reducible refine w_rng1.mpr ?_ | with_reducible refine w_rng2.mpr ?_ | ((with_reducible refine ifT ?_ ?_); rfl) | ((with_reducible refine ifF ?_ ?_); rfl))
  refine pure_step h13 rfl ?_
  repeat (first | ((with_reducible refine pg_turn ?_ ?_); rfl) | ((with_reducible refine pg_left ?_ ?_); rfl) | ((with_reducible refine pg_cells ?_ ?_); rfl) | ((with_reducible refine ps_turn ?_ ?_); rfl) | ((with_reducible refine ps_left ?_ ?_); rfl) | ((with_reducible refine w_var.mpr ?_); refine ⟨_, rfl, ?_⟩) | with_reducible refine wp_ok.mpr ?_ | with_reducible refine w_int.mpr ?_ | with_reducible refine w_bl.mpr ?_ | with_reducible refine w_non.mpr ?_ | with_reducible refine w_str.mpr ?_ | with_reducible refine w_glob.mpr ?_ | with_reducible refine w_chain.mpr ?_ | with_reducible refine w_ite.mpr ?_ | with_reducible refine w_esn.mpr ?_ | with_reducible refine w_esc.mpr ?_ | with_reducible refine w_tnot.mpr ?_ | with_reducible refine w_tand.mpr ?_ | with_reducible refine w_tor.mpr ?_ | with_reducible refine w_cn.mpr ?_ | with_reducible refine w_c1.mpr ?_ | with_reducible refine w_on.mpr ?_ | with_reducible refine w_rng2.mpr ?_ | with_reducible refine w_gnm.mpr ?_ | with_reducible refine w_kn.mpr ?_ | with_reducible refine w_kc.mpr ?_ | with_reducible refine w_asg.mpr ?_ | with_reducible refine w_par2.mpr ?_ | with_reducible refine w_expr.mpr ?_ | with_reducible refine w_ifs.mpr ?_ | with_reducible refine w_brk.mpr ?_ | with_reducible refine w_cnt.mpr ?_ | with_reducible refine w_pass.mpr ?_ | with_reducible refine w_raise.mpr ?_ | with_reducible refine w_sn.mpr ?_ | with_reducible refine w_sc.mpr ?_ | with_reducible refine w_call.mpr ?_ | with_reducible refine w_and.mpr ?_ | with_reducible refine w_or.mpr ?_ | with_reducible refine w_not.mpr ?_ | with_reducible refine w_neg.mpr ?_ | with_reducible refine w_dget.mpr ?_ | with_reducible refine w_dset.mpr ?_ | with_reducible refine w_gtup.mpr ?_ | with_reducible refine w_gltup.mpr ?_ | with_reducible refine w_gsn.mpr (And.intro rfl ?_) | with_reducible refine w_gsc.mpr ?_ | with_reducible refine w_ilst.mpr ?_ | with_reducible refine w_itup.mpr ?_ | with_reducible refine w_blt.mpr ?_ | with_reducible refine w_isi.mpr ?_ | with_reducible refine w_os.mpr ?_ | with_reducible refine w_idx.mpr ?_ | with_reducible refine w_slc.mpr ?_ | with_reducible refine w_bin.mpr ?_ | with_reducible refine w_cmp.mpr ?_ | with_reducible refine w_tval.mpr ?_ | with_reducible refine w_forr.mpr ?_ | with_reducible refine w_whl.mpr ?_ | with_reducible refine w_lc.mpr ?_ | with_reducible refine w_ret.mpr ?_ | with_reducible refine w_retN.mpr ?_ | (with_reducible refine w_tup.mpr ?_) | (with_reducible refine w_lst.mpr ?_) | (with_reducible refine b_mul.mpr (And.symm ⟨?_, by first | exact mulOk_l (by omega) (by omega) | exact mulOk_r (by omega) (by omega) | exact mulOk_bd (a := 1000) (b := 1000) (by assumption) (by assumption) (by decide) (by decide) (by decide) | assumption⟩)) | (with_reducible refine b_mod.mpr (And.symm ⟨?_, by first | omega | assumption⟩)) | (with_reducible refine b_div.mpr (And.symm ⟨?_, by first | exact divOk_of (by omega) (by omega) | assumption⟩)) | (with_reducible refine b_pow.mpr ⟨by decide, ?_⟩) | refine ⟨_, rfl, Eq.refl (penM _ _ _), ?_⟩ | refine ⟨_, rfl, ⟨by omega, by omega⟩, ?_⟩ | refine ⟨_, rfl, ?_⟩ | refine ⟨_, _, rfl, ?_⟩ | refine ⟨_, _, _, rfl, rfl, rfl, ?_⟩ | refine ⟨_, _, rfl, rfl, of_decide_eq_true rfl, ?_⟩ | refine ⟨_, ne_nil _, ?_⟩ | ((with_reducible refine lenOk ?_ ?_); rfl) | refine ⟨_, rfl, rfl, ?_⟩ | with_reducible refine w_rng1.mpr ?_ | with_reducible refine w_rng2.mpr ?_ | ((with_reducible refine ifT ?_ ?_); rfl) | ((with_reducible refine ifF ?_ ?_); rfl))
  refine pure_step h10 rfl ?_
  repeat (first | ((with_reducible refine pg_turn ?_ ?_); rfl) | ((with_reducible refine pg_left ?_ ?_); rfl) | ((with_reducible refine pg_cells ?_ ?_); rfl) | ((with_reducible refine ps_turn ?_ ?_); rfl) | ((with_reducible refine ps_left ?_ ?_); rfl) | ((with_reducible refine w_var.mpr ?_); refine ⟨_, rfl, ?_⟩) | with_reducible refine wp_ok.mpr ?_ | with_reducible refine w_int.mpr ?_ | with_reducible refine w_bl.mpr ?_ | with_reducible refine w_non.mpr ?_ | with_reducible refine w_str.mpr ?_ | with_reducible refine w_glob.mpr ?_ | with_reducible refine w_chain.mpr ?_ | with_reducible refine w_ite.mpr ?_ | with_reducible refine w_esn.mpr ?_ | with_reducible refine w_esc.mpr ?_ | with_reducible refine w_tnot.mpr ?_ | with_reducible refine w_tand.mpr ?_ | with_reducible refine w_tor.mpr ?_ | with_reducible refine w_cn.mpr ?_ | with_reducible refine w_c1.mpr ?_ | with_reducible refine w_on.mpr ?_ | with_reducible refine w_rng2.mpr ?_ | with_reducible refine w_gnm.mpr ?_ | with_reducible refine w_kn.mpr ?_ | with_reducible refine w_kc.mpr ?_ | with_reducible refine w_asg.mpr ?_ | with_reducible refine w_par2.mpr ?_ | with_reducible refine w_expr.mpr ?_ | with_reducible refine w_ifs.mpr ?_ | with_reducible refine w_brk.mpr ?_ | with_reducible refine w_cnt.mpr ?_ | with_reducible refine w_pass.mpr ?_ | with_reducible refine w_raise.mpr ?_ | with_reducible refine w_sn.mpr ?_ | with_reducible refine w_sc.mpr ?_ | with_reducible refine w_call.mpr ?_ | with_reducible refine w_and.mpr ?_ | with_reducible refine w_or.mpr ?_ | with_reducible refine w_not.mpr ?_ | with_reducible refine w_neg.mpr ?_ | with_reducible refine w_dget.mpr ?_ | with_reducible refine w_dset.mpr ?_ | with_reducible refine w_gtup.mpr ?_ | with_reducible refine w_gltup.mpr ?_ | with_reducible refine w_gsn.mpr (And.intro rfl ?_) | with_reducible refine w_gsc.mpr ?_ | with_reducible refine w_ilst.mpr ?_ | with_reducible refine w_itup.mpr ?_ | with_reducible refine w_blt.mpr ?_ | with_reducible refine w_isi.mpr ?_ | with_reducible refine w_os.mpr ?_ | with_reducible refine w_idx.mpr ?_ | with_reducible refine w_slc.mpr ?_ | with_reducible refine w_bin.mpr ?_ | with_reducible refine w_cmp.mpr ?_ | with_reducible refine w_tval.mpr ?_ | with_reducible refine w_forr.mpr ?_ | with_reducible refine w_whl.mpr ?_ | with_reducible refine w_lc.mpr ?_ | with_reducible refine w_ret.mpr ?_ | with_reducible refine w_retN.mpr ?_ | (with_reducible refine w_tup.mpr ?_) | (with_reducible refine w_lst.mpr ?_) | (with_reducible refine b_mul.mpr (And.symm ⟨?_, by first | exact mulOk_l (by omega) (by omega) | exact mulOk_r (by omega) (by omega) | exact mulOk_bd (a := 1000) (b := 1000) (by assumption) (by assumption) (by decide) (by decide) (by decide) | assumption⟩)) | (with_reducible refine b_mod.mpr (And.symm ⟨?_, by first | omega | assumption⟩)) | (with_reducible refine b_div.mpr (And.symm ⟨?_, by first | exact divOk_of (by omega) (by omega) | assumption⟩)) | (with_reducible refine b_pow.mpr ⟨by decide, ?_⟩) | refine ⟨_, rfl, Eq.refl (penM _ _ _), ?_⟩ | refine ⟨_, rfl, ⟨by omega, by omega⟩, ?_⟩ | refine ⟨_, rfl, ?_⟩ | refine ⟨_, _, rfl, ?_⟩ | refine ⟨_, _, _, rfl, rfl, rfl, ?_⟩ | refine ⟨_, _, rfl, rfl, of_decide_eq_true rfl, ?_⟩ | refine ⟨_, ne_nil _, ?_⟩ | ((with_reducible refine lenOk ?_ ?_); rfl) | refine ⟨_, rfl, rfl, ?_⟩ | with_reducible refine w_rng1.mpr ?_ | with_reducible refine w_rng2.mpr ?_ | ((with_reducible refine ifT ?_ ?_); rfl) | ((with_reducible refine ifF ?_ ?_); rfl))
  exact fin_e rfl rfl
theorem sem_compose (Φ : Fns) (a b c d p q A B C E P R : Int) (h13 : Φ 13 [M6 a b c d p q] [] = .ok .non []) (h13' : Φ 13 [M6 A B C E P R] [] = .ok .non [])
    (h8 : ∀ p q x y, BIG x → BIG y → Φ 8 [M6 A B C E p q, P2 x y] [] = .ok (P2 (A * x + B * y + p) (C * x + E * y + q)) []) (ha : BIG a) (hb : BIG b) (hc : BIG c) (hd : BIG d) (hp : BIG p) (hq : BIG q) :
    runF Φ f_compose [M6 a b c d p q, M6 A B C E P R] [] = .ok (M6 (A * a + B * c + 0) (A * b + B * d + 0) (C * a + E * c + 0) (C * b + E * d + 0) (A * p + B * q + P) (C * p + E * q + R)) [] := by
  refine wp_eq (run_wp2 [some (M6 a b c d p q), some (M6 A B C E P R), none, none, none, none, none, none, none, none, none] rfl rfl ?_)
  unfold f_compose
  repeat (first | ((with_reducible refine pg_turn ?_ ?_); rfl) | ((with_reducible refine pg_left ?_ ?_); rfl) | ((with_reducible refine pg_cells ?_ ?_); rfl) | ((with_reducible refine ps_turn ?_ ?_); rfl) | ((with_reducible refine ps_left ?_ ?_); rfl) | ((with_reducible refine w_var.mpr ?_); refine ⟨_, rfl, ?_⟩) | with_reducible refine wp_ok.mpr ?_ | with_reducible refine w_int.mpr ?_ | with_reducible refine w_bl.mpr ?_ | with_reducible refine w_non.mpr ?_ | with_reducible refine w_str.mpr ?_ | with_reducible refine w_glob.mpr ?_ | with_reducible refine w_chain.mpr ?_ | with_reducible refine w_ite.mpr ?_ | with_reducible refine w_esn.mpr ?_ | with_reducible refine w_esc.mpr ?_ | with_reducible refine w_tnot.mpr ?_ | with_reducible refine w_tand.mpr ?_ | with_reducible refine w_tor.mpr ?_ | with_reducible refine w_cn.mpr ?_ | with_reducible refine w_c1.mpr ?_ | with_reducible refine w_on.mpr ?_ | with_reducible refine w_rng2.mpr ?_ | with_reducible refine w_gnm.mpr ?_ | with_reducible refine w_kn.mpr ?_ | with_reducible refine w_kc.mpr ?_ | with_reducible refine w_asg.mpr ?_ | with_reducible refine w_par2.mpr ?_ | with_reducible refine w_expr.mpr ?_ | with_reducible refine w_ifs.mpr ?_ | with_reducible refine w_brk.mpr ?_ | with_reducible refine w_cnt.mpr ?_ | with_reducible refine w_pass.mpr ?_ | with_reducible refine w_raise.mpr ?_ | with_reducible refine w_sn.mpr ?_ | with_reducible refine w_sc.mpr ?_ | with_reducible refine w_call.mpr ?_ | with_reducible refine w_and.mpr ?_ | with_reducible refine w_or.mpr ?_ | with_reducible refine w_not.mpr ?_ | with_reducible refine w_neg.mpr ?_ | with_reducible refine w_dget.mpr ?_ | with_reducible refine w_dset.mpr ?_ | with_reducible refine w_gtup.mpr ?_ | with_reducible refine w_gltup.mpr ?_ | with_reducible refine w_gsn.mpr (And.intro rfl ?_) | with_reducible refine w_gsc.mpr ?_ | with_reducible refine w_ilst.mpr ?_ | with_reducible refine w_itup.mpr ?_ | with_reducible refine w_blt.mpr ?_ | with_reducible refine w_isi.mpr ?_ | with_reducible refine w_os.mpr ?_ | with_reducible refine w_idx.mpr ?_ | with_reducible refine w_slc.mpr ?_ | with_reducible refine w_bin.mpr ?_ | with_reducible refine w_cmp.mpr ?_ | with_reducible refine w_tval.mpr ?_ | with_reducible refine w_forr.mpr ?_ | with_reducible refine w_whl.mpr ?_ | with_reducible refine w_lc.mpr ?_ | with_reducible refine w_ret.mpr ?_ | with_reducible refine w_retN.mpr ?_ | (with_reducible refine w_tup.mpr ?_) | (with_reducible refine w_lst.mpr ?_) | (with_reducible refine b_mul.mpr (And.symm ⟨?_, by first | exact mulOk_l (by omega) (by omega) | exact mulOk_r (by omega) (by omega) | exact mulOk_bd (a := 1000) (b := 1000) (by assumption) (by assumption) (by decide) (by decide) (by decide) | assumption⟩)) | (with_reducible refine b_mod.mpr (And.symm ⟨?_, by first | omega | assumption⟩)) | (with_reducible refine b_div.mpr (And.symm ⟨?_, by first | exact divOk_of (by omega) (by omega) | assumption⟩)) | (with_reducible refine b_pow.mpr ⟨by decide, ?_⟩) | refine ⟨_, rfl, Eq.refl (penM _ _ _), ?_⟩ | refine ⟨_, rfl, ⟨by omega, by omega⟩, ?_⟩ | refine ⟨_, rfl, ?_⟩ | refine ⟨_, _, rfl, ?_⟩ | refine ⟨_, _, _, rfl, rfl, rfl, ?_⟩ | refine ⟨_, _, rfl, rfl, of_decide_eq_true rfl, ?_⟩ | refine ⟨_, ne_nil _, ?_⟩ | ((with_reducible refine lenOk ?_ ?_); rfl) | refine ⟨_, rfl, rfl, ?_⟩ | with_reducible refine w_rng1.mpr ?_ | with_reducible refine w_rng2.mpr ?_ | ((with_reducible refine ifT ?_ ?_); rfl) | ((with_reducible refine ifF ?_ ?_); rfl))
  refine pure_step h13 rfl ?_
  repeat (first | ((with_reducible refine pg_turn ?_ ?_); rfl) | ((with_reducible refine pg_left ?_ ?_); rfl) | ((with_reducible refine pg_cells ?_ ?_); rfl) | ((with_reducible refine ps_turn ?_ ?_); rfl) | ((with_reducible refine ps_left ?_ ?_); rfl) | ((with_reducible refine w_var.mpr ?_); refine ⟨_, rfl, ?_⟩) | with_reducible refine wp_ok.mpr ?_ | with_reducible refine w_int.mpr ?_ | with_reducible refine w_bl.mpr ?_ | with_reducible refine w_non.mpr ?_ | with_reducible refine w_str.mpr ?_ | with_reducible refine w_glob.mpr ?_ | with_reducible refine w_chain.mpr ?_ | with_reducible refine w_ite.mpr ?_ | with_reducible refine w_esn.mpr ?_ | with_reducible refine w_esc.mpr ?_ | with_reducible refine w_tnot.mpr ?_ | with_reducible refine w_tand.mpr ?_ | with_reducible refine w_tor.mpr ?_ | with_reducible refine w_cn.mpr ?_ | with_reducible refine w_c1.mpr ?_ | with_reducible refine w_on.mpr ?_ | with_reducible refine w_rng2.mpr ?_ | with_reducible refine w_gnm.mpr ?_ | with_reducible refine w_kn.mpr ?_ | with_reducible refine w_kc.mpr ?_ | with_reducible refine w_asg.mpr ?_ | with_reducible refine w_par2.mpr ?_ | with_reducible refine w_expr.mpr ?_ | with_reducible refine w_ifs.mpr ?_ | with_reducible refine w_brk.mpr ?_ | with_reducible refine w_cnt.mpr ?_ | with_reducible refine w_pass.mpr ?_ | with_reducible refine w_raise.mpr ?_ | with_reducible refine w_sn.mpr ?_ | with_reducible refine w_sc.mpr ?_ | with_reducible refine w_call.mpr ?_ | with_reducible refine w_and.mpr ?_ | with_reducible refine w_or.mpr ?_ | with_reducible refine w_not.mpr ?_ | with_reducible refine w_neg.mpr ?_ | with_reducible refine w_dget.mpr ?_ | with_reducible refine w_dset.mpr ?_ | with_reducible refine w_gtup.mpr ?_ | with_reducible refine w_gltup.mpr ?_ | with_reducible refine w_gsn.mpr (And.intro rfl ?_) | with_reducible refine w_gsc.mpr ?_ | with_reducible refine w_ilst.mpr ?_ | with_reducible refine w_itup.mpr ?_ | with_reducible refine w_blt.mpr ?_ | with_reducible refine w_isi.mpr ?_ | with_reducible refine w_os.mpr ?_ | with_reducible refine w_idx.mpr ?_ | with_reducible refine w_slc.mpr ?_ | with_reducible refine w_bin.mpr ?_ | with_reducible refine w_cmp.mpr ?_ | with_reducible refine w_tval.mpr ?_ | with_reducible refine w_forr.mpr ?_ | with_reducible refine w_whl.mpr ?_ | with_reducible refine w_lc.mpr ?_ | with_reducible refine w_ret.mpr ?_ | with_reducible refine w_retN.mpr ?_ | (with_reducible refine w_tup.mpr ?_) | (with_reducible refine w_lst.mpr ?_) | (with_reducible refine b_mul.mpr (And.symm ⟨?_, by first | exact mulOk_l (by omega) (by omega) | exact mulOk_r (by omega) (by omega) | exact mulOk_bd (a := 1000) (b := 1000) (by assumption) (by assumption) (by decide) (by decide) (by decide) | assumption⟩)) | (with_reducible refine b_mod.mpr (And.symm ⟨?_, by first | omega | assumption⟩)) | (with_reducible refine b_div.mpr (And.symm ⟨?_, by first | exact divOk_of (by omega) (by omega) | assumption⟩)) | (with_reducible refine b_pow.mpr ⟨by decide, ?_⟩) | refine ⟨_, rfl, Eq.refl (penM _ _ _), ?_⟩ | refine ⟨_, rfl, ⟨by omega, by omega⟩, ?_⟩ | refine ⟨_, rfl, ?_⟩ | refine ⟨_, _, rfl, ?_⟩ | refine ⟨_, _, _, rfl, rfl, rfl, ?_⟩ | refine ⟨_, _, rfl, rfl, of_decide_eq_true rfl, ?_⟩ | refine ⟨_, ne_nil _, ?_⟩ | ((with_reducible refine lenOk ?_ ?_); rfl) | refine ⟨_, rfl, rfl, ?_⟩ | with_reducible refine w_rng1.mpr ?_ | with_reducible refine w_rng2.mpr ?_ | ((with_reducible refine ifT ?_ ?_); rfl) | ((with_reducible refine ifF ?_ ?_); rfl))
  refine pure_step h13' rfl ?_
  repeat (first | ((with_reducible refine pg_turn ?_ ?_); rfl) | ((with_reducible refine pg_left ?_ ?_); rfl) | ((with_reducible refine pg_cells ?_ ?_); rfl) | ((with_reducible refine ps_turn ?_ ?_); rfl) | ((with_reducible refine ps_left ?_ ?_); rfl) | ((with_reducible refine w_var.mpr ?_); refine ⟨_, rfl, ?_⟩) | with_reducible refine wp_ok.mpr ?_ | with_reducible refine w_int.mpr ?_ | with_reducible refine w_bl.mpr ?_ | with_reducible refine w_non.mpr ?_ | with_reducible refine w_str.mpr ?_ | with_reducible refine w_glob.mpr ?_ | with_reducible refine w_chain.mpr ?_ | with_reducible refine w_ite.mpr ?_ | with_reducible refine w_esn.mpr ?_ | with_reducible refine w_esc.mpr ?_ | with_reducible refine w_tnot.mpr ?_ | with_reducible refine w_tand.mpr ?_ | with_reducible refine w_tor.mpr ?_ | with_reducible refine w_cn.mpr ?_ | with_reducible refine w_c1.mpr ?_ | with_reducible refine w_on.mpr ?_ | with_reducible refine w_rng2.mpr ?_ | with_reducible refine w_gnm.mpr ?_ | with_reducible refine w_kn.mpr ?_ | with_reducible refine w_kc.mpr ?_ | with_reducible refine w_asg.mpr ?_ | with_reducible refine w_par2.mpr ?_ | with_reducible refine w_expr.mpr ?_ | with_reducible refine w_ifs.mpr ?_ | with_reducible refine w_brk.mpr ?_ | with_reducible refine w_cnt.mpr ?_ | with_reducible refine w_pass.mpr ?_ | with_reducible refine w_raise.mpr ?_ | with_reducible refine w_sn.mpr ?_ | with_reducible refine w_sc.mpr ?_ | with_reducible refine w_call.mpr ?_ | with_reducible refine w_and.mpr ?_ | with_reducible refine w_or.mpr ?_ | with_reducible refine w_not.mpr ?_ | with_reducible refine w_neg.mpr ?_ | with_reducible refine w_dget.mpr ?_ | with_reducible refine w_dset.mpr ?_ | with_reducible refine w_gtup.mpr ?_ | with_reducible refine w_gltup.mpr ?_ | with_reducible refine w_gsn.mpr (And.intro rfl ?_) | with_reducible refine w_gsc.mpr ?_ | with_reducible refine w_ilst.mpr ?_ | with_reducible refine w_itup.mpr ?_ | with_reducible refine w_blt.mpr ?_ | with_reducible refine w_isi.mpr ?_ | with_reducible refine w_os.mpr ?_ | with_reducible refine w_idx.mpr ?_ | with_reducible refine w_slc.mpr ?_ | with_reducible refine w_bin.mpr ?_ | with_reducible refine w_cmp.mpr ?_ | with_reducible refine w_tval.mpr ?_ | with_reducible refine w_forr.mpr ?_ | with_reducible refine w_whl.mpr ?_ | with_reducible refine w_lc.mpr ?_ | with_reducible refine w_ret.mpr ?_ | with_reducible refine w_retN.mpr ?_ | (with_reducible refine w_tup.mpr ?_) | (with_reducible refine w_lst.mpr ?_) | (with_reducible refine b_mul.mpr (And.symm ⟨?_, by first | exact mulOk_l (by omega) (by omega) | exact mulOk_r (by omega) (by omega) | exact mulOk_bd (a := 1000) (b := 1000) (by assumption) (by assumption) (by decide) (by decide) (by decide) | assumption⟩)) | (with_reducible refine b_mod.mpr (And.symm ⟨?_, by first | omega | assumption⟩)) | (with_reducible refine b_div.mpr (And.symm ⟨?_, by first | exact divOk_of (by omega) (by omega) | assumption⟩)) | (with_reducible refine b_pow.mpr ⟨by decide, ?_⟩) | refine ⟨_, rfl, Eq.refl (penM _ _ _), ?_⟩ | refine ⟨_, rfl, ⟨by omega, by omega⟩, ?_⟩ | refine ⟨_, rfl, ?_⟩ | refine ⟨_, _, rfl, ?_⟩ | refine ⟨_, _, _, rfl, rfl, rfl, ?_⟩ | refine ⟨_, _, rfl, rfl, of_decide_eq_true rfl, ?_⟩ | refine ⟨_, ne_nil _, ?_⟩ | ((with_reducible refine lenOk ?_ ?_); rfl) | refine ⟨_, rfl, rfl, ?_⟩ | with_reducible refine w_rng1.mpr ?_ | with_reducible refine w_rng2.mpr ?_ | ((with_reducible refine ifT ?_ ?_); rfl) | ((with_reducible refine ifF ?_ ?_); rfl))
  refine pure_step (h8 _ _ _ _ ha hc) rfl ?_
  repeat (first | ((with_reducible refine pg_turn ?_ ?_); rfl) | ((with_reducible refine pg_left ?_ ?_); rfl) | ((with_reducible refine pg_cells ?_ ?_); rfl) | ((with_reducible refine ps_turn ?_ ?_); rfl) | ((with_reducible refine ps_left ?_ ?_); rfl) | ((with_reducible refine w_var.mpr ?_); refine ⟨_, rfl, ?_⟩) | with_reducible refine wp_ok.mpr ?_ | with_reducible refine w_int.mpr ?_ | with_reducible refine w_bl.mpr ?_ | with_reducible refine w_non.mpr ?_ | with_reducible refine w_str.mpr ?_ | with_reducible refine w_glob.mpr ?_ | with_reducible refine w_chain.mpr ?_ | with_reducible refine w_ite.mpr ?_ | with_reducible refine w_esn.mpr ?_ | with_reducible refine w_esc.mpr ?_ | with_reducible refine w_tnot.mpr ?_ | with_reducible refine w_tand.mpr ?_ | with_reducible refine w_tor.mpr ?_ | with_reducible refine w_cn.mpr ?_ | with_reducible refine w_c1.mpr ?_ | with_reducible refine w_on.mpr ?_ | with_reducible refine w_rng2.mpr ?_ | with_reducible refine w_gnm.mpr ?_ | with_reducible refine w_kn.mpr ?_ | with_reducible refine w_kc.mpr ?_ | with_reducible refine w_asg.mpr ?_ | with_reducible refine w_par2.mpr ?_ | with_reducible refine w_expr.mpr ?_ | with_reducible refine w_ifs.mpr ?_ | with_reducible refine w_brk.mpr ?_ | with_reducible refine w_cnt.mpr ?_ | with_reducible refine w_pass.mpr ?_ | with_reducible refine w_raise.mpr ?_ | with_reducible refine w_sn.mpr ?_ | with_reducible refine w_sc.mpr ?_ | with_reducible refine w_call.mpr ?_ | with_reducible refine w_and.mpr ?_ | with_reducible refine w_or.mpr ?_ | with_reducible refine w_not.mpr ?_ | with_reducible refine w_neg.mpr ?_ | with_reducible refine w_dget.mpr ?_ | with_reducible refine w_dset.mpr ?_ | with_reducible refine w_gtup.mpr ?_ | with_reducible refine w_gltup.mpr ?_ | with_reducible refine w_gsn.mpr (And.intro rfl ?_) | with_reducible refine w_gsc.mpr ?_ | with_reducible refine w_ilst.mpr ?_ | with_reducible refine w_itup.mpr ?_ | with_reducible refine w_blt.mpr ?_ | with_reducible refine w_isi.mpr ?_ | with_reducible refine w_os.mpr ?_ | with_reducible refine w_idx.mpr ?_ | with_reducible refine w_slc.mpr ?_ | with_reducible refine w_bin.mpr ?_ | with_reducible refine w_cmp.mpr ?_ | with_reducible refine w_tval.mpr ?_ | with_reducible refine w_forr.mpr ?_ | with_reducible refine w_whl.mpr ?_ | with_reducible refine w_lc.mpr ?_ | with_reducible refine w_ret.mpr ?_ | with_reducible refine w_retN.mpr ?_ | (with_reducible refine w_tup.mpr ?_) | (with_reducible refine w_lst.mpr ?_) | (with_reducible refine b_mul.mpr (And.symm ⟨?_, by first | exact mulOk_l (by omega) (by omega) | exact mulOk_r (by omega) (by omega) | exact mulOk_bd (a := 1000) (b := 1000) (by assumption) (by assumption) (by decide) (by decide) (by decide) | assumption⟩)) | (with_reducible refine b_mod.mpr (And.symm ⟨?_, by first | omega | assumption⟩)) | (with_reducible refine b_div.mpr (And.symm ⟨?_, by first | exact divOk_of (by omega) (by omega) | assumption⟩)) | (with_reducible refine b_pow.mpr ⟨by decide, ?_⟩) | refine ⟨_, rfl, Eq.refl (penM _ _ _), ?_⟩ | refine ⟨_, rfl, ⟨by omega, by omega⟩, ?_⟩ | refine ⟨_, rfl, ?_⟩ | refine ⟨_, _, rfl, ?_⟩ | refine ⟨_, _, _, rfl, rfl, rfl, ?_⟩ | refine ⟨_, _, rfl, rfl, of_decide_eq_true rfl, ?_⟩ | refine ⟨_, ne_nil _, ?_⟩ | ((with_reducible refine lenOk ?_ ?_); rfl) | refine ⟨_, rfl, rfl, ?_⟩ | with_reducible refine w_rng1.mpr ?_ | with_reducible refine w_rng2.mpr ?_ | ((with_reducible refine ifT ?_ ?_); rfl) | ((with_reducible refine ifF ?_ ?_); rfl))
  refine pure_step (h8 _ _ _ _ hb hd) rfl ?_
  repeat (first | ((with_reducible refine pg_turn ?_ ?_); rfl) | ((with_reducible refine pg_left ?_ ?_); rfl) | ((with_reducible refine pg_cells ?_ ?_); rfl) | ((with_reducible refine ps_turn ?_ ?_); rfl) | ((with_reducible refine ps_left ?_ ?_); rfl) | ((with_reducible refine w_var.mpr ?_); refine ⟨_, rfl, ?_⟩) | with_reducible refine wp_ok.mpr ?_ | with_reducible refine w_int.mpr ?_ | with_reducible refine w_bl.mpr ?_ | with_reducible refine w_non.mpr ?_ | with_reducible refine w_str.mpr ?_ | with_reducible refine w_glob.mpr ?_ | with_reducible refine w_chain.mpr ?_ | with_reducible refine w_ite.mpr ?_ | with_reducible refine w_esn.mpr ?_ | with_reducible refine w_esc.mpr ?_ | with_reducible refine w_tnot.mpr ?_ | with_reducible refine w_tand.mpr ?_ | with_reducible refine w_tor.mpr ?_ | with_reducible refine w_cn.mpr ?_ | with_reducible refine w_c1.mpr ?_ | with_reducible refine w_on.mpr ?_ | with_reducible refine w_rng2.mpr ?_ | with_reducible refine w_gnm.mpr ?_ | with_reducible refine w_kn.mpr ?_ | with_reducible refine w_kc.mpr ?_ | with_reducible refine w_asg.mpr ?_ | with_reducible refine w_par2.mpr ?_ | with_reducible refine w_expr.mpr ?_ | with_reducible refine w_ifs.mpr ?_ | with_reducible refine w_brk.mpr ?_ | with_reducible refine w_cnt.mpr ?_ | with_reducible refine w_pass.mpr ?_ | with_reducible refine w_raise.mpr ?_ | with_reducible refine w_sn.mpr ?_ | with_reducible refine w_sc.mpr ?_ | with_reducible refine w_call.mpr ?_ | with_reducible refine w_and.mpr ?_ | with_reducible refine w_or.mpr ?_ | with_reducible refine w_not.mpr ?_ | with_reducible refine w_neg.mpr ?_ | with_reducible refine w_dget.mpr ?_ | with_reducible refine w_dset.mpr ?_ | with_reducible refine w_gtup.mpr ?_ | with_reducible refine w_gltup.mpr ?_ | with_reducible refine w_gsn.mpr (And.intro rfl ?_) | with_reducible refine w_gsc.mpr ?_ | with_reducible refine w_ilst.mpr ?_ | with_reducible refine w_itup.mpr ?_ | with_reducible refine w_blt.mpr ?_ | with_reducible refine w_isi.mpr ?_ | with_reducible refine w_os.mpr ?_ | with_reducible refine w_idx.mpr ?_ | with_reducible refine w_slc.mpr ?_ | with_reducible refine w_bin.mpr ?_ | with_reducible refine w_cmp.mpr ?_ | with_reducible refine w_tval.mpr ?_ | with_reducible refine w_forr.mpr ?_ | with_reducible refine w_whl.mpr ?_ | with_reducible refine w_lc.mpr ?_ | with_reducible refine w_ret.mpr ?_ | with_reducible refine w_retN.mpr ?_ | (with_reducible refine w_tup.mpr ?_) | (with_reducible refine w_lst.mpr ?_) | (with_reducible refine b_mul.mpr (And.symm ⟨?_, by first | exact mulOk_l (by omega) (by omega) | exact mulOk_r (by omega) (by omega) | exact mulOk_bd (a := 1000) (b := 1000) (by assumption) (by assumption) (by decide) (by decide) (by decide) | assumption⟩)) | (with_reducible refine b_mod.mpr (And.symm ⟨?_, by first | omega | assumption⟩)) | (with_reducible refine b_div.mpr (And.symm ⟨?_, by first | exact divOk_of (by omega) (by omega) | assumption⟩)) | (with_reducible refine b_pow.mpr ⟨by decide, ?_⟩) | refine ⟨_, rfl, Eq.refl (penM _ _ _), ?_⟩ | refine ⟨_, rfl, ⟨by omega, by omega⟩, ?_⟩ | refine ⟨_, rfl, ?_⟩ | refine ⟨_, _, rfl, ?_⟩ | refine ⟨_, _, _, rfl, rfl, rfl, ?_⟩ | refine ⟨_, _, rfl, rfl, of_decide_eq_true rfl, ?_⟩ | refine ⟨_, ne_nil _, ?_⟩ | ((with_reducible refine lenOk ?_ ?_); rfl) | refine ⟨_, rfl, rfl, ?_⟩ | with_reducible refine w_rng1.mpr ?_ | with_reducible refine w_rng2.mpr ?_ | ((with_reducible refine ifT ?_ ?_); rfl) | ((with_reducible refine ifF ?_ ?_); rfl))
  refine pure_step (h8 _ _ _ _ hp hq) rfl ?_
  repeat (first | ((with_reducible refine pg_turn ?_ ?_); rfl) | ((with_reducible refine pg_left ?_ ?_); rfl) | ((with_reducible refine pg_cells ?_ ?_); rfl) | ((with_reducible refine ps_turn ?_ ?_); rfl) | ((with_reducible refine ps_left ?_ ?_); rfl) | ((with_reducible refine w_var.mpr ?_); refine ⟨_, rfl, ?_⟩) | with_reducible refine wp_ok.mpr ?_ | with_reducible refine w_int.mpr ?_ | with_reducible refine w_bl.mpr ?_ | with_reducible refine w_non.mpr ?_ | with_reducible refine w_str.mpr ?_ | with_reducible refine w_glob.mpr ?_ | with_reducible refine w_chain.mpr ?_ | with_reducible refine w_ite.mpr ?_ | with_reducible refine w_esn.mpr ?_ | with_reducible refine w_esc.mpr ?_ | with_reducible refine w_tnot.mpr ?_ | with_reducible refine w_tand.mpr ?_ | with_reducible refine w_tor.mpr ?_ | with_reducible refine w_cn.mpr ?_ | with_reducible refine w_c1.mpr ?_ | with_reducible refine w_on.mpr ?_ | with_reducible refine w_rng2.mpr ?_ | with_reducible refine w_gnm.mpr ?_ | with_reducible refine w_kn.mpr ?_ | with_reducible refine w_kc.mpr ?_ | with_reducible refine w_asg.mpr ?_ | with_reducible refine w_par2.mpr ?_ | with_reducible refine w_expr.mpr ?_ | with_reducible refine w_ifs.mpr ?_ | with_reducible refine w_brk.mpr ?_ | with_reducible refine w_cnt.mpr ?_ | with_reducible refine w_pass.mpr ?_ | with_reducible refine w_raise.mpr ?_ | with_reducible refine w_sn.mpr ?_ | with_reducible refine w_sc.mpr ?_ | with_reducible refine w_call.mpr ?_ | with_reducible refine w_and.mpr ?_ | with_reducible refine w_or.mpr ?_ | with_reducible refine w_not.mpr ?_ | with_reducible refine w_neg.mpr ?_ | with_reducible refine w_dget.mpr ?_ | with_reducible refine w_dset.mpr ?_ | with_reducible refine w_gtup.mpr ?_ | with_reducible refine w_gltup.mpr ?_ | with_reducible refine w_gsn.mpr (And.intro rfl ?_) | with_reducible refine w_gsc.mpr ?_ | with_reducible refine w_ilst.mpr ?_ | with_reducible refine w_itup.mpr ?_ | with_reducible refine w_blt.mpr ?_ | with_reducible refine w_isi.mpr ?_ | with_reducible refine w_os.mpr ?_ | with_reducible refine w_idx.mpr ?_ | with_reducible refine w_slc.mpr ?_ | with_reducible refine w_bin.mpr ?_ | with_reducible refine w_cmp.mpr ?_ | with_reducible refine w_tval.mpr ?_ | with_reducible refine w_forr.mpr ?_ | with_reducible refine w_whl.mpr ?_ | with_reducible refine w_lc.mpr ?_ | with_reducible refine w_ret.mpr ?_ | with_reducible refine w_retN.mpr ?_ | (with_reducible refine w_tup.mpr ?_) | (with_reducible refine w_lst.mpr ?_) | (with_reducible refine b_mul.mpr (And.symm ⟨?_, by first | exact mulOk_l (by omega) (by omega) | exact mulOk_r (by omega) (by omega) | exact mulOk_bd (a := 1000) (b := 1000) (by assumption) (by assumption) (by decide) (by decide) (by decide) | assumption⟩)) | (with_reducible refine b_mod.mpr (And.symm ⟨?_, by first | omega | assumption⟩)) | (with_reducible refine b_div.mpr (And.symm ⟨?_, by first | exact divOk_of (by omega) (by omega) | assumption⟩)) | (with_reducible refine b_pow.mpr ⟨by decide, ?_⟩) | refine ⟨_, rfl, Eq.refl (penM _ _ _), ?_⟩ | refine ⟨_, rfl, ⟨by omega, by omega⟩, ?_⟩ | refine ⟨_, rfl, ?_⟩ | refine ⟨_, _, rfl, ?_⟩ | refine ⟨_, _, _, rfl, rfl, rfl, ?_⟩ | refine ⟨_, _, rfl, rfl, of_decide_eq_true rfl, ?_⟩ | refine ⟨_, ne_nil _, ?_⟩ | ((with_reducible refine lenOk ?_ ?_); rfl) | refine ⟨_, rfl, rfl, ?_⟩ | with_reducible refine w_rng1.mpr ?_ | with_reducible refine w_rng2.mpr ?_ | ((with_reducible refine ifT ?_ ?_); rfl) | ((with_reducible refine ifF ?_ ?_); rfl))
  exact fin_e rfl rfl
theorem sem_is_point_shape (Φ : Fns) (x y z : Int) (h11 : ∀ n : Int, Φ 11 [.int n] [] = .ok (.bl true) []) (h18 : ∀ n m : Int, Φ 18 [.int n, .int m] [] = .ok (.int (Int.gcd n m)) []) (hz : 1 ≤ z) (hg : Int.gcd (Int.gcd x y) z = 1) :
    runF Φ f_is_point_shape [P3 x y z] [] = .ok (.bl true) [] := by
  refine wp_eq (run_wp2 [some (P3 x y z), none] rfl rfl ?_)
  unfold f_is_point_shape
  repeat (first | ((with_reducible refine pg_turn ?_ ?_); rfl) | ((with_reducible refine pg_left ?_ ?_); rfl) | ((with_reducible refine pg_cells ?_ ?_); rfl) | ((with_reducible refine ps_turn ?_ ?_); rfl) | ((with_reducible refine ps_left ?_ ?_); rfl) | ((with_reducible refine w_var.mpr ?_); refine ⟨_, rfl, ?_⟩) | with_reducible refine wp_ok.mpr ?_ | with_reducible refine w_int.mpr ?_ | with_reducible refine w_bl.mpr ?_ | with_reducible refine w_non.mpr ?_ | with_reducible refine w_str.mpr ?_ | with_reducible refine w_glob.mpr ?_ | with_reducible refine w_chain.mpr ?_ | with_reducible refine w_ite.mpr ?_ | with_reducible refine w_esn.mpr ?_ | with_reducible refine w_esc.mpr ?_ | with_reducible refine w_tnot.mpr ?_ | with_reducible refine w_tand.mpr ?_ | with_reducible refine w_tor.mpr ?_ | with_reducible refine w_cn.mpr ?_ | with_reducible refine w_c1.mpr ?_ | with_reducible refine w_on.mpr ?_ | with_reducible refine w_rng2.mpr ?_ | with_reducible refine w_gnm.mpr ?_ | with_reducible refine w_kn.mpr ?_ | with_reducible refine w_kc.mpr ?_ | with_reducible refine w_asg.mpr ?_ | with_reducible refine w_par2.mpr ?_ | with_reducible refine w_expr.mpr ?_ | with_reducible refine w_ifs.mpr ?_ | with_reducible refine w_brk.mpr ?_ | with_reducible refine w_cnt.mpr ?_ | with_reducible refine w_pass.mpr ?_ | with_reducible refine w_raise.mpr ?_ | with_reducible refine w_sn.mpr ?_ | with_reducible refine w_sc.mpr ?_ | with_reducible refine w_call.mpr ?_ | with_reducible refine w_and.mpr ?_ | with_reducible refine w_or.mpr ?_ | with_reducible refine w_not.mpr ?_ | with_reducible refine w_neg.mpr ?_ | with_reducible refine w_dget.mpr ?_ | with_reducible refine w_dset.mpr ?_ | with_reducible refine w_gtup.mpr ?_ | with_reducible refine w_gltup.mpr ?_ | with_reducible refine w_gsn.mpr (And.intro rfl ?_) | with_reducible refine w_gsc.mpr ?_ | with_reducible refine w_ilst.mpr ?_ | with_reducible refine w_itup.mpr ?_ | with_reducible refine w_blt.mpr ?_ | with_reducible refine w_isi.mpr ?_ | with_reducible refine w_os.mpr ?_ | with_reducible refine w_idx.mpr ?_ | with_reducible refine w_slc.mpr ?_ | with_reducible refine w_bin.mpr ?_ | with_reducible refine w_cmp.mpr ?_ | with_reducible refine w_tval.mpr ?_ | with_reducible refine w_forr.mpr ?_ | with_reducible refine w_whl.mpr ?_ | with_reducible refine w_lc.mpr ?_ | with_reducible refine w_ret.mpr ?_ | with_reducible refine w_retN.mpr ?_ | (with_reducible refine w_tup.mpr ?_) | (with_reducible refine w_lst.mpr ?_) | (with_reducible refine b_mul.mpr (And.symm ⟨?_, by first | exact mulOk_l (by omega) (by omega) | exact mulOk_r (by omega) (by omega) | exact mulOk_bd (a := 1000) (b := 1000) (by assumption) (by assumption) (by decide) (by decide) (by decide) | assumption⟩)) | (with_reducible refine b_mod.mpr (And.symm ⟨?_, by first | omega | assumption⟩)) | (with_reducible refine b_div.mpr (And.symm ⟨?_, by first | exact divOk_of (by omega) (by omega) | assumption⟩)) | (with_reducible refine b_pow.mpr ⟨by decide, ?_⟩) | refine ⟨_, rfl, Eq.refl (penM _ _ _), ?_⟩ | refine ⟨_, rfl, ⟨by omega, by omega⟩, ?_⟩ | refine ⟨_, rfl, ?_⟩ | refine ⟨_, _, rfl, ?_⟩ | refine ⟨_, _, _, rfl, rfl, rfl, ?_⟩ | refine ⟨_, _, rfl, rfl, of_decide_eq_true rfl, ?_⟩ | refine ⟨_, ne_nil _, ?_⟩ | ((with_reducible refine lenOk ?_ ?_); rfl) | refine ⟨_, rfl, rfl, ?_⟩ | with_reducible refine w_rng1.mpr ?_ | with_reducible refine w_rng2.mpr ?_ | ((with_reducible refine ifT ?_ ?_); rfl) | ((with_reducible refine ifF ?_ ?_); rfl))
  refine lc_wp (fun i acc μ => acc = List.replicate i (D.bl true) ∧ μ = []) ⟨rfl, rfl⟩ ?_ ?_
  · rintro i w acc μ hx ⟨rfl, rfl⟩
    have hi := (List.getElem?_eq_some_iff.mp hx).1
    obtain ⟨n, rfl⟩ : ∃ n : Int, w = .int n := by
      have : w ∈ [D.int x, D.int y, D.int z] := List.mem_of_getElem? hx
      simp only [List.mem_cons, List.not_mem_nil, or_false] at this
      rcases this with h | h | h <;> exact ⟨_, h⟩
    repeat (first | ((with_reducible refine pg_turn ?_ ?_); rfl) | ((with_reducible refine pg_left ?_ ?_); rfl) | ((with_reducible refine pg_cells ?_ ?_); rfl) | ((with_reducible refine ps_turn ?_ ?_); rfl) | ((with_reducible refine ps_left ?_ ?_); rfl) | ((with_reducible refine w_var.mpr ?_); refine ⟨_, rfl, ?_⟩) | with_reducible refine wp_ok.mpr ?_ | with_reducible refine w_int.mpr ?_ | with_reducible refine w_bl.mpr ?_ | with_reducible refine w_non.mpr ?_ | with_reducible refine w_str.mpr ?_ | with_reducible refine w_glob.mpr ?_ | with_reducible refine w_chain.mpr ?_ | with_reducible refine w_ite.mpr ?_ | with_reducible refine w_esn.mpr ?_ | with_reducible refine w_esc.mpr ?_ | with_reducible refine w_tnot.mpr ?_ | with_reducible refine w_tand.mpr ?_ | with_reducible refine w_tor.mpr ?_ | with_reducible refine w_cn.mpr ?_ | with_reducible refine w_c1.mpr ?_ | with_reducible refine w_on.mpr ?_ | with_reducible refine w_rng2.mpr ?_ | with_reducible refine w_gnm.mpr ?_ | with_reducible refine w_kn.mpr ?_ | with_reducible refine w_kc.mpr ?_ | with_reducible refine w_asg.mpr ?_ | with_reducible refine w_par2.mpr ?_ | with_reducible refine w_expr.mpr ?_ | with_reducible refine w_ifs.mpr ?_ | with_reducible refine w_brk.mpr ?_ | with_reducible refine w_cnt.mpr ?_ | with_reducible refine w_pass.mpr ?_ | with_reducible refine w_raise.mpr ?_ | with_reducible refine w_sn.mpr ?_ | with_reducible refine w_sc.mpr ?_ | with_reducible refine w_call.mpr ?_ | with_reducible refine w_and.mpr ?_ | with_reducible refine w_or.mpr ?_ | with_reducible refine w_not.mpr ?_ | with_reducible refine w_neg.mpr ?_ | with_reducible refine w_dget.mpr ?_ | with_reducible refine w_dset.mpr ?_ | with_reducible refine w_gtup.mpr ?_ | with_reducible refine w_gltup.mpr ?_ | with_reducible refine w_gsn.mpr (And.intro rfl ?_) | with_reducible refine w_gsc.mpr ?_ | with_reducible refine w_ilst.mpr ?_ | with_reducible refine w_itup.mpr ?_ | with_reducible refine w_blt.mpr ?_ | with_reducible refine w_isi.mpr ?_ | with_reducible refine w_os.mpr ?_ | with_reducible refine w_idx.mpr ?_ | with_reducible refine w_slc.mpr ?_ | with_reducible refine w_bin.mpr ?_ | with_reducible refine w_cmp.mpr ?_ | with_reducible refine w_tval.mpr ?_ | with_reducible refine w_forr.mpr ?_ | with_reducible refine w_whl.mpr ?_ | with_reducible refine w_lc.mpr ?_ | with_reducible refine w_ret.mpr ?_ | with_reducible refine w_retN.mpr ?_ | (with_reducible refine w_tup.mpr ?_) | (with_reducible refine w_lst.mpr ?_) | (with_reducible refine b_mul.mpr (And.symm ⟨?_, by first | exact mulOk_l (by omega) (by omega) | exact mulOk_r (by omega) (by omega) | exact mulOk_bd (a := 1000) (b := 1000) (by assumption) (by assumption) (by decide) (by decide) (by decide) | assumption⟩)) | (with_reducible refine b_mod.mpr (And.symm ⟨?_, by first | omega | assumption⟩)) | (with_reducible refine b_div.mpr (And.symm ⟨?_, by first | exact divOk_of (by omega) (by omega) | assumption⟩)) | (with_reducible refine b_pow.mpr ⟨by decide, ?_⟩) | refine ⟨_, rfl, Eq.refl (penM _ _ _), ?_⟩ | refine ⟨_, rfl, ⟨by omega, by omega⟩, ?_⟩ | refine ⟨_, rfl, ?_⟩ | refine ⟨_, _, rfl, ?_⟩ | refine ⟨_, _, _, rfl, rfl, rfl, ?_⟩ | refine ⟨_, _, rfl, rfl, of_decide_eq_true rfl, ?_⟩ | refine ⟨_, ne_nil _, ?_⟩ | ((with_reducible refine lenOk ?_ ?_); rfl) | refine ⟨_, rfl, rfl, ?_⟩ | with_reducible refine w_rng1.mpr ?_ | with_reducible refine w_rng2.mpr ?_ | ((with_reducible refine ifT ?_ ?_); rfl) | ((with_reducible refine ifF ?_ ?_); rfl))
    refine pure_step (h11 n) rfl ?_
    exact ⟨by rw [List.length_replicate]; exact Nat.lt_trans hi (of_decide_eq_true rfl), by rw [List.replicate_succ'], rfl⟩
  · rintro acc μ ⟨rfl, rfl⟩
    repeat (first | ((with_reducible refine pg_turn ?_ ?_); rfl) | ((with_reducible refine pg_left ?_ ?_); rfl) | ((with_reducible refine pg_cells ?_ ?_); rfl) | ((with_reducible refine ps_turn ?_ ?_); rfl) | ((with_reducible refine ps_left ?_ ?_); rfl) | ((with_reducible refine w_var.mpr ?_); refine ⟨_, rfl, ?_⟩) | with_reducible refine wp_ok.mpr ?_ | with_reducible refine w_int.mpr ?_ | with_reducible refine w_bl.mpr ?_ | with_reducible refine w_non.mpr ?_ | with_reducible refine w_str.mpr ?_ | with_reducible refine w_glob.mpr ?_ | with_reducible refine w_chain.mpr ?_ | with_reducible refine w_ite.mpr ?_ | with_reducible refine w_esn.mpr ?_ | with_reducible refine w_esc.mpr ?_ | with_reducible refine w_tnot.mpr ?_ | with_reducible refine w_tand.mpr ?_ | with_reducible refine w_tor.mpr ?_ | with_reducible refine w_cn.mpr ?_ | with_reducible refine w_c1.mpr ?_ | with_reducible refine w_on.mpr ?_ | with_reducible refine w_rng2.mpr ?_ | with_reducible refine w_gnm.mpr ?_ | with_reducible refine w_kn.mpr ?_ | with_reducible refine w_kc.mpr ?_ | with_reducible refine w_asg.mpr ?_ | with_reducible refine w_par2.mpr ?_ | with_reducible refine w_expr.mpr ?_ | with_reducible refine w_ifs.mpr ?_ | with_reducible refine w_brk.mpr ?_ | with_reducible refine w_cnt.mpr ?_ | with_reducible refine w_pass.mpr ?_ | with_reducible refine w_raise.mpr ?_ | with_reducible refine w_sn.mpr ?_ | with_reducible refine w_sc.mpr ?_ | with_reducible refine w_call.mpr ?_ | with_reducible refine w_and.mpr ?_ | with_reducible refine w_or.mpr ?_ | with_reducible refine w_not.mpr ?_ | with_reducible refine w_neg.mpr ?_ | with_reducible refine w_dget.mpr ?_ | with_reducible refine w_dset.mpr ?_ | with_reducible refine w_gtup.mpr ?_ | with_reducible refine w_gltup.mpr ?_ | with_reducible refine w_gsn.mpr (And.intro rfl ?_) | with_reducible refine w_gsc.mpr ?_ | with_reducible refine w_ilst.mpr ?_ | with_reducible refine w_itup.mpr ?_ | with_reducible refine w_blt.mpr ?_ | with_reducible refine w_isi.mpr ?_ | with_reducible refine w_os.mpr ?_ | with_reducible refine w_idx.mpr ?_ | with_reducible refine w_slc.mpr ?_ | with_reducible refine w_bin.mpr ?_ | with_reducible refine w_cmp.mpr ?_ | with_reducible refine w_tval.mpr ?_ | with_reducible refine w_forr.mpr ?_ | with_reducible refine w_whl.mpr ?_ | with_reducible refine w_lc.mpr ?_ | with_reducible refine w_ret.mpr ?_ | with_reducible refine w_retN.mpr ?_ | (with_reducible refine w_tup.mpr ?_) | (with_reducible refine w_lst.mpr ?_) | (with_reducible refine b_mul.mpr (And.symm ⟨?_, by first | exact mulOk_l (by omega) (by omega) | exact mulOk_r (by omega) (by omega) | exact mulOk_bd (a := 1000) (b := 1000) (by assumption) (by assumption) (by decide) (by decide) (by decide) | assumption⟩)) | (with_reducible refine b_mod.mpr (And.symm ⟨?_, by first | omega | assumption⟩)) | (with_reducible refine b_div.mpr (And.symm ⟨?_, by first | exact divOk_of (by omega) (by omega) | assumption⟩)) | (with_reducible refine b_pow.mpr ⟨by decide, ?_⟩) | refine ⟨_, rfl, Eq.refl (penM _ _ _), ?_⟩ | refine ⟨_, rfl, ⟨by omega, by omega⟩, ?_⟩ | refine ⟨_, rfl, ?_⟩ | refine ⟨_, _, rfl, ?_⟩ | refine ⟨_, _, _, rfl, rfl, rfl, ?_⟩ | refine ⟨_, _, rfl, rfl, of_decide_eq_true rfl, ?_⟩ | refine ⟨_, ne_nil _, ?_⟩ | ((with_reducible refine lenOk ?_ ?_); rfl) | refine ⟨_, rfl, rfl, ?_⟩ | with_reducible refine w_rng1.mpr ?_ | with_reducible refine w_rng2.mpr ?_ | ((with_reducible refine ifT ?_ ?_); rfl) | ((with_reducible refine ifF ?_ ?_); rfl))
    refine ifT (decide_eq_true hz) ?_
    repeat (first | ((with_reducible refine pg_turn ?_ ?_); rfl) | ((with_reducible refine pg_left ?_ ?_); rfl) | ((with_reducible refine pg_cells ?_ ?_); rfl) | ((with_reducible refine ps_turn ?_ ?_); rfl) | ((with_reducible refine ps_left ?_ ?_); rfl) | ((with_reducible refine w_var.mpr ?_); refine ⟨_, rfl, ?_⟩) | with_reducible refine wp_ok.mpr ?_ | with_reducible refine w_int.mpr ?_ | with_reducible refine w_bl.mpr ?_ | with_reducible refine w_non.mpr ?_ | with_reducible refine w_str.mpr ?_ | with_reducible refine w_glob.mpr ?_ | with_reducible refine w_chain.mpr ?_ | with_reducible refine w_ite.mpr ?_ | with_reducible refine w_esn.mpr ?_ | with_reducible refine w_esc.mpr ?_ | with_reducible refine w_tnot.mpr ?_ | with_reducible refine w_tand.mpr ?_ | with_reducible refine w_tor.mpr ?_ | with_reducible refine w_cn.mpr ?_ | with_reducible refine w_c1.mpr ?_ | with_reducible refine w_on.mpr ?_ | with_reducible refine w_rng2.mpr ?_ | with_reducible refine w_gnm.mpr ?_ | with_reducible refine w_kn.mpr ?_ | with_reducible refine w_kc.mpr ?_ | with_reducible refine w_asg.mpr ?_ | with_reducible refine w_par2.mpr ?_ | with_reducible refine w_expr.mpr ?_ | with_reducible refine w_ifs.mpr ?_ | with_reducible refine w_brk.mpr ?_ | with_reducible refine w_cnt.mpr ?_ | with_reducible refine w_pass.mpr ?_ | with_reducible refine w_raise.mpr ?_ | with_reducible refine w_sn.mpr ?_ | with_reducible refine w_sc.mpr ?_ | with_reducible refine w_call.mpr ?_ | with_reducible refine w_and.mpr ?_ | with_reducible refine w_or.mpr ?_ | with_reducible refine w_not.mpr ?_ | with_reducible refine w_neg.mpr ?_ | with_reducible refine w_dget.mpr ?_ | with_reducible refine w_dset.mpr ?_ | with_reducible refine w_gtup.mpr ?_ | with_reducible refine w_gltup.mpr ?_ | with_reducible refine w_gsn.mpr (And.intro rfl ?_) | with_reducible refine w_gsc.mpr ?_ | with_reducible refine w_ilst.mpr ?_ | with_reducible refine w_itup.mpr ?_ | with_reducible refine w_blt.mpr ?_ | with_reducible refine w_isi.mpr ?_ | with_reducible refine w_os.mpr ?_ | with_reducible refine w_idx.mpr ?_ | with_reducible refine w_slc.mpr ?_ | with_reducible refine w_bin.mpr ?_ | with_reducible refine w_cmp.mpr ?_ | with_reducible refine w_tval.mpr ?_ | with_reducible refine w_forr.mpr ?_ | with_reducible refine w_whl.mpr ?_ | with_reducible refine w_lc.mpr ?_ | with_reducible refine w_ret.mpr ?_ | with_reducible refine w_retN.mpr ?_ | (with_reducible refine w_tup.mpr ?_) | (with_reducible refine w_lst.mpr ?_) | (with_reducible refine b_mul.mpr (And.symm ⟨?_, by first | exact mulOk_l (by omega) (by omega) | exact mulOk_r (by omega) (by omega) | exact mulOk_bd (a := 1000) (b := 1000) (by assumption) (by assumption) (by decide) (by decide) (by decide) | assumption⟩)) | (with_reducible refine b_mod.mpr (And.symm ⟨?_, by first | omega | assumption⟩)) | (with_reducible refine b_div.mpr (And.symm ⟨?_, by first | exact divOk_of (by omega) (by omega) | assumption⟩)) | (with_reducible refine b_pow.mpr ⟨by decide, ?_⟩) | refine ⟨_, rfl, Eq.refl (penM _ _ _), ?_⟩ | refine ⟨_, rfl, ⟨by omega, by omega⟩, ?_⟩ | refine ⟨_, rfl, ?_⟩ | refine ⟨_, _, rfl, ?_⟩ | refine ⟨_, _, _, rfl, rfl, rfl, ?_⟩ | refine ⟨_, _, rfl, rfl, of_decide_eq_true rfl, ?_⟩ | refine ⟨_, ne_nil _, ?_⟩ | ((with_reducible refine lenOk ?_ ?_); rfl) | refine ⟨_, rfl, rfl, ?_⟩ | with_reducible refine w_rng1.mpr ?_ | with_reducible refine w_rng2.mpr ?_ | ((with_reducible refine ifT ?_ ?_); rfl) | ((with_reducible refine ifF ?_ ?_); rfl))
    refine pure_step (h18 _ _) rfl ?_
    repeat (first | ((with_reducible refine pg_turn ?_ ?_); rfl) | ((with_reducible refine pg_left ?_ ?_); rfl) | ((with_reducible refine pg_cells ?_ ?_); rfl) | ((with_reducible refine ps_turn ?_ ?_); rfl) | ((with_reducible refine ps_left ?_ ?_); rfl) | ((with_reducible refine w_var.mpr ?_); refine ⟨_, rfl, ?_⟩) | with_reducible refine wp_ok.mpr ?_ | with_reducible refine w_int.mpr ?_ | with_reducible refine w_bl.mpr ?_ | with_reducible refine w_non.mpr ?_ | with_reducible refine w_str.mpr ?_ | with_reducible refine w_glob.mpr ?_ | with_reducible refine w_chain.mpr ?_ | with_reducible refine w_ite.mpr ?_ | with_reducible refine w_esn.mpr ?_ | with_reducible refine w_esc.mpr ?_ | with_reducible refine w_tnot.mpr ?_ | with_reducible refine w_tand.mpr ?_ | with_reducible refine w_tor.mpr ?_ | with_reducible refine w_cn.mpr ?_ | with_reducible refine w_c1.mpr ?_ | with_reducible refine w_on.mpr ?_ | with_reducible refine w_rng2.mpr ?_ | with_reducible refine w_gnm.mpr ?_ | with_reducible refine w_kn.mpr ?_ | with_reducible refine w_kc.mpr ?_ | with_reducible refine w_asg.mpr ?_ | with_reducible refine w_par2.mpr ?_ | with_reducible refine w_expr.mpr ?_ | with_reducible refine w_ifs.mpr ?_ | with_reducible refine w_brk.mpr ?_ | with_reducible refine w_cnt.mpr ?_ | with_reducible refine w_pass.mpr ?_ | with_reducible refine w_raise.mpr ?_ | with_reducible refine w_sn.mpr ?_ | with_reducible refine w_sc.mpr ?_ | with_reducible refine w_call.mpr ?_ | with_reducible refine w_and.mpr ?_ | with_reducible refine w_or.mpr ?_ | with_reducible refine w_not.mpr ?_ | with_reducible refine w_neg.mpr ?_ | with_reducible refine w_dget.mpr ?_ | with_reducible refine w_dset.mpr ?_ | with_reducible refine w_gtup.mpr ?_ | with_reducible refine w_gltup.mpr ?_ | with_reducible refine w_gsn.mpr (And.intro rfl ?_) | with_reducible refine w_gsc.mpr ?_ | with_reducible refine w_ilst.mpr ?_ | with_reducible refine w_itup.mpr ?_ | with_reducible refine w_blt.mpr ?_ | with_reducible refine w_isi.mpr ?_ | with_reducible refine w_os.mpr ?_ | with_reducible refine w_idx.mpr ?_ | with_reducible refine w_slc.mpr ?_ | with_reducible refine w_bin.mpr ?_ | with_reducible refine w_cmp.mpr ?_ | with_reducible refine w_tval.mpr ?_ | with_reducible refine w_forr.mpr ?_ | with_reducible refine w_whl.mpr ?_ | with_reducible refine w_lc.mpr ?_ | with_reducible refine w_ret.mpr ?_ | with_reducible refine w_retN.mpr ?_ | (with_reducible refine w_tup.mpr ?_) | (with_reducible refine w_lst.mpr ?_) | (with_reducible refine b_mul.mpr (And.symm ⟨?_, by first | exact mulOk_l (by omega) (by omega) | exact mulOk_r (by omega) (by omega) | exact mulOk_bd (a := 1000) (b := 1000) (by assumption) (by assumption) (by decide) (by decide) (by decide) | assumption⟩)) | (with_reducible refine b_mod.mpr (And.symm ⟨?_, by first | omega | assumption⟩)) | (with_reducible refine b_div.mpr (And.symm ⟨?_, by first | exact divOk_of (by omega) (by omega) | assumption⟩)) | (with_reducible refine b_pow.mpr ⟨by decide, ?_⟩) | refine ⟨_, rfl, Eq.refl (penM _ _ _), ?_⟩ | refine ⟨_, rfl, ⟨by omega, by omega⟩, ?_⟩ | refine ⟨_, rfl, ?_⟩ | refine ⟨_, _, rfl, ?_⟩ | refine ⟨_, _, _, rfl, rfl, rfl, ?_⟩ | refine ⟨_, _, rfl, rfl, of_decide_eq_true rfl, ?_⟩ | refine ⟨_, ne_nil _, ?_⟩ | ((with_reducible refine lenOk ?_ ?_); rfl) | refine ⟨_, rfl, rfl, ?_⟩ | with_reducible refine w_rng1.mpr ?_ | with_reducible refine w_rng2.mpr ?_ | ((with_reducible refine ifT ?_ ?_); rfl) | ((with_reducible refine ifF ?_ ?_); rfl))
    refine pure_step (h18 _ _) rfl ?_
    rw [hg]
    repeat (first | ((with_reducible refine pg_turn ?_ ?_); rfl) | ((with_reducible refine pg_left ?_ ?_); rfl) | ((with_reducible refine pg_cells ?_ ?_); rfl) | ((with_reducible refine ps_turn ?_ ?_); rfl) | ((with_reducible refine ps_left ?_ ?_); rfl) | ((with_reducible refine w_var.mpr ?_); refine ⟨_, rfl, ?_⟩) | with_reducible refine wp_ok.mpr ?_ | with_reducible refine w_int.mpr ?_ | with_reducible refine w_bl.mpr ?_ | with_reducible refine w_non.mpr ?_ | with_reducible refine w_str.mpr ?_ | with_reducible refine w_glob.mpr ?_ | with_reducible refine w_chain.mpr ?_ | with_reducible refine w_ite.mpr ?_ | with_reducible refine w_esn.mpr ?_ | with_reducible refine w_esc.mpr ?_ | with_reducible refine w_tnot.mpr ?_ | with_reducible refine w_tand.mpr ?_ | with_reducible refine w_tor.mpr ?_ | with_reducible refine w_cn.mpr ?_ | with_reducible refine w_c1.mpr ?_ | with_reducible refine w_on.mpr ?_ | with_reducible refine w_rng2.mpr ?_ | with_reducible refine w_gnm.mpr ?_ | with_reducible refine w_kn.mpr ?_ | with_reducible refine w_kc.mpr ?_ | with_reducible refine w_asg.mpr ?_ | with_reducible refine w_par2.mpr ?_ | with_reducible refine w_expr.mpr ?_ | with_reducible refine w_ifs.mpr ?_ | with_reducible refine w_brk.mpr ?_ | with_reducible refine w_cnt.mpr ?_ | with_reducible refine w_pass.mpr ?_ | with_reducible refine w_raise.mpr ?_ | with_reducible refine w_sn.mpr ?_ | with_reducible refine w_sc.mpr ?_ | with_reducible refine w_call.mpr ?_ | with_reducible refine w_and.mpr ?_ | with_reducible refine w_or.mpr ?_ | with_reducible refine w_not.mpr ?_ | with_reducible refine w_neg.mpr ?_ | with_reducible refine w_dget.mpr ?_ | with_reducible refine w_dset.mpr ?_ | with_reducible refine w_gtup.mpr ?_ | with_reducible refine w_gltup.mpr ?_ | with_reducible refine w_gsn.mpr (And.intro rfl ?_) | with_reducible refine w_gsc.mpr ?_ | with_reducible refine w_ilst.mpr ?_ | with_reducible refine w_itup.mpr ?_ | with_reducible refine w_blt.mpr ?_ | with_reducible refine w_isi.mpr ?_ | with_reducible refine w_os.mpr ?_ | with_reducible refine w_idx.mpr ?_ | with_reducible refine w_slc.mpr ?_ | with_reducible refine w_bin.mpr ?_ | with_reducible refine w_cmp.mpr ?_ | with_reducible refine w_tval.mpr ?_ | with_reducible refine w_forr.mpr ?_ | with_reducible refine w_whl.mpr ?_ | with_reducible refine w_lc.mpr ?_ | with_reducible refine w_ret.mpr ?_ | with_reducible refine w_retN.mpr ?_ | (with_reducible refine w_tup.mpr ?_) | (with_reducible refine w_lst.mpr ?_) | (with_reducible refine b_mul.mpr (And.symm ⟨?_, by first | exact mulOk_l (by omega) (by omega) | exact mulOk_r (by omega) (by omega) | exact mulOk_bd (a := 1000) (b := 1000) (by assumption) (by assumption) (by decide) (by decide) (by decide) | assumption⟩)) | (with_reducible refine b_mod.mpr (And.symm ⟨?_, by first | omega | assumption⟩)) | (with_reducible refine b_div.mpr (And.symm ⟨?_, by first | exact divOk_of (by omega) (by omega) | assumption⟩)) | (with_reducible refine b_pow.mpr ⟨by decide, ?_⟩) | refine ⟨_, rfl, Eq.refl (penM _ _ _), ?_⟩ | refine ⟨_, rfl, ⟨by omega, by omega⟩, ?_⟩ | refine ⟨_, rfl, ?_⟩ | refine ⟨_, _, rfl, ?_⟩ | refine ⟨_, _, _, rfl, rfl, rfl, ?_⟩ | refine ⟨_, _, rfl, rfl, of_decide_eq_true rfl, ?_⟩ | refine ⟨_, ne_nil _, ?_⟩ | ((with_reducible refine lenOk ?_ ?_); rfl) | refine ⟨_, rfl, rfl, ?_⟩ | with_reducible refine w_rng1.mpr ?_ | with_reducible refine w_rng2.mpr ?_ | ((with_reducible refine ifT ?_ ?_); rfl) | ((with_reducible refine ifF ?_ ?_); rfl))
    exact fin_e rfl rfl
theorem sem_is_point (Φ : Fns) (x y z : Int) (h17 : ∀ n l h : Int, l ≤ n → n ≤ h → Φ 17 [.int n, .int l, .int h] [] = .ok (.bl true) []) (h19 : Φ 19 [P3 x y z] [] = .ok (.bl true) []) (hz0 : 1 ≤ z) (hz : z ≤ 1000000)
    (hx1 : -(10 ^ 40 * z) ≤ x) (hx2 : x ≤ 10 ^ 40 * z) (hy1 : -(10 ^ 40 * z) ≤ y) (hy2 : y ≤ 10 ^ 40 * z) :
    runF Φ f_is_point [P3 x y z] [] = .ok (.bl true) [] := by
  refine wp_eq (run_wp2 [some (P3 x y z), none, none] rfl rfl ?_)
  unfold f_is_point
  repeat (first | ((with_reducible refine pg_turn ?_ ?_); rfl) | ((with_reducible refine pg_left ?_ ?_); rfl) | ((with_reducible refine pg_cells ?_ ?_); rfl) | ((with_reducible refine ps_turn ?_ ?_); rfl) | ((with_reducible refine ps_left ?_ ?_); rfl) | ((with_reducible refine w_var.mpr ?_); refine ⟨_, rfl, ?_⟩) | with_reducible refine wp_ok.mpr ?_ | with_reducible refine w_int.mpr ?_ | with_reducible refine w_bl.mpr ?_ | with_reducible refine w_non.mpr ?_ | with_reducible refine w_str.mpr ?_ | with_reducible refine w_glob.mpr ?_ | with_reducible refine w_chain.mpr ?_ | with_reducible refine w_ite.mpr ?_ | with_reducible refine w_esn.mpr ?_ | with_reducible refine w_esc.mpr ?_ | with_reducible refine w_tnot.mpr ?_ | with_reducible refine w_tand.mpr ?_ | with_reducible refine w_tor.mpr ?_ | with_reducible refine w_cn.mpr ?_ | with_reducible refine w_c1.mpr ?_ | with_reducible refine w_on.mpr ?_ | with_reducible refine w_rng2.mpr ?_ | with_reducible refine w_gnm.mpr ?_ | with_reducible refine w_kn.mpr ?_ | with_reducible refine w_kc.mpr ?_ | with_reducible refine w_asg.mpr ?_ | with_reducible refine w_par2.mpr ?_ | with_reducible refine w_expr.mpr ?_ | with_reducible refine w_ifs.mpr ?_ | with_reducible refine w_brk.mpr ?_ | with_reducible refine w_cnt.mpr ?_ | with_reducible refine w_pass.mpr ?_ | with_reducible refine w_raise.mpr ?_ | with_reducible refine w_sn.mpr ?_ | with_reducible refine w_sc.mpr ?_ | with_reducible refine w_call.mpr ?_ | with_reducible refine w_and.mpr ?_ | with_reducible refine w_or.mpr ?_ | with_reducible refine w_not.mpr ?_ | with_reducible refine w_neg.mpr ?_ | with_reducible refine w_dget.mpr ?_ | with_reducible refine w_dset.mpr ?_ | with_reducible refine w_gtup.mpr ?_ | with_reducible refine w_gltup.mpr ?_ | with_reducible refine w_gsn.mpr (And.intro rfl ?_) | with_reducible refine w_gsc.mpr ?_ | with_reducible refine w_ilst.mpr ?_ | with_reducible refine w_itup.mpr ?_ | with_reducible refine w_blt.mpr ?_ | with_reducible refine w_isi.mpr ?_ | with_reducible refine w_os.mpr ?_ | with_reducible refine w_idx.mpr ?_ | with_reducible refine w_slc.mpr ?_ | with_reducible refine w_bin.mpr ?_ | with_reducible refine w_cmp.mpr ?_ | with_reducible refine w_tval.mpr ?_ | with_reducible refine w_forr.mpr ?_ | with_reducible refine w_whl.mpr ?_ | with_reducible refine w_lc.mpr ?_ | with_reducible refine w_ret.mpr ?_ | with_reducible refine w_retN.mpr ?_ | (with_reducible refine w_tup.mpr ?_) | (with_reducible refine w_lst.mpr ?_) | (with_reducible refine b_mul.mpr (And.symm ⟨?_, by first | exact mulOk_l (by omega) (by omega) | exact mulOk_r (by omega) (by omega) | exact mulOk_bd (a := 1000) (b := 1000) (by assumption) (by assumption) (by decide) (by decide) (by decide) | assumption⟩)) | (with_reducible refine b_mod.mpr (And.symm ⟨?_, by first | omega | assumption⟩)) | (with_reducible refine b_div.mpr (And.symm ⟨?_, by first | exact divOk_of (by omega) (by omega) | assumption⟩)) | (with_reducible refine b_pow.mpr ⟨by decide, ?_⟩) | refine ⟨_, rfl, Eq.refl (penM _ _ _), ?_⟩ | refine ⟨_, rfl, ⟨by omega, by omega⟩, ?_⟩ | refine ⟨_, rfl, ?_⟩ | refine ⟨_, _, rfl, ?_⟩ | refine ⟨_, _, _, rfl, rfl, rfl, ?_⟩ | refine ⟨_, _, rfl, rfl, of_decide_eq_true rfl, ?_⟩ | refine ⟨_, ne_nil _, ?_⟩ | ((with_reducible refine lenOk ?_ ?_); rfl) | refine ⟨_, rfl, rfl, ?_⟩ | with_reducible refine w_rng1.mpr ?_ | with_reducible refine w_rng2.mpr ?_ | ((with_reducible refine ifT ?_ ?_); rfl) | ((with_reducible refine ifF ?_ ?_); rfl))
  refine pure_step h19 rfl ?_
  repeat (first | ((with_reducible refine pg_turn ?_ ?_); rfl) | ((with_reducible refine pg_left ?_ ?_); rfl) | ((with_reducible refine pg_cells ?_ ?_); rfl) | ((with_reducible refine ps_turn ?_ ?_); rfl) | ((with_reducible refine ps_left ?_ ?_); rfl) | ((with_reducible refine w_var.mpr ?_); refine ⟨_, rfl, ?_⟩) | with_reducible refine wp_ok.mpr ?_ | with_reducible refine w_int.mpr ?_ | with_reducible refine w_bl.mpr ?_ | with_reducible refine w_non.mpr ?_ | with_reducible refine w_str.mpr ?_ | with_reducible refine w_glob.mpr ?_ | with_reducible refine w_chain.mpr ?_ | with_reducible refine w_ite.mpr ?_ | with_reducible refine w_esn.mpr ?_ | with_reducible refine w_esc.mpr ?_ | with_reducible refine w_tnot.mpr ?_ | with_reducible refine w_tand.mpr ?_ | with_reducible refine w_tor.mpr ?_ | with_reducible refine w_cn.mpr ?_ | with_reducible refine w_c1.mpr ?_ | with_reducible refine w_on.mpr ?_ | with_reducible refine w_rng2.mpr ?_ | with_reducible refine w_gnm.mpr ?_ | with_reducible refine w_kn.mpr ?_ | with_reducible refine w_kc.mpr ?_ | with_reducible refine w_asg.mpr ?_ | with_reducible refine w_par2.mpr ?_ | with_reducible refine w_expr.mpr ?_ | with_reducible refine w_ifs.mpr ?_ | with_reducible refine w_brk.mpr ?_ | with_reducible refine w_cnt.mpr ?_ | with_reducible refine w_pass.mpr ?_ | with_reducible refine w_raise.mpr ?_ | with_reducible refine w_sn.mpr ?_ | with_reducible refine w_sc.mpr ?_ | with_reducible refine w_call.mpr ?_ | with_reducible refine w_and.mpr ?_ | with_reducible refine w_or.mpr ?_ | with_reducible refine w_not.mpr ?_ | with_reducible refine w_neg.mpr ?_ | with_reducible refine w_dget.mpr ?_ | with_reducible refine w_dset.mpr ?_ | with_reducible refine w_gtup.mpr ?_ | with_reducible refine w_gltup.mpr ?_ | with_reducible refine w_gsn.mpr (And.intro rfl ?_) | with_reducible refine w_gsc.mpr ?_ | with_reducible refine w_ilst.mpr ?_ | with_reducible refine w_itup.mpr ?_ | with_reducible refine w_blt.mpr ?_ | with_reducible refine w_isi.mpr ?_ | with_reducible refine w_os.mpr ?_ | with_reducible refine w_idx.mpr ?_ | with_reducible refine w_slc.mpr ?_ | with_reducible refine w_bin.mpr ?_ | with_reducible refine w_cmp.mpr ?_ | with_reducible refine w_tval.mpr ?_ | with_reducible refine w_forr.mpr ?_ | with_reducible refine w_whl.mpr ?_ | with_reducible refine w_lc.mpr ?_ | with_reducible refine w_ret.mpr ?_ | with_reducible refine w_retN.mpr ?_ | (with_reducible refine w_tup.mpr ?_) | (with_reducible refine w_lst.mpr ?_) | (with_reducible refine b_mul.mpr (And.symm ⟨?_, by first | exact mulOk_l (by omega) (by omega) | exact mulOk_r (by omega) (by omega) | exact mulOk_bd (a := 1000) (b := 1000) (by assumption) (by assumption) (by decide) (by decide) (by decide) | assumption⟩)) | (with_reducible refine b_mod.mpr (And.symm ⟨?_, by first | omega | assumption⟩)) | (with_reducible refine b_div.mpr (And.symm ⟨?_, by first | exact divOk_of (by omega) (by omega) | assumption⟩)) | (with_reducible refine b_pow.mpr ⟨by decide, ?_⟩) | refine ⟨_, rfl, Eq.refl (penM _ _ _), ?_⟩ | refine ⟨_, rfl, ⟨by omega, by omega⟩, ?_⟩ | refine ⟨_, rfl, ?_⟩ | refine ⟨_, _, rfl, ?_⟩ | refine ⟨_, _, _, rfl, rfl, rfl, ?_⟩ | refine ⟨_, _, rfl, rfl, of_decide_eq_true rfl, ?_⟩ | refine ⟨_, ne_nil _, ?_⟩ | ((with_reducible refine lenOk ?_ ?_); rfl) | refine ⟨_, rfl, rfl, ?_⟩ | with_reducible refine w_rng1.mpr ?_ | with_reducible refine w_rng2.mpr ?_ | ((with_reducible refine ifT ?_ ?_); rfl) | ((with_reducible refine ifF ?_ ?_); rfl))
  refine ifF (decide_eq_false (by omega)) ?_
  repeat (first | ((with_reducible refine pg_turn ?_ ?_); rfl) | ((with_reducible refine pg_left ?_ ?_); rfl) | ((with_reducible refine pg_cells ?_ ?_); rfl) | ((with_reducible refine ps_turn ?_ ?_); rfl) | ((with_reducible refine ps_left ?_ ?_); rfl) | ((with_reducible refine w_var.mpr ?_); refine ⟨_, rfl, ?_⟩) | with_reducible refine wp_ok.mpr ?_ | with_reducible refine w_int.mpr ?_ | with_reducible refine w_bl.mpr ?_ | with_reducible refine w_non.mpr ?_ | with_reducible refine w_str.mpr ?_ | with_reducible refine w_glob.mpr ?_ | with_reducible refine w_chain.mpr ?_ | with_reducible refine w_ite.mpr ?_ | with_reducible refine w_esn.mpr ?_ | with_reducible refine w_esc.mpr ?_ | with_reducible refine w_tnot.mpr ?_ | with_reducible refine w_tand.mpr ?_ | with_reducible refine w_tor.mpr ?_ | with_reducible refine w_cn.mpr ?_ | with_reducible refine w_c1.mpr ?_ | with_reducible refine w_on.mpr ?_ | with_reducible refine w_rng2.mpr ?_ | with_reducible refine w_gnm.mpr ?_ | with_reducible refine w_kn.mpr ?_ | with_reducible refine w_kc.mpr ?_ | with_reducible refine w_asg.mpr ?_ | with_reducible refine w_par2.mpr ?_ | with_reducible refine w_expr.mpr ?_ | with_reducible refine w_ifs.mpr ?_ | with_reducible refine w_brk.mpr ?_ | with_reducible refine w_cnt.mpr ?_ | with_reducible refine w_pass.mpr ?_ | with_reducible refine w_raise.mpr ?_ | with_reducible refine w_sn.mpr ?_ | with_reducible refine w_sc.mpr ?_ | with_reducible refine w_call.mpr ?_ | with_reducible refine w_and.mpr ?_ | with_reducible refine w_or.mpr ?_ | with_reducible refine w_not.mpr ?_ | with_reducible refine w_neg.mpr ?_ | with_reducible refine w_dget.mpr ?_ | with_reducible refine w_dset.mpr ?_ | with_reducible refine w_gtup.mpr ?_ | with_reducible refine w_gltup.mpr ?_ | with_reducible refine w_gsn.mpr (And.intro rfl ?_) | with_reducible refine w_gsc.mpr ?_ | with_reducible refine w_ilst.mpr ?_ | with_reducible refine w_itup.mpr ?_ | with_reducible refine w_blt.mpr ?_ | with_reducible refine w_isi.mpr ?_ | with_reducible refine w_os.mpr ?_ | with_reducible refine w_idx.mpr ?_ | with_reducible refine w_slc.mpr ?_ | with_reducible refine w_bin.mpr ?_ | with_reducible refine w_cmp.mpr ?_ | with_reducible refine w_tval.mpr ?_ | with_reducible refine w_forr.mpr ?_ | with_reducible refine w_whl.mpr ?_ | with_reducible refine w_lc.mpr ?_ | with_reducible refine w_ret.mpr ?_ | with_reducible refine w_retN.mpr ?_ | (with_reducible refine w_tup.mpr ?_) | (with_reducible refine w_lst.mpr ?_) | (with_reducible refine b_mul.mpr (And.symm ⟨?_, by first | exact mulOk_l (by omega) (by omega) | exact mulOk_r (by omega) (by omega) | exact mulOk_bd (a := 1000) (b := 1000) (by assumption) (by assumption) (by decide) (by decide) (by decide) | assumption⟩)) | (with_reducible refine b_mod.mpr (And.symm ⟨?_, by first | omega | assumption⟩)) | (with_reducible refine b_div.mpr (And.symm ⟨?_, by first | exact divOk_of (by omega) (by omega) | assumption⟩)) | (with_reducible refine b_pow.mpr ⟨by decide, ?_⟩) | refine ⟨_, rfl, Eq.refl (penM _ _ _), ?_⟩ | refine ⟨_, rfl, ⟨by omega, by omega⟩, ?_⟩ | refine ⟨_, rfl, ?_⟩ | refine ⟨_, _, rfl, ?_⟩ | refine ⟨_, _, _, rfl, rfl, rfl, ?_⟩ | refine ⟨_, _, rfl, rfl, of_decide_eq_true rfl, ?_⟩ | refine ⟨_, ne_nil _, ?_⟩ | ((with_reducible refine lenOk ?_ ?_); rfl) | refine ⟨_, rfl, rfl, ?_⟩ | with_reducible refine w_rng1.mpr ?_ | with_reducible refine w_rng2.mpr ?_ | ((with_reducible refine ifT ?_ ?_); rfl) | ((with_reducible refine ifF ?_ ?_); rfl))
  refine lc_wp (fun i acc μ => acc = List.replicate i (D.bl true) ∧ μ = []) ⟨rfl, rfl⟩ ?_ ?_
  · rintro i w acc μ hw ⟨rfl, rfl⟩
    have hi := (List.getElem?_eq_some_iff.mp hw).1
    have mem : w ∈ [D.int x, D.int y] := List.mem_of_getElem? hw
    simp only [List.mem_cons, List.not_mem_nil, or_false] at mem
    rcases mem with rfl | rfl
    · repeat (first | ((with_reducible refine pg_turn ?_ ?_); rfl) | ((with_reducible refine pg_left ?_ ?_); rfl) | ((with_reducible refine pg_cells ?_ ?_); rfl) | ((with_reducible refine ps_turn ?_ ?_); rfl) | ((with_reducible refine ps_left ?_ ?_); rfl) | ((with_reducible refine w_var.mpr ?_); refine ⟨_, rfl, ?_⟩) | with_reducible refine wp_ok.mpr ?_ | with_reducible refine w_int.mpr ?_ | with_reducible refine w_bl.mpr ?_ | with_reducible refine w_non.mpr ?_ | with_reducible refine w_str.mpr ?_ | with_reducible refine w_glob.mpr ?_ | with_reducible refine w_chain.mpr ?_ | with_reducible refine w_ite.mpr ?_ | with_reducible refine w_esn.mpr ?_ | with_reducible refine w_esc.mpr ?_ | with_reducible refine w_tnot.mpr ?_ | with_reducible refine w_tand.mpr ?_ | with_reducible refine w_tor.mpr ?_ | with_reducible refine w_cn.mpr ?_ | with_reducible refine w_c1.mpr ?_ | with_reducible refine w_on.mpr ?_ | with_reducible refine w_rng2.mpr ?_ | with_reducible refine w_gnm.mpr ?_ | with_reducible refine w_kn.mpr ?_ | with_reducible refine w_kc.mpr ?_ | with_reducible refine w_asg.mpr ?_ | with_reducible refine w_par2.mpr ?_ | with_reducible refine w_expr.mpr ?_ | with_reducible refine w_ifs.mpr ?_ | with_reducible refine w_brk.mpr ?_ | with_reducible refine w_cnt.mpr ?_ | with_reducible refine w_pass.mpr ?_ | with_reducible refine w_raise.mpr ?_ | with_reducible refine w_sn.mpr ?_ | with_reducible refine w_sc.mpr ?_ | with_reducible refine w_call.mpr ?_ | with_reducible refine w_and.mpr ?_ | with_reducible refine w_or.mpr ?_ | with_reducible refine w_not.mpr ?_ | with_reducible refine w_neg.mpr ?_ | with_reducible refine w_dget.mpr ?_ | with_reducible refine w_dset.mpr ?_ | with_reducible refine w_gtup.mpr ?_ | with_reducible refine w_gltup.mpr ?_ | with_reducible refine w_gsn.mpr (And.intro rfl ?_) | with_reducible refine w_gsc.mpr ?_ | with_reducible refine w_ilst.mpr ?_ | with_reducible refine w_itup.mpr ?_ | with_reducible refine w_blt.mpr ?_ | with_reducible refine w_isi.mpr ?_ | with_reducible refine w_os.mpr ?_ | with_reducible refine w_idx.mpr ?_ | with_reducible refine w_slc.mpr ?_ | with_reducible refine w_bin.mpr ?_ | with_reducible refine w_cmp.mpr ?_ | with_reducible refine w_tval.mpr ?_ | with_reducible refine w_forr.mpr ?_ | with_reducible refine w_whl.mpr ?_ | with_reducible refine w_lc.mpr ?_ | with_reducible refine w_ret.mpr ?_ | with_reducible refine w_retN.mpr ?_ | (with_reducible refine w_tup.mpr ?_) | (with_reducible refine w_lst.mpr ?_) | (with_reducible refine b_mul.mpr (And.symm ⟨?_, by first | exact mulOk_l (by omega) (by omega) | exact mulOk_r (by omega) (by omega) | exact mulOk_bd (a := 1000) (b := 1000) (by assumption) (by assumption) (by decide) (by decide) (by decide) | assumption⟩)) | (with_reducible refine b_mod.mpr (And.symm ⟨?_, by first | omega | assumption⟩)) | (with_reducible refine b_div.mpr (And.symm ⟨?_, by first | exact divOk_of (by omega) (by omega) | assumption⟩)) | (with_reducible refine b_pow.mpr ⟨by decide, ?_⟩) | refine ⟨_, rfl, Eq.refl (penM _ _ _), ?_⟩ | refine ⟨_, rfl, ⟨by omega, by omega⟩, ?_⟩ | refine ⟨_, rfl, ?_⟩ | refine ⟨_, _, rfl, ?_⟩ | refine ⟨_, _, _, rfl, rfl, rfl, ?_⟩ | refine ⟨_, _, rfl, rfl, of_decide_eq_true rfl, ?_⟩ | refine ⟨_, ne_nil _, ?_⟩ | ((with_reducible refine lenOk ?_ ?_); rfl) | refine ⟨_, rfl, rfl, ?_⟩ | with_reducible refine w_rng1.mpr ?_ | with_reducible refine w_rng2.mpr ?_ | ((with_reducible refine ifT ?_ ?_); rfl) | ((with_reducible refine ifF ?_ ?_); rfl))
      refine pure_step (h17 _ _ _ hx1 hx2) rfl ?_
      exact ⟨by rw [List.length_replicate]; exact Nat.lt_trans hi (of_decide_eq_true rfl), by rw [List.replicate_succ'], rfl⟩
    · repeat (first | ((with_reducible refine pg_turn ?_ ?_); rfl) | ((with_reducible refine pg_left ?_ ?_); rfl) | ((with_reducible refine pg_cells ?_ ?_); rfl) | ((with_reducible refine ps_turn ?_ ?_); rfl) | ((with_reducible refine ps_left ?_ ?_); rfl) | ((with_reducible refine w_var.mpr ?_); refine ⟨_, rfl, ?_⟩) | with_reducible refine wp_ok.mpr ?_ | with_reducible refine w_int.mpr ?_ | with_reducible refine w_bl.mpr ?_ | with_reducible refine w_non.mpr ?_ | with_reducible refine w_str.mpr ?_ | with_reducible refine w_glob.mpr ?_ | with_reducible refine w_chain.mpr ?_ | with_reducible refine w_ite.mpr ?_ | with_reducible refine w_esn.mpr ?_ | with_reducible refine w_esc.mpr ?_ | with_reducible refine w_tnot.mpr ?_ | with_reducible refine w_tand.mpr ?_ | with_reducible refine w_tor.mpr ?_ | with_reducible refine w_cn.mpr ?_ | with_reducible refine w_c1.mpr ?_ | with_reducible refine w_on.mpr ?_ | with_reducible refine w_rng2.mpr ?_ | with_reducible refine w_gnm.mpr ?_ | with_reducible refine w_kn.mpr ?_ | with_reducible refine w_kc.mpr ?_ | with_reducible refine w_asg.mpr ?_ | with_reducible refine w_par2.mpr ?_ | with_reducible refine w_expr.mpr ?_ | with_reducible refine w_ifs.mpr ?_ | with_reducible refine w_brk.mpr ?_ | with_reducible refine w_cnt.mpr ?_ | with_reducible refine w_pass.mpr ?_ | with_reducible refine w_raise.mpr ?_ | with_reducible refine w_sn.mpr ?_ | with_reducible refine w_sc.mpr ?_ | with_reducible refine w_call.mpr ?_ | with_reducible refine w_and.mpr ?_ | with_reducible refine w_or.mpr ?_ | with_reducible refine w_not.mpr ?_ | with_reducible refine w_neg.mpr ?_ | with_reducible refine w_dget.mpr ?_ | with_reducible refine w_dset.mpr ?_ | with_reducible refine w_gtup.mpr ?_ | with_reducible refine w_gltup.mpr ?_ | with_reducible refine w_gsn.mpr (And.intro rfl ?_) | with_reducible refine w_gsc.mpr ?_ | with_reducible refine w_ilst.mpr ?_ | with_reducible refine w_itup.mpr ?_ | with_reducible refine w_blt.mpr ?_ | with_reducible refine w_isi.mpr ?_ | with_reducible refine w_os.mpr ?_ | with_reducible refine w_idx.mpr ?_ | with_reducible refine w_slc.mpr ?_ | with_reducible refine w_bin.mpr ?_ | with_reducible refine w_cmp.mpr ?_ | with_reducible refine w_tval.mpr ?_ | with_reducible refine w_forr.mpr ?_ | with_reducible refine w_whl.mpr ?_ | with_reducible refine w_lc.mpr ?_ | with_reducible refine w_ret.mpr ?_ | with_reducible refine w_retN.mpr ?_ | (with_reducible refine w_tup.mpr ?_) | (with_reducible refine w_lst.mpr ?_) | (with_reducible refine b_mul.mpr (And.symm ⟨?_, by first | exact mulOk_l (by omega) (by omega) | exact mulOk_r (by omega) (by omega) | exact mulOk_bd (a := 1000) (b := 1000) (by assumption) (by assumption) (by decide) (by decide) (by decide) | assumption⟩)) | (with_reducible refine b_mod.mpr (And.symm ⟨?_, by first | omega | assumption⟩)) | (with_reducible refine b_div.mpr (And.symm ⟨?_, by first | exact divOk_of (by omega) (by omega) | assumption⟩)) | (with_reducible refine b_pow.mpr ⟨by decide, ?_⟩) | refine ⟨_, rfl, Eq.refl (penM _ _ _), ?_⟩ | refine ⟨_, rfl, ⟨by omega, by omega⟩, ?_⟩ | refine ⟨_, rfl, ?_⟩ | refine ⟨_, _, rfl, ?_⟩ | refine ⟨_, _, _, rfl, rfl, rfl, ?_⟩ | refine ⟨_, _, rfl, rfl, of_decide_eq_true rfl, ?_⟩ | refine ⟨_, ne_nil _, ?_⟩ | ((with_reducible refine lenOk ?_ ?_); rfl) | refine ⟨_, rfl, rfl, ?_⟩ | with_reducible refine w_rng1.mpr ?_ | with_reducible refine w_rng2.mpr ?_ | ((with_reducible refine ifT ?_ ?_); rfl) | ((with_reducible refine ifF ?_ ?_); rfl))
      refine pure_step (h17 _ _ _ hy1 hy2) rfl ?_
      exact ⟨by rw [List.length_replicate]; exact Nat.lt_trans hi (of_decide_eq_true rfl), by rw [List.replicate_succ'], rfl⟩
  · rintro acc μ ⟨rfl, rfl⟩
    repeat (first | ((with_reducible refine pg_turn ?_ ?_); rfl) | ((with_reducible refine pg_left ?_ ?_); rfl) | ((with_reducible refine pg_cells ?_ ?_); rfl) | ((with_reducible refine ps_turn ?_ ?_); rfl) | ((with_reducible refine ps_left ?_ ?_); rfl) | ((with_reducible refine w_var.mpr ?_); refine ⟨_, rfl, ?_⟩) | with_reducible refine wp_ok.mpr ?_ | with_reducible refine w_int.mpr ?_ | with_reducible refine w_bl.mpr ?_ | with_reducible refine w_non.mpr ?_ | with_reducible refine w_str.mpr ?_ | with_reducible refine w_glob.mpr ?_ | with_reducible refine w_chain.mpr ?_ | with_reducible refine w_ite.mpr ?_ | with_reducible refine w_esn.mpr ?_ | with_reducible refine w_esc.mpr ?_ | with_reducible refine w_tnot.mpr ?_ | with_reducible refine w_tand.mpr ?_ | with_reducible refine w_tor.mpr ?_ | with_reducible refine w_cn.mpr ?_ | with_reducible refine w_c1.mpr ?_ | with_reducible refine w_on.mpr ?_ | with_reducible refine w_rng2.mpr ?_ | with_reducible refine w_gnm.mpr ?_ | with_reducible refine w_kn.mpr ?_ | with_reducible refine w_kc.mpr ?_ | with_reducible refine w_asg.mpr ?_ | with_reducible refine w_par2.mpr ?_ | with_reducible refine w_expr.mpr ?_ | with_reducible refine w_ifs.mpr ?_ | with_reducible refine w_brk.mpr ?_ | with_reducible refine w_cnt.mpr ?_ | with_reducible refine w_pass.mpr ?_ | with_reducible refine w_raise.mpr ?_ | with_reducible refine w_sn.mpr ?_ | with_reducible refine w_sc.mpr ?_ | with_reducible refine w_call.mpr ?_ | with_reducible refine w_and.mpr ?_ | with_reducible refine w_or.mpr ?_ | with_reducible refine w_not.mpr ?_ | with_reducible refine w_neg.mpr ?_ | with_reducible refine w_dget.mpr ?_ | with_reducible refine w_dset.mpr ?_ | with_reducible refine w_gtup.mpr ?_ | with_reducible refine w_gltup.mpr ?_ | with_reducible refine w_gsn.mpr (And.intro rfl ?_) | with_reducible refine w_gsc.mpr ?_ | with_reducible refine w_ilst.mpr ?_ | with_reducible refine w_itup.mpr ?_ | with_reducible refine w_blt.mpr ?_ | with_reducible refine w_isi.mpr ?_ | with_reducible refine w_os.mpr ?_ | with_reducible refine w_idx.mpr ?_ | with_reducible refine w_slc.mpr ?_ | with_reducible refine w_bin.mpr ?_ | with_reducible refine w_cmp.mpr ?_ | with_reducible refine w_tval.mpr ?_ | with_reducible refine w_forr.mpr ?_ | with_reducible refine w_whl.mpr ?_ | with_reducible refine w_lc.mpr ?_ | with_reducible refine w_ret.mpr ?_ | with_reducible refine w_retN.mpr ?_ | (with_reducible refine w_tup.mpr ?_) | (with_reducible refine w_lst.mpr ?_) | (with_reducible refine b_mul.mpr (And.symm ⟨?_, by first | exact mulOk_l (by omega) (by omega) | exact mulOk_r (by omega) (by omega) | exact mulOk_bd (a := 1000) (b := 1000) (by assumption) (by assumption) (by decide) (by decide) (by decide) | assumption⟩)) | (with_reducible refine b_mod.mpr (And.symm ⟨?_, by first | omega | assumption⟩)) | (with_reducible refine b_div.mpr (And.symm ⟨?_, by first | exact divOk_of (by omega) (by omega) | assumption⟩)) | (with_reducible refine b_pow.mpr ⟨by decide, ?_⟩) | refine ⟨_, rfl, Eq.refl (penM _ _ _), ?_⟩ | refine ⟨_, rfl, ⟨by omega, by omega⟩, ?_⟩ | refine ⟨_, rfl, ?_⟩ | refine ⟨_, _, rfl, ?_⟩ | refine ⟨_, _, _, rfl, rfl, rfl, ?_⟩ | refine ⟨_, _, rfl, rfl, of_decide_eq_true rfl, ?_⟩ | refine ⟨_, ne_nil _, ?_⟩ | ((with_reducible refine lenOk ?_ ?_); rfl) | refine ⟨_, rfl, rfl, ?_⟩ | with_reducible refine w_rng1.mpr ?_ | with_reducible refine w_rng2.mpr ?_ | ((with_reducible refine ifT ?_ ?_); rfl) | ((with_reducible refine ifF ?_ ?_); rfl))
    exact fin_e rfl rfl
theorem sem_require_point (Φ : Fns) (v : D) (hv : D.lts 0 [v] = true) (h20 : Φ 20 [v] [] = .ok (.bl true) []) : runF Φ f_require_point [v] [] = .ok .non [] := by
  refine wp_eq (run_wp2 [some v] rfl rfl ?_)
  unfold f_require_point
  repeat (first | ((with_reducible refine pg_turn ?_ ?_); rfl) | ((with_reducible refine pg_left ?_ ?_); rfl) | ((with_reducible refine pg_cells ?_ ?_); rfl) | ((with_reducible refine ps_turn ?_ ?_); rfl) | ((with_reducible refine ps_left ?_ ?_); rfl) | ((with_reducible refine w_var.mpr ?_); refine ⟨_, rfl, ?_⟩) | with_reducible refine wp_ok.mpr ?_ | with_reducible refine w_int.mpr ?_ | with_reducible refine w_bl.mpr ?_ | with_reducible refine w_non.mpr ?_ | with_reducible refine w_str.mpr ?_ | with_reducible refine w_glob.mpr ?_ | with_reducible refine w_chain.mpr ?_ | with_reducible refine w_ite.mpr ?_ | with_reducible refine w_esn.mpr ?_ | with_reducible refine w_esc.mpr ?_ | with_reducible refine w_tnot.mpr ?_ | with_reducible refine w_tand.mpr ?_ | with_reducible refine w_tor.mpr ?_ | with_reducible refine w_cn.mpr ?_ | with_reducible refine w_c1.mpr ?_ | with_reducible refine w_on.mpr ?_ | with_reducible refine w_rng2.mpr ?_ | with_reducible refine w_gnm.mpr ?_ | with_reducible refine w_kn.mpr ?_ | with_reducible refine w_kc.mpr ?_ | with_reducible refine w_asg.mpr ?_ | with_reducible refine w_par2.mpr ?_ | with_reducible refine w_expr.mpr ?_ | with_reducible refine w_ifs.mpr ?_ | with_reducible refine w_brk.mpr ?_ | with_reducible refine w_cnt.mpr ?_ | with_reducible refine w_pass.mpr ?_ | with_reducible refine w_raise.mpr ?_ | with_reducible refine w_sn.mpr ?_ | with_reducible refine w_sc.mpr ?_ | with_reducible refine w_call.mpr ?_ | with_reducible refine w_and.mpr ?_ | with_reducible refine w_or.mpr ?_ | with_reducible refine w_not.mpr ?_ | with_reducible refine w_neg.mpr ?_ | with_reducible refine w_dget.mpr ?_ | with_reducible refine w_dset.mpr ?_ | with_reducible refine w_gtup.mpr ?_ | with_reducible refine w_gltup.mpr ?_ | with_reducible refine w_gsn.mpr (And.intro rfl ?_) | with_reducible refine w_gsc.mpr ?_ | with_reducible refine w_ilst.mpr ?_ | with_reducible refine w_itup.mpr ?_ | with_reducible refine w_blt.mpr ?_ | with_reducible refine w_isi.mpr ?_ | with_reducible refine w_os.mpr ?_ | with_reducible refine w_idx.mpr ?_ | with_reducible refine w_slc.mpr ?_ | with_reducible refine w_bin.mpr ?_ | with_reducible refine w_cmp.mpr ?_ | with_reducible refine w_tval.mpr ?_ | with_reducible refine w_forr.mpr ?_ | with_reducible refine w_whl.mpr ?_ | with_reducible refine w_lc.mpr ?_ | with_reducible refine w_ret.mpr ?_ | with_reducible refine w_retN.mpr ?_ | (with_reducible refine w_tup.mpr ?_) | (with_reducible refine w_lst.mpr ?_) | (with_reducible refine b_mul.mpr (And.symm ⟨?_, by first | exact mulOk_l (by omega) (by omega) | exact mulOk_r (by omega) (by omega) | exact mulOk_bd (a := 1000) (b := 1000) (by assumption) (by assumption) (by decide) (by decide) (by decide) | assumption⟩)) | (with_reducible refine b_mod.mpr (And.symm ⟨?_, by first | omega | assumption⟩)) | (with_reducible refine b_div.mpr (And.symm ⟨?_, by first | exact divOk_of (by omega) (by omega) | assumption⟩)) | (with_reducible refine b_pow.mpr ⟨by decide, ?_⟩) | refine ⟨_, rfl, Eq.refl (penM _ _ _), ?_⟩ | refine ⟨_, rfl, ⟨by omega, by omega⟩, ?_⟩ | refine ⟨_, rfl, ?_⟩ | refine ⟨_, _, rfl, ?_⟩ | refine ⟨_, _, _, rfl, rfl, rfl, ?_⟩ | refine ⟨_, _, rfl, rfl, of_decide_eq_true rfl, ?_⟩ | refine ⟨_, ne_nil _, ?_⟩ | ((with_reducible refine lenOk ?_ ?_); rfl) | refine ⟨_, rfl, rfl, ?_⟩ | with_reducible refine w_rng1.mpr ?_ | with_reducible refine w_rng2.mpr ?_ | ((with_reducible refine ifT ?_ ?_); rfl) | ((with_reducible refine ifF ?_ ?_); rfl))
  refine pure_step h20 hv ?_
  repeat (first | ((with_reducible refine pg_turn ?_ ?_); rfl) | ((with_reducible refine pg_left ?_ ?_); rfl) | ((with_reducible refine pg_cells ?_ ?_); rfl) | ((with_reducible refine ps_turn ?_ ?_); rfl) | ((with_reducible refine ps_left ?_ ?_); rfl) | ((with_reducible refine w_var.mpr ?_); refine ⟨_, rfl, ?_⟩) | with_reducible refine wp_ok.mpr ?_ | with_reducible refine w_int.mpr ?_ | with_reducible refine w_bl.mpr ?_ | with_reducible refine w_non.mpr ?_ | with_reducible refine w_str.mpr ?_ | with_reducible refine w_glob.mpr ?_ | with_reducible refine w_chain.mpr ?_ | with_reducible refine w_ite.mpr ?_ | with_reducible refine w_esn.mpr ?_ | with_reducible refine w_esc.mpr ?_ | with_reducible refine w_tnot.mpr ?_ | with_reducible refine w_tand.mpr ?_ | with_reducible refine w_tor.mpr ?_ | with_reducible refine w_cn.mpr ?_ | with_reducible refine w_c1.mpr ?_ | with_reducible refine w_on.mpr ?_ | with_reducible refine w_rng2.mpr ?_ | with_reducible refine w_gnm.mpr ?_ | with_reducible refine w_kn.mpr ?_ | with_reducible refine w_kc.mpr ?_ | with_reducible refine w_asg.mpr ?_ | with_reducible refine w_par2.mpr ?_ | with_reducible refine w_expr.mpr ?_ | with_reducible refine w_ifs.mpr ?_ | with_reducible refine w_brk.mpr ?_ | with_reducible refine w_cnt.mpr ?_ | with_reducible refine w_pass.mpr ?_ | with_reducible refine w_raise.mpr ?_ | with_reducible refine w_sn.mpr ?_ | with_reducible refine w_sc.mpr ?_ | with_reducible refine w_call.mpr ?_ | with_reducible refine w_and.mpr ?_ | with_reducible refine w_or.mpr ?_ | with_reducible refine w_not.mpr ?_ | with_reducible refine w_neg.mpr ?_ | with_reducible refine w_dget.mpr ?_ | with_reducible refine w_dset.mpr ?_ | with_reducible refine w_gtup.mpr ?_ | with_reducible refine w_gltup.mpr ?_ | with_reducible refine w_gsn.mpr (And.intro rfl ?_) | with_reducible refine w_gsc.mpr ?_ | with_reducible refine w_ilst.mpr ?_ | with_reducible refine w_itup.mpr ?_ | with_reducible refine w_blt.mpr ?_ | with_reducible refine w_isi.mpr ?_ | with_reducible refine w_os.mpr ?_ | with_reducible refine w_idx.mpr ?_ | with_reducible refine w_slc.mpr ?_ | with_reducible refine w_bin.mpr ?_ | with_reducible refine w_cmp.mpr ?_ | with_reducible refine w_tval.mpr ?_ | with_reducible refine w_forr.mpr ?_ | with_reducible refine w_whl.mpr ?_ | with_reducible refine w_lc.mpr ?_ | with_reducible refine w_ret.mpr ?_ | with_reducible refine w_retN.mpr ?_ | (with_reducible refine w_tup.mpr ?_) | (with_reducible refine w_lst.mpr ?_) | (with_reducible refine b_mul.mpr (And.symm ⟨?_, by first | exact mulOk_l (by omega) (by omega) | exact mulOk_r (by omega) (by omega) | exact mulOk_bd (a := 1000) (b := 1000) (by assumption) (by assumption) (by decide) (by decide) (by decide) | assumption⟩)) | (with_reducible refine b_mod.mpr (And.symm ⟨?_, by first | omega | assumption⟩)) | (with_reducible refine b_div.mpr (And.symm ⟨?_, by first | exact divOk_of (by omega) (by omega) | assumption⟩)) | (with_reducible refine b_pow.mpr ⟨by decide, ?_⟩) | refine ⟨_, rfl, Eq.refl (penM _ _ _), ?_⟩ | refine ⟨_, rfl, ⟨by omega, by omega⟩, ?_⟩ | refine ⟨_, rfl, ?_⟩ | refine ⟨_, _, rfl, ?_⟩ | refine ⟨_, _, _, rfl, rfl, rfl, ?_⟩ | refine ⟨_, _, rfl, rfl, of_decide_eq_true rfl, ?_⟩ | refine ⟨_, ne_nil _, ?_⟩ | ((with_reducible refine lenOk ?_ ?_); rfl) | refine ⟨_, rfl, rfl, ?_⟩ | with_reducible refine w_rng1.mpr ?_ | with_reducible refine w_rng2.mpr ?_ | ((with_reducible refine ifT ?_ ?_); rfl) | ((with_reducible refine ifF ?_ ?_); rfl))
  exact fin_e rfl rfl
theorem sem_transform_point (Φ : Fns) (m v w : D) (hm : D.lts 0 [m] = true) (hv : D.lts 0 [v] = true) (hmv : D.lts 0 [m, v] = true) (hw : D.lts 0 [w] = true) (h13 : Φ 13 [m] [] = .ok .non []) (h21 : Φ 21 [v] [] = .ok .non []) (h16 : Φ 16 [m, v] [] = .ok w []) : runF Φ f_transform_point [m, v] [] = .ok w [] := by
  refine wp_eq (run_wp2 [some m, some v] rfl rfl ?_)
  unfold f_transform_point
  repeat (first | ((with_reducible refine pg_turn ?_ ?_); rfl) | ((with_reducible refine pg_left ?_ ?_); rfl) | ((with_reducible refine pg_cells ?_ ?_); rfl) | ((with_reducible refine ps_turn ?_ ?_); rfl) | ((with_reducible refine ps_left ?_ ?_); rfl) | ((with_reducible refine w_var.mpr ?_); refine ⟨_, rfl, ?_⟩) | with_reducible refine wp_ok.mpr ?_ | with_reducible refine w_int.mpr ?_ | with_reducible refine w_bl.mpr ?_ | with_reducible refine w_non.mpr ?_ | with_reducible refine w_str.mpr ?_ | with_reducible refine w_glob.mpr ?_ | with_reducible refine w_chain.mpr ?_ | with_reducible refine w_ite.mpr ?_ | with_reducible refine w_esn.mpr ?_ | with_reducible refine w_esc.mpr ?_ | with_reducible refine w_tnot.mpr ?_ | with_reducible refine w_tand.mpr ?_ | with_reducible refine w_tor.mpr ?_ | with_reducible refine w_cn.mpr ?_ | with_reducible refine w_c1.mpr ?_ | with_reducible refine w_on.mpr ?_ | with_reducible refine w_rng2.mpr ?_ | with_reducible refine w_gnm.mpr ?_ | with_reducible refine w_kn.mpr ?_ | with_reducible refine w_kc.mpr ?_ | with_reducible refine w_asg.mpr ?_ | with_reducible refine w_par2.mpr ?_ | with_reducible refine w_expr.mpr ?_ | with_reducible refine w_ifs.mpr ?_ | with_reducible refine w_brk.mpr ?_ | with_reducible refine w_cnt.mpr ?_ | with_reducible refine w_pass.mpr ?_ | with_reducible refine w_raise.mpr ?_ | with_reducible refine w_sn.mpr ?_ | with_reducible refine w_sc.mpr ?_ | with_reducible refine w_call.mpr ?_ | with_reducible refine w_and.mpr ?_ | with_reducible refine w_or.mpr ?_ | with_reducible refine w_not.mpr ?_ | with_reducible refine w_neg.mpr ?_ | with_reducible refine w_dget.mpr ?_ | with_reducible refine w_dset.mpr ?_ | with_reducible refine w_gtup.mpr ?_ | with_reducible refine w_gltup.mpr ?_ | with_reducible refine w_gsn.mpr (And.intro rfl ?_) | with_reducible refine w_gsc.mpr ?_ | with_reducible refine w_ilst.mpr ?_ | with_reducible refine w_itup.mpr ?_ | with_reducible refine w_blt.mpr ?_ | with_reducible refine w_isi.mpr ?_ | with_reducible refine w_os.mpr ?_ | with_reducible refine w_idx.mpr ?_ | with_reducible refine w_slc.mpr ?_ | with_reducible refine w_bin.mpr ?_ | with_reducible refine w_cmp.mpr ?_ | with_reducible refine w_tval.mpr ?_ | with_reducible refine w_forr.mpr ?_ | with_reducible refine w_whl.mpr ?_ | with_reducible refine w_lc.mpr ?_ | with_reducible refine w_ret.mpr ?_ | with_reducible refine w_retN.mpr ?_ | (with_reducible refine w_tup.mpr ?_) | (with_reducible refine w_lst.mpr ?_) | (with_reducible refine b_mul.mpr (And.symm ⟨?_, by first | exact mulOk_l (by omega) (by omega) | exact mulOk_r (by omega) (by omega) | exact mulOk_bd (a := 1000) (b := 1000) (by assumption) (by assumption) (by decide) (by decide) (by decide) | assumption⟩)) | (with_reducible refine b_mod.mpr (And.symm ⟨?_, by first | omega | assumption⟩)) | (with_reducible refine b_div.mpr (And.symm ⟨?_, by first | exact divOk_of (by omega) (by omega) | assumption⟩)) | (with_reducible refine b_pow.mpr ⟨by decide, ?_⟩) | refine ⟨_, rfl, Eq.refl (penM _ _ _), ?_⟩ | refine ⟨_, rfl, ⟨by omega, by omega⟩, ?_⟩ | refine ⟨_, rfl, ?_⟩ | refine ⟨_, _, rfl, ?_⟩ | refine ⟨_, _, _, rfl, rfl, rfl, ?_⟩ | refine ⟨_, _, rfl, rfl, of_decide_eq_true rfl, ?_⟩ | refine ⟨_, ne_nil _, ?_⟩ | ((with_reducible refine lenOk ?_ ?_); rfl) | refine ⟨_, rfl, rfl, ?_⟩ | with_reducible refine w_rng1.mpr ?_ | with_reducible refine w_rng2.mpr ?_ | ((with_reducible refine ifT ?_ ?_); rfl) | ((with_reducible refine ifF ?_ ?_); rfl))
  refine pure_step h13 hm ?_
  repeat (first | ((with_reducible refine pg_turn ?_ ?_); rfl) | ((with_reducible refine pg_left ?_ ?_); rfl) | ((with_reducible refine pg_cells ?_ ?_); rfl) | ((with_reducible refine ps_turn ?_ ?_); rfl) | ((with_reducible refine ps_left ?_ ?_); rfl) | ((with_reducible refine w_var.mpr ?_); refine ⟨_, rfl, ?_⟩) | with_reducible refine wp_ok.mpr ?_ | with_reducible refine w_int.mpr ?_ | with_reducible refine w_bl.mpr ?_ | with_reducible refine w_non.mpr ?_ | with_reducible refine w_str.mpr ?_ | with_reducible refine w_glob.mpr ?_ | with_reducible refine w_chain.mpr ?_ | with_reducible refine w_ite.mpr ?_ | with_reducible refine w_esn.mpr ?_ | with_reducible refine w_esc.mpr ?_ | with_reducible refine w_tnot.mpr ?_ | with_reducible refine w_tand.mpr ?_ | with_reducible refine w_tor.mpr ?_ | with_reducible refine w_cn.mpr ?_ | with_reducible refine w_c1.mpr ?_ | with_reducible refine w_on.mpr ?_ | with_reducible refine w_rng2.mpr ?_ | with_reducible refine w_gnm.mpr ?_ | with_reducible refine w_kn.mpr ?_ | with_reducible refine w_kc.mpr ?_ | with_reducible refine w_asg.mpr ?_ | with_reducible refine w_par2.mpr ?_ | with_reducible refine w_expr.mpr ?_ | with_reducible refine w_ifs.mpr ?_ | with_reducible refine w_brk.mpr ?_ | with_reducible refine w_cnt.mpr ?_ | with_reducible refine w_pass.mpr ?_ | with_reducible refine w_raise.mpr ?_ | with_reducible refine w_sn.mpr ?_ | with_reducible refine w_sc.mpr ?_ | with_reducible refine w_call.mpr ?_ | with_reducible refine w_and.mpr ?_ | with_reducible refine w_or.mpr ?_ | with_reducible refine w_not.mpr ?_ | with_reducible refine w_neg.mpr ?_ | with_reducible refine w_dget.mpr ?_ | with_reducible refine w_dset.mpr ?_ | with_reducible refine w_gtup.mpr ?_ | with_reducible refine w_gltup.mpr ?_ | with_reducible refine w_gsn.mpr (And.intro rfl ?_) | with_reducible refine w_gsc.mpr ?_ | with_reducible refine w_ilst.mpr ?_ | with_reducible refine w_itup.mpr ?_ | with_reducible refine w_blt.mpr ?_ | with_reducible refine w_isi.mpr ?_ | with_reducible refine w_os.mpr ?_ | with_reducible refine w_idx.mpr ?_ | with_reducible refine w_slc.mpr ?_ | with_reducible refine w_bin.mpr ?_ | with_reducible refine w_cmp.mpr ?_ | with_reducible refine w_tval.mpr ?_ | with_reducible refine w_forr.mpr ?_ | with_reducible refine w_whl.mpr ?_ | with_reducible refine w_lc.mpr ?_ | with_reducible refine w_ret.mpr ?_ | with_reducible refine w_retN.mpr ?_ | (with_reducible refine w_tup.mpr ?_) | (with_reducible refine w_lst.mpr ?_) | (with_reducible refine b_mul.mpr (And.symm ⟨?_, by first | exact mulOk_l (by omega) (by omega) | exact mulOk_r (by omega) (by omega) | exact mulOk_bd (a := 1000) (b := 1000) (by assumption) (by assumption) (by decide) (by decide) (by decide) | assumption⟩)) | (with_reducible refine b_mod.mpr (And.symm ⟨?_, by first | omega | assumption⟩)) | (with_reducible refine b_div.mpr (And.symm ⟨?_, by first | exact divOk_of (by omega) (by omega) | assumption⟩)) | (with_reducible refine b_pow.mpr ⟨by decide, ?_⟩) | refine ⟨_, rfl, Eq.refl (penM _ _ _), ?_⟩ | refine ⟨_, rfl, ⟨by omega, by omega⟩, ?_⟩ | refine ⟨_, rfl, ?_⟩ | refine ⟨_, _, rfl, ?_⟩ | refine ⟨_, _, _, rfl, rfl, rfl, ?_⟩ | refine ⟨_, _, rfl, rfl, of_decide_eq_true rfl, ?_⟩ | refine ⟨_, ne_nil _, ?_⟩ | ((with_reducible refine lenOk ?_ ?_); rfl) | refine ⟨_, rfl, rfl, ?_⟩ | with_reducible refine w_rng1.mpr ?_ | with_reducible refine w_rng2.mpr ?_ | ((with_reducible refine ifT ?_ ?_); rfl) | ((with_reducible refine ifF ?_ ?_); rfl))
  refine pure_step h21 hv ?_
  repeat (first | ((with_reducible refine pg_turn ?_ ?_); rfl) | ((with_reducible refine pg_left ?_ ?_); rfl) | ((with_reducible refine pg_cells ?_ ?_); rfl) | ((with_reducible refine ps_turn ?_ ?_); rfl) | ((with_reducible refine ps_left ?_ ?_); rfl) | ((with_reducible refine w_var.mpr ?_); refine ⟨_, rfl, ?_⟩) | with_reducible refine wp_ok.mpr ?_ | with_reducible refine w_int.mpr ?_ | with_reducible refine w_bl.mpr ?_ | with_reducible refine w_non.mpr ?_ | with_reducible refine w_str.mpr ?_ | with_reducible refine w_glob.mpr ?_ | with_reducible refine w_chain.mpr ?_ | with_reducible refine w_ite.mpr ?_ | with_reducible refine w_esn.mpr ?_ | with_reducible refine w_esc.mpr ?_ | with_reducible refine w_tnot.mpr ?_ | with_reducible refine w_tand.mpr ?_ | with_reducible refine w_tor.mpr ?_ | with_reducible refine w_cn.mpr ?_ | with_reducible refine w_c1.mpr ?_ | with_reducible refine w_on.mpr ?_ | with_reducible refine w_rng2.mpr ?_ | with_reducible refine w_gnm.mpr ?_ | with_reducible refine w_kn.mpr ?_ | with_reducible refine w_kc.mpr ?_ | with_reducible refine w_asg.mpr ?_ | with_reducible refine w_par2.mpr ?_ | with_reducible refine w_expr.mpr ?_ | with_reducible refine w_ifs.mpr ?_ | with_reducible refine w_brk.mpr ?_ | with_reducible refine w_cnt.mpr ?_ | with_reducible refine w_pass.mpr ?_ | with_reducible refine w_raise.mpr ?_ | with_reducible refine w_sn.mpr ?_ | with_reducible refine w_sc.mpr ?_ | with_reducible refine w_call.mpr ?_ | with_reducible refine w_and.mpr ?_ | with_reducible refine w_or.mpr ?_ | with_reducible refine w_not.mpr ?_ | with_reducible refine w_neg.mpr ?_ | with_reducible refine w_dget.mpr ?_ | with_reducible refine w_dset.mpr ?_ | with_reducible refine w_gtup.mpr ?_ | with_reducible refine w_gltup.mpr ?_ | with_reducible refine w_gsn.mpr (And.intro rfl ?_) | with_reducible refine w_gsc.mpr ?_ | with_reducible refine w_ilst.mpr ?_ | with_reducible refine w_itup.mpr ?_ | with_reducible refine w_blt.mpr ?_ | with_reducible refine w_isi.mpr ?_ | with_reducible refine w_os.mpr ?_ | with_reducible refine w_idx.mpr ?_ | with_reducible refine w_slc.mpr ?_ | with_reducible refine w_bin.mpr ?_ | with_reducible refine w_cmp.mpr ?_ | with_reducible refine w_tval.mpr ?_ | with_reducible refine w_forr.mpr ?_ | with_reducible refine w_whl.mpr ?_ | with_reducible refine w_lc.mpr ?_ | with_reducible refine w_ret.mpr ?_ | with_reducible refine w_retN.mpr ?_ | (with_reducible refine w_tup.mpr ?_) | (with_reducible refine w_lst.mpr ?_) | (with_reducible refine b_mul.mpr (And.symm ⟨?_, by first | exact mulOk_l (by omega) (by omega) | exact mulOk_r (by omega) (by omega) | exact mulOk_bd (a := 1000) (b := 1000) (by assumption) (by assumption) (by decide) (by decide) (by decide) | assumption⟩)) | (with_reducible refine b_mod.mpr (And.symm ⟨?_, by first | omega | assumption⟩)) | (with_reducible refine b_div.mpr (And.symm ⟨?_, by first | exact divOk_of (by omega) (by omega) | assumption⟩)) | (with_reducible refine b_pow.mpr ⟨by decide, ?_⟩) | refine ⟨_, rfl, Eq.refl (penM _ _ _), ?_⟩ | refine ⟨_, rfl, ⟨by omega, by omega⟩, ?_⟩ | refine ⟨_, rfl, ?_⟩ | refine ⟨_, _, rfl, ?_⟩ | refine ⟨_, _, _, rfl, rfl, rfl, ?_⟩ | refine ⟨_, _, rfl, rfl, of_decide_eq_true rfl, ?_⟩ | refine ⟨_, ne_nil _, ?_⟩ | ((with_reducible refine lenOk ?_ ?_); rfl) | refine ⟨_, rfl, rfl, ?_⟩ | with_reducible refine w_rng1.mpr ?_ | with_reducible refine w_rng2.mpr ?_ | ((with_reducible refine ifT ?_ ?_); rfl) | ((with_reducible refine ifF ?_ ?_); rfl))
  refine pure_step h16 hmv ?_
  exact fin_e rfl (ba2 hw).1
theorem sem_point_form (Φ : Fns) (x y z g : Int) (h5 : ∀ n m : Int, Φ 5 [.int n, .int m] [] = .ok (.int (Int.gcd n m)) []) (hg : ((Int.gcd (Int.gcd x y) z : Nat) : Int) = g) (h0 : 0 < g) (h1 : g < 2 ^ 64) :
    runF Φ f_law_point_form [.int x, .int y, .int z] [] = .ok (P3 (x / g) (y / g) (z / g)) [] := by
  refine wp_eq (run_wp2 [some (.int x), some (.int y), some (.int z), none] rfl rfl ?_)
  unfold f_law_point_form
  repeat (first | ((with_reducible refine pg_turn ?_ ?_); rfl) | ((with_reducible refine pg_left ?_ ?_); rfl) | ((with_reducible refine pg_cells ?_ ?_); rfl) | ((with_reducible refine ps_turn ?_ ?_); rfl) | ((with_reducible refine ps_left ?_ ?_); rfl) | ((with_reducible refine w_var.mpr ?_); refine ⟨_, rfl, ?_⟩) | with_reducible refine wp_ok.mpr ?_ | with_reducible refine w_int.mpr ?_ | with_reducible refine w_bl.mpr ?_ | with_reducible refine w_non.mpr ?_ | with_reducible refine w_str.mpr ?_ | with_reducible refine w_glob.mpr ?_ | with_reducible refine w_chain.mpr ?_ | with_reducible refine w_ite.mpr ?_ | with_reducible refine w_esn.mpr ?_ | with_reducible refine w_esc.mpr ?_ | with_reducible refine w_tnot.mpr ?_ | with_reducible refine w_tand.mpr ?_ | with_reducible refine w_tor.mpr ?_ | with_reducible refine w_cn.mpr ?_ | with_reducible refine w_c1.mpr ?_ | with_reducible refine w_on.mpr ?_ | with_reducible refine w_rng2.mpr ?_ | with_reducible refine w_gnm.mpr ?_ | with_reducible refine w_kn.mpr ?_ | with_reducible refine w_kc.mpr ?_ | with_reducible refine w_asg.mpr ?_ | with_reducible refine w_par2.mpr ?_ | with_reducible refine w_expr.mpr ?_ | with_reducible refine w_ifs.mpr ?_ | with_reducible refine w_brk.mpr ?_ | with_reducible refine w_cnt.mpr ?_ | with_reducible refine w_pass.mpr ?_ | with_reducible refine w_raise.mpr ?_ | with_reducible refine w_sn.mpr ?_ | with_reducible refine w_sc.mpr ?_ | with_reducible refine w_call.mpr ?_ | with_reducible refine w_and.mpr ?_ | with_reducible refine w_or.mpr ?_ | with_reducible refine w_not.mpr ?_ | with_reducible refine w_neg.mpr ?_ | with_reducible refine w_dget.mpr ?_ | with_reducible refine w_dset.mpr ?_ | with_reducible refine w_gtup.mpr ?_ | with_reducible refine w_gltup.mpr ?_ | with_reducible refine w_gsn.mpr (And.intro rfl ?_) | with_reducible refine w_gsc.mpr ?_ | with_reducible refine w_ilst.mpr ?_ | with_reducible refine w_itup.mpr ?_ | with_reducible refine w_blt.mpr ?_ | with_reducible refine w_isi.mpr ?_ | with_reducible refine w_os.mpr ?_ | with_reducible refine w_idx.mpr ?_ | with_reducible refine w_slc.mpr ?_ | with_reducible refine w_bin.mpr ?_ | with_reducible refine w_cmp.mpr ?_ | with_reducible refine w_tval.mpr ?_ | with_reducible refine w_forr.mpr ?_ | with_reducible refine w_whl.mpr ?_ | with_reducible refine w_lc.mpr ?_ | with_reducible refine w_ret.mpr ?_ | with_reducible refine w_retN.mpr ?_ | (with_reducible refine w_tup.mpr ?_) | (with_reducible refine w_lst.mpr ?_) | (with_reducible refine b_mul.mpr (And.symm ⟨?_, by first | exact mulOk_l (by omega) (by omega) | exact mulOk_r (by omega) (by omega) | exact mulOk_bd (a := 1000) (b := 1000) (by assumption) (by assumption) (by decide) (by decide) (by decide) | assumption⟩)) | (with_reducible refine b_mod.mpr (And.symm ⟨?_, by first | omega | assumption⟩)) | (with_reducible refine b_div.mpr (And.symm ⟨?_, by first | exact divOk_of (by omega) (by omega) | assumption⟩)) | (with_reducible refine b_pow.mpr ⟨by decide, ?_⟩) | refine ⟨_, rfl, Eq.refl (penM _ _ _), ?_⟩ | refine ⟨_, rfl, ⟨by omega, by omega⟩, ?_⟩ | refine ⟨_, rfl, ?_⟩ | refine ⟨_, _, rfl, ?_⟩ | refine ⟨_, _, _, rfl, rfl, rfl, ?_⟩ | refine ⟨_, _, rfl, rfl, of_decide_eq_true rfl, ?_⟩ | refine ⟨_, ne_nil _, ?_⟩ | ((with_reducible refine lenOk ?_ ?_); rfl) | refine ⟨_, rfl, rfl, ?_⟩ | with_reducible refine w_rng1.mpr ?_ | with_reducible refine w_rng2.mpr ?_ | ((with_reducible refine ifT ?_ ?_); rfl) | ((with_reducible refine ifF ?_ ?_); rfl))
  refine pure_step (h5 _ _) rfl ?_
  repeat (first | ((with_reducible refine pg_turn ?_ ?_); rfl) | ((with_reducible refine pg_left ?_ ?_); rfl) | ((with_reducible refine pg_cells ?_ ?_); rfl) | ((with_reducible refine ps_turn ?_ ?_); rfl) | ((with_reducible refine ps_left ?_ ?_); rfl) | ((with_reducible refine w_var.mpr ?_); refine ⟨_, rfl, ?_⟩) | with_reducible refine wp_ok.mpr ?_ | with_reducible refine w_int.mpr ?_ | with_reducible refine w_bl.mpr ?_ | with_reducible refine w_non.mpr ?_ | with_reducible refine w_str.mpr ?_ | with_reducible refine w_glob.mpr ?_ | with_reducible refine w_chain.mpr ?_ | with_reducible refine w_ite.mpr ?_ | with_reducible refine w_esn.mpr ?_ | with_reducible refine w_esc.mpr ?_ | with_reducible refine w_tnot.mpr ?_ | with_reducible refine w_tand.mpr ?_ | with_reducible refine w_tor.mpr ?_ | with_reducible refine w_cn.mpr ?_ | with_reducible refine w_c1.mpr ?_ | with_reducible refine w_on.mpr ?_ | with_reducible refine w_rng2.mpr ?_ | with_reducible refine w_gnm.mpr ?_ | with_reducible refine w_kn.mpr ?_ | with_reducible refine w_kc.mpr ?_ | with_reducible refine w_asg.mpr ?_ | with_reducible refine w_par2.mpr ?_ | with_reducible refine w_expr.mpr ?_ | with_reducible refine w_ifs.mpr ?_ | with_reducible refine w_brk.mpr ?_ | with_reducible refine w_cnt.mpr ?_ | with_reducible refine w_pass.mpr ?_ | with_reducible refine w_raise.mpr ?_ | with_reducible refine w_sn.mpr ?_ | with_reducible refine w_sc.mpr ?_ | with_reducible refine w_call.mpr ?_ | with_reducible refine w_and.mpr ?_ | with_reducible refine w_or.mpr ?_ | with_reducible refine w_not.mpr ?_ | with_reducible refine w_neg.mpr ?_ | with_reducible refine w_dget.mpr ?_ | with_reducible refine w_dset.mpr ?_ | with_reducible refine w_gtup.mpr ?_ | with_reducible refine w_gltup.mpr ?_ | with_reducible refine w_gsn.mpr (And.intro rfl ?_) | with_reducible refine w_gsc.mpr ?_ | with_reducible refine w_ilst.mpr ?_ | with_reducible refine w_itup.mpr ?_ | with_reducible refine w_blt.mpr ?_ | with_reducible refine w_isi.mpr ?_ | with_reducible refine w_os.mpr ?_ | with_reducible refine w_idx.mpr ?_ | with_reducible refine w_slc.mpr ?_ | with_reducible refine w_bin.mpr ?_ | with_reducible refine w_cmp.mpr ?_ | with_reducible refine w_tval.mpr ?_ | with_reducible refine w_forr.mpr ?_ | with_reducible refine w_whl.mpr ?_ | with_reducible refine w_lc.mpr ?_ | with_reducible refine w_ret.mpr ?_ | with_reducible refine w_retN.mpr ?_ | (with_reducible refine w_tup.mpr ?_) | (with_reducible refine w_lst.mpr ?_) | (with_reducible refine b_mul.mpr (And.symm ⟨?_, by first | exact mulOk_l (by omega) (by omega) | exact mulOk_r (by omega) (by omega) | exact mulOk_bd (a := 1000) (b := 1000) (by assumption) (by assumption) (by decide) (by decide) (by decide) | assumption⟩)) | (with_reducible refine b_mod.mpr (And.symm ⟨?_, by first | omega | assumption⟩)) | (with_reducible refine b_div.mpr (And.symm ⟨?_, by first | exact divOk_of (by omega) (by omega) | assumption⟩)) | (with_reducible refine b_pow.mpr ⟨by decide, ?_⟩) | refine ⟨_, rfl, Eq.refl (penM _ _ _), ?_⟩ | refine ⟨_, rfl, ⟨by omega, by omega⟩, ?_⟩ | refine ⟨_, rfl, ?_⟩ | refine ⟨_, _, rfl, ?_⟩ | refine ⟨_, _, _, rfl, rfl, rfl, ?_⟩ | refine ⟨_, _, rfl, rfl, of_decide_eq_true rfl, ?_⟩ | refine ⟨_, ne_nil _, ?_⟩ | ((with_reducible refine lenOk ?_ ?_); rfl) | refine ⟨_, rfl, rfl, ?_⟩ | with_reducible refine w_rng1.mpr ?_ | with_reducible refine w_rng2.mpr ?_ | ((with_reducible refine ifT ?_ ?_); rfl) | ((with_reducible refine ifF ?_ ?_); rfl))
  refine pure_step (h5 _ _) rfl ?_
  rw [hg]
  repeat (first | ((with_reducible refine pg_turn ?_ ?_); rfl) | ((with_reducible refine pg_left ?_ ?_); rfl) | ((with_reducible refine pg_cells ?_ ?_); rfl) | ((with_reducible refine ps_turn ?_ ?_); rfl) | ((with_reducible refine ps_left ?_ ?_); rfl) | ((with_reducible refine w_var.mpr ?_); refine ⟨_, rfl, ?_⟩) | with_reducible refine wp_ok.mpr ?_ | with_reducible refine w_int.mpr ?_ | with_reducible refine w_bl.mpr ?_ | with_reducible refine w_non.mpr ?_ | with_reducible refine w_str.mpr ?_ | with_reducible refine w_glob.mpr ?_ | with_reducible refine w_chain.mpr ?_ | with_reducible refine w_ite.mpr ?_ | with_reducible refine w_esn.mpr ?_ | with_reducible refine w_esc.mpr ?_ | with_reducible refine w_tnot.mpr ?_ | with_reducible refine w_tand.mpr ?_ | with_reducible refine w_tor.mpr ?_ | with_reducible refine w_cn.mpr ?_ | with_reducible refine w_c1.mpr ?_ | with_reducible refine w_on.mpr ?_ | with_reducible refine w_rng2.mpr ?_ | with_reducible refine w_gnm.mpr ?_ | with_reducible refine w_kn.mpr ?_ | with_reducible refine w_kc.mpr ?_ | with_reducible refine w_asg.mpr ?_ | with_reducible refine w_par2.mpr ?_ | with_reducible refine w_expr.mpr ?_ | with_reducible refine w_ifs.mpr ?_ | with_reducible refine w_brk.mpr ?_ | with_reducible refine w_cnt.mpr ?_ | with_reducible refine w_pass.mpr ?_ | with_reducible refine w_raise.mpr ?_ | with_reducible refine w_sn.mpr ?_ | with_reducible refine w_sc.mpr ?_ | with_reducible refine w_call.mpr ?_ | with_reducible refine w_and.mpr ?_ | with_reducible refine w_or.mpr ?_ | with_reducible refine w_not.mpr ?_ | with_reducible refine w_neg.mpr ?_ | with_reducible refine w_dget.mpr ?_ | with_reducible refine w_dset.mpr ?_ | with_reducible refine w_gtup.mpr ?_ | with_reducible refine w_gltup.mpr ?_ | with_reducible refine w_gsn.mpr (And.intro rfl ?_) | with_reducible refine w_gsc.mpr ?_ | with_reducible refine w_ilst.mpr ?_ | with_reducible refine w_itup.mpr ?_ | with_reducible refine w_blt.mpr ?_ | with_reducible refine w_isi.mpr ?_ | with_reducible refine w_os.mpr ?_ | with_reducible refine w_idx.mpr ?_ | with_reducible refine w_slc.mpr ?_ | with_reducible refine w_bin.mpr ?_ | with_reducible refine w_cmp.mpr ?_ | with_reducible refine w_tval.mpr ?_ | with_reducible refine w_forr.mpr ?_ | with_reducible refine w_whl.mpr ?_ | with_reducible refine w_lc.mpr ?_ | with_reducible refine w_ret.mpr ?_ | with_reducible refine w_retN.mpr ?_ | (with_reducible refine w_tup.mpr ?_) | (with_reducible refine w_lst.mpr ?_) | (with_reducible refine b_mul.mpr (And.symm ⟨?_, by first | exact mulOk_l (by omega) (by omega) | exact mulOk_r (by omega) (by omega) | exact mulOk_bd (a := 1000) (b := 1000) (by assumption) (by assumption) (by decide) (by decide) (by decide) | assumption⟩)) | (with_reducible refine b_mod.mpr (And.symm ⟨?_, by first | omega | assumption⟩)) | (with_reducible refine b_div.mpr (And.symm ⟨?_, by first | exact divOk_of (by omega) (by omega) | assumption⟩)) | (with_reducible refine b_pow.mpr ⟨by decide, ?_⟩) | refine ⟨_, rfl, Eq.refl (penM _ _ _), ?_⟩ | refine ⟨_, rfl, ⟨by omega, by omega⟩, ?_⟩ | refine ⟨_, rfl, ?_⟩ | refine ⟨_, _, rfl, ?_⟩ | refine ⟨_, _, _, rfl, rfl, rfl, ?_⟩ | refine ⟨_, _, rfl, rfl, of_decide_eq_true rfl, ?_⟩ | refine ⟨_, ne_nil _, ?_⟩ | ((with_reducible refine lenOk ?_ ?_); rfl) | refine ⟨_, rfl, rfl, ?_⟩ | with_reducible refine w_rng1.mpr ?_ | with_reducible refine w_rng2.mpr ?_ | ((with_reducible refine ifT ?_ ?_); rfl) | ((with_reducible refine ifF ?_ ?_); rfl))
  exact fin_e rfl rfl
end K70
namespace K70
open PySem PySem.Spec PyProof.Rows L2 OB
def PickOK (Φ : Fns) (i : Nat) : Prop := ∀ (B : Nat) (xs : List D) (μ : Mem) (Q : D → Mem → Prop) (E : EX), Pen B μ → 0 < xs.length → xs.length < 2 ^ 64 → D.lts 1 xs = true → B < 2 ^ 60 → (∀ (j : Nat) x μ', xs[j]? = some x → Pen (B + 1) μ' → Q x μ') → (Φ i [.ref 0, .lst xs] μ).wp Q E
def GreatOK (Φ : Fns) (i : Nat) : Prop := ∀ (B n : Nat) (μ : Mem) (Q : D → Mem → Prop) (E : EX), Pen B μ → B + n < 2 ^ 60 → (∀ r μ', 0 ≤ r → r < 10 ^ n → Pen (B + n) μ' → Q (.int r) μ') → (Φ i [.ref 0, .int n] μ).wp Q E
def rowT (a b c d : Int) : D := .tup [.int a, .int b, .int c, .int d]
def rows : List D := [rowT 1 0 0 1, rowT 1 1 0 1, rowT 1 0 1 1, rowT 0 (-1) 1 0, rowT 1 (-1) 0 1, rowT 1 0 (-1) 1, rowT 0 1 1 0, rowT 2 1 1 1]
def Lin (a b : Int) : Prop := ∀ x y t : Int, -t ≤ x → x ≤ t → -t ≤ y → y ≤ t → -(3 * t) ≤ a * x + b * y ∧ a * x + b * y ≤ 3 * t
def Uni (a b c d : Int) : Prop := a * d - b * c = 1 ∨ a * d - b * c = -1
theorem rows_ok {j : Nat} {x : D} (h : rows[j]? = some x) : ∃ a b c d : Int, x = rowT a b c d ∧ BIG a ∧ BIG b ∧ BIG c ∧ BIG d ∧ Lin a b ∧ Lin c d ∧ Uni a b c d := by
  have mem : x ∈ rows := List.mem_of_getElem? h
  simp only [rows, List.mem_cons, List.not_mem_nil, or_false] at mem
  rcases mem with rfl | rfl | rfl | rfl | rfl | rfl | rfl | rfl <;>
    refine ⟨_, _, _, _, rfl, big_i (by decide) (by decide), big_i (by decide) (by decide), big_i (by decide) (by decide), big_i (by decide) (by decide), ?_, ?_, ?_⟩ <;>
    first
    | (intro x y t h1 h2 h3 h4; constructor <;> omega)
    | (unfold Uni; decide)
theorem uni_mul {a b c d x1 y1 x2 y2 : Int} (h : Uni a b c d) (g : Uni x1 x2 y1 y2) : Uni (a * x1 + b * y1) (a * x2 + b * y2) (c * x1 + d * y1) (c * x2 + d * y2) := by
  have e : (a * x1 + b * y1) * (c * x2 + d * y2) - (a * x2 + b * y2) * (c * x1 + d * y1) = (a * d - b * c) * (x1 * y2 - x2 * y1) := by grind
  unfold Uni at *
  rw [e]
  rcases h with h | h <;> rcases g with g | g <;> rw [h, g] <;> decide
theorem pow3 {j : Nat} (h : j ≤ 3) : (3 : Int) ^ j ≤ 27 := by
  have : j = 0 ∨ j = 1 ∨ j = 2 ∨ j = 3 := by omega
  rcases this with rfl | rfl | rfl | rfl <;> decide
theorem sem_table {Φ : Fns} {B : Nat} {far : Int} {μ : Mem} {Q : D → Mem → Prop} {E : EX} (hd : DrawOK Φ 0) (hpk : PickOK Φ 4)
    (h2 : ∀ a b c d p q x y, BIG a → BIG b → BIG c → BIG d → BIG x → BIG y → Φ 2 [M6 a b c d p q, P2 x y] [] = .ok (P2 (a * x + b * y + p) (c * x + d * y + q)) [])
    (hp : Pen B μ) (hB : B < 2 ^ 50) (f0 : 0 ≤ far) (f1 : far ≤ 1000000000)
    (hQ : ∀ a b c d p q μ', Uni a b c d → (-27 ≤ a ∧ a ≤ 27) → (-27 ≤ b ∧ b ≤ 27) → (-27 ≤ c ∧ c ≤ 27) → (-27 ≤ d ∧ d ≤ 27) → (-far ≤ p ∧ p ≤ far) → (-far ≤ q ∧ q ≤ far) → Pen (B + 6) μ' → Q (M6 a b c d p q) μ') :
    (runF Φ f_law_table [.ref 0, .int far] μ).wp Q E := by
  refine run_wp2 [some (.ref 0), some (.int far), none, none, none, none, none, none, none] rfl rfl ?_
  unfold f_law_table
  rw [hp.len]
  repeat (first | ((with_reducible refine pg_turn ?_ ?_); rfl) | ((with_reducible refine pg_left ?_ ?_); rfl) | ((with_reducible refine pg_cells ?_ ?_); rfl) | ((with_reducible refine ps_turn ?_ ?_); rfl) | ((with_reducible refine ps_left ?_ ?_); rfl) | ((with_reducible refine w_var.mpr ?_); refine ⟨_, rfl, ?_⟩) | with_reducible refine wp_ok.mpr ?_ | with_reducible refine w_int.mpr ?_ | with_reducible refine w_bl.mpr ?_ | with_reducible refine w_non.mpr ?_ | with_reducible refine w_str.mpr ?_ | with_reducible refine w_glob.mpr ?_ | with_reducible refine w_chain.mpr ?_ | with_reducible refine w_ite.mpr ?_ | with_reducible refine w_esn.mpr ?_ | with_reducible refine w_esc.mpr ?_ | with_reducible refine w_tnot.mpr ?_ | with_reducible refine w_tand.mpr ?_ | with_reducible refine w_tor.mpr ?_ | with_reducible refine w_cn.mpr ?_ | with_reducible refine w_c1.mpr ?_ | with_reducible refine w_on.mpr ?_ | with_reducible refine w_rng2.mpr ?_ | with_reducible refine w_gnm.mpr ?_ | with_reducible refine w_kn.mpr ?_ | with_reducible refine w_kc.mpr ?_ | with_reducible refine w_asg.mpr ?_ | with_reducible refine w_par2.mpr ?_ | with_reducible refine w_expr.mpr ?_ | with_reducible refine w_ifs.mpr ?_ | with_reducible refine w_brk.mpr ?_ | with_reducible refine w_cnt.mpr ?_ | with_reducible refine w_pass.mpr ?_ | with_reducible refine w_raise.mpr ?_ | with_reducible refine w_sn.mpr ?_ | with_reducible refine w_sc.mpr ?_ | with_reducible refine w_call.mpr ?_ | with_reducible refine w_and.mpr ?_ | with_reducible refine w_or.mpr ?_ | with_reducible refine w_not.mpr ?_ | with_reducible refine w_neg.mpr ?_ | with_reducible refine w_dget.mpr ?_ | with_reducible refine w_dset.mpr ?_ | with_reducible refine w_gtup.mpr ?_ | with_reducible refine w_gltup.mpr ?_ | with_reducible refine w_gsn.mpr (And.intro rfl ?_) | with_reducible refine w_gsc.mpr ?_ | with_reducible refine w_ilst.mpr ?_ | with_reducible refine w_itup.mpr ?_ | with_reducible refine w_blt.mpr ?_ | with_reducible refine w_isi.mpr ?_ | with_reducible refine w_os.mpr ?_ | with_reducible refine w_idx.mpr ?_ | with_reducible refine w_slc.mpr ?_ | with_reducible refine w_bin.mpr ?_ | with_reducible refine w_cmp.mpr ?_ | with_reducible refine w_tval.mpr ?_ | with_reducible refine w_forr.mpr ?_ | with_reducible refine w_whl.mpr ?_ | with_reducible refine w_lc.mpr ?_ | with_reducible refine w_ret.mpr ?_ | with_reducible refine w_retN.mpr ?_ | (with_reducible refine w_tup.mpr ?_) | (with_reducible refine w_lst.mpr ?_) | (with_reducible refine b_mul.mpr (And.symm ⟨?_, by first | exact mulOk_l (by omega) (by omega) | exact mulOk_r (by omega) (by omega) | exact mulOk_bd (a := 1000) (b := 1000) (by assumption) (by assumption) (by decide) (by decide) (by decide) | assumption⟩)) | (with_reducible refine b_mod.mpr (And.symm ⟨?_, by first | omega | assumption⟩)) | (with_reducible refine b_div.mpr (And.symm ⟨?_, by first | exact divOk_of (by omega) (by omega) | assumption⟩)) | (with_reducible refine b_pow.mpr ⟨by decide, ?_⟩) | refine ⟨_, rfl, Eq.refl (penM _ _ _), ?_⟩ | refine ⟨_, rfl, ⟨by omega, by omega⟩, ?_⟩ | refine ⟨_, rfl, ?_⟩ | refine ⟨_, _, rfl, ?_⟩ | refine ⟨_, _, _, rfl, rfl, rfl, ?_⟩ | refine ⟨_, _, rfl, rfl, of_decide_eq_true rfl, ?_⟩ | refine ⟨_, ne_nil _, ?_⟩ | ((with_reducible refine lenOk ?_ ?_); rfl) | refine ⟨_, rfl, rfl, ?_⟩ | with_reducible refine w_rng1.mpr ?_ | with_reducible refine w_rng2.mpr ?_ | ((with_reducible refine ifT ?_ ?_); rfl) | ((with_reducible refine ifF ?_ ?_); rfl))
  refine pen_step hp rfl (hd _ _ _ _ _ hp (by decide) (by decide) (by omega) fun r μ1 r0 r1 hp1 => ⟨hp1.len, ?_⟩)
  repeat (first | ((with_reducible refine pg_turn ?_ ?_); rfl) | ((with_reducible refine pg_left ?_ ?_); rfl) | ((with_reducible refine pg_cells ?_ ?_); rfl) | ((with_reducible refine ps_turn ?_ ?_); rfl) | ((with_reducible refine ps_left ?_ ?_); rfl) | ((with_reducible refine w_var.mpr ?_); refine ⟨_, rfl, ?_⟩) | with_reducible refine wp_ok.mpr ?_ | with_reducible refine w_int.mpr ?_ | with_reducible refine w_bl.mpr ?_ | with_reducible refine w_non.mpr ?_ | with_reducible refine w_str.mpr ?_ | with_reducible refine w_glob.mpr ?_ | with_reducible refine w_chain.mpr ?_ | with_reducible refine w_ite.mpr ?_ | with_reducible refine w_esn.mpr ?_ | with_reducible refine w_esc.mpr ?_ | with_reducible refine w_tnot.mpr ?_ | with_reducible refine w_tand.mpr ?_ | with_reducible refine w_tor.mpr ?_ | with_reducible refine w_cn.mpr ?_ | with_reducible refine w_c1.mpr ?_ | with_reducible refine w_on.mpr ?_ | with_reducible refine w_rng2.mpr ?_ | with_reducible refine w_gnm.mpr ?_ | with_reducible refine w_kn.mpr ?_ | with_reducible refine w_kc.mpr ?_ | with_reducible refine w_asg.mpr ?_ | with_reducible refine w_par2.mpr ?_ | with_reducible refine w_expr.mpr ?_ | with_reducible refine w_ifs.mpr ?_ | with_reducible refine w_brk.mpr ?_ | with_reducible refine w_cnt.mpr ?_ | with_reducible refine w_pass.mpr ?_ | with_reducible refine w_raise.mpr ?_ | with_reducible refine w_sn.mpr ?_ | with_reducible refine w_sc.mpr ?_ | with_reducible refine w_call.mpr ?_ | with_reducible refine w_and.mpr ?_ | with_reducible refine w_or.mpr ?_ | with_reducible refine w_not.mpr ?_ | with_reducible refine w_neg.mpr ?_ | with_reducible refine w_dget.mpr ?_ | with_reducible refine w_dset.mpr ?_ | with_reducible refine w_gtup.mpr ?_ | with_reducible refine w_gltup.mpr ?_ | with_reducible refine w_gsn.mpr (And.intro rfl ?_) | with_reducible refine w_gsc.mpr ?_ | with_reducible refine w_ilst.mpr ?_ | with_reducible refine w_itup.mpr ?_ | with_reducible refine w_blt.mpr ?_ | with_reducible refine w_isi.mpr ?_ | with_reducible refine w_os.mpr ?_ | with_reducible refine w_idx.mpr ?_ | with_reducible refine w_slc.mpr ?_ | with_reducible refine w_bin.mpr ?_ | with_reducible refine w_cmp.mpr ?_ | with_reducible refine w_tval.mpr ?_ | with_reducible refine w_forr.mpr ?_ | with_reducible refine w_whl.mpr ?_ | with_reducible refine w_lc.mpr ?_ | with_reducible refine w_ret.mpr ?_ | with_reducible refine w_retN.mpr ?_ | (with_reducible refine w_tup.mpr ?_) | (with_reducible refine w_lst.mpr ?_) | (with_reducible refine b_mul.mpr (And.symm ⟨?_, by first | exact mulOk_l (by omega) (by omega) | exact mulOk_r (by omega) (by omega) | exact mulOk_bd (a := 1000) (b := 1000) (by assumption) (by assumption) (by decide) (by decide) (by decide) | assumption⟩)) | (with_reducible refine b_mod.mpr (And.symm ⟨?_, by first | omega | assumption⟩)) | (with_reducible refine b_div.mpr (And.symm ⟨?_, by first | exact divOk_of (by omega) (by omega) | assumption⟩)) | (with_reducible refine b_pow.mpr ⟨by decide, ?_⟩) | refine ⟨_, rfl, Eq.refl (penM _ _ _), ?_⟩ | refine ⟨_, rfl, ⟨by omega, by omega⟩, ?_⟩ | refine ⟨_, rfl, ?_⟩ | refine ⟨_, _, rfl, ?_⟩ | refine ⟨_, _, _, rfl, rfl, rfl, ?_⟩ | refine ⟨_, _, rfl, rfl, of_decide_eq_true rfl, ?_⟩ | refine ⟨_, ne_nil _, ?_⟩ | ((with_reducible refine lenOk ?_ ?_); rfl) | refine ⟨_, rfl, rfl, ?_⟩ | with_reducible refine w_rng1.mpr ?_ | with_reducible refine w_rng2.mpr ?_ | ((with_reducible refine ifT ?_ ?_); rfl) | ((with_reducible refine ifF ?_ ?_); rfl))
  refine for_wp (fun i ρ μ => ∃ x1 y1 x2 y2 v5 v6, ρ = [some (.ref 0), some (.int far), some (.lst rows), some (P2 x1 y1), some (P2 x2 y2), v5, v6, none, none] ∧ Uni x1 x2 y1 y2 ∧
    (-(3 ^ i : Int) ≤ x1 ∧ x1 ≤ 3 ^ i) ∧ (-(3 ^ i : Int) ≤ y1 ∧ y1 ≤ 3 ^ i) ∧ (-(3 ^ i : Int) ≤ x2 ∧ x2 ≤ 3 ^ i) ∧ (-(3 ^ i : Int) ≤ y2 ∧ y2 ≤ 3 ^ i) ∧ Pen (B + 1 + i) μ)
    ⟨1, 0, 0, 1, none, none, rfl, .inl (by decide), by decide, by decide, by decide, by decide, hp1⟩ ?_ ?_
  · rintro i x ρ μ hx ⟨x1, y1, x2, y2, v5, v6, rfl, hu, ⟨bx1, bx1'⟩, ⟨by1, by1'⟩, ⟨bx2, bx2'⟩, ⟨by2, by2'⟩, hpi⟩
    have hi : i ≤ 2 := by
      have := (List.getElem?_eq_some_iff.mp hx).1
      simp [rangeD] at this; omega
    have p3 := pow3 (show i ≤ 3 by omega)
    repeat (first | ((with_reducible refine pg_turn ?_ ?_); rfl) | ((with_reducible refine pg_left ?_ ?_); rfl) | ((with_reducible refine pg_cells ?_ ?_); rfl) | ((with_reducible refine ps_turn ?_ ?_); rfl) | ((with_reducible refine ps_left ?_ ?_); rfl) | ((with_reducible refine w_var.mpr ?_); refine ⟨_, rfl, ?_⟩) | with_reducible refine wp_ok.mpr ?_ | with_reducible refine w_int.mpr ?_ | with_reducible refine w_bl.mpr ?_ | with_reducible refine w_non.mpr ?_ | with_reducible refine w_str.mpr ?_ | with_reducible refine w_glob.mpr ?_ | with_reducible refine w_chain.mpr ?_ | with_reducible refine w_ite.mpr ?_ | with_reducible refine w_esn.mpr ?_ | with_reducible refine w_esc.mpr ?_ | with_reducible refine w_tnot.mpr ?_ | with_reducible refine w_tand.mpr ?_ | with_reducible refine w_tor.mpr ?_ | with_reducible refine w_cn.mpr ?_ | with_reducible refine w_c1.mpr ?_ | with_reducible refine w_on.mpr ?_ | with_reducible refine w_rng2.mpr ?_ | with_reducible refine w_gnm.mpr ?_ | with_reducible refine w_kn.mpr ?_ | with_reducible refine w_kc.mpr ?_ | with_reducible refine w_asg.mpr ?_ | with_reducible refine w_par2.mpr ?_ | with_reducible refine w_expr.mpr ?_ | with_reducible refine w_ifs.mpr ?_ | with_reducible refine w_brk.mpr ?_ | with_reducible refine w_cnt.mpr ?_ | with_reducible refine w_pass.mpr ?_ | with_reducible refine w_raise.mpr ?_ | with_reducible refine w_sn.mpr ?_ | with_reducible refine w_sc.mpr ?_ | with_reducible refine w_call.mpr ?_ | with_reducible refine w_and.mpr ?_ | with_reducible refine w_or.mpr ?_ | with_reducible refine w_not.mpr ?_ | with_reducible refine w_neg.mpr ?_ | with_reducible refine w_dget.mpr ?_ | with_reducible refine w_dset.mpr ?_ | with_reducible refine w_gtup.mpr ?_ | with_reducible refine w_gltup.mpr ?_ | with_reducible refine w_gsn.mpr (And.intro rfl ?_) | with_reducible refine w_gsc.mpr ?_ | with_reducible refine w_ilst.mpr ?_ | with_reducible refine w_itup.mpr ?_ | with_reducible refine w_blt.mpr ?_ | with_reducible refine w_isi.mpr ?_ | with_reducible refine w_os.mpr ?_ | with_reducible refine w_idx.mpr ?_ | with_reducible refine w_slc.mpr ?_ | with_reducible refine w_bin.mpr ?_ | with_reducible refine w_cmp.mpr ?_ | with_reducible refine w_tval.mpr ?_ | with_reducible refine w_forr.mpr ?_ | with_reducible refine w_whl.mpr ?_ | with_reducible refine w_lc.mpr ?_ | with_reducible refine w_ret.mpr ?_ | with_reducible refine w_retN.mpr ?_ | (with_reducible refine w_tup.mpr ?_) | (with_reducible refine w_lst.mpr ?_) | (with_reducible refine b_mul.mpr (And.symm ⟨?_, by first | exact mulOk_l (by omega) (by omega) | exact mulOk_r (by omega) (by omega) | exact mulOk_bd (a := 1000) (b := 1000) (by assumption) (by assumption) (by decide) (by decide) (by decide) | assumption⟩)) | (with_reducible refine b_mod.mpr (And.symm ⟨?_, by first | omega | assumption⟩)) | (with_reducible refine b_div.mpr (And.symm ⟨?_, by first | exact divOk_of (by omega) (by omega) | assumption⟩)) | (with_reducible refine b_pow.mpr ⟨by decide, ?_⟩) | refine ⟨_, rfl, Eq.refl (penM _ _ _), ?_⟩ | refine ⟨_, rfl, ⟨by omega, by omega⟩, ?_⟩ | refine ⟨_, rfl, ?_⟩ | refine ⟨_, _, rfl, ?_⟩ | refine ⟨_, _, _, rfl, rfl, rfl, ?_⟩ | refine ⟨_, _, rfl, rfl, of_decide_eq_true rfl, ?_⟩ | refine ⟨_, ne_nil _, ?_⟩ | ((with_reducible refine lenOk ?_ ?_); rfl) | refine ⟨_, rfl, rfl, ?_⟩ | with_reducible refine w_rng1.mpr ?_ | with_reducible refine w_rng2.mpr ?_ | ((with_reducible refine ifT ?_ ?_); rfl) | ((with_reducible refine ifF ?_ ?_); rfl))
    refine pen_step hpi rfl (hpk _ _ _ _ _ hpi (of_decide_eq_true rfl) (of_decide_eq_true rfl) rfl (by omega) fun j w μ2 hw hp2 => ⟨hp2.len, ?_⟩)
    obtain ⟨a, b, c, d, rfl, ga, gb, gc, gd, la, lc, hu2⟩ := rows_ok hw
    repeat (first | ((with_reducible refine pg_turn ?_ ?_); rfl) | ((with_reducible refine pg_left ?_ ?_); rfl) | ((with_reducible refine pg_cells ?_ ?_); rfl) | ((with_reducible refine ps_turn ?_ ?_); rfl) | ((with_reducible refine ps_left ?_ ?_); rfl) | ((with_reducible refine w_var.mpr ?_); refine ⟨_, rfl, ?_⟩) | with_reducible refine wp_ok.mpr ?_ | with_reducible refine w_int.mpr ?_ | with_reducible refine w_bl.mpr ?_ | with_reducible refine w_non.mpr ?_ | with_reducible refine w_str.mpr ?_ | with_reducible refine w_glob.mpr ?_ | with_reducible refine w_chain.mpr ?_ | with_reducible refine w_ite.mpr ?_ | with_reducible refine w_esn.mpr ?_ | with_reducible refine w_esc.mpr ?_ | with_reducible refine w_tnot.mpr ?_ | with_reducible refine w_tand.mpr ?_ | with_reducible refine w_tor.mpr ?_ | with_reducible refine w_cn.mpr ?_ | with_reducible refine w_c1.mpr ?_ | with_reducible refine w_on.mpr ?_ | with_reducible refine w_rng2.mpr ?_ | with_reducible refine w_gnm.mpr ?_ | with_reducible refine w_kn.mpr ?_ | with_reducible refine w_kc.mpr ?_ | with_reducible refine w_asg.mpr ?_ | with_reducible refine w_par2.mpr ?_ | with_reducible refine w_expr.mpr ?_ | with_reducible refine w_ifs.mpr ?_ | with_reducible refine w_brk.mpr ?_ | with_reducible refine w_cnt.mpr ?_ | with_reducible refine w_pass.mpr ?_ | with_reducible refine w_raise.mpr ?_ | with_reducible refine w_sn.mpr ?_ | with_reducible refine w_sc.mpr ?_ | with_reducible refine w_call.mpr ?_ | with_reducible refine w_and.mpr ?_ | with_reducible refine w_or.mpr ?_ | with_reducible refine w_not.mpr ?_ | with_reducible refine w_neg.mpr ?_ | with_reducible refine w_dget.mpr ?_ | with_reducible refine w_dset.mpr ?_ | with_reducible refine w_gtup.mpr ?_ | with_reducible refine w_gltup.mpr ?_ | with_reducible refine w_gsn.mpr (And.intro rfl ?_) | with_reducible refine w_gsc.mpr ?_ | with_reducible refine w_ilst.mpr ?_ | with_reducible refine w_itup.mpr ?_ | with_reducible refine w_blt.mpr ?_ | with_reducible refine w_isi.mpr ?_ | with_reducible refine w_os.mpr ?_ | with_reducible refine w_idx.mpr ?_ | with_reducible refine w_slc.mpr ?_ | with_reducible refine w_bin.mpr ?_ | with_reducible refine w_cmp.mpr ?_ | with_reducible refine w_tval.mpr ?_ | with_reducible refine w_forr.mpr ?_ | with_reducible refine w_whl.mpr ?_ | with_reducible refine w_lc.mpr ?_ | with_reducible refine w_ret.mpr ?_ | with_reducible refine w_retN.mpr ?_ | (with_reducible refine w_tup.mpr ?_) | (with_reducible refine w_lst.mpr ?_) | (with_reducible refine b_mul.mpr (And.symm ⟨?_, by first | exact mulOk_l (by omega) (by omega) | exact mulOk_r (by omega) (by omega) | exact mulOk_bd (a := 1000) (b := 1000) (by assumption) (by assumption) (by decide) (by decide) (by decide) | assumption⟩)) | (with_reducible refine b_mod.mpr (And.symm ⟨?_, by first | omega | assumption⟩)) | (with_reducible refine b_div.mpr (And.symm ⟨?_, by first | exact divOk_of (by omega) (by omega) | assumption⟩)) | (with_reducible refine b_pow.mpr ⟨by decide, ?_⟩) | refine ⟨_, rfl, Eq.refl (penM _ _ _), ?_⟩ | refine ⟨_, rfl, ⟨by omega, by omega⟩, ?_⟩ | refine ⟨_, rfl, ?_⟩ | refine ⟨_, _, rfl, ?_⟩ | refine ⟨_, _, _, rfl, rfl, rfl, ?_⟩ | refine ⟨_, _, rfl, rfl, of_decide_eq_true rfl, ?_⟩ | refine ⟨_, ne_nil _, ?_⟩ | ((with_reducible refine lenOk ?_ ?_); rfl) | refine ⟨_, rfl, rfl, ?_⟩ | with_reducible refine w_rng1.mpr ?_ | with_reducible refine w_rng2.mpr ?_ | ((with_reducible refine ifT ?_ ?_); rfl) | ((with_reducible refine ifF ?_ ?_); rfl))
    have X1 : BIG x1 := big_i (by omega) (by omega)
    have Y1 : BIG y1 := big_i (by omega) (by omega)
    have X2 : BIG x2 := big_i (by omega) (by omega)
    have Y2 : BIG y2 := big_i (by omega) (by omega)
    refine pure_step (h2 _ _ _ _ _ _ _ _ ga gb gc gd X1 Y1) rfl ?_
    repeat (first | ((with_reducible refine pg_turn ?_ ?_); rfl) | ((with_reducible refine pg_left ?_ ?_); rfl) | ((with_reducible refine pg_cells ?_ ?_); rfl) | ((with_reducible refine ps_turn ?_ ?_); rfl) | ((with_reducible refine ps_left ?_ ?_); rfl) | ((with_reducible refine w_var.mpr ?_); refine ⟨_, rfl, ?_⟩) | with_reducible refine wp_ok.mpr ?_ | with_reducible refine w_int.mpr ?_ | with_reducible refine w_bl.mpr ?_ | with_reducible refine w_non.mpr ?_ | with_reducible refine w_str.mpr ?_ | with_reducible refine w_glob.mpr ?_ | with_reducible refine w_chain.mpr ?_ | with_reducible refine w_ite.mpr ?_ | with_reducible refine w_esn.mpr ?_ | with_reducible refine w_esc.mpr ?_ | with_reducible refine w_tnot.mpr ?_ | with_reducible refine w_tand.mpr ?_ | with_reducible refine w_tor.mpr ?_ | with_reducible refine w_cn.mpr ?_ | with_reducible refine w_c1.mpr ?_ | with_reducible refine w_on.mpr ?_ | with_reducible refine w_rng2.mpr ?_ | with_reducible refine w_gnm.mpr ?_ | with_reducible refine w_kn.mpr ?_ | with_reducible refine w_kc.mpr ?_ | with_reducible refine w_asg.mpr ?_ | with_reducible refine w_par2.mpr ?_ | with_reducible refine w_expr.mpr ?_ | with_reducible refine w_ifs.mpr ?_ | with_reducible refine w_brk.mpr ?_ | with_reducible refine w_cnt.mpr ?_ | with_reducible refine w_pass.mpr ?_ | with_reducible refine w_raise.mpr ?_ | with_reducible refine w_sn.mpr ?_ | with_reducible refine w_sc.mpr ?_ | with_reducible refine w_call.mpr ?_ | with_reducible refine w_and.mpr ?_ | with_reducible refine w_or.mpr ?_ | with_reducible refine w_not.mpr ?_ | with_reducible refine w_neg.mpr ?_ | with_reducible refine w_dget.mpr ?_ | with_reducible refine w_dset.mpr ?_ | with_reducible refine w_gtup.mpr ?_ | with_reducible refine w_gltup.mpr ?_ | with_reducible refine w_gsn.mpr (And.intro rfl ?_) | with_reducible refine w_gsc.mpr ?_ | with_reducible refine w_ilst.mpr ?_ | with_reducible refine w_itup.mpr ?_ | with_reducible refine w_blt.mpr ?_ | with_reducible refine w_isi.mpr ?_ | with_reducible refine w_os.mpr ?_ | with_reducible refine w_idx.mpr ?_ | with_reducible refine w_slc.mpr ?_ | with_reducible refine w_bin.mpr ?_ | with_reducible refine w_cmp.mpr ?_ | with_reducible refine w_tval.mpr ?_ | with_reducible refine w_forr.mpr ?_ | with_reducible refine w_whl.mpr ?_ | with_reducible refine w_lc.mpr ?_ | with_reducible refine w_ret.mpr ?_ | with_reducible refine w_retN.mpr ?_ | (with_reducible refine w_tup.mpr ?_) | (with_reducible refine w_lst.mpr ?_) | (with_reducible refine b_mul.mpr (And.symm ⟨?_, by first | exact mulOk_l (by omega) (by omega) | exact mulOk_r (by omega) (by omega) | exact mulOk_bd (a := 1000) (b := 1000) (by assumption) (by assumption) (by decide) (by decide) (by decide) | assumption⟩)) | (with_reducible refine b_mod.mpr (And.symm ⟨?_, by first | omega | assumption⟩)) | (with_reducible refine b_div.mpr (And.symm ⟨?_, by first | exact divOk_of (by omega) (by omega) | assumption⟩)) | (with_reducible refine b_pow.mpr ⟨by decide, ?_⟩) | refine ⟨_, rfl, Eq.refl (penM _ _ _), ?_⟩ | refine ⟨_, rfl, ⟨by omega, by omega⟩, ?_⟩ | refine ⟨_, rfl, ?_⟩ | refine ⟨_, _, rfl, ?_⟩ | refine ⟨_, _, _, rfl, rfl, rfl, ?_⟩ | refine ⟨_, _, rfl, rfl, of_decide_eq_true rfl, ?_⟩ | refine ⟨_, ne_nil _, ?_⟩ | ((with_reducible refine lenOk ?_ ?_); rfl) | refine ⟨_, rfl, rfl, ?_⟩ | with_reducible refine w_rng1.mpr ?_ | with_reducible refine w_rng2.mpr ?_ | ((with_reducible refine ifT ?_ ?_); rfl) | ((with_reducible refine ifF ?_ ?_); rfl))
    refine pure_step (h2 _ _ _ _ _ _ _ _ ga gb gc gd X2 Y2) rfl ?_
    have q1 := la x1 y1 _ bx1 bx1' by1 by1'
    have q2 := lc x1 y1 _ bx1 bx1' by1 by1'
    have q3 := la x2 y2 _ bx2 bx2' by2 by2'
    have q4 := lc x2 y2 _ bx2 bx2' by2 by2'
    have e3 : (3 : Int) ^ (i + 1) = 3 * 3 ^ i := by rw [Int.pow_succ, Int.mul_comm]
    refine w_sn.mpr ?_
    refine ⟨_, _, _, _, _, _, rfl, ?_, ?_, ?_, ?_, ?_, ?_⟩
    · simpa only [Int.add_zero] using uni_mul hu2 hu
    · rw [e3]; omega
    · rw [e3]; omega
    · rw [e3]; omega
    · rw [e3]; omega
    · rw [show B + 1 + (i + 1) = B + 1 + i + 1 by omega]; exact hp2
  · rintro ρ μ ⟨x1, y1, x2, y2, v5, v6, rfl, hu, ⟨bx1, bx1'⟩, ⟨by1, by1'⟩, ⟨bx2, bx2'⟩, ⟨by2, by2'⟩, hpi⟩
    have hl : (rangeD 0 r.toNat).length ≤ 3 := by simp [rangeD]; omega
    have p3 := pow3 hl
    generalize (3 : Int) ^ (rangeD 0 r.toNat).length = t3 at *
    replace hpi := hpi.mono (show B + 1 + (rangeD 0 r.toNat).length ≤ B + 4 by omega)
    repeat (first | ((with_reducible refine pg_turn ?_ ?_); rfl) | ((with_reducible refine pg_left ?_ ?_); rfl) | ((with_reducible refine pg_cells ?_ ?_); rfl) | ((with_reducible refine ps_turn ?_ ?_); rfl) | ((with_reducible refine ps_left ?_ ?_); rfl) | ((with_reducible refine w_var.mpr ?_); refine ⟨_, rfl, ?_⟩) | with_reducible refine wp_ok.mpr ?_ | with_reducible refine w_int.mpr ?_ | with_reducible refine w_bl.mpr ?_ | with_reducible refine w_non.mpr ?_ | with_reducible refine w_str.mpr ?_ | with_reducible refine w_glob.mpr ?_ | with_reducible refine w_chain.mpr ?_ | with_reducible refine w_ite.mpr ?_ | with_reducible refine w_esn.mpr ?_ | with_reducible refine w_esc.mpr ?_ | with_reducible refine w_tnot.mpr ?_ | with_reducible refine w_tand.mpr ?_ | with_reducible refine w_tor.mpr ?_ | with_reducible refine w_cn.mpr ?_ | with_reducible refine w_c1.mpr ?_ | with_reducible refine w_on.mpr ?_ | with_reducible refine w_rng2.mpr ?_ | with_reducible refine w_gnm.mpr ?_ | with_reducible refine w_kn.mpr ?_ | with_reducible refine w_kc.mpr ?_ | with_reducible refine w_asg.mpr ?_ | with_reducible refine w_par2.mpr ?_ | with_reducible refine w_expr.mpr ?_ | with_reducible refine w_ifs.mpr ?_ | with_reducible refine w_brk.mpr ?_ | with_reducible refine w_cnt.mpr ?_ | with_reducible refine w_pass.mpr ?_ | with_reducible refine w_raise.mpr ?_ | with_reducible refine w_sn.mpr ?_ | with_reducible refine w_sc.mpr ?_ | with_reducible refine w_call.mpr ?_ | with_reducible refine w_and.mpr ?_ | with_reducible refine w_or.mpr ?_ | with_reducible refine w_not.mpr ?_ | with_reducible refine w_neg.mpr ?_ | with_reducible refine w_dget.mpr ?_ | with_reducible refine w_dset.mpr ?_ | with_reducible refine w_gtup.mpr ?_ | with_reducible refine w_gltup.mpr ?_ | with_reducible refine w_gsn.mpr (And.intro rfl ?_) | with_reducible refine w_gsc.mpr ?_ | with_reducible refine w_ilst.mpr ?_ | with_reducible refine w_itup.mpr ?_ | with_reducible refine w_blt.mpr ?_ | with_reducible refine w_isi.mpr ?_ | with_reducible refine w_os.mpr ?_ | with_reducible refine w_idx.mpr ?_ | with_reducible refine w_slc.mpr ?_ | with_reducible refine w_bin.mpr ?_ | with_reducible refine w_cmp.mpr ?_ | with_reducible refine w_tval.mpr ?_ | with_reducible refine w_forr.mpr ?_ | with_reducible refine w_whl.mpr ?_ | with_reducible refine w_lc.mpr ?_ | with_reducible refine w_ret.mpr ?_ | with_reducible refine w_retN.mpr ?_ | (with_reducible refine w_tup.mpr ?_) | (with_reducible refine w_lst.mpr ?_) | (with_reducible refine b_mul.mpr (And.symm ⟨?_, by first | exact mulOk_l (by omega) (by omega) | exact mulOk_r (by omega) (by omega) | exact mulOk_bd (a := 1000) (b := 1000) (by assumption) (by assumption) (by decide) (by decide) (by decide) | assumption⟩)) | (with_reducible refine b_mod.mpr (And.symm ⟨?_, by first | omega | assumption⟩)) | (with_reducible refine b_div.mpr (And.symm ⟨?_, by first | exact divOk_of (by omega) (by omega) | assumption⟩)) | (with_reducible refine b_pow.mpr ⟨by decide, ?_⟩) | refine ⟨_, rfl, Eq.refl (penM _ _ _), ?_⟩ | refine ⟨_, rfl, ⟨by omega, by omega⟩, ?_⟩ | refine ⟨_, rfl, ?_⟩ | refine ⟨_, _, rfl, ?_⟩ | refine ⟨_, _, _, rfl, rfl, rfl, ?_⟩ | refine ⟨_, _, rfl, rfl, of_decide_eq_true rfl, ?_⟩ | refine ⟨_, ne_nil _, ?_⟩ | ((with_reducible refine lenOk ?_ ?_); rfl) | refine ⟨_, rfl, rfl, ?_⟩ | with_reducible refine w_rng1.mpr ?_ | with_reducible refine w_rng2.mpr ?_ | ((with_reducible refine ifT ?_ ?_); rfl) | ((with_reducible refine ifF ?_ ?_); rfl))
    refine pen_step hpi rfl (hd _ _ _ _ _ hpi (by omega) (by omega) (by omega) fun z μ2 z0 z1 hp2 => ⟨hp2.len, ?_⟩)
    repeat (first | ((with_reducible refine pg_turn ?_ ?_); rfl) | ((with_reducible refine pg_left ?_ ?_); rfl) | ((with_reducible refine pg_cells ?_ ?_); rfl) | ((with_reducible refine ps_turn ?_ ?_); rfl) | ((with_reducible refine ps_left ?_ ?_); rfl) | ((with_reducible refine w_var.mpr ?_); refine ⟨_, rfl, ?_⟩) | with_reducible refine wp_ok.mpr ?_ | with_reducible refine w_int.mpr ?_ | with_reducible refine w_bl.mpr ?_ | with_reducible refine w_non.mpr ?_ | with_reducible refine w_str.mpr ?_ | with_reducible refine w_glob.mpr ?_ | with_reducible refine w_chain.mpr ?_ | with_reducible refine w_ite.mpr ?_ | with_reducible refine w_esn.mpr ?_ | with_reducible refine w_esc.mpr ?_ | with_reducible refine w_tnot.mpr ?_ | with_reducible refine w_tand.mpr ?_ | with_reducible refine w_tor.mpr ?_ | with_reducible refine w_cn.mpr ?_ | with_reducible refine w_c1.mpr ?_ | with_reducible refine w_on.mpr ?_ | with_reducible refine w_rng2.mpr ?_ | with_reducible refine w_gnm.mpr ?_ | with_reducible refine w_kn.mpr ?_ | with_reducible refine w_kc.mpr ?_ | with_reducible refine w_asg.mpr ?_ | with_reducible refine w_par2.mpr ?_ | with_reducible refine w_expr.mpr ?_ | with_reducible refine w_ifs.mpr ?_ | with_reducible refine w_brk.mpr ?_ | with_reducible refine w_cnt.mpr ?_ | with_reducible refine w_pass.mpr ?_ | with_reducible refine w_raise.mpr ?_ | with_reducible refine w_sn.mpr ?_ | with_reducible refine w_sc.mpr ?_ | with_reducible refine w_call.mpr ?_ | with_reducible refine w_and.mpr ?_ | with_reducible refine w_or.mpr ?_ | with_reducible refine w_not.mpr ?_ | with_reducible refine w_neg.mpr ?_ | with_reducible refine w_dget.mpr ?_ | with_reducible refine w_dset.mpr ?_ | with_reducible refine w_gtup.mpr ?_ | with_reducible refine w_gltup.mpr ?_ | with_reducible refine w_gsn.mpr (And.intro rfl ?_) | with_reducible refine w_gsc.mpr ?_ | with_reducible refine w_ilst.mpr ?_ | with_reducible refine w_itup.mpr ?_ | with_reducible refine w_blt.mpr ?_ | with_reducible refine w_isi.mpr ?_ | with_reducible refine w_os.mpr ?_ | with_reducible refine w_idx.mpr ?_ | with_reducible refine w_slc.mpr ?_ | with_reducible refine w_bin.mpr ?_ | with_reducible refine w_cmp.mpr ?_ | with_reducible refine w_tval.mpr ?_ | with_reducible refine w_forr.mpr ?_ | with_reducible refine w_whl.mpr ?_ | with_reducible refine w_lc.mpr ?_ | with_reducible refine w_ret.mpr ?_ | with_reducible refine w_retN.mpr ?_ | (with_reducible refine w_tup.mpr ?_) | (with_reducible refine w_lst.mpr ?_) | (with_reducible refine b_mul.mpr (And.symm ⟨?_, by first | exact mulOk_l (by omega) (by omega) | exact mulOk_r (by omega) (by omega) | exact mulOk_bd (a := 1000) (b := 1000) (by assumption) (by assumption) (by decide) (by decide) (by decide) | assumption⟩)) | (with_reducible refine b_mod.mpr (And.symm ⟨?_, by first | omega | assumption⟩)) | (with_reducible refine b_div.mpr (And.symm ⟨?_, by first | exact divOk_of (by omega) (by omega) | assumption⟩)) | (with_reducible refine b_pow.mpr ⟨by decide, ?_⟩) | refine ⟨_, rfl, Eq.refl (penM _ _ _), ?_⟩ | refine ⟨_, rfl, ⟨by omega, by omega⟩, ?_⟩ | refine ⟨_, rfl, ?_⟩ | refine ⟨_, _, rfl, ?_⟩ | refine ⟨_, _, _, rfl, rfl, rfl, ?_⟩ | refine ⟨_, _, rfl, rfl, of_decide_eq_true rfl, ?_⟩ | refine ⟨_, ne_nil _, ?_⟩ | ((with_reducible refine lenOk ?_ ?_); rfl) | refine ⟨_, rfl, rfl, ?_⟩ | with_reducible refine w_rng1.mpr ?_ | with_reducible refine w_rng2.mpr ?_ | ((with_reducible refine ifT ?_ ?_); rfl) | ((with_reducible refine ifF ?_ ?_); rfl))
    refine pen_step hp2 rfl (hd _ _ _ _ _ hp2 (by omega) (by omega) (by omega) fun z' μ3 z0' z1' hp3 => ⟨hp3.len, ?_⟩)
    repeat (first | ((with_reducible refine pg_turn ?_ ?_); rfl) | ((with_reducible refine pg_left ?_ ?_); rfl) | ((with_reducible refine pg_cells ?_ ?_); rfl) | ((with_reducible refine ps_turn ?_ ?_); rfl) | ((with_reducible refine ps_left ?_ ?_); rfl) | ((with_reducible refine w_var.mpr ?_); refine ⟨_, rfl, ?_⟩) | with_reducible refine wp_ok.mpr ?_ | with_reducible refine w_int.mpr ?_ | with_reducible refine w_bl.mpr ?_ | with_reducible refine w_non.mpr ?_ | with_reducible refine w_str.mpr ?_ | with_reducible refine w_glob.mpr ?_ | with_reducible refine w_chain.mpr ?_ | with_reducible refine w_ite.mpr ?_ | with_reducible refine w_esn.mpr ?_ | with_reducible refine w_esc.mpr ?_ | with_reducible refine w_tnot.mpr ?_ | with_reducible refine w_tand.mpr ?_ | with_reducible refine w_tor.mpr ?_ | with_reducible refine w_cn.mpr ?_ | with_reducible refine w_c1.mpr ?_ | with_reducible refine w_on.mpr ?_ | with_reducible refine w_rng2.mpr ?_ | with_reducible refine w_gnm.mpr ?_ | with_reducible refine w_kn.mpr ?_ | with_reducible refine w_kc.mpr ?_ | with_reducible refine w_asg.mpr ?_ | with_reducible refine w_par2.mpr ?_ | with_reducible refine w_expr.mpr ?_ | with_reducible refine w_ifs.mpr ?_ | with_reducible refine w_brk.mpr ?_ | with_reducible refine w_cnt.mpr ?_ | with_reducible refine w_pass.mpr ?_ | with_reducible refine w_raise.mpr ?_ | with_reducible refine w_sn.mpr ?_ | with_reducible refine w_sc.mpr ?_ | with_reducible refine w_call.mpr ?_ | with_reducible refine w_and.mpr ?_ | with_reducible refine w_or.mpr ?_ | with_reducible refine w_not.mpr ?_ | with_reducible refine w_neg.mpr ?_ | with_reducible refine w_dget.mpr ?_ | with_reducible refine w_dset.mpr ?_ | with_reducible refine w_gtup.mpr ?_ | with_reducible refine w_gltup.mpr ?_ | with_reducible refine w_gsn.mpr (And.intro rfl ?_) | with_reducible refine w_gsc.mpr ?_ | with_reducible refine w_ilst.mpr ?_ | with_reducible refine w_itup.mpr ?_ | with_reducible refine w_blt.mpr ?_ | with_reducible refine w_isi.mpr ?_ | with_reducible refine w_os.mpr ?_ | with_reducible refine w_idx.mpr ?_ | with_reducible refine w_slc.mpr ?_ | with_reducible refine w_bin.mpr ?_ | with_reducible refine w_cmp.mpr ?_ | with_reducible refine w_tval.mpr ?_ | with_reducible refine w_forr.mpr ?_ | with_reducible refine w_whl.mpr ?_ | with_reducible refine w_lc.mpr ?_ | with_reducible refine w_ret.mpr ?_ | with_reducible refine w_retN.mpr ?_ | (with_reducible refine w_tup.mpr ?_) | (with_reducible refine w_lst.mpr ?_) | (with_reducible refine b_mul.mpr (And.symm ⟨?_, by first | exact mulOk_l (by omega) (by omega) | exact mulOk_r (by omega) (by omega) | exact mulOk_bd (a := 1000) (b := 1000) (by assumption) (by assumption) (by decide) (by decide) (by decide) | assumption⟩)) | (with_reducible refine b_mod.mpr (And.symm ⟨?_, by first | omega | assumption⟩)) | (with_reducible refine b_div.mpr (And.symm ⟨?_, by first | exact divOk_of (by omega) (by omega) | assumption⟩)) | (with_reducible refine b_pow.mpr ⟨by decide, ?_⟩) | refine ⟨_, rfl, Eq.refl (penM _ _ _), ?_⟩ | refine ⟨_, rfl, ⟨by omega, by omega⟩, ?_⟩ | refine ⟨_, rfl, ?_⟩ | refine ⟨_, _, rfl, ?_⟩ | refine ⟨_, _, _, rfl, rfl, rfl, ?_⟩ | refine ⟨_, _, rfl, rfl, of_decide_eq_true rfl, ?_⟩ | refine ⟨_, ne_nil _, ?_⟩ | ((with_reducible refine lenOk ?_ ?_); rfl) | refine ⟨_, rfl, rfl, ?_⟩ | with_reducible refine w_rng1.mpr ?_ | with_reducible refine w_rng2.mpr ?_ | ((with_reducible refine ifT ?_ ?_); rfl) | ((with_reducible refine ifF ?_ ?_); rfl))
    exact fin_pen hp3 rfl (hQ _ _ _ _ _ _ _ hu ⟨by omega, by omega⟩ ⟨by omega, by omega⟩ ⟨by omega, by omega⟩ ⟨by omega, by omega⟩ ⟨by omega, by omega⟩ ⟨by omega, by omega⟩ hp3)
end K70
namespace K70
open PySem PySem.Spec PyProof.Rows L2 OB
/-! ## plain laws of maps -/
structure Mp where
  a : Int
  b : Int
  c : Int
  d : Int
  p : Int
  q : Int
abbrev Mp.D (m : Mp) : OB.D := M6 m.a m.b m.c m.d m.p m.q
def Mp.det (m : Mp) : Int := m.a * m.d - m.b * m.c
abbrev Mp.uni (m : Mp) : Prop := m.a * m.d - m.b * m.c = 1 ∨ m.a * m.d - m.b * m.c = -1
theorem Mp.same {m n : Mp} (h1 : m.a = n.a) (h2 : m.b = n.b) (h3 : m.c = n.c) (h4 : m.d = n.d) (h5 : m.p = n.p) (h6 : m.q = n.q) : m = n := by
  cases m; cases n
  simp only at h1 h2 h3 h4 h5 h6
  subst h1 h2 h3 h4 h5 h6
  rfl
def still : Mp := ⟨1, 0, 0, 1, 0, 0⟩
def cmp (m n : Mp) : Mp := ⟨n.a * m.a + n.b * m.c + 0, n.a * m.b + n.b * m.d + 0, n.c * m.a + n.d * m.c + 0, n.c * m.b + n.d * m.d + 0, n.a * m.p + n.b * m.q + n.p, n.c * m.p + n.d * m.q + n.q⟩
def invS (s : Int) (m : Mp) : Mp := ⟨s * m.d, -s * m.b, -s * m.c, s * m.a, -(s * m.d) * m.p - -s * m.b * m.q, -(-s * m.c) * m.p - s * m.a * m.q⟩
def inv (m : Mp) : Mp := invS (m.a * m.d - m.b * m.c) m
theorem sq_one {s : Int} (h : s = 1 ∨ s = -1) : s * s = 1 := by rcases h with rfl | rfl <;> rfl
theorem cmp_inv {m : Mp} (h : m.uni) : cmp m (inv m) = still := by
  have hs := sq_one h
  unfold inv
  generalize hd : m.a * m.d - m.b * m.c = s at *
  apply Mp.same <;> simp only [cmp, invS, still] <;> grind
theorem inv_cmp {m : Mp} (h : m.uni) : cmp (inv m) m = still := by
  have hs := sq_one h
  unfold inv
  generalize hd : m.a * m.d - m.b * m.c = s at *
  apply Mp.same <;> simp only [cmp, invS, still] <;> grind
theorem inv_det {m : Mp} (h : m.uni) : (inv m).a * (inv m).d - (inv m).b * (inv m).c = m.a * m.d - m.b * m.c := by
  have hs := sq_one h
  unfold inv
  generalize hd : m.a * m.d - m.b * m.c = s at *
  simp only [invS]; grind
theorem inv_uni {m : Mp} (h : m.uni) : (inv m).uni := by unfold Mp.uni; rw [inv_det h]; exact h
theorem inv_inv {m : Mp} (h : m.uni) : inv (inv m) = m := by
  have hs := sq_one h
  have hi := inv_det h
  unfold inv at *
  rw [hi]
  generalize hd : m.a * m.d - m.b * m.c = s at *
  apply Mp.same <;> simp only [invS] <;> grind
theorem cmp_det (m n : Mp) : (cmp m n).a * (cmp m n).d - (cmp m n).b * (cmp m n).c = (m.a * m.d - m.b * m.c) * (n.a * n.d - n.b * n.c) := by
  simp only [cmp]; grind
theorem cmp_uni {m n : Mp} (h : m.uni) (g : n.uni) : (cmp m n).uni := by
  unfold Mp.uni; rw [cmp_det]
  rcases h with h | h <;> rcases g with g | g <;> rw [h, g] <;> decide
theorem cmp_assoc (m n k : Mp) : cmp (cmp m n) k = cmp m (cmp n k) := by
  apply Mp.same <;> simp only [cmp] <;> grind
theorem inv_both {m n : Mp} (h : m.uni) (g : n.uni) : inv (cmp m n) = cmp (inv n) (inv m) := by
  have e := cmp_det m n
  unfold inv
  rw [e]
  have hs := sq_one h
  have gs := sq_one g
  generalize hd : m.a * m.d - m.b * m.c = s at *
  generalize gd : n.a * n.d - n.b * n.c = t at *
  apply Mp.same <;> simp only [cmp, invS] <;> grind
theorem still_cmp (m : Mp) : cmp still m = m := by
  apply Mp.same <;> simp only [cmp, still] <;> grind
theorem act_cmp (m n : Mp) (x y : Int) : (cmp m n).a * x + (cmp m n).b * y + (cmp m n).p = n.a * (m.a * x + m.b * y + m.p) + n.b * (m.c * x + m.d * y + m.q) + n.p ∧
    (cmp m n).c * x + (cmp m n).d * y + (cmp m n).q = n.c * (m.a * x + m.b * y + m.p) + n.d * (m.c * x + m.d * y + m.q) + n.q := by
  simp only [cmp]; constructor <;> grind
theorem act_inv {m : Mp} (h : m.uni) (x y : Int) : (inv m).a * (m.a * x + m.b * y + m.p) + (inv m).b * (m.c * x + m.d * y + m.q) + (inv m).p = x ∧
    (inv m).c * (m.a * x + m.b * y + m.p) + (inv m).d * (m.c * x + m.d * y + m.q) + (inv m).q = y := by
  have hs := sq_one h
  unfold inv
  generalize hd : m.a * m.d - m.b * m.c = s at *
  simp only [invS]; constructor <;> grind
theorem pt_cmp (m n : Mp) (x y z : Int) : (cmp m n).a * x + (cmp m n).b * y + (cmp m n).p * z = n.a * (m.a * x + m.b * y + m.p * z) + n.b * (m.c * x + m.d * y + m.q * z) + n.p * z ∧
    (cmp m n).c * x + (cmp m n).d * y + (cmp m n).q * z = n.c * (m.a * x + m.b * y + m.p * z) + n.d * (m.c * x + m.d * y + m.q * z) + n.q * z := by
  simp only [cmp]; constructor <;> grind
/-! ## sizes -/
theorem bd_mono {j k : Nat} {x : Int} (h : Bd j x) (l : j ≤ k) : Bd k x := Nat.lt_of_lt_of_le h (Nat.pow_le_pow_right (by decide) l)
theorem bd_add {k : Nat} {x y : Int} (h : Bd k x) (g : Bd k y) : Bd (k + 1) (x + y) := by
  unfold Bd at *
  have e : 2 ^ (k + 1) = 2 * 2 ^ k := by rw [Nat.pow_succ, Nat.mul_comm]
  omega
theorem bd_neg {k : Nat} {x : Int} (h : Bd k x) : Bd k (-x) := by unfold Bd at *; omega
theorem bd_sub {k : Nat} {x y : Int} (h : Bd k x) (g : Bd k y) : Bd (k + 1) (x - y) := by rw [Int.sub_eq_add_neg]; exact bd_add h (bd_neg g)
theorem bd_mul {j k : Nat} {x y : Int} (h : Bd j x) (g : Bd k y) : Bd (j + k) (x * y) := by
  unfold Bd at *
  rw [Int.natAbs_mul, Nat.pow_add]
  exact Nat.mul_lt_mul'' h g
theorem bd_zero (k : Nat) : Bd k 0 := Nat.two_pow_pos k
def Mx (k : Nat) (m : Mp) : Prop := Bd k m.a ∧ Bd k m.b ∧ Bd k m.c ∧ Bd k m.d ∧ Bd k m.p ∧ Bd k m.q
theorem Mx.mono {j k : Nat} {m : Mp} (h : Mx j m) (l : j ≤ k) : Mx k m := by
  obtain ⟨h1, h2, h3, h4, h5, h6⟩ := h
  exact ⟨bd_mono h1 l, bd_mono h2 l, bd_mono h3 l, bd_mono h4 l, bd_mono h5 l, bd_mono h6 l⟩
theorem bd_form {j k : Nat} {a x b y p : Int} (h1 : Bd j a) (h2 : Bd k x) (h3 : Bd j b) (h4 : Bd k y) (h5 : Bd (j + k + 1) p) : Bd (j + k + 2) (a * x + b * y + p) :=
  bd_add (bd_add (bd_mul h1 h2) (bd_mul h3 h4)) h5
theorem Mx.cmp {j k : Nat} {m n : Mp} (h : Mx j m) (g : Mx k n) : Mx (k + j + 2) (cmp m n) := by
  obtain ⟨h1, h2, h3, h4, h5, h6⟩ := h
  obtain ⟨g1, g2, g3, g4, g5, g6⟩ := g
  exact ⟨bd_form g1 h1 g2 h3 (bd_zero _), bd_form g1 h2 g2 h4 (bd_zero _), bd_form g3 h1 g4 h3 (bd_zero _), bd_form g3 h2 g4 h4 (bd_zero _), bd_form g1 h5 g2 h6 (bd_mono g5 (by omega)), bd_form g3 h5 g4 h6 (bd_mono g6 (by omega))⟩
theorem Mx.inv {k : Nat} {m : Mp} (u : m.uni) (h : Mx k m) : Mx (2 * k + 1) (inv m) := by
  obtain ⟨h1, h2, h3, h4, h5, h6⟩ := h
  have sg : ∀ {s x : Int}, (s = 1 ∨ s = -1) → Bd k x → Bd k (s * x) ∧ Bd k (-s * x) := fun {s x} hs hx => by
    rcases hs with rfl | rfl
    · exact ⟨by rw [Int.one_mul]; exact hx, by rw [Int.neg_one_mul]; exact bd_neg hx⟩
    · exact ⟨by rw [Int.neg_one_mul]; exact bd_neg hx, by rw [show (-(-1 : Int)) = 1 from rfl, Int.one_mul]; exact hx⟩
  have e : 2 * k + 1 = k + k + 1 := by omega
  unfold K70.inv
  have u' : m.a * m.d - m.b * m.c = 1 ∨ m.a * m.d - m.b * m.c = -1 := u
  generalize hd : m.a * m.d - m.b * m.c = s at u' ⊢
  have q1 := (sg u' h4).1
  have q2 := (sg u' h2).2
  have q3 := (sg u' h3).2
  have q4 := (sg u' h1).1
  rw [e]
  exact ⟨bd_mono q1 (by omega), bd_mono q2 (by omega), bd_mono q3 (by omega), bd_mono q4 (by omega), bd_sub (bd_mul (bd_neg q1) h5) (bd_mul q2 h6), bd_sub (bd_mul (bd_neg q3) h5) (bd_mul q4 h6)⟩
/-! ## texts of maps -/
theorem bd_log {k : Nat} {x : Int} (hk : 0 < k) (h : Bd k x) : x.natAbs.log2 < k := by
  by_cases z : x.natAbs = 0
  · rw [z]; simpa using hk
  · exact (Nat.log2_lt z).mpr h
theorem int_len {x : Int} (h : Bd 1000 x) : (Str.ofString x.repr).length ≤ 1001 := by
  have e : x.repr.length ≤ 1001 := int_text_length_le (k := 1000) (by decide) (bd_log (by decide) h)
  have : (Str.ofString x.repr).length = x.repr.length := PySem.ofString_length _
  omega
theorem repr6 {m : Mp} (h : Mx 1000 m) : ∃ t, reprD m.D = some t := by
  obtain ⟨h1, h2, h3, h4, h5, h6⟩ := h
  have l : ∀ x : Int, Bd 1000 x → x.natAbs.log2 < 1920 := fun x hx => Nat.lt_trans (bd_log (by decide) hx) (by decide)
  have n1 := int_len h1
  have n2 := int_len h2
  have n3 := int_len h3
  have n4 := int_len h4
  have n5 := int_len h5
  have n6 := int_len h6
  have tl := tupleText_len_le [Str.ofString m.a.repr, Str.ofString m.b.repr, Str.ofString m.c.repr, Str.ofString m.d.repr, Str.ofString m.p.repr, Str.ofString m.q.repr]
  simp only [List.map_cons, List.map_nil, List.sum_cons, List.sum_nil, List.length_cons, List.length_nil] at tl
  have sl : sizeLine = 16777216 := rfl
  simp [reprD, D.toPy, D.toPys, PyData.showable, PyData.showableAll, PyData.hasDict, PyData.hasDictAll, PyData.depth, PyData.depthAll, PyData.shown, PyData.shownAll, l _ h1, l _ h2, l _ h3, l _ h4, l _ h5, l _ h6]
  omega
/-! ## points -/
theorem pt_gcd {m : Mp} (h : m.uni) {x y z : Int} (g : Int.gcd (Int.gcd x y) z = 1) : Int.gcd (Int.gcd (m.a * x + m.b * y + m.p * z) (m.c * x + m.d * y + m.q * z)) z = 1 := by
  generalize hX : m.a * x + m.b * y + m.p * z = X
  generalize hY : m.c * x + m.d * y + m.q * z = Y
  have dz : ((Int.gcd (Int.gcd X Y) z : Nat) : Int) ∣ z := Int.gcd_dvd_right _ _
  have dg : ((Int.gcd (Int.gcd X Y) z : Nat) : Int) ∣ ((Int.gcd X Y : Nat) : Int) := Int.gcd_dvd_left _ _
  have dX : ((Int.gcd (Int.gcd X Y) z : Nat) : Int) ∣ X := Int.dvd_trans dg (Int.gcd_dvd_left _ _)
  have dY : ((Int.gcd (Int.gcd X Y) z : Nat) : Int) ∣ Y := Int.dvd_trans dg (Int.gcd_dvd_right _ _)
  generalize ((Int.gcd (Int.gcd X Y) z : Nat)) = k at *
  have e1 : (m.a * m.d - m.b * m.c) * x = m.d * (X - m.p * z) - m.b * (Y - m.q * z) := by subst hX hY; grind
  have e2 : (m.a * m.d - m.b * m.c) * y = m.a * (Y - m.q * z) - m.c * (X - m.p * z) := by subst hX hY; grind
  have dXp : (k : Int) ∣ X - m.p * z := Int.dvd_sub dX (Int.dvd_mul_of_dvd_right dz)
  have dYq : (k : Int) ∣ Y - m.q * z := Int.dvd_sub dY (Int.dvd_mul_of_dvd_right dz)
  have f1 : (k : Int) ∣ (m.a * m.d - m.b * m.c) * x := by rw [e1]; exact Int.dvd_sub (Int.dvd_mul_of_dvd_right dXp) (Int.dvd_mul_of_dvd_right dYq)
  have f2 : (k : Int) ∣ (m.a * m.d - m.b * m.c) * y := by rw [e2]; exact Int.dvd_sub (Int.dvd_mul_of_dvd_right dYq) (Int.dvd_mul_of_dvd_right dXp)
  have un : ∀ w : Int, (k : Int) ∣ (m.a * m.d - m.b * m.c) * w → (k : Int) ∣ w := fun w hw => by
    rcases h with h | h <;> rw [h] at hw
    · rwa [Int.one_mul] at hw
    · rw [Int.neg_one_mul] at hw; exact Int.dvd_neg.mp hw
  have k1 : k ∣ Int.gcd (Int.gcd x y) z := Int.dvd_gcd (Int.natCast_dvd_natCast.mpr (Int.dvd_gcd (un x f1) (un y f2))) dz
  rw [g] at k1
  exact Nat.dvd_one.mp k1
theorem form_gcd {x y z : Int} (hz : 1 ≤ z) : ∃ g : Int, ((Int.gcd (Int.gcd x y) z : Nat) : Int) = g ∧ 0 < g ∧ g ≤ z ∧ 1 ≤ z / g ∧ z / g ≤ z ∧ Int.gcd (Int.gcd (x / g) (y / g)) (z / g) = 1 ∧ (x / g).natAbs ≤ x.natAbs ∧ (y / g).natAbs ≤ y.natAbs := by
  have dz : ((Int.gcd (Int.gcd x y) z : Nat) : Int) ∣ z := Int.gcd_dvd_right _ _
  have dg : ((Int.gcd (Int.gcd x y) z : Nat) : Int) ∣ ((Int.gcd x y : Nat) : Int) := Int.gcd_dvd_left _ _
  have dX : ((Int.gcd (Int.gcd x y) z : Nat) : Int) ∣ x := Int.dvd_trans dg (Int.gcd_dvd_left _ _)
  have dY : ((Int.gcd (Int.gcd x y) z : Nat) : Int) ∣ y := Int.dvd_trans dg (Int.gcd_dvd_right _ _)
  have mx : ∀ k : Nat, (k : Int) ∣ x → (k : Int) ∣ y → (k : Int) ∣ z → k ∣ Int.gcd (Int.gcd x y) z := fun k a b c => Int.dvd_gcd (Int.natCast_dvd_natCast.mpr (Int.dvd_gcd a b)) c
  generalize (Int.gcd (Int.gcd x y) z) = g at *
  have g0 : (0 : Int) < g := by
    rcases Nat.eq_zero_or_pos g with e | e
    · subst e; have := Int.zero_dvd.mp dz; omega
    · omega
  obtain ⟨x', rfl⟩ := dX
  obtain ⟨y', rfl⟩ := dY
  obtain ⟨z', rfl⟩ := dz
  have gn : (g : Int) ≠ 0 := by omega
  have z1 : 1 ≤ z' := by
    rcases Int.lt_or_le z' 1 with q | q
    · exfalso
      have := Int.mul_le_mul_of_nonneg_left (show z' ≤ 0 by omega) (show (0 : Int) ≤ g by omega)
      omega
    · exact q
  have gz : (g : Int) ≤ g * z' := by
    have := Int.mul_le_mul_of_nonneg_left z1 (show (0 : Int) ≤ g by omega)
    omega
  have zz : z' ≤ g * z' := by
    have := Int.mul_le_mul_of_nonneg_right (show (1 : Int) ≤ g by omega) (show (0 : Int) ≤ z' by omega)
    omega
  have ab : ∀ w : Int, w.natAbs ≤ ((g : Int) * w).natAbs := fun w => by
    rw [Int.natAbs_mul]
    exact Nat.le_mul_of_pos_left _ (by omega)
  refine ⟨g, rfl, g0, gz, ?_⟩
  rw [Int.mul_ediv_cancel_left _ gn, Int.mul_ediv_cancel_left _ gn, Int.mul_ediv_cancel_left _ gn]
  refine ⟨z1, zz, ?_, ab x', ab y'⟩
  have hd := mx (g * Int.gcd (Int.gcd x' y') z') (by
    rw [Int.natCast_mul]; exact Int.mul_dvd_mul (Int.dvd_refl _) (Int.dvd_trans (Int.gcd_dvd_left _ _) (Int.gcd_dvd_left _ _))) (by
    rw [Int.natCast_mul]; exact Int.mul_dvd_mul (Int.dvd_refl _) (Int.dvd_trans (Int.gcd_dvd_left _ _) (Int.gcd_dvd_right _ _))) (by
    rw [Int.natCast_mul]; exact Int.mul_dvd_mul (Int.dvd_refl _) (Int.gcd_dvd_right _ _))
  have g0' : 0 < g := by omega
  have := Nat.dvd_one.mp ((Nat.mul_dvd_mul_iff_left g0').mp (show g * Int.gcd (Int.gcd x' y') z' ∣ g * 1 by rw [Nat.mul_one]; exact hd))
  exact this
end K70
namespace K70
open PySem PySem.Spec PyProof.Rows L2 OB
/-! ## what each def does, in the text -/
theorem r1_0 : phi L1 0 = runF (phi L0) f_law_draw := phi_get 0 rfl rfl
theorem r4_0 : phi L4 0 = runF (phi L0) f_law_draw := phi_get 3 rfl rfl
theorem r6_5 : phi L6 5 = runF (phi L5) f_law_gcd := phi_get 0 rfl rfl
theorem r7_0 : phi L7 0 = runF (phi L0) f_law_draw := phi_get 6 rfl rfl
theorem r7_2 : phi L7 2 = runF (phi L2) f_law_map_corner := phi_get 4 rfl rfl
theorem r7_4 : phi L7 4 = runF (phi L4) f_law_pick := phi_get 2 rfl rfl
theorem r10_9 : phi L10 9 = runF (phi L9) f_cross := phi_get 0 rfl rfl
theorem r12_10 : phi L12 10 = runF (phi L10) f_determinant := phi_get 1 rfl rfl
theorem r12_11 : phi L12 11 = runF (phi L11) f_is_int := phi_get 0 rfl rfl
theorem r13_12 : phi L13 12 = runF (phi L12) f_is_map := phi_get 0 rfl rfl
theorem r14_8 : phi L14 8 = runF (phi L8) f_map_vertex := phi_get 5 rfl rfl
theorem r14_13 : phi L14 13 = runF (phi L13) f_require_map := phi_get 0 rfl rfl
theorem r15_10 : phi L15 10 = runF (phi L10) f_determinant := phi_get 4 rfl rfl
theorem r15_13 : phi L15 13 = runF (phi L13) f_require_map := phi_get 1 rfl rfl
theorem r17_11 : phi L17 11 = runF (phi L11) f_is_int := phi_get 5 rfl rfl
theorem r19_11 : phi L19 11 = runF (phi L11) f_is_int := phi_get 7 rfl rfl
theorem r19_18 : phi L19 18 = runF (phi L18) f_gcd := phi_get 0 rfl rfl
theorem r20_17 : phi L20 17 = runF (phi L17) f_is_int_in := phi_get 2 rfl rfl
theorem r20_19 : phi L20 19 = runF (phi L19) f_is_point_shape := phi_get 0 rfl rfl
theorem r21_20 : phi L21 20 = runF (phi L20) f_is_point := phi_get 0 rfl rfl
theorem r22_13 : phi L22 13 = runF (phi L13) f_require_map := phi_get 8 rfl rfl
theorem r22_16 : phi L22 16 = runF (phi L16) f_map_point := phi_get 5 rfl rfl
theorem r22_21 : phi L22 21 = runF (phi L21) f_require_point := phi_get 0 rfl rfl
theorem r23_0 : phi L23 0 = runF (phi L0) f_law_draw := phi_get 22 rfl rfl
theorem r23_1 : phi L23 1 = runF (phi L1) f_law_great := phi_get 21 rfl rfl
theorem r23_2 : phi L23 2 = runF (phi L2) f_law_map_corner := phi_get 20 rfl rfl
theorem r23_3 : phi L23 3 = runF (phi L3) f_law_pen := phi_get 19 rfl rfl
theorem r23_4 : phi L23 4 = runF (phi L4) f_law_pick := phi_get 18 rfl rfl
theorem r23_6 : phi L23 6 = runF (phi L6) f_law_point_form := phi_get 16 rfl rfl
theorem r23_7 : phi L23 7 = runF (phi L7) f_law_table := phi_get 15 rfl rfl
theorem r23_14 : phi L23 14 = runF (phi L14) f_compose := phi_get 8 rfl rfl
theorem r23_15 : phi L23 15 = runF (phi L15) f_inverse := phi_get 7 rfl rfl
theorem r23_22 : phi L23 22 = runF (phi L22) f_transform_point := phi_get 0 rfl rfl
theorem a_is_int (n : Int) : phi L12 11 [.int n] [] = .ok (.bl true) [] := by rw [r12_11]; exact sem_is_int _ n
theorem a_is_int17 (n : Int) : phi L17 11 [.int n] [] = .ok (.bl true) [] := by rw [r17_11]; exact sem_is_int _ n
theorem a_is_int19 (n : Int) : phi L19 11 [.int n] [] = .ok (.bl true) [] := by rw [r19_11]; exact sem_is_int _ n
theorem a_det12 (m : Mp) (h : Mx 1000 m) : phi L12 10 [m.D] [] = .ok (.int (m.a * m.d - m.b * m.c)) [] := by rw [r12_10]; exact sem_determinant _ _ _ _ _ _ _ (by rw [r10_9]; exact sem_cross _ _ _ _ _ h.1 h.2.1 h.2.2.1 h.2.2.2.1)
theorem a_det15 (m : Mp) (h : Mx 1000 m) : phi L15 10 [m.D] [] = .ok (.int (m.a * m.d - m.b * m.c)) [] := by rw [r15_10]; exact sem_determinant _ _ _ _ _ _ _ (by rw [r10_9]; exact sem_cross _ _ _ _ _ h.1 h.2.1 h.2.2.1 h.2.2.2.1)
theorem a_is_map (m : Mp) (h : Mx 1000 m) (u : m.uni) : phi L13 12 [m.D] [] = .ok (.bl true) [] := by rw [r13_12]; exact sem_is_map _ _ _ _ _ _ _ a_is_int (a_det12 m h) u
theorem a_req (m : Mp) (h : Mx 1000 m) (u : m.uni) : runF (phi L13) f_require_map [m.D] [] = .ok .non [] := sem_require_map _ _ rfl (a_is_map m h u)
theorem a_compose (m n : Mp) (h : Mx 1000 m) (g : Mx 1000 n) (u : m.uni) (v : n.uni) : phi L23 14 [m.D, n.D] [] = .ok (cmp m n).D [] :=
  by rw [r23_14]; exact sem_compose (phi L14) _ _ _ _ _ _ _ _ _ _ _ _ (by rw [r14_13]; exact a_req m h u) (by rw [r14_13]; exact a_req n g v) (fun p q x y hx hy => by rw [r14_8]; exact sem_map_vertex (phi L8) _ _ _ _ _ _ _ _ g.1 g.2.1 g.2.2.1 g.2.2.2.1 hx hy) h.1 h.2.1 h.2.2.1 h.2.2.2.1 h.2.2.2.2.1 h.2.2.2.2.2
theorem a_inverse (m : Mp) (h : Mx 1000 m) (u : m.uni) : phi L23 15 [m.D] [] = .ok (inv m).D [] :=
  by rw [r23_15]; exact sem_inverse (phi L15) _ _ _ _ _ _ _ (by rw [r15_13]; exact a_req m h u) (a_det15 m h) u h.1 h.2.1 h.2.2.1 h.2.2.2.1 h.2.2.2.2.1 h.2.2.2.2.2
theorem a_point (x y z : Int) (hz0 : 1 ≤ z) (hz : z ≤ 1000000) (hg : Int.gcd (Int.gcd x y) z = 1) (hx : x.natAbs ≤ 10 ^ 40) (hy : y.natAbs ≤ 10 ^ 40) : runF (phi L21) f_require_point [P3 x y z] [] = .ok .non [] := by
  have hm : (10 : Int) ^ 40 ≤ 10 ^ 40 * z := by omega
  exact sem_require_point _ _ rfl (by rw [r21_20]; exact sem_is_point (phi L20) x y z (fun n l h a b => by rw [r20_17]; exact sem_is_int_in (phi L17) n l h a b (a_is_int17 n)) (by rw [r20_19]; exact sem_is_point_shape (phi L19) x y z a_is_int19 (fun n m => by rw [r19_18]; exact gcd_ok (phi L18) n m) hz0 hg) hz0 hz (by omega) (by omega) (by omega) (by omega))
theorem a_trans (m : Mp) (h : Mx 1000 m) (u : m.uni) (x y z : Int) (hz0 : 1 ≤ z) (hz : z ≤ 1000000) (hg : Int.gcd (Int.gcd x y) z = 1) (hx : x.natAbs ≤ 10 ^ 40) (hy : y.natAbs ≤ 10 ^ 40) :
    phi L23 22 [m.D, P3 x y z] [] = .ok (P3 (m.a * x + m.b * y + m.p * z) (m.c * x + m.d * y + m.q * z) z) [] := by
  have b : ∀ w : Int, w.natAbs ≤ 10 ^ 40 → BIG w := fun w hw => Nat.lt_of_le_of_lt hw (by decide)
  rw [r23_22]
  exact sem_transform_point (phi L22) _ _ _ rfl rfl rfl rfl (by rw [r22_13]; exact a_req m h u) (by rw [r22_21]; exact a_point x y z hz0 hz hg hx hy) (by rw [r22_16]; exact sem_map_point (phi L16) _ _ _ _ _ _ _ _ _ h.1 h.2.1 h.2.2.1 h.2.2.2.1 h.2.2.2.2.1 h.2.2.2.2.2 (b x hx) (b y hy) (b z (by omega)))
theorem a_corner (m : Mp) (h : Mx 1000 m) (x y : Int) (hx : BIG x) (hy : BIG y) : phi L23 2 [m.D, P2 x y] [] = .ok (P2 (m.a * x + m.b * y + m.p) (m.c * x + m.d * y + m.q)) [] :=
  by rw [r23_2]; exact sem_map_corner (phi L2) _ _ _ _ _ _ _ _ h.1 h.2.1 h.2.2.1 h.2.2.2.1 hx hy
theorem a_form (x y z g : Int) (hg : ((Int.gcd (Int.gcd x y) z : Nat) : Int) = g) (h0 : 0 < g) (h1 : g < 2 ^ 64) : phi L23 6 [.int x, .int y, .int z] [] = .ok (P3 (x / g) (y / g) (z / g)) [] :=
  by rw [r23_6]; exact sem_point_form (phi L6) x y z g (fun n m => by rw [r6_5]; exact gcd_ok (phi L5) n m) hg h0 h1
theorem e_draw : f_law_draw = f_draw := rfl
theorem e_great : f_law_great = f_great 0 := rfl
theorem e_pick : f_law_pick = f_pick 0 := rfl
theorem d_draw0 : DrawOK (phi L1) 0 := by unfold DrawOK; rw [r1_0, e_draw]; exact fun B many μ Q E hp h1 h2 hB hQ => draw_ok hp h1 h2 hB hQ
theorem d_draw4 : DrawOK (phi L4) 0 := by unfold DrawOK; rw [r4_0, e_draw]; exact fun B many μ Q E hp h1 h2 hB hQ => draw_ok hp h1 h2 hB hQ
theorem d_draw7 : DrawOK (phi L7) 0 := by unfold DrawOK; rw [r7_0, e_draw]; exact fun B many μ Q E hp h1 h2 hB hQ => draw_ok hp h1 h2 hB hQ
theorem d_draw : DrawOK (phi L23) 0 := by unfold DrawOK; rw [r23_0, e_draw]; exact fun B many μ Q E hp h1 h2 hB hQ => draw_ok hp h1 h2 hB hQ
theorem d_great : GreatOK (phi L23) 1 := by unfold GreatOK; rw [r23_1, e_great]; exact fun B n μ Q E hp hB hQ => great_ok d_draw0 hp hB (by omega) hQ
theorem d_pick7 : PickOK (phi L7) 4 := by unfold PickOK; rw [r7_4, e_pick]; exact fun B xs μ Q E hp h1 h2 h3 hB hQ => pick_ok d_draw4 hp h1 h2 h3 hB hQ
theorem d_pick : PickOK (phi L23) 4 := by unfold PickOK; rw [r23_4, e_pick]; exact fun B xs μ Q E hp h1 h2 h3 hB hQ => pick_ok d_draw4 hp h1 h2 h3 hB hQ
/-- a drawn map -/
def T0 (m : Mp) : Prop := m.uni ∧ (m.a.natAbs ≤ 27 ∧ m.b.natAbs ≤ 27 ∧ m.c.natAbs ≤ 27 ∧ m.d.natAbs ≤ 27) ∧ m.p.natAbs ≤ 10 ^ 9 ∧ m.q.natAbs ≤ 10 ^ 9
def T1 (m : Mp) : Prop := m.uni ∧ (m.a.natAbs ≤ 10 ^ 11 ∧ m.b.natAbs ≤ 10 ^ 11 ∧ m.c.natAbs ≤ 10 ^ 11 ∧ m.d.natAbs ≤ 10 ^ 11) ∧ m.p.natAbs ≤ 10 ^ 19 ∧ m.q.natAbs ≤ 10 ^ 19
theorem T0.up {m : Mp} (h : T0 m) : T1 m := by
  obtain ⟨u, ⟨h1, h2, h3, h4⟩, h5, h6⟩ := h
  exact ⟨u, ⟨by omega, by omega, by omega, by omega⟩, by omega, by omega⟩
theorem T1.mx {m : Mp} (h : T1 m) : Mx 64 m := by
  obtain ⟨u, ⟨h1, h2, h3, h4⟩, h5, h6⟩ := h
  exact ⟨Nat.lt_of_le_of_lt h1 (by decide), Nat.lt_of_le_of_lt h2 (by decide), Nat.lt_of_le_of_lt h3 (by decide), Nat.lt_of_le_of_lt h4 (by decide), Nat.lt_of_le_of_lt h5 (by decide), Nat.lt_of_le_of_lt h6 (by decide)⟩
def shear (g : Int) : Mp := ⟨1, g, 0, 1, 0, 0⟩
theorem shear_uni (g : Int) : (shear g).uni := .inl (by simp [shear])
theorem nmul {a b : Int} {A B : Nat} (h : a.natAbs ≤ A) (g : b.natAbs ≤ B) : (a * b).natAbs ≤ A * B := by rw [Int.natAbs_mul]; exact Nat.mul_le_mul h g
theorem T0.shear {m : Mp} (h : T0 m) {g : Int} (g0 : 0 ≤ g) (g1 : g < 10 ^ 9) : T1 (cmp m (shear g)) := by
  obtain ⟨u, ⟨h1, h2, h3, h4⟩, h5, h6⟩ := h
  have gn : g.natAbs ≤ 10 ^ 9 := by omega
  have e1 := nmul gn h3
  have e2 := nmul gn h4
  have e3 := nmul gn h6
  refine ⟨cmp_uni u (shear_uni g), ⟨?_, ?_, ?_, ?_⟩, ?_, ?_⟩ <;> simp only [cmp, K70.shear] <;> omega
theorem d_table {B : Nat} {far : Int} {μ : Mem} {Q : D → Mem → Prop} {E : EX} (hp : Pen B μ) (hB : B < 2 ^ 50) (f0 : 0 ≤ far) (f1 : far ≤ 1000000000) (hQ : ∀ m μ', T0 m → Pen (B + 6) μ' → Q m.D μ') : (phi L23 7 [.ref 0, .int far] μ).wp Q E :=
  by
  rw [r23_7]
  refine sem_table d_draw7 d_pick7 (fun a b c d p q x y ha hb hc hd hx hy => by rw [r7_2]; exact sem_map_corner (phi L2) a b c d p q x y ha hb hc hd hx hy) hp hB f0 f1 ?_
  intro a b c d p q μ' u ha hb hc hd hp hq h
  exact hQ ⟨a, b, c, d, p, q⟩ μ' ⟨u, ⟨by simp only; omega, by simp only; omega, by simp only; omega, by simp only; omega⟩, by simp only; omega, by simp only; omega⟩ h
theorem ne6 (a b c d p q : Int) : cmpD .NotEq (M6 a b c d p q) (M6 a b c d p q) = some false := by
  rw [c_ne, show M6 a b c d p q = .tup ([a, b, c, d, p, q].map .int) from rfl, e_tups]; simp
theorem ne3 (a b c : Int) : cmpD .NotEq (P3 a b c) (P3 a b c) = some false := by
  rw [c_ne, show P3 a b c = .tup ([a, b, c].map .int) from rfl, e_tups]; simp
theorem ne2 (a b : Int) : cmpD .NotEq (P2 a b) (P2 a b) = some false := by
  rw [c_ne, show P2 a b = .tup ([a, b].map .int) from rfl, e_tups]; simp
theorem ne_str (s : Str) : cmpD .NotEq (.str s) (.str s) = some false := by
  rw [c_ne]; simp [eqD]
theorem cut63 (xs : List D) : cutL xs none (some 63) = xs.take 63 := by
  unfold cutL
  have e1 : HT.sIx xs.length 0 none = 0 := rfl
  have e2 : HT.sIx xs.length xs.length (some 63) = min xs.length 63 := by unfold HT.sIx; simp; omega
  rw [e1, e2, List.drop_zero, Nat.sub_zero, List.take_eq_take_iff]
  omega
theorem wp_eqm {r : Res D} {v : D} {w : Mem} (h : r.wp (fun d m => d = v ∧ m = w) (fun _ _ _ => False)) : r = .ok v w := by
  cases h with
  | ok h => obtain ⟨rfl, rfl⟩ := h; rfl
  | exn h => exact h.elim
theorem d_pen (script : List Int) : phi L23 3 [.lst (script.map .int)] [] = .ok (.ref 0) (penM (script.take 63) 0 0) := by
  rw [r23_3]
  refine wp_eqm (run_wp2 [some (.lst (script.map .int))] rfl rfl ?_)
  unfold f_law_pen
  repeat (first | ((with_reducible refine pg_turn ?_ ?_); rfl) | ((with_reducible refine pg_left ?_ ?_); rfl) | ((with_reducible refine pg_cells ?_ ?_); rfl) | ((with_reducible refine ps_turn ?_ ?_); rfl) | ((with_reducible refine ps_left ?_ ?_); rfl) | ((with_reducible refine w_var.mpr ?_); refine ⟨_, rfl, ?_⟩) | with_reducible refine wp_ok.mpr ?_ | with_reducible refine w_int.mpr ?_ | with_reducible refine w_bl.mpr ?_ | with_reducible refine w_non.mpr ?_ | with_reducible refine w_str.mpr ?_ | with_reducible refine w_glob.mpr ?_ | with_reducible refine w_chain.mpr ?_ | with_reducible refine w_ite.mpr ?_ | with_reducible refine w_esn.mpr ?_ | with_reducible refine w_esc.mpr ?_ | with_reducible refine w_tnot.mpr ?_ | with_reducible refine w_tand.mpr ?_ | with_reducible refine w_tor.mpr ?_ | with_reducible refine w_cn.mpr ?_ | with_reducible refine w_c1.mpr ?_ | with_reducible refine w_on.mpr ?_ | with_reducible refine w_rng2.mpr ?_ | with_reducible refine w_gnm.mpr ?_ | with_reducible refine w_kn.mpr ?_ | with_reducible refine w_kc.mpr ?_ | with_reducible refine w_asg.mpr ?_ | with_reducible refine w_par2.mpr ?_ | with_reducible refine w_expr.mpr ?_ | with_reducible refine w_ifs.mpr ?_ | with_reducible refine w_brk.mpr ?_ | with_reducible refine w_cnt.mpr ?_ | with_reducible refine w_pass.mpr ?_ | with_reducible refine w_raise.mpr ?_ | with_reducible refine w_sn.mpr ?_ | with_reducible refine w_sc.mpr ?_ | with_reducible refine w_call.mpr ?_ | with_reducible refine w_and.mpr ?_ | with_reducible refine w_or.mpr ?_ | with_reducible refine w_not.mpr ?_ | with_reducible refine w_neg.mpr ?_ | with_reducible refine w_dget.mpr ?_ | with_reducible refine w_dset.mpr ?_ | with_reducible refine w_gtup.mpr ?_ | with_reducible refine w_gltup.mpr ?_ | with_reducible refine w_gsn.mpr (And.intro rfl ?_) | with_reducible refine w_gsc.mpr ?_ | with_reducible refine w_ilst.mpr ?_ | with_reducible refine w_itup.mpr ?_ | with_reducible refine w_blt.mpr ?_ | with_reducible refine w_isi.mpr ?_ | with_reducible refine w_os.mpr ?_ | with_reducible refine w_idx.mpr ?_ | with_reducible refine w_slc.mpr ?_ | with_reducible refine w_bin.mpr ?_ | with_reducible refine w_cmp.mpr ?_ | with_reducible refine w_tval.mpr ?_ | with_reducible refine w_forr.mpr ?_ | with_reducible refine w_whl.mpr ?_ | with_reducible refine w_lc.mpr ?_ | with_reducible refine w_ret.mpr ?_ | with_reducible refine w_retN.mpr ?_ | (with_reducible refine w_tup.mpr ?_) | (with_reducible refine w_lst.mpr ?_) | (with_reducible refine b_mul.mpr (And.symm ⟨?_, by first | exact mulOk_l (by omega) (by omega) | exact mulOk_r (by omega) (by omega) | exact mulOk_bd (a := 1000) (b := 1000) (by assumption) (by assumption) (by decide) (by decide) (by decide) | assumption⟩)) | (with_reducible refine b_mod.mpr (And.symm ⟨?_, by first | omega | assumption⟩)) | (with_reducible refine b_div.mpr (And.symm ⟨?_, by first | exact divOk_of (by omega) (by omega) | assumption⟩)) | (with_reducible refine b_pow.mpr ⟨by decide, ?_⟩) | refine ⟨_, rfl, Eq.refl (penM _ _ _), ?_⟩ | refine ⟨_, rfl, ⟨by omega, by omega⟩, ?_⟩ | refine ⟨_, rfl, ?_⟩ | refine ⟨_, _, rfl, ?_⟩ | refine ⟨_, _, _, rfl, rfl, rfl, ?_⟩ | refine ⟨_, _, rfl, rfl, of_decide_eq_true rfl, ?_⟩ | refine ⟨_, ne_nil _, ?_⟩ | ((with_reducible refine lenOk ?_ ?_); rfl) | refine ⟨_, rfl, rfl, ?_⟩ | with_reducible refine w_rng1.mpr ?_ | with_reducible refine w_rng2.mpr ?_ | ((with_reducible refine ifT ?_ ?_); rfl) | ((with_reducible refine ifF ?_ ?_); rfl))
  refine w_disp.mpr ?_
  repeat (first | ((with_reducible refine pg_turn ?_ ?_); rfl) | ((with_reducible refine pg_left ?_ ?_); rfl) | ((with_reducible refine pg_cells ?_ ?_); rfl) | ((with_reducible refine ps_turn ?_ ?_); rfl) | ((with_reducible refine ps_left ?_ ?_); rfl) | ((with_reducible refine w_var.mpr ?_); refine ⟨_, rfl, ?_⟩) | with_reducible refine wp_ok.mpr ?_ | with_reducible refine w_int.mpr ?_ | with_reducible refine w_bl.mpr ?_ | with_reducible refine w_non.mpr ?_ | with_reducible refine w_str.mpr ?_ | with_reducible refine w_glob.mpr ?_ | with_reducible refine w_chain.mpr ?_ | with_reducible refine w_ite.mpr ?_ | with_reducible refine w_esn.mpr ?_ | with_reducible refine w_esc.mpr ?_ | with_reducible refine w_tnot.mpr ?_ | with_reducible refine w_tand.mpr ?_ | with_reducible refine w_tor.mpr ?_ | with_reducible refine w_cn.mpr ?_ | with_reducible refine w_c1.mpr ?_ | with_reducible refine w_on.mpr ?_ | with_reducible refine w_rng2.mpr ?_ | with_reducible refine w_gnm.mpr ?_ | with_reducible refine w_kn.mpr ?_ | with_reducible refine w_kc.mpr ?_ | with_reducible refine w_asg.mpr ?_ | with_reducible refine w_par2.mpr ?_ | with_reducible refine w_expr.mpr ?_ | with_reducible refine w_ifs.mpr ?_ | with_reducible refine w_brk.mpr ?_ | with_reducible refine w_cnt.mpr ?_ | with_reducible refine w_pass.mpr ?_ | with_reducible refine w_raise.mpr ?_ | with_reducible refine w_sn.mpr ?_ | with_reducible refine w_sc.mpr ?_ | with_reducible refine w_call.mpr ?_ | with_reducible refine w_and.mpr ?_ | with_reducible refine w_or.mpr ?_ | with_reducible refine w_not.mpr ?_ | with_reducible refine w_neg.mpr ?_ | with_reducible refine w_dget.mpr ?_ | with_reducible refine w_dset.mpr ?_ | with_reducible refine w_gtup.mpr ?_ | with_reducible refine w_gltup.mpr ?_ | with_reducible refine w_gsn.mpr (And.intro rfl ?_) | with_reducible refine w_gsc.mpr ?_ | with_reducible refine w_ilst.mpr ?_ | with_reducible refine w_itup.mpr ?_ | with_reducible refine w_blt.mpr ?_ | with_reducible refine w_isi.mpr ?_ | with_reducible refine w_os.mpr ?_ | with_reducible refine w_idx.mpr ?_ | with_reducible refine w_slc.mpr ?_ | with_reducible refine w_bin.mpr ?_ | with_reducible refine w_cmp.mpr ?_ | with_reducible refine w_tval.mpr ?_ | with_reducible refine w_forr.mpr ?_ | with_reducible refine w_whl.mpr ?_ | with_reducible refine w_lc.mpr ?_ | with_reducible refine w_ret.mpr ?_ | with_reducible refine w_retN.mpr ?_ | (with_reducible refine w_tup.mpr ?_) | (with_reducible refine w_lst.mpr ?_) | (with_reducible refine b_mul.mpr (And.symm ⟨?_, by first | exact mulOk_l (by omega) (by omega) | exact mulOk_r (by omega) (by omega) | exact mulOk_bd (a := 1000) (b := 1000) (by assumption) (by assumption) (by decide) (by decide) (by decide) | assumption⟩)) | (with_reducible refine b_mod.mpr (And.symm ⟨?_, by first | omega | assumption⟩)) | (with_reducible refine b_div.mpr (And.symm ⟨?_, by first | exact divOk_of (by omega) (by omega) | assumption⟩)) | (with_reducible refine b_pow.mpr ⟨by decide, ?_⟩) | refine ⟨_, rfl, Eq.refl (penM _ _ _), ?_⟩ | refine ⟨_, rfl, ⟨by omega, by omega⟩, ?_⟩ | refine ⟨_, rfl, ?_⟩ | refine ⟨_, _, rfl, ?_⟩ | refine ⟨_, _, _, rfl, rfl, rfl, ?_⟩ | refine ⟨_, _, rfl, rfl, of_decide_eq_true rfl, ?_⟩ | refine ⟨_, ne_nil _, ?_⟩ | ((with_reducible refine lenOk ?_ ?_); rfl) | refine ⟨_, rfl, rfl, ?_⟩ | with_reducible refine w_rng1.mpr ?_ | with_reducible refine w_rng2.mpr ?_ | ((with_reducible refine ifT ?_ ?_); rfl) | ((with_reducible refine ifF ?_ ?_); rfl))
  refine ⟨rfl, of_decide_eq_true rfl, ?_⟩
  rw [cut63, ← List.map_take]
  show (fin 0 (.ref 0) (penM (script.take 63) 0 0)).wp _ _
  unfold fin
  rw [if_neg (by simp [D.lt]), if_pos (Nat.zero_le _)]
  exact .ok ⟨rfl, rfl⟩
end K70
namespace K70
open PySem PySem.Spec PyProof.Rows L2 OB
def lawRest : Sms := (.cons (.asg (.nm 7) (.call 15 0 (.cons (.var 4) .nil))) (.cons (.ifs (.or (.val (.cmp .NotEq (.call 14 0 (.cons (.var 4) (.cons (.var 7) .nil))) (.var 2))) (.or (.val (.cmp .NotEq (.call 14 0 (.cons (.var 7) (.cons (.var 4) .nil))) (.var 2))) (.val (.cmp .NotEq (.blt .repr (.cons (.call 15 0 (.cons (.var 7) .nil)) .nil)) (.blt .repr (.cons (.var 4) .nil)))))) (.cons (.ret (.bl false)) .nil) .nil) (.cons (.asg (.nm 8) (.call 14 0 (.cons (.var 4) (.cons (.var 5) .nil)))) (.cons (.forr (.nm 9) (.rng1 (.int 4)) (.cons (.asg (.nm 11) (.tup (.cons (.bin .Sub (.call 0 1 (.cons (.var 1) (.cons (.int 121) .nil))) (.int 60)) (.cons (.bin .Sub (.call 0 1 (.cons (.var 1) (.cons (.int 121) .nil))) (.int 60)) .nil)))) (.cons (.asg (.nm 12) (.call 2 0 (.cons (.var 5) (.cons (.call 2 0 (.cons (.var 4) (.cons (.var 11) .nil))) .nil)))) (.cons (.ifs (.or (.val (.cmp .NotEq (.call 2 0 (.cons (.var 8) (.cons (.var 11) .nil))) (.var 12))) (.val (.cmp .NotEq (.call 2 0 (.cons (.var 7) (.cons (.call 2 0 (.cons (.var 4) (.cons (.var 11) .nil))) .nil))) (.var 11)))) (.cons (.ret (.bl false)) .nil) .nil) .nil)))) (.cons (.ifs (.val (.cmp .NotEq (.call 14 0 (.cons (.call 14 0 (.cons (.var 4) (.cons (.var 5) .nil))) (.cons (.var 6) .nil))) (.call 14 0 (.cons (.var 4) (.cons (.call 14 0 (.cons (.var 5) (.cons (.var 6) .nil))) .nil))))) (.cons (.ret (.bl false)) .nil) .nil) (.cons (.ifs (.or (.val (.cmp .NotEq (.call 15 0 (.cons (.var 8) .nil)) (.call 14 0 (.cons (.call 15 0 (.cons (.var 5) .nil)) (.cons (.var 7) .nil))))) (.val (.cmp .NotEq (.call 14 0 (.cons (.var 2) (.cons (.var 4) .nil))) (.var 4)))) (.cons (.ret (.bl false)) .nil) .nil) (.cons (.asg (.nm 10) (.call 6 0 (.cons (.call 1 1 (.cons (.var 1) (.cons (.int 20) .nil))) (.cons (.bin .Sub (.int 0) (.call 1 1 (.cons (.var 1) (.cons (.int 20) .nil)))) (.cons (.bin .Add (.int 1) (.call 0 1 (.cons (.var 1) (.cons (.int 99) .nil)))) .nil))))) (.cons (.ifs (.val (.cmp .NotEq (.call 22 0 (.cons (.var 8) (.cons (.var 10) .nil))) (.call 22 0 (.cons (.var 5) (.cons (.call 22 0 (.cons (.var 4) (.cons (.var 10) .nil))) .nil))))) (.cons (.ret (.bl false)) .nil) .nil) .nil))))))))
def lawBody : FD := ⟨1, 13, (.cons (.asg (.nm 1) (.call 3 0 (.cons (.var 0) .nil))) (.cons (.asg (.nm 2) (.tup (.cons (.int 1) (.cons (.int 0) (.cons (.int 0) (.cons (.int 1) (.cons (.int 0) (.cons (.int 0) .nil)))))))) (.cons (.forr (.nm 3) (.rng1 (.int 20)) (.cons (.asg (.ltup (.cons (.nm 4) (.cons (.nm 5) (.cons (.nm 6) .nil)))) (.lc (.call 7 1 (.cons (.var 1) (.cons (.call 4 1 (.cons (.var 1) (.cons (.lst (.cons (.int 2) (.cons (.int 60) (.cons (.bin .Pow (.int 10) (.int 9)) .nil)))) .nil))) .nil))) [9] (.nm 9) (.rng1 (.int 3)) .nil)) (.cons (.ifs (.val (.cmp .Eq (.call 0 1 (.cons (.var 1) (.cons (.int 3) .nil))) (.int 0))) (.cons (.asg (.nm 4) (.call 14 0 (.cons (.var 4) (.cons (.tup (.cons (.int 1) (.cons (.call 1 1 (.cons (.var 1) (.cons (.int 9) .nil))) (.cons (.int 0) (.cons (.int 1) (.cons (.int 0) (.cons (.int 0) .nil))))))) .nil)))) .nil) .nil) lawRest))) (.cons (.ret (.bl true)) .nil))))⟩
theorem law_body : f_law = lawBody := rfl
theorem new_step {Φ : Fns} {f : Nat} {xs : List D} {Q : D → Mem → Prop} {E : EX} {v : D} {w : Mem} (h : Φ f xs [] = .ok v w) (hw : w.length ≠ 0) (ha : D.lts 0 xs = true) (q : Q v w) : Called Φ f 0 xs [] Q E := by
  unfold Called
  rw [List.take_zero, ha, h]
  refine ⟨rfl, .ok ?_⟩
  rw [if_neg hw]
  exact ⟨rfl, q⟩
theorem bg {m : Mp} {k : Nat} (h : Mx k m) (l : k ≤ 1000) : Mx 1000 m := h.mono l
theorem rest_ok {K : Ks} {B : Nat} {μ : Mem} {m1 m2 m3 : Mp} {o0 o3 o7 o8 o9 o10 o11 o12 : Option D} (h1 : T1 m1) (h2 : T0 m2) (h3 : T0 m3) (hp : Pen B μ) (hB : B < 2 ^ 40)
    (hK : ∀ o7 o8 o9 o10 o11 o12 μ', Pen (B + 49) μ' → K.nx [o0, some (.ref 0), some (M6 1 0 0 1 0 0), o3, some m1.D, some m2.D, some m3.D, o7, o8, o9, o10, o11, o12] μ') :
    (evSs (phi L23) lawRest [o0, some (.ref 0), some (M6 1 0 0 1 0 0), o3, some m1.D, some m2.D, some m3.D, o7, o8, o9, o10, o11, o12] μ).wp K := by
  have u1 : m1.uni := h1.1
  have u2 : m2.uni := h2.1
  have u3 : m3.uni := h3.1
  have x1 := h1.mx
  have x2 := h2.up.mx
  have x3 := h3.up.mx
  have xb := Mx.inv u1 x1
  have ub := inv_uni u1
  have xi2 := Mx.inv u2 x2
  have ui2 := inv_uni u2
  have x12 := Mx.cmp x1 x2
  have u12 := cmp_uni u1 u2
  have x23 := Mx.cmp x2 x3
  have u23 := cmp_uni u2 u3
  obtain ⟨t1, ht1⟩ := repr6 (bg x1 (by decide))
  unfold lawRest
  repeat (first | ((with_reducible refine pg_turn ?_ ?_); rfl) | ((with_reducible refine pg_left ?_ ?_); rfl) | ((with_reducible refine pg_cells ?_ ?_); rfl) | ((with_reducible refine ps_turn ?_ ?_); rfl) | ((with_reducible refine ps_left ?_ ?_); rfl) | ((with_reducible refine w_var.mpr ?_); refine ⟨_, rfl, ?_⟩) | with_reducible refine wp_ok.mpr ?_ | with_reducible refine w_int.mpr ?_ | with_reducible refine w_bl.mpr ?_ | with_reducible refine w_non.mpr ?_ | with_reducible refine w_str.mpr ?_ | with_reducible refine w_glob.mpr ?_ | with_reducible refine w_chain.mpr ?_ | with_reducible refine w_ite.mpr ?_ | with_reducible refine w_esn.mpr ?_ | with_reducible refine w_esc.mpr ?_ | with_reducible refine w_tnot.mpr ?_ | with_reducible refine w_tand.mpr ?_ | with_reducible refine w_tor.mpr ?_ | with_reducible refine w_cn.mpr ?_ | with_reducible refine w_c1.mpr ?_ | with_reducible refine w_on.mpr ?_ | with_reducible refine w_rng2.mpr ?_ | with_reducible refine w_gnm.mpr ?_ | with_reducible refine w_kn.mpr ?_ | with_reducible refine w_kc.mpr ?_ | with_reducible refine w_asg.mpr ?_ | with_reducible refine w_par2.mpr ?_ | with_reducible refine w_expr.mpr ?_ | with_reducible refine w_ifs.mpr ?_ | with_reducible refine w_brk.mpr ?_ | with_reducible refine w_cnt.mpr ?_ | with_reducible refine w_pass.mpr ?_ | with_reducible refine w_raise.mpr ?_ | with_reducible refine w_sn.mpr ?_ | with_reducible refine w_sc.mpr ?_ | with_reducible refine w_call.mpr ?_ | with_reducible refine w_and.mpr ?_ | with_reducible refine w_or.mpr ?_ | with_reducible refine w_not.mpr ?_ | with_reducible refine w_neg.mpr ?_ | with_reducible refine w_dget.mpr ?_ | with_reducible refine w_dset.mpr ?_ | with_reducible refine w_gtup.mpr ?_ | with_reducible refine w_gltup.mpr ?_ | with_reducible refine w_gsn.mpr (And.intro rfl ?_) | with_reducible refine w_gsc.mpr ?_ | with_reducible refine w_ilst.mpr ?_ | with_reducible refine w_itup.mpr ?_ | with_reducible refine w_blt.mpr ?_ | with_reducible refine w_isi.mpr ?_ | with_reducible refine w_os.mpr ?_ | with_reducible refine w_idx.mpr ?_ | with_reducible refine w_slc.mpr ?_ | with_reducible refine w_bin.mpr ?_ | with_reducible refine w_cmp.mpr ?_ | with_reducible refine w_tval.mpr ?_ | with_reducible refine w_forr.mpr ?_ | with_reducible refine w_whl.mpr ?_ | with_reducible refine w_lc.mpr ?_ | with_reducible refine w_ret.mpr ?_ | with_reducible refine w_retN.mpr ?_ | (with_reducible refine w_tup.mpr ?_) | (with_reducible refine w_lst.mpr ?_) | (with_reducible refine b_mul.mpr (And.symm ⟨?_, by first | exact mulOk_l (by omega) (by omega) | exact mulOk_r (by omega) (by omega) | exact mulOk_bd (a := 1000) (b := 1000) (by assumption) (by assumption) (by decide) (by decide) (by decide) | assumption⟩)) | (with_reducible refine b_mod.mpr (And.symm ⟨?_, by first | omega | assumption⟩)) | (with_reducible refine b_div.mpr (And.symm ⟨?_, by first | exact divOk_of (by omega) (by omega) | assumption⟩)) | (with_reducible refine b_pow.mpr ⟨by decide, ?_⟩) | refine ⟨_, rfl, Eq.refl (penM _ _ _), ?_⟩ | refine ⟨_, rfl, ⟨by omega, by omega⟩, ?_⟩ | refine ⟨_, rfl, ?_⟩ | refine ⟨_, _, rfl, ?_⟩ | refine ⟨_, _, _, rfl, rfl, rfl, ?_⟩ | refine ⟨_, _, rfl, rfl, of_decide_eq_true rfl, ?_⟩ | refine ⟨_, ne_nil _, ?_⟩ | ((with_reducible refine lenOk ?_ ?_); rfl) | refine ⟨_, rfl, rfl, ?_⟩ | with_reducible refine w_rng1.mpr ?_ | with_reducible refine w_rng2.mpr ?_ | ((with_reducible refine ifT ?_ ?_); rfl) | ((with_reducible refine ifF ?_ ?_); rfl))
  refine pure_step (a_inverse m1 (bg x1 (by decide)) u1) rfl ?_
  repeat (first | ((with_reducible refine pg_turn ?_ ?_); rfl) | ((with_reducible refine pg_left ?_ ?_); rfl) | ((with_reducible refine pg_cells ?_ ?_); rfl) | ((with_reducible refine ps_turn ?_ ?_); rfl) | ((with_reducible refine ps_left ?_ ?_); rfl) | ((with_reducible refine w_var.mpr ?_); refine ⟨_, rfl, ?_⟩) | with_reducible refine wp_ok.mpr ?_ | with_reducible refine w_int.mpr ?_ | with_reducible refine w_bl.mpr ?_ | with_reducible refine w_non.mpr ?_ | with_reducible refine w_str.mpr ?_ | with_reducible refine w_glob.mpr ?_ | with_reducible refine w_chain.mpr ?_ | with_reducible refine w_ite.mpr ?_ | with_reducible refine w_esn.mpr ?_ | with_reducible refine w_esc.mpr ?_ | with_reducible refine w_tnot.mpr ?_ | with_reducible refine w_tand.mpr ?_ | with_reducible refine w_tor.mpr ?_ | with_reducible refine w_cn.mpr ?_ | with_reducible refine w_c1.mpr ?_ | with_reducible refine w_on.mpr ?_ | with_reducible refine w_rng2.mpr ?_ | with_reducible refine w_gnm.mpr ?_ | with_reducible refine w_kn.mpr ?_ | with_reducible refine w_kc.mpr ?_ | with_reducible refine w_asg.mpr ?_ | with_reducible refine w_par2.mpr ?_ | with_reducible refine w_expr.mpr ?_ | with_reducible refine w_ifs.mpr ?_ | with_reducible refine w_brk.mpr ?_ | with_reducible refine w_cnt.mpr ?_ | with_reducible refine w_pass.mpr ?_ | with_reducible refine w_raise.mpr ?_ | with_reducible refine w_sn.mpr ?_ | with_reducible refine w_sc.mpr ?_ | with_reducible refine w_call.mpr ?_ | with_reducible refine w_and.mpr ?_ | with_reducible refine w_or.mpr ?_ | with_reducible refine w_not.mpr ?_ | with_reducible refine w_neg.mpr ?_ | with_reducible refine w_dget.mpr ?_ | with_reducible refine w_dset.mpr ?_ | with_reducible refine w_gtup.mpr ?_ | with_reducible refine w_gltup.mpr ?_ | with_reducible refine w_gsn.mpr (And.intro rfl ?_) | with_reducible refine w_gsc.mpr ?_ | with_reducible refine w_ilst.mpr ?_ | with_reducible refine w_itup.mpr ?_ | with_reducible refine w_blt.mpr ?_ | with_reducible refine w_isi.mpr ?_ | with_reducible refine w_os.mpr ?_ | with_reducible refine w_idx.mpr ?_ | with_reducible refine w_slc.mpr ?_ | with_reducible refine w_bin.mpr ?_ | with_reducible refine w_cmp.mpr ?_ | with_reducible refine w_tval.mpr ?_ | with_reducible refine w_forr.mpr ?_ | with_reducible refine w_whl.mpr ?_ | with_reducible refine w_lc.mpr ?_ | with_reducible refine w_ret.mpr ?_ | with_reducible refine w_retN.mpr ?_ | (with_reducible refine w_tup.mpr ?_) | (with_reducible refine w_lst.mpr ?_) | (with_reducible refine b_mul.mpr (And.symm ⟨?_, by first | exact mulOk_l (by omega) (by omega) | exact mulOk_r (by omega) (by omega) | exact mulOk_bd (a := 1000) (b := 1000) (by assumption) (by assumption) (by decide) (by decide) (by decide) | assumption⟩)) | (with_reducible refine b_mod.mpr (And.symm ⟨?_, by first | omega | assumption⟩)) | (with_reducible refine b_div.mpr (And.symm ⟨?_, by first | exact divOk_of (by omega) (by omega) | assumption⟩)) | (with_reducible refine b_pow.mpr ⟨by decide, ?_⟩) | refine ⟨_, rfl, Eq.refl (penM _ _ _), ?_⟩ | refine ⟨_, rfl, ⟨by omega, by omega⟩, ?_⟩ | refine ⟨_, rfl, ?_⟩ | refine ⟨_, _, rfl, ?_⟩ | refine ⟨_, _, _, rfl, rfl, rfl, ?_⟩ | refine ⟨_, _, rfl, rfl, of_decide_eq_true rfl, ?_⟩ | refine ⟨_, ne_nil _, ?_⟩ | ((with_reducible refine lenOk ?_ ?_); rfl) | refine ⟨_, rfl, rfl, ?_⟩ | with_reducible refine w_rng1.mpr ?_ | with_reducible refine w_rng2.mpr ?_ | ((with_reducible refine ifT ?_ ?_); rfl) | ((with_reducible refine ifF ?_ ?_); rfl))
  refine pure_step (v := M6 1 0 0 1 0 0) (by rw [a_compose m1 (inv m1) (bg x1 (by decide)) (bg xb (by decide)) u1 ub, cmp_inv u1]; rfl) rfl ?_
  repeat (first | (with_reducible refine ⟨_, ne6 _ _ _ _ _ _, ?_⟩) | (with_reducible refine ⟨_, ne3 _ _ _, ?_⟩) | (with_reducible refine ⟨_, ne2 _ _, ?_⟩) | (with_reducible refine ⟨_, ne_str _, ?_⟩) | ((with_reducible refine pg_turn ?_ ?_); rfl) | ((with_reducible refine pg_left ?_ ?_); rfl) | ((with_reducible refine pg_cells ?_ ?_); rfl) | ((with_reducible refine ps_turn ?_ ?_); rfl) | ((with_reducible refine ps_left ?_ ?_); rfl) | ((with_reducible refine w_var.mpr ?_); refine ⟨_, rfl, ?_⟩) | with_reducible refine wp_ok.mpr ?_ | with_reducible refine w_int.mpr ?_ | with_reducible refine w_bl.mpr ?_ | with_reducible refine w_non.mpr ?_ | with_reducible refine w_str.mpr ?_ | with_reducible refine w_glob.mpr ?_ | with_reducible refine w_chain.mpr ?_ | with_reducible refine w_ite.mpr ?_ | with_reducible refine w_esn.mpr ?_ | with_reducible refine w_esc.mpr ?_ | with_reducible refine w_tnot.mpr ?_ | with_reducible refine w_tand.mpr ?_ | with_reducible refine w_tor.mpr ?_ | with_reducible refine w_cn.mpr ?_ | with_reducible refine w_c1.mpr ?_ | with_reducible refine w_on.mpr ?_ | with_reducible refine w_rng2.mpr ?_ | with_reducible refine w_gnm.mpr ?_ | with_reducible refine w_kn.mpr ?_ | with_reducible refine w_kc.mpr ?_ | with_reducible refine w_asg.mpr ?_ | with_reducible refine w_par2.mpr ?_ | with_reducible refine w_expr.mpr ?_ | with_reducible refine w_ifs.mpr ?_ | with_reducible refine w_brk.mpr ?_ | with_reducible refine w_cnt.mpr ?_ | with_reducible refine w_pass.mpr ?_ | with_reducible refine w_raise.mpr ?_ | with_reducible refine w_sn.mpr ?_ | with_reducible refine w_sc.mpr ?_ | with_reducible refine w_call.mpr ?_ | with_reducible refine w_and.mpr ?_ | with_reducible refine w_or.mpr ?_ | with_reducible refine w_not.mpr ?_ | with_reducible refine w_neg.mpr ?_ | with_reducible refine w_dget.mpr ?_ | with_reducible refine w_dset.mpr ?_ | with_reducible refine w_gtup.mpr ?_ | with_reducible refine w_gltup.mpr ?_ | with_reducible refine w_gsn.mpr (And.intro rfl ?_) | with_reducible refine w_gsc.mpr ?_ | with_reducible refine w_ilst.mpr ?_ | with_reducible refine w_itup.mpr ?_ | with_reducible refine w_blt.mpr ?_ | with_reducible refine w_isi.mpr ?_ | with_reducible refine w_os.mpr ?_ | with_reducible refine w_idx.mpr ?_ | with_reducible refine w_slc.mpr ?_ | with_reducible refine w_bin.mpr ?_ | with_reducible refine w_cmp.mpr ?_ | with_reducible refine w_tval.mpr ?_ | with_reducible refine w_forr.mpr ?_ | with_reducible refine w_whl.mpr ?_ | with_reducible refine w_lc.mpr ?_ | with_reducible refine w_ret.mpr ?_ | with_reducible refine w_retN.mpr ?_ | (with_reducible refine w_tup.mpr ?_) | (with_reducible refine w_lst.mpr ?_) | (with_reducible refine b_mul.mpr (And.symm ⟨?_, by first | exact mulOk_l (by omega) (by omega) | exact mulOk_r (by omega) (by omega) | exact mulOk_bd (a := 1000) (b := 1000) (by assumption) (by assumption) (by decide) (by decide) (by decide) | assumption⟩)) | (with_reducible refine b_mod.mpr (And.symm ⟨?_, by first | omega | assumption⟩)) | (with_reducible refine b_div.mpr (And.symm ⟨?_, by first | exact divOk_of (by omega) (by omega) | assumption⟩)) | (with_reducible refine b_pow.mpr ⟨by decide, ?_⟩) | refine ⟨_, rfl, Eq.refl (penM _ _ _), ?_⟩ | refine ⟨_, rfl, ⟨by omega, by omega⟩, ?_⟩ | refine ⟨_, rfl, ?_⟩ | refine ⟨_, _, rfl, ?_⟩ | refine ⟨_, _, _, rfl, rfl, rfl, ?_⟩ | refine ⟨_, _, rfl, rfl, of_decide_eq_true rfl, ?_⟩ | refine ⟨_, ne_nil _, ?_⟩ | ((with_reducible refine lenOk ?_ ?_); rfl) | refine ⟨_, rfl, rfl, ?_⟩ | with_reducible refine w_rng1.mpr ?_ | with_reducible refine w_rng2.mpr ?_ | ((with_reducible refine ifT ?_ ?_); rfl) | ((with_reducible refine ifF ?_ ?_); rfl))
  refine pure_step (v := M6 1 0 0 1 0 0) (by rw [a_compose (inv m1) m1 (bg xb (by decide)) (bg x1 (by decide)) ub u1, inv_cmp u1]; rfl) rfl ?_
  repeat (first | (with_reducible refine ⟨_, ne6 _ _ _ _ _ _, ?_⟩) | (with_reducible refine ⟨_, ne3 _ _ _, ?_⟩) | (with_reducible refine ⟨_, ne2 _ _, ?_⟩) | (with_reducible refine ⟨_, ne_str _, ?_⟩) | ((with_reducible refine pg_turn ?_ ?_); rfl) | ((with_reducible refine pg_left ?_ ?_); rfl) | ((with_reducible refine pg_cells ?_ ?_); rfl) | ((with_reducible refine ps_turn ?_ ?_); rfl) | ((with_reducible refine ps_left ?_ ?_); rfl) | ((with_reducible refine w_var.mpr ?_); refine ⟨_, rfl, ?_⟩) | with_reducible refine wp_ok.mpr ?_ | with_reducible refine w_int.mpr ?_ | with_reducible refine w_bl.mpr ?_ | with_reducible refine w_non.mpr ?_ | with_reducible refine w_str.mpr ?_ | with_reducible refine w_glob.mpr ?_ | with_reducible refine w_chain.mpr ?_ | with_reducible refine w_ite.mpr ?_ | with_reducible refine w_esn.mpr ?_ | with_reducible refine w_esc.mpr ?_ | with_reducible refine w_tnot.mpr ?_ | with_reducible refine w_tand.mpr ?_ | with_reducible refine w_tor.mpr ?_ | with_reducible refine w_cn.mpr ?_ | with_reducible refine w_c1.mpr ?_ | with_reducible refine w_on.mpr ?_ | with_reducible refine w_rng2.mpr ?_ | with_reducible refine w_gnm.mpr ?_ | with_reducible refine w_kn.mpr ?_ | with_reducible refine w_kc.mpr ?_ | with_reducible refine w_asg.mpr ?_ | with_reducible refine w_par2.mpr ?_ | with_reducible refine w_expr.mpr ?_ | with_reducible refine w_ifs.mpr ?_ | with_reducible refine w_brk.mpr ?_ | with_reducible refine w_cnt.mpr ?_ | with_reducible refine w_pass.mpr ?_ | with_reducible refine w_raise.mpr ?_ | with_reducible refine w_sn.mpr ?_ | with_reducible refine w_sc.mpr ?_ | with_reducible refine w_call.mpr ?_ | with_reducible refine w_and.mpr ?_ | with_reducible refine w_or.mpr ?_ | with_reducible refine w_not.mpr ?_ | with_reducible refine w_neg.mpr ?_ | with_reducible refine w_dget.mpr ?_ | with_reducible refine w_dset.mpr ?_ | with_reducible refine w_gtup.mpr ?_ | with_reducible refine w_gltup.mpr ?_ | with_reducible refine w_gsn.mpr (And.intro rfl ?_) | with_reducible refine w_gsc.mpr ?_ | with_reducible refine w_ilst.mpr ?_ | with_reducible refine w_itup.mpr ?_ | with_reducible refine w_blt.mpr ?_ | with_reducible refine w_isi.mpr ?_ | with_reducible refine w_os.mpr ?_ | with_reducible refine w_idx.mpr ?_ | with_reducible refine w_slc.mpr ?_ | with_reducible refine w_bin.mpr ?_ | with_reducible refine w_cmp.mpr ?_ | with_reducible refine w_tval.mpr ?_ | with_reducible refine w_forr.mpr ?_ | with_reducible refine w_whl.mpr ?_ | with_reducible refine w_lc.mpr ?_ | with_reducible refine w_ret.mpr ?_ | with_reducible refine w_retN.mpr ?_ | (with_reducible refine w_tup.mpr ?_) | (with_reducible refine w_lst.mpr ?_) | (with_reducible refine b_mul.mpr (And.symm ⟨?_, by first | exact mulOk_l (by omega) (by omega) | exact mulOk_r (by omega) (by omega) | exact mulOk_bd (a := 1000) (b := 1000) (by assumption) (by assumption) (by decide) (by decide) (by decide) | assumption⟩)) | (with_reducible refine b_mod.mpr (And.symm ⟨?_, by first | omega | assumption⟩)) | (with_reducible refine b_div.mpr (And.symm ⟨?_, by first | exact divOk_of (by omega) (by omega) | assumption⟩)) | (with_reducible refine b_pow.mpr ⟨by decide, ?_⟩) | refine ⟨_, rfl, Eq.refl (penM _ _ _), ?_⟩ | refine ⟨_, rfl, ⟨by omega, by omega⟩, ?_⟩ | refine ⟨_, rfl, ?_⟩ | refine ⟨_, _, rfl, ?_⟩ | refine ⟨_, _, _, rfl, rfl, rfl, ?_⟩ | refine ⟨_, _, rfl, rfl, of_decide_eq_true rfl, ?_⟩ | refine ⟨_, ne_nil _, ?_⟩ | ((with_reducible refine lenOk ?_ ?_); rfl) | refine ⟨_, rfl, rfl, ?_⟩ | with_reducible refine w_rng1.mpr ?_ | with_reducible refine w_rng2.mpr ?_ | ((with_reducible refine ifT ?_ ?_); rfl) | ((with_reducible refine ifF ?_ ?_); rfl))
  refine pure_step (v := m1.D) (by rw [a_inverse (inv m1) (bg xb (by decide)) ub, inv_inv u1]) rfl ?_
  repeat (first | (with_reducible refine ⟨_, ne6 _ _ _ _ _ _, ?_⟩) | (with_reducible refine ⟨_, ne3 _ _ _, ?_⟩) | (with_reducible refine ⟨_, ne2 _ _, ?_⟩) | (with_reducible refine ⟨_, ne_str _, ?_⟩) | ((with_reducible refine pg_turn ?_ ?_); rfl) | ((with_reducible refine pg_left ?_ ?_); rfl) | ((with_reducible refine pg_cells ?_ ?_); rfl) | ((with_reducible refine ps_turn ?_ ?_); rfl) | ((with_reducible refine ps_left ?_ ?_); rfl) | ((with_reducible refine w_var.mpr ?_); refine ⟨_, rfl, ?_⟩) | with_reducible refine wp_ok.mpr ?_ | with_reducible refine w_int.mpr ?_ | with_reducible refine w_bl.mpr ?_ | with_reducible refine w_non.mpr ?_ | with_reducible refine w_str.mpr ?_ | with_reducible refine w_glob.mpr ?_ | with_reducible refine w_chain.mpr ?_ | with_reducible refine w_ite.mpr ?_ | with_reducible refine w_esn.mpr ?_ | with_reducible refine w_esc.mpr ?_ | with_reducible refine w_tnot.mpr ?_ | with_reducible refine w_tand.mpr ?_ | with_reducible refine w_tor.mpr ?_ | with_reducible refine w_cn.mpr ?_ | with_reducible refine w_c1.mpr ?_ | with_reducible refine w_on.mpr ?_ | with_reducible refine w_rng2.mpr ?_ | with_reducible refine w_gnm.mpr ?_ | with_reducible refine w_kn.mpr ?_ | with_reducible refine w_kc.mpr ?_ | with_reducible refine w_asg.mpr ?_ | with_reducible refine w_par2.mpr ?_ | with_reducible refine w_expr.mpr ?_ | with_reducible refine w_ifs.mpr ?_ | with_reducible refine w_brk.mpr ?_ | with_reducible refine w_cnt.mpr ?_ | with_reducible refine w_pass.mpr ?_ | with_reducible refine w_raise.mpr ?_ | with_reducible refine w_sn.mpr ?_ | with_reducible refine w_sc.mpr ?_ | with_reducible refine w_call.mpr ?_ | with_reducible refine w_and.mpr ?_ | with_reducible refine w_or.mpr ?_ | with_reducible refine w_not.mpr ?_ | with_reducible refine w_neg.mpr ?_ | with_reducible refine w_dget.mpr ?_ | with_reducible refine w_dset.mpr ?_ | with_reducible refine w_gtup.mpr ?_ | with_reducible refine w_gltup.mpr ?_ | with_reducible refine w_gsn.mpr (And.intro rfl ?_) | with_reducible refine w_gsc.mpr ?_ | with_reducible refine w_ilst.mpr ?_ | with_reducible refine w_itup.mpr ?_ | with_reducible refine w_blt.mpr ?_ | with_reducible refine w_isi.mpr ?_ | with_reducible refine w_os.mpr ?_ | with_reducible refine w_idx.mpr ?_ | with_reducible refine w_slc.mpr ?_ | with_reducible refine w_bin.mpr ?_ | with_reducible refine w_cmp.mpr ?_ | with_reducible refine w_tval.mpr ?_ | with_reducible refine w_forr.mpr ?_ | with_reducible refine w_whl.mpr ?_ | with_reducible refine w_lc.mpr ?_ | with_reducible refine w_ret.mpr ?_ | with_reducible refine w_retN.mpr ?_ | (with_reducible refine w_tup.mpr ?_) | (with_reducible refine w_lst.mpr ?_) | (with_reducible refine b_mul.mpr (And.symm ⟨?_, by first | exact mulOk_l (by omega) (by omega) | exact mulOk_r (by omega) (by omega) | exact mulOk_bd (a := 1000) (b := 1000) (by assumption) (by assumption) (by decide) (by decide) (by decide) | assumption⟩)) | (with_reducible refine b_mod.mpr (And.symm ⟨?_, by first | omega | assumption⟩)) | (with_reducible refine b_div.mpr (And.symm ⟨?_, by first | exact divOk_of (by omega) (by omega) | assumption⟩)) | (with_reducible refine b_pow.mpr ⟨by decide, ?_⟩) | refine ⟨_, rfl, Eq.refl (penM _ _ _), ?_⟩ | refine ⟨_, rfl, ⟨by omega, by omega⟩, ?_⟩ | refine ⟨_, rfl, ?_⟩ | refine ⟨_, _, rfl, ?_⟩ | refine ⟨_, _, _, rfl, rfl, rfl, ?_⟩ | refine ⟨_, _, rfl, rfl, of_decide_eq_true rfl, ?_⟩ | refine ⟨_, ne_nil _, ?_⟩ | ((with_reducible refine lenOk ?_ ?_); rfl) | refine ⟨_, rfl, rfl, ?_⟩ | with_reducible refine w_rng1.mpr ?_ | with_reducible refine w_rng2.mpr ?_ | ((with_reducible refine ifT ?_ ?_); rfl) | ((with_reducible refine ifF ?_ ?_); rfl))
  have rp : ∀ μ : Mem, bltD μ .repr [m1.D] = some (.str t1) := fun μ => by
    show (reprD m1.D).map D.str = _
    rw [ht1]; rfl
  refine ⟨_, rp _, ?_⟩
  repeat (first | (with_reducible refine ⟨_, ne6 _ _ _ _ _ _, ?_⟩) | (with_reducible refine ⟨_, ne3 _ _ _, ?_⟩) | (with_reducible refine ⟨_, ne2 _ _, ?_⟩) | (with_reducible refine ⟨_, ne_str _, ?_⟩) | ((with_reducible refine pg_turn ?_ ?_); rfl) | ((with_reducible refine pg_left ?_ ?_); rfl) | ((with_reducible refine pg_cells ?_ ?_); rfl) | ((with_reducible refine ps_turn ?_ ?_); rfl) | ((with_reducible refine ps_left ?_ ?_); rfl) | ((with_reducible refine w_var.mpr ?_); refine ⟨_, rfl, ?_⟩) | with_reducible refine wp_ok.mpr ?_ | with_reducible refine w_int.mpr ?_ | with_reducible refine w_bl.mpr ?_ | with_reducible refine w_non.mpr ?_ | with_reducible refine w_str.mpr ?_ | with_reducible refine w_glob.mpr ?_ | with_reducible refine w_chain.mpr ?_ | with_reducible refine w_ite.mpr ?_ | with_reducible refine w_esn.mpr ?_ | with_reducible refine w_esc.mpr ?_ | with_reducible refine w_tnot.mpr ?_ | with_reducible refine w_tand.mpr ?_ | with_reducible refine w_tor.mpr ?_ | with_reducible refine w_cn.mpr ?_ | with_reducible refine w_c1.mpr ?_ | with_reducible refine w_on.mpr ?_ | with_reducible refine w_rng2.mpr ?_ | with_reducible refine w_gnm.mpr ?_ | with_reducible refine w_kn.mpr ?_ | with_reducible refine w_kc.mpr ?_ | with_reducible refine w_asg.mpr ?_ | with_reducible refine w_par2.mpr ?_ | with_reducible refine w_expr.mpr ?_ | with_reducible refine w_ifs.mpr ?_ | with_reducible refine w_brk.mpr ?_ | with_reducible refine w_cnt.mpr ?_ | with_reducible refine w_pass.mpr ?_ | with_reducible refine w_raise.mpr ?_ | with_reducible refine w_sn.mpr ?_ | with_reducible refine w_sc.mpr ?_ | with_reducible refine w_call.mpr ?_ | with_reducible refine w_and.mpr ?_ | with_reducible refine w_or.mpr ?_ | with_reducible refine w_not.mpr ?_ | with_reducible refine w_neg.mpr ?_ | with_reducible refine w_dget.mpr ?_ | with_reducible refine w_dset.mpr ?_ | with_reducible refine w_gtup.mpr ?_ | with_reducible refine w_gltup.mpr ?_ | with_reducible refine w_gsn.mpr (And.intro rfl ?_) | with_reducible refine w_gsc.mpr ?_ | with_reducible refine w_ilst.mpr ?_ | with_reducible refine w_itup.mpr ?_ | with_reducible refine w_blt.mpr ?_ | with_reducible refine w_isi.mpr ?_ | with_reducible refine w_os.mpr ?_ | with_reducible refine w_idx.mpr ?_ | with_reducible refine w_slc.mpr ?_ | with_reducible refine w_bin.mpr ?_ | with_reducible refine w_cmp.mpr ?_ | with_reducible refine w_tval.mpr ?_ | with_reducible refine w_forr.mpr ?_ | with_reducible refine w_whl.mpr ?_ | with_reducible refine w_lc.mpr ?_ | with_reducible refine w_ret.mpr ?_ | with_reducible refine w_retN.mpr ?_ | (with_reducible refine w_tup.mpr ?_) | (with_reducible refine w_lst.mpr ?_) | (with_reducible refine b_mul.mpr (And.symm ⟨?_, by first | exact mulOk_l (by omega) (by omega) | exact mulOk_r (by omega) (by omega) | exact mulOk_bd (a := 1000) (b := 1000) (by assumption) (by assumption) (by decide) (by decide) (by decide) | assumption⟩)) | (with_reducible refine b_mod.mpr (And.symm ⟨?_, by first | omega | assumption⟩)) | (with_reducible refine b_div.mpr (And.symm ⟨?_, by first | exact divOk_of (by omega) (by omega) | assumption⟩)) | (with_reducible refine b_pow.mpr ⟨by decide, ?_⟩) | refine ⟨_, rfl, Eq.refl (penM _ _ _), ?_⟩ | refine ⟨_, rfl, ⟨by omega, by omega⟩, ?_⟩ | refine ⟨_, rfl, ?_⟩ | refine ⟨_, _, rfl, ?_⟩ | refine ⟨_, _, _, rfl, rfl, rfl, ?_⟩ | refine ⟨_, _, rfl, rfl, of_decide_eq_true rfl, ?_⟩ | refine ⟨_, ne_nil _, ?_⟩ | ((with_reducible refine lenOk ?_ ?_); rfl) | refine ⟨_, rfl, rfl, ?_⟩ | with_reducible refine w_rng1.mpr ?_ | with_reducible refine w_rng2.mpr ?_ | ((with_reducible refine ifT ?_ ?_); rfl) | ((with_reducible refine ifF ?_ ?_); rfl))
  refine ⟨_, rp _, ?_⟩
  repeat (first | (with_reducible refine ⟨_, ne6 _ _ _ _ _ _, ?_⟩) | (with_reducible refine ⟨_, ne3 _ _ _, ?_⟩) | (with_reducible refine ⟨_, ne2 _ _, ?_⟩) | (with_reducible refine ⟨_, ne_str _, ?_⟩) | ((with_reducible refine pg_turn ?_ ?_); rfl) | ((with_reducible refine pg_left ?_ ?_); rfl) | ((with_reducible refine pg_cells ?_ ?_); rfl) | ((with_reducible refine ps_turn ?_ ?_); rfl) | ((with_reducible refine ps_left ?_ ?_); rfl) | ((with_reducible refine w_var.mpr ?_); refine ⟨_, rfl, ?_⟩) | with_reducible refine wp_ok.mpr ?_ | with_reducible refine w_int.mpr ?_ | with_reducible refine w_bl.mpr ?_ | with_reducible refine w_non.mpr ?_ | with_reducible refine w_str.mpr ?_ | with_reducible refine w_glob.mpr ?_ | with_reducible refine w_chain.mpr ?_ | with_reducible refine w_ite.mpr ?_ | with_reducible refine w_esn.mpr ?_ | with_reducible refine w_esc.mpr ?_ | with_reducible refine w_tnot.mpr ?_ | with_reducible refine w_tand.mpr ?_ | with_reducible refine w_tor.mpr ?_ | with_reducible refine w_cn.mpr ?_ | with_reducible refine w_c1.mpr ?_ | with_reducible refine w_on.mpr ?_ | with_reducible refine w_rng2.mpr ?_ | with_reducible refine w_gnm.mpr ?_ | with_reducible refine w_kn.mpr ?_ | with_reducible refine w_kc.mpr ?_ | with_reducible refine w_asg.mpr ?_ | with_reducible refine w_par2.mpr ?_ | with_reducible refine w_expr.mpr ?_ | with_reducible refine w_ifs.mpr ?_ | with_reducible refine w_brk.mpr ?_ | with_reducible refine w_cnt.mpr ?_ | with_reducible refine w_pass.mpr ?_ | with_reducible refine w_raise.mpr ?_ | with_reducible refine w_sn.mpr ?_ | with_reducible refine w_sc.mpr ?_ | with_reducible refine w_call.mpr ?_ | with_reducible refine w_and.mpr ?_ | with_reducible refine w_or.mpr ?_ | with_reducible refine w_not.mpr ?_ | with_reducible refine w_neg.mpr ?_ | with_reducible refine w_dget.mpr ?_ | with_reducible refine w_dset.mpr ?_ | with_reducible refine w_gtup.mpr ?_ | with_reducible refine w_gltup.mpr ?_ | with_reducible refine w_gsn.mpr (And.intro rfl ?_) | with_reducible refine w_gsc.mpr ?_ | with_reducible refine w_ilst.mpr ?_ | with_reducible refine w_itup.mpr ?_ | with_reducible refine w_blt.mpr ?_ | with_reducible refine w_isi.mpr ?_ | with_reducible refine w_os.mpr ?_ | with_reducible refine w_idx.mpr ?_ | with_reducible refine w_slc.mpr ?_ | with_reducible refine w_bin.mpr ?_ | with_reducible refine w_cmp.mpr ?_ | with_reducible refine w_tval.mpr ?_ | with_reducible refine w_forr.mpr ?_ | with_reducible refine w_whl.mpr ?_ | with_reducible refine w_lc.mpr ?_ | with_reducible refine w_ret.mpr ?_ | with_reducible refine w_retN.mpr ?_ | (with_reducible refine w_tup.mpr ?_) | (with_reducible refine w_lst.mpr ?_) | (with_reducible refine b_mul.mpr (And.symm ⟨?_, by first | exact mulOk_l (by omega) (by omega) | exact mulOk_r (by omega) (by omega) | exact mulOk_bd (a := 1000) (b := 1000) (by assumption) (by assumption) (by decide) (by decide) (by decide) | assumption⟩)) | (with_reducible refine b_mod.mpr (And.symm ⟨?_, by first | omega | assumption⟩)) | (with_reducible refine b_div.mpr (And.symm ⟨?_, by first | exact divOk_of (by omega) (by omega) | assumption⟩)) | (with_reducible refine b_pow.mpr ⟨by decide, ?_⟩) | refine ⟨_, rfl, Eq.refl (penM _ _ _), ?_⟩ | refine ⟨_, rfl, ⟨by omega, by omega⟩, ?_⟩ | refine ⟨_, rfl, ?_⟩ | refine ⟨_, _, rfl, ?_⟩ | refine ⟨_, _, _, rfl, rfl, rfl, ?_⟩ | refine ⟨_, _, rfl, rfl, of_decide_eq_true rfl, ?_⟩ | refine ⟨_, ne_nil _, ?_⟩ | ((with_reducible refine lenOk ?_ ?_); rfl) | refine ⟨_, rfl, rfl, ?_⟩ | with_reducible refine w_rng1.mpr ?_ | with_reducible refine w_rng2.mpr ?_ | ((with_reducible refine ifT ?_ ?_); rfl) | ((with_reducible refine ifF ?_ ?_); rfl))
  refine pure_step (a_compose m1 m2 (bg x1 (by decide)) (bg x2 (by decide)) u1 u2) rfl ?_
  repeat (first | (with_reducible refine ⟨_, ne6 _ _ _ _ _ _, ?_⟩) | (with_reducible refine ⟨_, ne3 _ _ _, ?_⟩) | (with_reducible refine ⟨_, ne2 _ _, ?_⟩) | (with_reducible refine ⟨_, ne_str _, ?_⟩) | ((with_reducible refine pg_turn ?_ ?_); rfl) | ((with_reducible refine pg_left ?_ ?_); rfl) | ((with_reducible refine pg_cells ?_ ?_); rfl) | ((with_reducible refine ps_turn ?_ ?_); rfl) | ((with_reducible refine ps_left ?_ ?_); rfl) | ((with_reducible refine w_var.mpr ?_); refine ⟨_, rfl, ?_⟩) | with_reducible refine wp_ok.mpr ?_ | with_reducible refine w_int.mpr ?_ | with_reducible refine w_bl.mpr ?_ | with_reducible refine w_non.mpr ?_ | with_reducible refine w_str.mpr ?_ | with_reducible refine w_glob.mpr ?_ | with_reducible refine w_chain.mpr ?_ | with_reducible refine w_ite.mpr ?_ | with_reducible refine w_esn.mpr ?_ | with_reducible refine w_esc.mpr ?_ | with_reducible refine w_tnot.mpr ?_ | with_reducible refine w_tand.mpr ?_ | with_reducible refine w_tor.mpr ?_ | with_reducible refine w_cn.mpr ?_ | with_reducible refine w_c1.mpr ?_ | with_reducible refine w_on.mpr ?_ | with_reducible refine w_rng2.mpr ?_ | with_reducible refine w_gnm.mpr ?_ | with_reducible refine w_kn.mpr ?_ | with_reducible refine w_kc.mpr ?_ | with_reducible refine w_asg.mpr ?_ | with_reducible refine w_par2.mpr ?_ | with_reducible refine w_expr.mpr ?_ | with_reducible refine w_ifs.mpr ?_ | with_reducible refine w_brk.mpr ?_ | with_reducible refine w_cnt.mpr ?_ | with_reducible refine w_pass.mpr ?_ | with_reducible refine w_raise.mpr ?_ | with_reducible refine w_sn.mpr ?_ | with_reducible refine w_sc.mpr ?_ | with_reducible refine w_call.mpr ?_ | with_reducible refine w_and.mpr ?_ | with_reducible refine w_or.mpr ?_ | with_reducible refine w_not.mpr ?_ | with_reducible refine w_neg.mpr ?_ | with_reducible refine w_dget.mpr ?_ | with_reducible refine w_dset.mpr ?_ | with_reducible refine w_gtup.mpr ?_ | with_reducible refine w_gltup.mpr ?_ | with_reducible refine w_gsn.mpr (And.intro rfl ?_) | with_reducible refine w_gsc.mpr ?_ | with_reducible refine w_ilst.mpr ?_ | with_reducible refine w_itup.mpr ?_ | with_reducible refine w_blt.mpr ?_ | with_reducible refine w_isi.mpr ?_ | with_reducible refine w_os.mpr ?_ | with_reducible refine w_idx.mpr ?_ | with_reducible refine w_slc.mpr ?_ | with_reducible refine w_bin.mpr ?_ | with_reducible refine w_cmp.mpr ?_ | with_reducible refine w_tval.mpr ?_ | with_reducible refine w_forr.mpr ?_ | with_reducible refine w_whl.mpr ?_ | with_reducible refine w_lc.mpr ?_ | with_reducible refine w_ret.mpr ?_ | with_reducible refine w_retN.mpr ?_ | (with_reducible refine w_tup.mpr ?_) | (with_reducible refine w_lst.mpr ?_) | (with_reducible refine b_mul.mpr (And.symm ⟨?_, by first | exact mulOk_l (by omega) (by omega) | exact mulOk_r (by omega) (by omega) | exact mulOk_bd (a := 1000) (b := 1000) (by assumption) (by assumption) (by decide) (by decide) (by decide) | assumption⟩)) | (with_reducible refine b_mod.mpr (And.symm ⟨?_, by first | omega | assumption⟩)) | (with_reducible refine b_div.mpr (And.symm ⟨?_, by first | exact divOk_of (by omega) (by omega) | assumption⟩)) | (with_reducible refine b_pow.mpr ⟨by decide, ?_⟩) | refine ⟨_, rfl, Eq.refl (penM _ _ _), ?_⟩ | refine ⟨_, rfl, ⟨by omega, by omega⟩, ?_⟩ | refine ⟨_, rfl, ?_⟩ | refine ⟨_, _, rfl, ?_⟩ | refine ⟨_, _, _, rfl, rfl, rfl, ?_⟩ | refine ⟨_, _, rfl, rfl, of_decide_eq_true rfl, ?_⟩ | refine ⟨_, ne_nil _, ?_⟩ | ((with_reducible refine lenOk ?_ ?_); rfl) | refine ⟨_, rfl, rfl, ?_⟩ | with_reducible refine w_rng1.mpr ?_ | with_reducible refine w_rng2.mpr ?_ | ((with_reducible refine ifT ?_ ?_); rfl) | ((with_reducible refine ifF ?_ ?_); rfl))
  refine for_wp (fun j ρ μ => ∃ o9 o11 o12, ρ = [o0, some (.ref 0), some (M6 1 0 0 1 0 0), o3, some m1.D, some m2.D, some m3.D, some (inv m1).D, some (cmp m1 m2).D, o9, o10, o11, o12] ∧ Pen (B + 2 * j) μ) ⟨o9, o11, o12, rfl, hp⟩ ?_ ?_
  · rintro j x ρ μ hx ⟨o9, o11, o12, rfl, hpj⟩
    have hj : j < 4 := (List.getElem?_eq_some_iff.mp hx).1
    repeat (first | ((with_reducible refine pg_turn ?_ ?_); rfl) | ((with_reducible refine pg_left ?_ ?_); rfl) | ((with_reducible refine pg_cells ?_ ?_); rfl) | ((with_reducible refine ps_turn ?_ ?_); rfl) | ((with_reducible refine ps_left ?_ ?_); rfl) | ((with_reducible refine w_var.mpr ?_); refine ⟨_, rfl, ?_⟩) | with_reducible refine wp_ok.mpr ?_ | with_reducible refine w_int.mpr ?_ | with_reducible refine w_bl.mpr ?_ | with_reducible refine w_non.mpr ?_ | with_reducible refine w_str.mpr ?_ | with_reducible refine w_glob.mpr ?_ | with_reducible refine w_chain.mpr ?_ | with_reducible refine w_ite.mpr ?_ | with_reducible refine w_esn.mpr ?_ | with_reducible refine w_esc.mpr ?_ | with_reducible refine w_tnot.mpr ?_ | with_reducible refine w_tand.mpr ?_ | with_reducible refine w_tor.mpr ?_ | with_reducible refine w_cn.mpr ?_ | with_reducible refine w_c1.mpr ?_ | with_reducible refine w_on.mpr ?_ | with_reducible refine w_rng2.mpr ?_ | with_reducible refine w_gnm.mpr ?_ | with_reducible refine w_kn.mpr ?_ | with_reducible refine w_kc.mpr ?_ | with_reducible refine w_asg.mpr ?_ | with_reducible refine w_par2.mpr ?_ | with_reducible refine w_expr.mpr ?_ | with_reducible refine w_ifs.mpr ?_ | with_reducible refine w_brk.mpr ?_ | with_reducible refine w_cnt.mpr ?_ | with_reducible refine w_pass.mpr ?_ | with_reducible refine w_raise.mpr ?_ | with_reducible refine w_sn.mpr ?_ | with_reducible refine w_sc.mpr ?_ | with_reducible refine w_call.mpr ?_ | with_reducible refine w_and.mpr ?_ | with_reducible refine w_or.mpr ?_ | with_reducible refine w_not.mpr ?_ | with_reducible refine w_neg.mpr ?_ | with_reducible refine w_dget.mpr ?_ | with_reducible refine w_dset.mpr ?_ | with_reducible refine w_gtup.mpr ?_ | with_reducible refine w_gltup.mpr ?_ | with_reducible refine w_gsn.mpr (And.intro rfl ?_) | with_reducible refine w_gsc.mpr ?_ | with_reducible refine w_ilst.mpr ?_ | with_reducible refine w_itup.mpr ?_ | with_reducible refine w_blt.mpr ?_ | with_reducible refine w_isi.mpr ?_ | with_reducible refine w_os.mpr ?_ | with_reducible refine w_idx.mpr ?_ | with_reducible refine w_slc.mpr ?_ | with_reducible refine w_bin.mpr ?_ | with_reducible refine w_cmp.mpr ?_ | with_reducible refine w_tval.mpr ?_ | with_reducible refine w_forr.mpr ?_ | with_reducible refine w_whl.mpr ?_ | with_reducible refine w_lc.mpr ?_ | with_reducible refine w_ret.mpr ?_ | with_reducible refine w_retN.mpr ?_ | (with_reducible refine w_tup.mpr ?_) | (with_reducible refine w_lst.mpr ?_) | (with_reducible refine b_mul.mpr (And.symm ⟨?_, by first | exact mulOk_l (by omega) (by omega) | exact mulOk_r (by omega) (by omega) | exact mulOk_bd (a := 1000) (b := 1000) (by assumption) (by assumption) (by decide) (by decide) (by decide) | assumption⟩)) | (with_reducible refine b_mod.mpr (And.symm ⟨?_, by first | omega | assumption⟩)) | (with_reducible refine b_div.mpr (And.symm ⟨?_, by first | exact divOk_of (by omega) (by omega) | assumption⟩)) | (with_reducible refine b_pow.mpr ⟨by decide, ?_⟩) | refine ⟨_, rfl, Eq.refl (penM _ _ _), ?_⟩ | refine ⟨_, rfl, ⟨by omega, by omega⟩, ?_⟩ | refine ⟨_, rfl, ?_⟩ | refine ⟨_, _, rfl, ?_⟩ | refine ⟨_, _, _, rfl, rfl, rfl, ?_⟩ | refine ⟨_, _, rfl, rfl, of_decide_eq_true rfl, ?_⟩ | refine ⟨_, ne_nil _, ?_⟩ | ((with_reducible refine lenOk ?_ ?_); rfl) | refine ⟨_, rfl, rfl, ?_⟩ | with_reducible refine w_rng1.mpr ?_ | with_reducible refine w_rng2.mpr ?_ | ((with_reducible refine ifT ?_ ?_); rfl) | ((with_reducible refine ifF ?_ ?_); rfl))
    refine pen_step hpj rfl (d_draw _ _ _ _ _ hpj (by decide) (by decide) (by omega) fun r μ2 r0 r1 hp2 => ⟨hp2.len, ?_⟩)
    repeat (first | ((with_reducible refine pg_turn ?_ ?_); rfl) | ((with_reducible refine pg_left ?_ ?_); rfl) | ((with_reducible refine pg_cells ?_ ?_); rfl) | ((with_reducible refine ps_turn ?_ ?_); rfl) | ((with_reducible refine ps_left ?_ ?_); rfl) | ((with_reducible refine w_var.mpr ?_); refine ⟨_, rfl, ?_⟩) | with_reducible refine wp_ok.mpr ?_ | with_reducible refine w_int.mpr ?_ | with_reducible refine w_bl.mpr ?_ | with_reducible refine w_non.mpr ?_ | with_reducible refine w_str.mpr ?_ | with_reducible refine w_glob.mpr ?_ | with_reducible refine w_chain.mpr ?_ | with_reducible refine w_ite.mpr ?_ | with_reducible refine w_esn.mpr ?_ | with_reducible refine w_esc.mpr ?_ | with_reducible refine w_tnot.mpr ?_ | with_reducible refine w_tand.mpr ?_ | with_reducible refine w_tor.mpr ?_ | with_reducible refine w_cn.mpr ?_ | with_reducible refine w_c1.mpr ?_ | with_reducible refine w_on.mpr ?_ | with_reducible refine w_rng2.mpr ?_ | with_reducible refine w_gnm.mpr ?_ | with_reducible refine w_kn.mpr ?_ | with_reducible refine w_kc.mpr ?_ | with_reducible refine w_asg.mpr ?_ | with_reducible refine w_par2.mpr ?_ | with_reducible refine w_expr.mpr ?_ | with_reducible refine w_ifs.mpr ?_ | with_reducible refine w_brk.mpr ?_ | with_reducible refine w_cnt.mpr ?_ | with_reducible refine w_pass.mpr ?_ | with_reducible refine w_raise.mpr ?_ | with_reducible refine w_sn.mpr ?_ | with_reducible refine w_sc.mpr ?_ | with_reducible refine w_call.mpr ?_ | with_reducible refine w_and.mpr ?_ | with_reducible refine w_or.mpr ?_ | with_reducible refine w_not.mpr ?_ | with_reducible refine w_neg.mpr ?_ | with_reducible refine w_dget.mpr ?_ | with_reducible refine w_dset.mpr ?_ | with_reducible refine w_gtup.mpr ?_ | with_reducible refine w_gltup.mpr ?_ | with_reducible refine w_gsn.mpr (And.intro rfl ?_) | with_reducible refine w_gsc.mpr ?_ | with_reducible refine w_ilst.mpr ?_ | with_reducible refine w_itup.mpr ?_ | with_reducible refine w_blt.mpr ?_ | with_reducible refine w_isi.mpr ?_ | with_reducible refine w_os.mpr ?_ | with_reducible refine w_idx.mpr ?_ | with_reducible refine w_slc.mpr ?_ | with_reducible refine w_bin.mpr ?_ | with_reducible refine w_cmp.mpr ?_ | with_reducible refine w_tval.mpr ?_ | with_reducible refine w_forr.mpr ?_ | with_reducible refine w_whl.mpr ?_ | with_reducible refine w_lc.mpr ?_ | with_reducible refine w_ret.mpr ?_ | with_reducible refine w_retN.mpr ?_ | (with_reducible refine w_tup.mpr ?_) | (with_reducible refine w_lst.mpr ?_) | (with_reducible refine b_mul.mpr (And.symm ⟨?_, by first | exact mulOk_l (by omega) (by omega) | exact mulOk_r (by omega) (by omega) | exact mulOk_bd (a := 1000) (b := 1000) (by assumption) (by assumption) (by decide) (by decide) (by decide) | assumption⟩)) | (with_reducible refine b_mod.mpr (And.symm ⟨?_, by first | omega | assumption⟩)) | (with_reducible refine b_div.mpr (And.symm ⟨?_, by first | exact divOk_of (by omega) (by omega) | assumption⟩)) | (with_reducible refine b_pow.mpr ⟨by decide, ?_⟩) | refine ⟨_, rfl, Eq.refl (penM _ _ _), ?_⟩ | refine ⟨_, rfl, ⟨by omega, by omega⟩, ?_⟩ | refine ⟨_, rfl, ?_⟩ | refine ⟨_, _, rfl, ?_⟩ | refine ⟨_, _, _, rfl, rfl, rfl, ?_⟩ | refine ⟨_, _, rfl, rfl, of_decide_eq_true rfl, ?_⟩ | refine ⟨_, ne_nil _, ?_⟩ | ((with_reducible refine lenOk ?_ ?_); rfl) | refine ⟨_, rfl, rfl, ?_⟩ | with_reducible refine w_rng1.mpr ?_ | with_reducible refine w_rng2.mpr ?_ | ((with_reducible refine ifT ?_ ?_); rfl) | ((with_reducible refine ifF ?_ ?_); rfl))
    refine pen_step hp2 rfl (d_draw _ _ _ _ _ hp2 (by decide) (by decide) (by omega) fun w μ3 w0 w1 hp3 => ⟨hp3.len, ?_⟩)
    repeat (first | ((with_reducible refine pg_turn ?_ ?_); rfl) | ((with_reducible refine pg_left ?_ ?_); rfl) | ((with_reducible refine pg_cells ?_ ?_); rfl) | ((with_reducible refine ps_turn ?_ ?_); rfl) | ((with_reducible refine ps_left ?_ ?_); rfl) | ((with_reducible refine w_var.mpr ?_); refine ⟨_, rfl, ?_⟩) | with_reducible refine wp_ok.mpr ?_ | with_reducible refine w_int.mpr ?_ | with_reducible refine w_bl.mpr ?_ | with_reducible refine w_non.mpr ?_ | with_reducible refine w_str.mpr ?_ | with_reducible refine w_glob.mpr ?_ | with_reducible refine w_chain.mpr ?_ | with_reducible refine w_ite.mpr ?_ | with_reducible refine w_esn.mpr ?_ | with_reducible refine w_esc.mpr ?_ | with_reducible refine w_tnot.mpr ?_ | with_reducible refine w_tand.mpr ?_ | with_reducible refine w_tor.mpr ?_ | with_reducible refine w_cn.mpr ?_ | with_reducible refine w_c1.mpr ?_ | with_reducible refine w_on.mpr ?_ | with_reducible refine w_rng2.mpr ?_ | with_reducible refine w_gnm.mpr ?_ | with_reducible refine w_kn.mpr ?_ | with_reducible refine w_kc.mpr ?_ | with_reducible refine w_asg.mpr ?_ | with_reducible refine w_par2.mpr ?_ | with_reducible refine w_expr.mpr ?_ | with_reducible refine w_ifs.mpr ?_ | with_reducible refine w_brk.mpr ?_ | with_reducible refine w_cnt.mpr ?_ | with_reducible refine w_pass.mpr ?_ | with_reducible refine w_raise.mpr ?_ | with_reducible refine w_sn.mpr ?_ | with_reducible refine w_sc.mpr ?_ | with_reducible refine w_call.mpr ?_ | with_reducible refine w_and.mpr ?_ | with_reducible refine w_or.mpr ?_ | with_reducible refine w_not.mpr ?_ | with_reducible refine w_neg.mpr ?_ | with_reducible refine w_dget.mpr ?_ | with_reducible refine w_dset.mpr ?_ | with_reducible refine w_gtup.mpr ?_ | with_reducible refine w_gltup.mpr ?_ | with_reducible refine w_gsn.mpr (And.intro rfl ?_) | with_reducible refine w_gsc.mpr ?_ | with_reducible refine w_ilst.mpr ?_ | with_reducible refine w_itup.mpr ?_ | with_reducible refine w_blt.mpr ?_ | with_reducible refine w_isi.mpr ?_ | with_reducible refine w_os.mpr ?_ | with_reducible refine w_idx.mpr ?_ | with_reducible refine w_slc.mpr ?_ | with_reducible refine w_bin.mpr ?_ | with_reducible refine w_cmp.mpr ?_ | with_reducible refine w_tval.mpr ?_ | with_reducible refine w_forr.mpr ?_ | with_reducible refine w_whl.mpr ?_ | with_reducible refine w_lc.mpr ?_ | with_reducible refine w_ret.mpr ?_ | with_reducible refine w_retN.mpr ?_ | (with_reducible refine w_tup.mpr ?_) | (with_reducible refine w_lst.mpr ?_) | (with_reducible refine b_mul.mpr (And.symm ⟨?_, by first | exact mulOk_l (by omega) (by omega) | exact mulOk_r (by omega) (by omega) | exact mulOk_bd (a := 1000) (b := 1000) (by assumption) (by assumption) (by decide) (by decide) (by decide) | assumption⟩)) | (with_reducible refine b_mod.mpr (And.symm ⟨?_, by first | omega | assumption⟩)) | (with_reducible refine b_div.mpr (And.symm ⟨?_, by first | exact divOk_of (by omega) (by omega) | assumption⟩)) | (with_reducible refine b_pow.mpr ⟨by decide, ?_⟩) | refine ⟨_, rfl, Eq.refl (penM _ _ _), ?_⟩ | refine ⟨_, rfl, ⟨by omega, by omega⟩, ?_⟩ | refine ⟨_, rfl, ?_⟩ | refine ⟨_, _, rfl, ?_⟩ | refine ⟨_, _, _, rfl, rfl, rfl, ?_⟩ | refine ⟨_, _, rfl, rfl, of_decide_eq_true rfl, ?_⟩ | refine ⟨_, ne_nil _, ?_⟩ | ((with_reducible refine lenOk ?_ ?_); rfl) | refine ⟨_, rfl, rfl, ?_⟩ | with_reducible refine w_rng1.mpr ?_ | with_reducible refine w_rng2.mpr ?_ | ((with_reducible refine ifT ?_ ?_); rfl) | ((with_reducible refine ifF ?_ ?_); rfl))
    have br : Bd 64 (r - 60) := by unfold Bd; omega
    have bw : Bd 64 (w - 60) := by unfold Bd; omega
    generalize r - 60 = X at *
    generalize w - 60 = Y at *
    have bX : BIG X := bd_mono br (by decide)
    have bY : BIG Y := bd_mono bw (by decide)
    have in1 : BIG (m1.a * X + m1.b * Y + m1.p) := bd_mono (bd_form x1.1 br x1.2.1 bw (bd_mono x1.2.2.2.2.1 (by decide))) (by decide)
    have in2 : BIG (m1.c * X + m1.d * Y + m1.q) := bd_mono (bd_form x1.2.2.1 br x1.2.2.2.1 bw (bd_mono x1.2.2.2.2.2 (by decide))) (by decide)
    repeat (first | ((with_reducible refine pg_turn ?_ ?_); rfl) | ((with_reducible refine pg_left ?_ ?_); rfl) | ((with_reducible refine pg_cells ?_ ?_); rfl) | ((with_reducible refine ps_turn ?_ ?_); rfl) | ((with_reducible refine ps_left ?_ ?_); rfl) | ((with_reducible refine w_var.mpr ?_); refine ⟨_, rfl, ?_⟩) | with_reducible refine wp_ok.mpr ?_ | with_reducible refine w_int.mpr ?_ | with_reducible refine w_bl.mpr ?_ | with_reducible refine w_non.mpr ?_ | with_reducible refine w_str.mpr ?_ | with_reducible refine w_glob.mpr ?_ | with_reducible refine w_chain.mpr ?_ | with_reducible refine w_ite.mpr ?_ | with_reducible refine w_esn.mpr ?_ | with_reducible refine w_esc.mpr ?_ | with_reducible refine w_tnot.mpr ?_ | with_reducible refine w_tand.mpr ?_ | with_reducible refine w_tor.mpr ?_ | with_reducible refine w_cn.mpr ?_ | with_reducible refine w_c1.mpr ?_ | with_reducible refine w_on.mpr ?_ | with_reducible refine w_rng2.mpr ?_ | with_reducible refine w_gnm.mpr ?_ | with_reducible refine w_kn.mpr ?_ | with_reducible refine w_kc.mpr ?_ | with_reducible refine w_asg.mpr ?_ | with_reducible refine w_par2.mpr ?_ | with_reducible refine w_expr.mpr ?_ | with_reducible refine w_ifs.mpr ?_ | with_reducible refine w_brk.mpr ?_ | with_reducible refine w_cnt.mpr ?_ | with_reducible refine w_pass.mpr ?_ | with_reducible refine w_raise.mpr ?_ | with_reducible refine w_sn.mpr ?_ | with_reducible refine w_sc.mpr ?_ | with_reducible refine w_call.mpr ?_ | with_reducible refine w_and.mpr ?_ | with_reducible refine w_or.mpr ?_ | with_reducible refine w_not.mpr ?_ | with_reducible refine w_neg.mpr ?_ | with_reducible refine w_dget.mpr ?_ | with_reducible refine w_dset.mpr ?_ | with_reducible refine w_gtup.mpr ?_ | with_reducible refine w_gltup.mpr ?_ | with_reducible refine w_gsn.mpr (And.intro rfl ?_) | with_reducible refine w_gsc.mpr ?_ | with_reducible refine w_ilst.mpr ?_ | with_reducible refine w_itup.mpr ?_ | with_reducible refine w_blt.mpr ?_ | with_reducible refine w_isi.mpr ?_ | with_reducible refine w_os.mpr ?_ | with_reducible refine w_idx.mpr ?_ | with_reducible refine w_slc.mpr ?_ | with_reducible refine w_bin.mpr ?_ | with_reducible refine w_cmp.mpr ?_ | with_reducible refine w_tval.mpr ?_ | with_reducible refine w_forr.mpr ?_ | with_reducible refine w_whl.mpr ?_ | with_reducible refine w_lc.mpr ?_ | with_reducible refine w_ret.mpr ?_ | with_reducible refine w_retN.mpr ?_ | (with_reducible refine w_tup.mpr ?_) | (with_reducible refine w_lst.mpr ?_) | (with_reducible refine b_mul.mpr (And.symm ⟨?_, by first | exact mulOk_l (by omega) (by omega) | exact mulOk_r (by omega) (by omega) | exact mulOk_bd (a := 1000) (b := 1000) (by assumption) (by assumption) (by decide) (by decide) (by decide) | assumption⟩)) | (with_reducible refine b_mod.mpr (And.symm ⟨?_, by first | omega | assumption⟩)) | (with_reducible refine b_div.mpr (And.symm ⟨?_, by first | exact divOk_of (by omega) (by omega) | assumption⟩)) | (with_reducible refine b_pow.mpr ⟨by decide, ?_⟩) | refine ⟨_, rfl, Eq.refl (penM _ _ _), ?_⟩ | refine ⟨_, rfl, ⟨by omega, by omega⟩, ?_⟩ | refine ⟨_, rfl, ?_⟩ | refine ⟨_, _, rfl, ?_⟩ | refine ⟨_, _, _, rfl, rfl, rfl, ?_⟩ | refine ⟨_, _, rfl, rfl, of_decide_eq_true rfl, ?_⟩ | refine ⟨_, ne_nil _, ?_⟩ | ((with_reducible refine lenOk ?_ ?_); rfl) | refine ⟨_, rfl, rfl, ?_⟩ | with_reducible refine w_rng1.mpr ?_ | with_reducible refine w_rng2.mpr ?_ | ((with_reducible refine ifT ?_ ?_); rfl) | ((with_reducible refine ifF ?_ ?_); rfl))
    refine pure_step (a_corner m1 (bg x1 (by decide)) X Y bX bY) rfl ?_
    repeat (first | ((with_reducible refine pg_turn ?_ ?_); rfl) | ((with_reducible refine pg_left ?_ ?_); rfl) | ((with_reducible refine pg_cells ?_ ?_); rfl) | ((with_reducible refine ps_turn ?_ ?_); rfl) | ((with_reducible refine ps_left ?_ ?_); rfl) | ((with_reducible refine w_var.mpr ?_); refine ⟨_, rfl, ?_⟩) | with_reducible refine wp_ok.mpr ?_ | with_reducible refine w_int.mpr ?_ | with_reducible refine w_bl.mpr ?_ | with_reducible refine w_non.mpr ?_ | with_reducible refine w_str.mpr ?_ | with_reducible refine w_glob.mpr ?_ | with_reducible refine w_chain.mpr ?_ | with_reducible refine w_ite.mpr ?_ | with_reducible refine w_esn.mpr ?_ | with_reducible refine w_esc.mpr ?_ | with_reducible refine w_tnot.mpr ?_ | with_reducible refine w_tand.mpr ?_ | with_reducible refine w_tor.mpr ?_ | with_reducible refine w_cn.mpr ?_ | with_reducible refine w_c1.mpr ?_ | with_reducible refine w_on.mpr ?_ | with_reducible refine w_rng2.mpr ?_ | with_reducible refine w_gnm.mpr ?_ | with_reducible refine w_kn.mpr ?_ | with_reducible refine w_kc.mpr ?_ | with_reducible refine w_asg.mpr ?_ | with_reducible refine w_par2.mpr ?_ | with_reducible refine w_expr.mpr ?_ | with_reducible refine w_ifs.mpr ?_ | with_reducible refine w_brk.mpr ?_ | with_reducible refine w_cnt.mpr ?_ | with_reducible refine w_pass.mpr ?_ | with_reducible refine w_raise.mpr ?_ | with_reducible refine w_sn.mpr ?_ | with_reducible refine w_sc.mpr ?_ | with_reducible refine w_call.mpr ?_ | with_reducible refine w_and.mpr ?_ | with_reducible refine w_or.mpr ?_ | with_reducible refine w_not.mpr ?_ | with_reducible refine w_neg.mpr ?_ | with_reducible refine w_dget.mpr ?_ | with_reducible refine w_dset.mpr ?_ | with_reducible refine w_gtup.mpr ?_ | with_reducible refine w_gltup.mpr ?_ | with_reducible refine w_gsn.mpr (And.intro rfl ?_) | with_reducible refine w_gsc.mpr ?_ | with_reducible refine w_ilst.mpr ?_ | with_reducible refine w_itup.mpr ?_ | with_reducible refine w_blt.mpr ?_ | with_reducible refine w_isi.mpr ?_ | with_reducible refine w_os.mpr ?_ | with_reducible refine w_idx.mpr ?_ | with_reducible refine w_slc.mpr ?_ | with_reducible refine w_bin.mpr ?_ | with_reducible refine w_cmp.mpr ?_ | with_reducible refine w_tval.mpr ?_ | with_reducible refine w_forr.mpr ?_ | with_reducible refine w_whl.mpr ?_ | with_reducible refine w_lc.mpr ?_ | with_reducible refine w_ret.mpr ?_ | with_reducible refine w_retN.mpr ?_ | (with_reducible refine w_tup.mpr ?_) | (with_reducible refine w_lst.mpr ?_) | (with_reducible refine b_mul.mpr (And.symm ⟨?_, by first | exact mulOk_l (by omega) (by omega) | exact mulOk_r (by omega) (by omega) | exact mulOk_bd (a := 1000) (b := 1000) (by assumption) (by assumption) (by decide) (by decide) (by decide) | assumption⟩)) | (with_reducible refine b_mod.mpr (And.symm ⟨?_, by first | omega | assumption⟩)) | (with_reducible refine b_div.mpr (And.symm ⟨?_, by first | exact divOk_of (by omega) (by omega) | assumption⟩)) | (with_reducible refine b_pow.mpr ⟨by decide, ?_⟩) | refine ⟨_, rfl, Eq.refl (penM _ _ _), ?_⟩ | refine ⟨_, rfl, ⟨by omega, by omega⟩, ?_⟩ | refine ⟨_, rfl, ?_⟩ | refine ⟨_, _, rfl, ?_⟩ | refine ⟨_, _, _, rfl, rfl, rfl, ?_⟩ | refine ⟨_, _, rfl, rfl, of_decide_eq_true rfl, ?_⟩ | refine ⟨_, ne_nil _, ?_⟩ | ((with_reducible refine lenOk ?_ ?_); rfl) | refine ⟨_, rfl, rfl, ?_⟩ | with_reducible refine w_rng1.mpr ?_ | with_reducible refine w_rng2.mpr ?_ | ((with_reducible refine ifT ?_ ?_); rfl) | ((with_reducible refine ifF ?_ ?_); rfl))
    refine pure_step (a_corner m2 (bg x2 (by decide)) _ _ in1 in2) rfl ?_
    repeat (first | ((with_reducible refine pg_turn ?_ ?_); rfl) | ((with_reducible refine pg_left ?_ ?_); rfl) | ((with_reducible refine pg_cells ?_ ?_); rfl) | ((with_reducible refine ps_turn ?_ ?_); rfl) | ((with_reducible refine ps_left ?_ ?_); rfl) | ((with_reducible refine w_var.mpr ?_); refine ⟨_, rfl, ?_⟩) | with_reducible refine wp_ok.mpr ?_ | with_reducible refine w_int.mpr ?_ | with_reducible refine w_bl.mpr ?_ | with_reducible refine w_non.mpr ?_ | with_reducible refine w_str.mpr ?_ | with_reducible refine w_glob.mpr ?_ | with_reducible refine w_chain.mpr ?_ | with_reducible refine w_ite.mpr ?_ | with_reducible refine w_esn.mpr ?_ | with_reducible refine w_esc.mpr ?_ | with_reducible refine w_tnot.mpr ?_ | with_reducible refine w_tand.mpr ?_ | with_reducible refine w_tor.mpr ?_ | with_reducible refine w_cn.mpr ?_ | with_reducible refine w_c1.mpr ?_ | with_reducible refine w_on.mpr ?_ | with_reducible refine w_rng2.mpr ?_ | with_reducible refine w_gnm.mpr ?_ | with_reducible refine w_kn.mpr ?_ | with_reducible refine w_kc.mpr ?_ | with_reducible refine w_asg.mpr ?_ | with_reducible refine w_par2.mpr ?_ | with_reducible refine w_expr.mpr ?_ | with_reducible refine w_ifs.mpr ?_ | with_reducible refine w_brk.mpr ?_ | with_reducible refine w_cnt.mpr ?_ | with_reducible refine w_pass.mpr ?_ | with_reducible refine w_raise.mpr ?_ | with_reducible refine w_sn.mpr ?_ | with_reducible refine w_sc.mpr ?_ | with_reducible refine w_call.mpr ?_ | with_reducible refine w_and.mpr ?_ | with_reducible refine w_or.mpr ?_ | with_reducible refine w_not.mpr ?_ | with_reducible refine w_neg.mpr ?_ | with_reducible refine w_dget.mpr ?_ | with_reducible refine w_dset.mpr ?_ | with_reducible refine w_gtup.mpr ?_ | with_reducible refine w_gltup.mpr ?_ | with_reducible refine w_gsn.mpr (And.intro rfl ?_) | with_reducible refine w_gsc.mpr ?_ | with_reducible refine w_ilst.mpr ?_ | with_reducible refine w_itup.mpr ?_ | with_reducible refine w_blt.mpr ?_ | with_reducible refine w_isi.mpr ?_ | with_reducible refine w_os.mpr ?_ | with_reducible refine w_idx.mpr ?_ | with_reducible refine w_slc.mpr ?_ | with_reducible refine w_bin.mpr ?_ | with_reducible refine w_cmp.mpr ?_ | with_reducible refine w_tval.mpr ?_ | with_reducible refine w_forr.mpr ?_ | with_reducible refine w_whl.mpr ?_ | with_reducible refine w_lc.mpr ?_ | with_reducible refine w_ret.mpr ?_ | with_reducible refine w_retN.mpr ?_ | (with_reducible refine w_tup.mpr ?_) | (with_reducible refine w_lst.mpr ?_) | (with_reducible refine b_mul.mpr (And.symm ⟨?_, by first | exact mulOk_l (by omega) (by omega) | exact mulOk_r (by omega) (by omega) | exact mulOk_bd (a := 1000) (b := 1000) (by assumption) (by assumption) (by decide) (by decide) (by decide) | assumption⟩)) | (with_reducible refine b_mod.mpr (And.symm ⟨?_, by first | omega | assumption⟩)) | (with_reducible refine b_div.mpr (And.symm ⟨?_, by first | exact divOk_of (by omega) (by omega) | assumption⟩)) | (with_reducible refine b_pow.mpr ⟨by decide, ?_⟩) | refine ⟨_, rfl, Eq.refl (penM _ _ _), ?_⟩ | refine ⟨_, rfl, ⟨by omega, by omega⟩, ?_⟩ | refine ⟨_, rfl, ?_⟩ | refine ⟨_, _, rfl, ?_⟩ | refine ⟨_, _, _, rfl, rfl, rfl, ?_⟩ | refine ⟨_, _, rfl, rfl, of_decide_eq_true rfl, ?_⟩ | refine ⟨_, ne_nil _, ?_⟩ | ((with_reducible refine lenOk ?_ ?_); rfl) | refine ⟨_, rfl, rfl, ?_⟩ | with_reducible refine w_rng1.mpr ?_ | with_reducible refine w_rng2.mpr ?_ | ((with_reducible refine ifT ?_ ?_); rfl) | ((with_reducible refine ifF ?_ ?_); rfl))
    refine pure_step (v := P2 (m2.a * (m1.a * X + m1.b * Y + m1.p) + m2.b * (m1.c * X + m1.d * Y + m1.q) + m2.p) (m2.c * (m1.a * X + m1.b * Y + m1.p) + m2.d * (m1.c * X + m1.d * Y + m1.q) + m2.q))
      (by rw [a_corner (cmp m1 m2) (bg x12 (by decide)) X Y bX bY, (act_cmp m1 m2 X Y).1, (act_cmp m1 m2 X Y).2]) rfl ?_
    repeat (first | (with_reducible refine ⟨_, ne6 _ _ _ _ _ _, ?_⟩) | (with_reducible refine ⟨_, ne3 _ _ _, ?_⟩) | (with_reducible refine ⟨_, ne2 _ _, ?_⟩) | (with_reducible refine ⟨_, ne_str _, ?_⟩) | ((with_reducible refine pg_turn ?_ ?_); rfl) | ((with_reducible refine pg_left ?_ ?_); rfl) | ((with_reducible refine pg_cells ?_ ?_); rfl) | ((with_reducible refine ps_turn ?_ ?_); rfl) | ((with_reducible refine ps_left ?_ ?_); rfl) | ((with_reducible refine w_var.mpr ?_); refine ⟨_, rfl, ?_⟩) | with_reducible refine wp_ok.mpr ?_ | with_reducible refine w_int.mpr ?_ | with_reducible refine w_bl.mpr ?_ | with_reducible refine w_non.mpr ?_ | with_reducible refine w_str.mpr ?_ | with_reducible refine w_glob.mpr ?_ | with_reducible refine w_chain.mpr ?_ | with_reducible refine w_ite.mpr ?_ | with_reducible refine w_esn.mpr ?_ | with_reducible refine w_esc.mpr ?_ | with_reducible refine w_tnot.mpr ?_ | with_reducible refine w_tand.mpr ?_ | with_reducible refine w_tor.mpr ?_ | with_reducible refine w_cn.mpr ?_ | with_reducible refine w_c1.mpr ?_ | with_reducible refine w_on.mpr ?_ | with_reducible refine w_rng2.mpr ?_ | with_reducible refine w_gnm.mpr ?_ | with_reducible refine w_kn.mpr ?_ | with_reducible refine w_kc.mpr ?_ | with_reducible refine w_asg.mpr ?_ | with_reducible refine w_par2.mpr ?_ | with_reducible refine w_expr.mpr ?_ | with_reducible refine w_ifs.mpr ?_ | with_reducible refine w_brk.mpr ?_ | with_reducible refine w_cnt.mpr ?_ | with_reducible refine w_pass.mpr ?_ | with_reducible refine w_raise.mpr ?_ | with_reducible refine w_sn.mpr ?_ | with_reducible refine w_sc.mpr ?_ | with_reducible refine w_call.mpr ?_ | with_reducible refine w_and.mpr ?_ | with_reducible refine w_or.mpr ?_ | with_reducible refine w_not.mpr ?_ | with_reducible refine w_neg.mpr ?_ | with_reducible refine w_dget.mpr ?_ | with_reducible refine w_dset.mpr ?_ | with_reducible refine w_gtup.mpr ?_ | with_reducible refine w_gltup.mpr ?_ | with_reducible refine w_gsn.mpr (And.intro rfl ?_) | with_reducible refine w_gsc.mpr ?_ | with_reducible refine w_ilst.mpr ?_ | with_reducible refine w_itup.mpr ?_ | with_reducible refine w_blt.mpr ?_ | with_reducible refine w_isi.mpr ?_ | with_reducible refine w_os.mpr ?_ | with_reducible refine w_idx.mpr ?_ | with_reducible refine w_slc.mpr ?_ | with_reducible refine w_bin.mpr ?_ | with_reducible refine w_cmp.mpr ?_ | with_reducible refine w_tval.mpr ?_ | with_reducible refine w_forr.mpr ?_ | with_reducible refine w_whl.mpr ?_ | with_reducible refine w_lc.mpr ?_ | with_reducible refine w_ret.mpr ?_ | with_reducible refine w_retN.mpr ?_ | (with_reducible refine w_tup.mpr ?_) | (with_reducible refine w_lst.mpr ?_) | (with_reducible refine b_mul.mpr (And.symm ⟨?_, by first | exact mulOk_l (by omega) (by omega) | exact mulOk_r (by omega) (by omega) | exact mulOk_bd (a := 1000) (b := 1000) (by assumption) (by assumption) (by decide) (by decide) (by decide) | assumption⟩)) | (with_reducible refine b_mod.mpr (And.symm ⟨?_, by first | omega | assumption⟩)) | (with_reducible refine b_div.mpr (And.symm ⟨?_, by first | exact divOk_of (by omega) (by omega) | assumption⟩)) | (with_reducible refine b_pow.mpr ⟨by decide, ?_⟩) | refine ⟨_, rfl, Eq.refl (penM _ _ _), ?_⟩ | refine ⟨_, rfl, ⟨by omega, by omega⟩, ?_⟩ | refine ⟨_, rfl, ?_⟩ | refine ⟨_, _, rfl, ?_⟩ | refine ⟨_, _, _, rfl, rfl, rfl, ?_⟩ | refine ⟨_, _, rfl, rfl, of_decide_eq_true rfl, ?_⟩ | refine ⟨_, ne_nil _, ?_⟩ | ((with_reducible refine lenOk ?_ ?_); rfl) | refine ⟨_, rfl, rfl, ?_⟩ | with_reducible refine w_rng1.mpr ?_ | with_reducible refine w_rng2.mpr ?_ | ((with_reducible refine ifT ?_ ?_); rfl) | ((with_reducible refine ifF ?_ ?_); rfl))
    refine pure_step (a_corner m1 (bg x1 (by decide)) X Y bX bY) rfl ?_
    repeat (first | (with_reducible refine ⟨_, ne6 _ _ _ _ _ _, ?_⟩) | (with_reducible refine ⟨_, ne3 _ _ _, ?_⟩) | (with_reducible refine ⟨_, ne2 _ _, ?_⟩) | (with_reducible refine ⟨_, ne_str _, ?_⟩) | ((with_reducible refine pg_turn ?_ ?_); rfl) | ((with_reducible refine pg_left ?_ ?_); rfl) | ((with_reducible refine pg_cells ?_ ?_); rfl) | ((with_reducible refine ps_turn ?_ ?_); rfl) | ((with_reducible refine ps_left ?_ ?_); rfl) | ((with_reducible refine w_var.mpr ?_); refine ⟨_, rfl, ?_⟩) | with_reducible refine wp_ok.mpr ?_ | with_reducible refine w_int.mpr ?_ | with_reducible refine w_bl.mpr ?_ | with_reducible refine w_non.mpr ?_ | with_reducible refine w_str.mpr ?_ | with_reducible refine w_glob.mpr ?_ | with_reducible refine w_chain.mpr ?_ | with_reducible refine w_ite.mpr ?_ | with_reducible refine w_esn.mpr ?_ | with_reducible refine w_esc.mpr ?_ | with_reducible refine w_tnot.mpr ?_ | with_reducible refine w_tand.mpr ?_ | with_reducible refine w_tor.mpr ?_ | with_reducible refine w_cn.mpr ?_ | with_reducible refine w_c1.mpr ?_ | with_reducible refine w_on.mpr ?_ | with_reducible refine w_rng2.mpr ?_ | with_reducible refine w_gnm.mpr ?_ | with_reducible refine w_kn.mpr ?_ | with_reducible refine w_kc.mpr ?_ | with_reducible refine w_asg.mpr ?_ | with_reducible refine w_par2.mpr ?_ | with_reducible refine w_expr.mpr ?_ | with_reducible refine w_ifs.mpr ?_ | with_reducible refine w_brk.mpr ?_ | with_reducible refine w_cnt.mpr ?_ | with_reducible refine w_pass.mpr ?_ | with_reducible refine w_raise.mpr ?_ | with_reducible refine w_sn.mpr ?_ | with_reducible refine w_sc.mpr ?_ | with_reducible refine w_call.mpr ?_ | with_reducible refine w_and.mpr ?_ | with_reducible refine w_or.mpr ?_ | with_reducible refine w_not.mpr ?_ | with_reducible refine w_neg.mpr ?_ | with_reducible refine w_dget.mpr ?_ | with_reducible refine w_dset.mpr ?_ | with_reducible refine w_gtup.mpr ?_ | with_reducible refine w_gltup.mpr ?_ | with_reducible refine w_gsn.mpr (And.intro rfl ?_) | with_reducible refine w_gsc.mpr ?_ | with_reducible refine w_ilst.mpr ?_ | with_reducible refine w_itup.mpr ?_ | with_reducible refine w_blt.mpr ?_ | with_reducible refine w_isi.mpr ?_ | with_reducible refine w_os.mpr ?_ | with_reducible refine w_idx.mpr ?_ | with_reducible refine w_slc.mpr ?_ | with_reducible refine w_bin.mpr ?_ | with_reducible refine w_cmp.mpr ?_ | with_reducible refine w_tval.mpr ?_ | with_reducible refine w_forr.mpr ?_ | with_reducible refine w_whl.mpr ?_ | with_reducible refine w_lc.mpr ?_ | with_reducible refine w_ret.mpr ?_ | with_reducible refine w_retN.mpr ?_ | (with_reducible refine w_tup.mpr ?_) | (with_reducible refine w_lst.mpr ?_) | (with_reducible refine b_mul.mpr (And.symm ⟨?_, by first | exact mulOk_l (by omega) (by omega) | exact mulOk_r (by omega) (by omega) | exact mulOk_bd (a := 1000) (b := 1000) (by assumption) (by assumption) (by decide) (by decide) (by decide) | assumption⟩)) | (with_reducible refine b_mod.mpr (And.symm ⟨?_, by first | omega | assumption⟩)) | (with_reducible refine b_div.mpr (And.symm ⟨?_, by first | exact divOk_of (by omega) (by omega) | assumption⟩)) | (with_reducible refine b_pow.mpr ⟨by decide, ?_⟩) | refine ⟨_, rfl, Eq.refl (penM _ _ _), ?_⟩ | refine ⟨_, rfl, ⟨by omega, by omega⟩, ?_⟩ | refine ⟨_, rfl, ?_⟩ | refine ⟨_, _, rfl, ?_⟩ | refine ⟨_, _, _, rfl, rfl, rfl, ?_⟩ | refine ⟨_, _, rfl, rfl, of_decide_eq_true rfl, ?_⟩ | refine ⟨_, ne_nil _, ?_⟩ | ((with_reducible refine lenOk ?_ ?_); rfl) | refine ⟨_, rfl, rfl, ?_⟩ | with_reducible refine w_rng1.mpr ?_ | with_reducible refine w_rng2.mpr ?_ | ((with_reducible refine ifT ?_ ?_); rfl) | ((with_reducible refine ifF ?_ ?_); rfl))
    refine pure_step (v := P2 X Y) (by rw [a_corner (inv m1) (bg xb (by decide)) _ _ in1 in2, (act_inv u1 X Y).1, (act_inv u1 X Y).2]) rfl ?_
    repeat (first | (with_reducible refine ⟨_, ne6 _ _ _ _ _ _, ?_⟩) | (with_reducible refine ⟨_, ne3 _ _ _, ?_⟩) | (with_reducible refine ⟨_, ne2 _ _, ?_⟩) | (with_reducible refine ⟨_, ne_str _, ?_⟩) | ((with_reducible refine pg_turn ?_ ?_); rfl) | ((with_reducible refine pg_left ?_ ?_); rfl) | ((with_reducible refine pg_cells ?_ ?_); rfl) | ((with_reducible refine ps_turn ?_ ?_); rfl) | ((with_reducible refine ps_left ?_ ?_); rfl) | ((with_reducible refine w_var.mpr ?_); refine ⟨_, rfl, ?_⟩) | with_reducible refine wp_ok.mpr ?_ | with_reducible refine w_int.mpr ?_ | with_reducible refine w_bl.mpr ?_ | with_reducible refine w_non.mpr ?_ | with_reducible refine w_str.mpr ?_ | with_reducible refine w_glob.mpr ?_ | with_reducible refine w_chain.mpr ?_ | with_reducible refine w_ite.mpr ?_ | with_reducible refine w_esn.mpr ?_ | with_reducible refine w_esc.mpr ?_ | with_reducible refine w_tnot.mpr ?_ | with_reducible refine w_tand.mpr ?_ | with_reducible refine w_tor.mpr ?_ | with_reducible refine w_cn.mpr ?_ | with_reducible refine w_c1.mpr ?_ | with_reducible refine w_on.mpr ?_ | with_reducible refine w_rng2.mpr ?_ | with_reducible refine w_gnm.mpr ?_ | with_reducible refine w_kn.mpr ?_ | with_reducible refine w_kc.mpr ?_ | with_reducible refine w_asg.mpr ?_ | with_reducible refine w_par2.mpr ?_ | with_reducible refine w_expr.mpr ?_ | with_reducible refine w_ifs.mpr ?_ | with_reducible refine w_brk.mpr ?_ | with_reducible refine w_cnt.mpr ?_ | with_reducible refine w_pass.mpr ?_ | with_reducible refine w_raise.mpr ?_ | with_reducible refine w_sn.mpr ?_ | with_reducible refine w_sc.mpr ?_ | with_reducible refine w_call.mpr ?_ | with_reducible refine w_and.mpr ?_ | with_reducible refine w_or.mpr ?_ | with_reducible refine w_not.mpr ?_ | with_reducible refine w_neg.mpr ?_ | with_reducible refine w_dget.mpr ?_ | with_reducible refine w_dset.mpr ?_ | with_reducible refine w_gtup.mpr ?_ | with_reducible refine w_gltup.mpr ?_ | with_reducible refine w_gsn.mpr (And.intro rfl ?_) | with_reducible refine w_gsc.mpr ?_ | with_reducible refine w_ilst.mpr ?_ | with_reducible refine w_itup.mpr ?_ | with_reducible refine w_blt.mpr ?_ | with_reducible refine w_isi.mpr ?_ | with_reducible refine w_os.mpr ?_ | with_reducible refine w_idx.mpr ?_ | with_reducible refine w_slc.mpr ?_ | with_reducible refine w_bin.mpr ?_ | with_reducible refine w_cmp.mpr ?_ | with_reducible refine w_tval.mpr ?_ | with_reducible refine w_forr.mpr ?_ | with_reducible refine w_whl.mpr ?_ | with_reducible refine w_lc.mpr ?_ | with_reducible refine w_ret.mpr ?_ | with_reducible refine w_retN.mpr ?_ | (with_reducible refine w_tup.mpr ?_) | (with_reducible refine w_lst.mpr ?_) | (with_reducible refine b_mul.mpr (And.symm ⟨?_, by first | exact mulOk_l (by omega) (by omega) | exact mulOk_r (by omega) (by omega) | exact mulOk_bd (a := 1000) (b := 1000) (by assumption) (by assumption) (by decide) (by decide) (by decide) | assumption⟩)) | (with_reducible refine b_mod.mpr (And.symm ⟨?_, by first | omega | assumption⟩)) | (with_reducible refine b_div.mpr (And.symm ⟨?_, by first | exact divOk_of (by omega) (by omega) | assumption⟩)) | (with_reducible refine b_pow.mpr ⟨by decide, ?_⟩) | refine ⟨_, rfl, Eq.refl (penM _ _ _), ?_⟩ | refine ⟨_, rfl, ⟨by omega, by omega⟩, ?_⟩ | refine ⟨_, rfl, ?_⟩ | refine ⟨_, _, rfl, ?_⟩ | refine ⟨_, _, _, rfl, rfl, rfl, ?_⟩ | refine ⟨_, _, rfl, rfl, of_decide_eq_true rfl, ?_⟩ | refine ⟨_, ne_nil _, ?_⟩ | ((with_reducible refine lenOk ?_ ?_); rfl) | refine ⟨_, rfl, rfl, ?_⟩ | with_reducible refine w_rng1.mpr ?_ | with_reducible refine w_rng2.mpr ?_ | ((with_reducible refine ifT ?_ ?_); rfl) | ((with_reducible refine ifF ?_ ?_); rfl))
    have hq : Pen (B + 2 * (j + 1)) μ3 := hp3.mono (by omega)
    exact ⟨_, _, _, rfl, hq⟩
  · rintro ρ μ ⟨o9, o11, o12, rfl, hpj⟩
    have hp8 : Pen (B + 8) μ := hpj
    repeat (first | ((with_reducible refine pg_turn ?_ ?_); rfl) | ((with_reducible refine pg_left ?_ ?_); rfl) | ((with_reducible refine pg_cells ?_ ?_); rfl) | ((with_reducible refine ps_turn ?_ ?_); rfl) | ((with_reducible refine ps_left ?_ ?_); rfl) | ((with_reducible refine w_var.mpr ?_); refine ⟨_, rfl, ?_⟩) | with_reducible refine wp_ok.mpr ?_ | with_reducible refine w_int.mpr ?_ | with_reducible refine w_bl.mpr ?_ | with_reducible refine w_non.mpr ?_ | with_reducible refine w_str.mpr ?_ | with_reducible refine w_glob.mpr ?_ | with_reducible refine w_chain.mpr ?_ | with_reducible refine w_ite.mpr ?_ | with_reducible refine w_esn.mpr ?_ | with_reducible refine w_esc.mpr ?_ | with_reducible refine w_tnot.mpr ?_ | with_reducible refine w_tand.mpr ?_ | with_reducible refine w_tor.mpr ?_ | with_reducible refine w_cn.mpr ?_ | with_reducible refine w_c1.mpr ?_ | with_reducible refine w_on.mpr ?_ | with_reducible refine w_rng2.mpr ?_ | with_reducible refine w_gnm.mpr ?_ | with_reducible refine w_kn.mpr ?_ | with_reducible refine w_kc.mpr ?_ | with_reducible refine w_asg.mpr ?_ | with_reducible refine w_par2.mpr ?_ | with_reducible refine w_expr.mpr ?_ | with_reducible refine w_ifs.mpr ?_ | with_reducible refine w_brk.mpr ?_ | with_reducible refine w_cnt.mpr ?_ | with_reducible refine w_pass.mpr ?_ | with_reducible refine w_raise.mpr ?_ | with_reducible refine w_sn.mpr ?_ | with_reducible refine w_sc.mpr ?_ | with_reducible refine w_call.mpr ?_ | with_reducible refine w_and.mpr ?_ | with_reducible refine w_or.mpr ?_ | with_reducible refine w_not.mpr ?_ | with_reducible refine w_neg.mpr ?_ | with_reducible refine w_dget.mpr ?_ | with_reducible refine w_dset.mpr ?_ | with_reducible refine w_gtup.mpr ?_ | with_reducible refine w_gltup.mpr ?_ | with_reducible refine w_gsn.mpr (And.intro rfl ?_) | with_reducible refine w_gsc.mpr ?_ | with_reducible refine w_ilst.mpr ?_ | with_reducible refine w_itup.mpr ?_ | with_reducible refine w_blt.mpr ?_ | with_reducible refine w_isi.mpr ?_ | with_reducible refine w_os.mpr ?_ | with_reducible refine w_idx.mpr ?_ | with_reducible refine w_slc.mpr ?_ | with_reducible refine w_bin.mpr ?_ | with_reducible refine w_cmp.mpr ?_ | with_reducible refine w_tval.mpr ?_ | with_reducible refine w_forr.mpr ?_ | with_reducible refine w_whl.mpr ?_ | with_reducible refine w_lc.mpr ?_ | with_reducible refine w_ret.mpr ?_ | with_reducible refine w_retN.mpr ?_ | (with_reducible refine w_tup.mpr ?_) | (with_reducible refine w_lst.mpr ?_) | (with_reducible refine b_mul.mpr (And.symm ⟨?_, by first | exact mulOk_l (by omega) (by omega) | exact mulOk_r (by omega) (by omega) | exact mulOk_bd (a := 1000) (b := 1000) (by assumption) (by assumption) (by decide) (by decide) (by decide) | assumption⟩)) | (with_reducible refine b_mod.mpr (And.symm ⟨?_, by first | omega | assumption⟩)) | (with_reducible refine b_div.mpr (And.symm ⟨?_, by first | exact divOk_of (by omega) (by omega) | assumption⟩)) | (with_reducible refine b_pow.mpr ⟨by decide, ?_⟩) | refine ⟨_, rfl, Eq.refl (penM _ _ _), ?_⟩ | refine ⟨_, rfl, ⟨by omega, by omega⟩, ?_⟩ | refine ⟨_, rfl, ?_⟩ | refine ⟨_, _, rfl, ?_⟩ | refine ⟨_, _, _, rfl, rfl, rfl, ?_⟩ | refine ⟨_, _, rfl, rfl, of_decide_eq_true rfl, ?_⟩ | refine ⟨_, ne_nil _, ?_⟩ | ((with_reducible refine lenOk ?_ ?_); rfl) | refine ⟨_, rfl, rfl, ?_⟩ | with_reducible refine w_rng1.mpr ?_ | with_reducible refine w_rng2.mpr ?_ | ((with_reducible refine ifT ?_ ?_); rfl) | ((with_reducible refine ifF ?_ ?_); rfl))
    refine pure_step (a_compose m1 m2 (bg x1 (by decide)) (bg x2 (by decide)) u1 u2) rfl ?_
    repeat (first | ((with_reducible refine pg_turn ?_ ?_); rfl) | ((with_reducible refine pg_left ?_ ?_); rfl) | ((with_reducible refine pg_cells ?_ ?_); rfl) | ((with_reducible refine ps_turn ?_ ?_); rfl) | ((with_reducible refine ps_left ?_ ?_); rfl) | ((with_reducible refine w_var.mpr ?_); refine ⟨_, rfl, ?_⟩) | with_reducible refine wp_ok.mpr ?_ | with_reducible refine w_int.mpr ?_ | with_reducible refine w_bl.mpr ?_ | with_reducible refine w_non.mpr ?_ | with_reducible refine w_str.mpr ?_ | with_reducible refine w_glob.mpr ?_ | with_reducible refine w_chain.mpr ?_ | with_reducible refine w_ite.mpr ?_ | with_reducible refine w_esn.mpr ?_ | with_reducible refine w_esc.mpr ?_ | with_reducible refine w_tnot.mpr ?_ | with_reducible refine w_tand.mpr ?_ | with_reducible refine w_tor.mpr ?_ | with_reducible refine w_cn.mpr ?_ | with_reducible refine w_c1.mpr ?_ | with_reducible refine w_on.mpr ?_ | with_reducible refine w_rng2.mpr ?_ | with_reducible refine w_gnm.mpr ?_ | with_reducible refine w_kn.mpr ?_ | with_reducible refine w_kc.mpr ?_ | with_reducible refine w_asg.mpr ?_ | with_reducible refine w_par2.mpr ?_ | with_reducible refine w_expr.mpr ?_ | with_reducible refine w_ifs.mpr ?_ | with_reducible refine w_brk.mpr ?_ | with_reducible refine w_cnt.mpr ?_ | with_reducible refine w_pass.mpr ?_ | with_reducible refine w_raise.mpr ?_ | with_reducible refine w_sn.mpr ?_ | with_reducible refine w_sc.mpr ?_ | with_reducible refine w_call.mpr ?_ | with_reducible refine w_and.mpr ?_ | with_reducible refine w_or.mpr ?_ | with_reducible refine w_not.mpr ?_ | with_reducible refine w_neg.mpr ?_ | with_reducible refine w_dget.mpr ?_ | with_reducible refine w_dset.mpr ?_ | with_reducible refine w_gtup.mpr ?_ | with_reducible refine w_gltup.mpr ?_ | with_reducible refine w_gsn.mpr (And.intro rfl ?_) | with_reducible refine w_gsc.mpr ?_ | with_reducible refine w_ilst.mpr ?_ | with_reducible refine w_itup.mpr ?_ | with_reducible refine w_blt.mpr ?_ | with_reducible refine w_isi.mpr ?_ | with_reducible refine w_os.mpr ?_ | with_reducible refine w_idx.mpr ?_ | with_reducible refine w_slc.mpr ?_ | with_reducible refine w_bin.mpr ?_ | with_reducible refine w_cmp.mpr ?_ | with_reducible refine w_tval.mpr ?_ | with_reducible refine w_forr.mpr ?_ | with_reducible refine w_whl.mpr ?_ | with_reducible refine w_lc.mpr ?_ | with_reducible refine w_ret.mpr ?_ | with_reducible refine w_retN.mpr ?_ | (with_reducible refine w_tup.mpr ?_) | (with_reducible refine w_lst.mpr ?_) | (with_reducible refine b_mul.mpr (And.symm ⟨?_, by first | exact mulOk_l (by omega) (by omega) | exact mulOk_r (by omega) (by omega) | exact mulOk_bd (a := 1000) (b := 1000) (by assumption) (by assumption) (by decide) (by decide) (by decide) | assumption⟩)) | (with_reducible refine b_mod.mpr (And.symm ⟨?_, by first | omega | assumption⟩)) | (with_reducible refine b_div.mpr (And.symm ⟨?_, by first | exact divOk_of (by omega) (by omega) | assumption⟩)) | (with_reducible refine b_pow.mpr ⟨by decide, ?_⟩) | refine ⟨_, rfl, Eq.refl (penM _ _ _), ?_⟩ | refine ⟨_, rfl, ⟨by omega, by omega⟩, ?_⟩ | refine ⟨_, rfl, ?_⟩ | refine ⟨_, _, rfl, ?_⟩ | refine ⟨_, _, _, rfl, rfl, rfl, ?_⟩ | refine ⟨_, _, rfl, rfl, of_decide_eq_true rfl, ?_⟩ | refine ⟨_, ne_nil _, ?_⟩ | ((with_reducible refine lenOk ?_ ?_); rfl) | refine ⟨_, rfl, rfl, ?_⟩ | with_reducible refine w_rng1.mpr ?_ | with_reducible refine w_rng2.mpr ?_ | ((with_reducible refine ifT ?_ ?_); rfl) | ((with_reducible refine ifF ?_ ?_); rfl))
    refine pure_step (a_compose (cmp m1 m2) m3 (bg x12 (by decide)) (bg x3 (by decide)) u12 u3) rfl ?_
    repeat (first | ((with_reducible refine pg_turn ?_ ?_); rfl) | ((with_reducible refine pg_left ?_ ?_); rfl) | ((with_reducible refine pg_cells ?_ ?_); rfl) | ((with_reducible refine ps_turn ?_ ?_); rfl) | ((with_reducible refine ps_left ?_ ?_); rfl) | ((with_reducible refine w_var.mpr ?_); refine ⟨_, rfl, ?_⟩) | with_reducible refine wp_ok.mpr ?_ | with_reducible refine w_int.mpr ?_ | with_reducible refine w_bl.mpr ?_ | with_reducible refine w_non.mpr ?_ | with_reducible refine w_str.mpr ?_ | with_reducible refine w_glob.mpr ?_ | with_reducible refine w_chain.mpr ?_ | with_reducible refine w_ite.mpr ?_ | with_reducible refine w_esn.mpr ?_ | with_reducible refine w_esc.mpr ?_ | with_reducible refine w_tnot.mpr ?_ | with_reducible refine w_tand.mpr ?_ | with_reducible refine w_tor.mpr ?_ | with_reducible refine w_cn.mpr ?_ | with_reducible refine w_c1.mpr ?_ | with_reducible refine w_on.mpr ?_ | with_reducible refine w_rng2.mpr ?_ | with_reducible refine w_gnm.mpr ?_ | with_reducible refine w_kn.mpr ?_ | with_reducible refine w_kc.mpr ?_ | with_reducible refine w_asg.mpr ?_ | with_reducible refine w_par2.mpr ?_ | with_reducible refine w_expr.mpr ?_ | with_reducible refine w_ifs.mpr ?_ | with_reducible refine w_brk.mpr ?_ | with_reducible refine w_cnt.mpr ?_ | with_reducible refine w_pass.mpr ?_ | with_reducible refine w_raise.mpr ?_ | with_reducible refine w_sn.mpr ?_ | with_reducible refine w_sc.mpr ?_ | with_reducible refine w_call.mpr ?_ | with_reducible refine w_and.mpr ?_ | with_reducible refine w_or.mpr ?_ | with_reducible refine w_not.mpr ?_ | with_reducible refine w_neg.mpr ?_ | with_reducible refine w_dget.mpr ?_ | with_reducible refine w_dset.mpr ?_ | with_reducible refine w_gtup.mpr ?_ | with_reducible refine w_gltup.mpr ?_ | with_reducible refine w_gsn.mpr (And.intro rfl ?_) | with_reducible refine w_gsc.mpr ?_ | with_reducible refine w_ilst.mpr ?_ | with_reducible refine w_itup.mpr ?_ | with_reducible refine w_blt.mpr ?_ | with_reducible refine w_isi.mpr ?_ | with_reducible refine w_os.mpr ?_ | with_reducible refine w_idx.mpr ?_ | with_reducible refine w_slc.mpr ?_ | with_reducible refine w_bin.mpr ?_ | with_reducible refine w_cmp.mpr ?_ | with_reducible refine w_tval.mpr ?_ | with_reducible refine w_forr.mpr ?_ | with_reducible refine w_whl.mpr ?_ | with_reducible refine w_lc.mpr ?_ | with_reducible refine w_ret.mpr ?_ | with_reducible refine w_retN.mpr ?_ | (with_reducible refine w_tup.mpr ?_) | (with_reducible refine w_lst.mpr ?_) | (with_reducible refine b_mul.mpr (And.symm ⟨?_, by first | exact mulOk_l (by omega) (by omega) | exact mulOk_r (by omega) (by omega) | exact mulOk_bd (a := 1000) (b := 1000) (by assumption) (by assumption) (by decide) (by decide) (by decide) | assumption⟩)) | (with_reducible refine b_mod.mpr (And.symm ⟨?_, by first | omega | assumption⟩)) | (with_reducible refine b_div.mpr (And.symm ⟨?_, by first | exact divOk_of (by omega) (by omega) | assumption⟩)) | (with_reducible refine b_pow.mpr ⟨by decide, ?_⟩) | refine ⟨_, rfl, Eq.refl (penM _ _ _), ?_⟩ | refine ⟨_, rfl, ⟨by omega, by omega⟩, ?_⟩ | refine ⟨_, rfl, ?_⟩ | refine ⟨_, _, rfl, ?_⟩ | refine ⟨_, _, _, rfl, rfl, rfl, ?_⟩ | refine ⟨_, _, rfl, rfl, of_decide_eq_true rfl, ?_⟩ | refine ⟨_, ne_nil _, ?_⟩ | ((with_reducible refine lenOk ?_ ?_); rfl) | refine ⟨_, rfl, rfl, ?_⟩ | with_reducible refine w_rng1.mpr ?_ | with_reducible refine w_rng2.mpr ?_ | ((with_reducible refine ifT ?_ ?_); rfl) | ((with_reducible refine ifF ?_ ?_); rfl))
    refine pure_step (a_compose m2 m3 (bg x2 (by decide)) (bg x3 (by decide)) u2 u3) rfl ?_
    repeat (first | ((with_reducible refine pg_turn ?_ ?_); rfl) | ((with_reducible refine pg_left ?_ ?_); rfl) | ((with_reducible refine pg_cells ?_ ?_); rfl) | ((with_reducible refine ps_turn ?_ ?_); rfl) | ((with_reducible refine ps_left ?_ ?_); rfl) | ((with_reducible refine w_var.mpr ?_); refine ⟨_, rfl, ?_⟩) | with_reducible refine wp_ok.mpr ?_ | with_reducible refine w_int.mpr ?_ | with_reducible refine w_bl.mpr ?_ | with_reducible refine w_non.mpr ?_ | with_reducible refine w_str.mpr ?_ | with_reducible refine w_glob.mpr ?_ | with_reducible refine w_chain.mpr ?_ | with_reducible refine w_ite.mpr ?_ | with_reducible refine w_esn.mpr ?_ | with_reducible refine w_esc.mpr ?_ | with_reducible refine w_tnot.mpr ?_ | with_reducible refine w_tand.mpr ?_ | with_reducible refine w_tor.mpr ?_ | with_reducible refine w_cn.mpr ?_ | with_reducible refine w_c1.mpr ?_ | with_reducible refine w_on.mpr ?_ | with_reducible refine w_rng2.mpr ?_ | with_reducible refine w_gnm.mpr ?_ | with_reducible refine w_kn.mpr ?_ | with_reducible refine w_kc.mpr ?_ | with_reducible refine w_asg.mpr ?_ | with_reducible refine w_par2.mpr ?_ | with_reducible refine w_expr.mpr ?_ | with_reducible refine w_ifs.mpr ?_ | with_reducible refine w_brk.mpr ?_ | with_reducible refine w_cnt.mpr ?_ | with_reducible refine w_pass.mpr ?_ | with_reducible refine w_raise.mpr ?_ | with_reducible refine w_sn.mpr ?_ | with_reducible refine w_sc.mpr ?_ | with_reducible refine w_call.mpr ?_ | with_reducible refine w_and.mpr ?_ | with_reducible refine w_or.mpr ?_ | with_reducible refine w_not.mpr ?_ | with_reducible refine w_neg.mpr ?_ | with_reducible refine w_dget.mpr ?_ | with_reducible refine w_dset.mpr ?_ | with_reducible refine w_gtup.mpr ?_ | with_reducible refine w_gltup.mpr ?_ | with_reducible refine w_gsn.mpr (And.intro rfl ?_) | with_reducible refine w_gsc.mpr ?_ | with_reducible refine w_ilst.mpr ?_ | with_reducible refine w_itup.mpr ?_ | with_reducible refine w_blt.mpr ?_ | with_reducible refine w_isi.mpr ?_ | with_reducible refine w_os.mpr ?_ | with_reducible refine w_idx.mpr ?_ | with_reducible refine w_slc.mpr ?_ | with_reducible refine w_bin.mpr ?_ | with_reducible refine w_cmp.mpr ?_ | with_reducible refine w_tval.mpr ?_ | with_reducible refine w_forr.mpr ?_ | with_reducible refine w_whl.mpr ?_ | with_reducible refine w_lc.mpr ?_ | with_reducible refine w_ret.mpr ?_ | with_reducible refine w_retN.mpr ?_ | (with_reducible refine w_tup.mpr ?_) | (with_reducible refine w_lst.mpr ?_) | (with_reducible refine b_mul.mpr (And.symm ⟨?_, by first | exact mulOk_l (by omega) (by omega) | exact mulOk_r (by omega) (by omega) | exact mulOk_bd (a := 1000) (b := 1000) (by assumption) (by assumption) (by decide) (by decide) (by decide) | assumption⟩)) | (with_reducible refine b_mod.mpr (And.symm ⟨?_, by first | omega | assumption⟩)) | (with_reducible refine b_div.mpr (And.symm ⟨?_, by first | exact divOk_of (by omega) (by omega) | assumption⟩)) | (with_reducible refine b_pow.mpr ⟨by decide, ?_⟩) | refine ⟨_, rfl, Eq.refl (penM _ _ _), ?_⟩ | refine ⟨_, rfl, ⟨by omega, by omega⟩, ?_⟩ | refine ⟨_, rfl, ?_⟩ | refine ⟨_, _, rfl, ?_⟩ | refine ⟨_, _, _, rfl, rfl, rfl, ?_⟩ | refine ⟨_, _, rfl, rfl, of_decide_eq_true rfl, ?_⟩ | refine ⟨_, ne_nil _, ?_⟩ | ((with_reducible refine lenOk ?_ ?_); rfl) | refine ⟨_, rfl, rfl, ?_⟩ | with_reducible refine w_rng1.mpr ?_ | with_reducible refine w_rng2.mpr ?_ | ((with_reducible refine ifT ?_ ?_); rfl) | ((with_reducible refine ifF ?_ ?_); rfl))
    refine pure_step (v := (cmp (cmp m1 m2) m3).D) (by rw [a_compose m1 (cmp m2 m3) (bg x1 (by decide)) (bg x23 (by decide)) u1 u23, cmp_assoc]) rfl ?_
    repeat (first | (with_reducible refine ⟨_, ne6 _ _ _ _ _ _, ?_⟩) | (with_reducible refine ⟨_, ne3 _ _ _, ?_⟩) | (with_reducible refine ⟨_, ne2 _ _, ?_⟩) | (with_reducible refine ⟨_, ne_str _, ?_⟩) | ((with_reducible refine pg_turn ?_ ?_); rfl) | ((with_reducible refine pg_left ?_ ?_); rfl) | ((with_reducible refine pg_cells ?_ ?_); rfl) | ((with_reducible refine ps_turn ?_ ?_); rfl) | ((with_reducible refine ps_left ?_ ?_); rfl) | ((with_reducible refine w_var.mpr ?_); refine ⟨_, rfl, ?_⟩) | with_reducible refine wp_ok.mpr ?_ | with_reducible refine w_int.mpr ?_ | with_reducible refine w_bl.mpr ?_ | with_reducible refine w_non.mpr ?_ | with_reducible refine w_str.mpr ?_ | with_reducible refine w_glob.mpr ?_ | with_reducible refine w_chain.mpr ?_ | with_reducible refine w_ite.mpr ?_ | with_reducible refine w_esn.mpr ?_ | with_reducible refine w_esc.mpr ?_ | with_reducible refine w_tnot.mpr ?_ | with_reducible refine w_tand.mpr ?_ | with_reducible refine w_tor.mpr ?_ | with_reducible refine w_cn.mpr ?_ | with_reducible refine w_c1.mpr ?_ | with_reducible refine w_on.mpr ?_ | with_reducible refine w_rng2.mpr ?_ | with_reducible refine w_gnm.mpr ?_ | with_reducible refine w_kn.mpr ?_ | with_reducible refine w_kc.mpr ?_ | with_reducible refine w_asg.mpr ?_ | with_reducible refine w_par2.mpr ?_ | with_reducible refine w_expr.mpr ?_ | with_reducible refine w_ifs.mpr ?_ | with_reducible refine w_brk.mpr ?_ | with_reducible refine w_cnt.mpr ?_ | with_reducible refine w_pass.mpr ?_ | with_reducible refine w_raise.mpr ?_ | with_reducible refine w_sn.mpr ?_ | with_reducible refine w_sc.mpr ?_ | with_reducible refine w_call.mpr ?_ | with_reducible refine w_and.mpr ?_ | with_reducible refine w_or.mpr ?_ | with_reducible refine w_not.mpr ?_ | with_reducible refine w_neg.mpr ?_ | with_reducible refine w_dget.mpr ?_ | with_reducible refine w_dset.mpr ?_ | with_reducible refine w_gtup.mpr ?_ | with_reducible refine w_gltup.mpr ?_ | with_reducible refine w_gsn.mpr (And.intro rfl ?_) | with_reducible refine w_gsc.mpr ?_ | with_reducible refine w_ilst.mpr ?_ | with_reducible refine w_itup.mpr ?_ | with_reducible refine w_blt.mpr ?_ | with_reducible refine w_isi.mpr ?_ | with_reducible refine w_os.mpr ?_ | with_reducible refine w_idx.mpr ?_ | with_reducible refine w_slc.mpr ?_ | with_reducible refine w_bin.mpr ?_ | with_reducible refine w_cmp.mpr ?_ | with_reducible refine w_tval.mpr ?_ | with_reducible refine w_forr.mpr ?_ | with_reducible refine w_whl.mpr ?_ | with_reducible refine w_lc.mpr ?_ | with_reducible refine w_ret.mpr ?_ | with_reducible refine w_retN.mpr ?_ | (with_reducible refine w_tup.mpr ?_) | (with_reducible refine w_lst.mpr ?_) | (with_reducible refine b_mul.mpr (And.symm ⟨?_, by first | exact mulOk_l (by omega) (by omega) | exact mulOk_r (by omega) (by omega) | exact mulOk_bd (a := 1000) (b := 1000) (by assumption) (by assumption) (by decide) (by decide) (by decide) | assumption⟩)) | (with_reducible refine b_mod.mpr (And.symm ⟨?_, by first | omega | assumption⟩)) | (with_reducible refine b_div.mpr (And.symm ⟨?_, by first | exact divOk_of (by omega) (by omega) | assumption⟩)) | (with_reducible refine b_pow.mpr ⟨by decide, ?_⟩) | refine ⟨_, rfl, Eq.refl (penM _ _ _), ?_⟩ | refine ⟨_, rfl, ⟨by omega, by omega⟩, ?_⟩ | refine ⟨_, rfl, ?_⟩ | refine ⟨_, _, rfl, ?_⟩ | refine ⟨_, _, _, rfl, rfl, rfl, ?_⟩ | refine ⟨_, _, rfl, rfl, of_decide_eq_true rfl, ?_⟩ | refine ⟨_, ne_nil _, ?_⟩ | ((with_reducible refine lenOk ?_ ?_); rfl) | refine ⟨_, rfl, rfl, ?_⟩ | with_reducible refine w_rng1.mpr ?_ | with_reducible refine w_rng2.mpr ?_ | ((with_reducible refine ifT ?_ ?_); rfl) | ((with_reducible refine ifF ?_ ?_); rfl))
    refine pure_step (a_inverse (cmp m1 m2) (bg x12 (by decide)) u12) rfl ?_
    repeat (first | ((with_reducible refine pg_turn ?_ ?_); rfl) | ((with_reducible refine pg_left ?_ ?_); rfl) | ((with_reducible refine pg_cells ?_ ?_); rfl) | ((with_reducible refine ps_turn ?_ ?_); rfl) | ((with_reducible refine ps_left ?_ ?_); rfl) | ((with_reducible refine w_var.mpr ?_); refine ⟨_, rfl, ?_⟩) | with_reducible refine wp_ok.mpr ?_ | with_reducible refine w_int.mpr ?_ | with_reducible refine w_bl.mpr ?_ | with_reducible refine w_non.mpr ?_ | with_reducible refine w_str.mpr ?_ | with_reducible refine w_glob.mpr ?_ | with_reducible refine w_chain.mpr ?_ | with_reducible refine w_ite.mpr ?_ | with_reducible refine w_esn.mpr ?_ | with_reducible refine w_esc.mpr ?_ | with_reducible refine w_tnot.mpr ?_ | with_reducible refine w_tand.mpr ?_ | with_reducible refine w_tor.mpr ?_ | with_reducible refine w_cn.mpr ?_ | with_reducible refine w_c1.mpr ?_ | with_reducible refine w_on.mpr ?_ | with_reducible refine w_rng2.mpr ?_ | with_reducible refine w_gnm.mpr ?_ | with_reducible refine w_kn.mpr ?_ | with_reducible refine w_kc.mpr ?_ | with_reducible refine w_asg.mpr ?_ | with_reducible refine w_par2.mpr ?_ | with_reducible refine w_expr.mpr ?_ | with_reducible refine w_ifs.mpr ?_ | with_reducible refine w_brk.mpr ?_ | with_reducible refine w_cnt.mpr ?_ | with_reducible refine w_pass.mpr ?_ | with_reducible refine w_raise.mpr ?_ | with_reducible refine w_sn.mpr ?_ | with_reducible refine w_sc.mpr ?_ | with_reducible refine w_call.mpr ?_ | with_reducible refine w_and.mpr ?_ | with_reducible refine w_or.mpr ?_ | with_reducible refine w_not.mpr ?_ | with_reducible refine w_neg.mpr ?_ | with_reducible refine w_dget.mpr ?_ | with_reducible refine w_dset.mpr ?_ | with_reducible refine w_gtup.mpr ?_ | with_reducible refine w_gltup.mpr ?_ | with_reducible refine w_gsn.mpr (And.intro rfl ?_) | with_reducible refine w_gsc.mpr ?_ | with_reducible refine w_ilst.mpr ?_ | with_reducible refine w_itup.mpr ?_ | with_reducible refine w_blt.mpr ?_ | with_reducible refine w_isi.mpr ?_ | with_reducible refine w_os.mpr ?_ | with_reducible refine w_idx.mpr ?_ | with_reducible refine w_slc.mpr ?_ | with_reducible refine w_bin.mpr ?_ | with_reducible refine w_cmp.mpr ?_ | with_reducible refine w_tval.mpr ?_ | with_reducible refine w_forr.mpr ?_ | with_reducible refine w_whl.mpr ?_ | with_reducible refine w_lc.mpr ?_ | with_reducible refine w_ret.mpr ?_ | with_reducible refine w_retN.mpr ?_ | (with_reducible refine w_tup.mpr ?_) | (with_reducible refine w_lst.mpr ?_) | (with_reducible refine b_mul.mpr (And.symm ⟨?_, by first | exact mulOk_l (by omega) (by omega) | exact mulOk_r (by omega) (by omega) | exact mulOk_bd (a := 1000) (b := 1000) (by assumption) (by assumption) (by decide) (by decide) (by decide) | assumption⟩)) | (with_reducible refine b_mod.mpr (And.symm ⟨?_, by first | omega | assumption⟩)) | (with_reducible refine b_div.mpr (And.symm ⟨?_, by first | exact divOk_of (by omega) (by omega) | assumption⟩)) | (with_reducible refine b_pow.mpr ⟨by decide, ?_⟩) | refine ⟨_, rfl, Eq.refl (penM _ _ _), ?_⟩ | refine ⟨_, rfl, ⟨by omega, by omega⟩, ?_⟩ | refine ⟨_, rfl, ?_⟩ | refine ⟨_, _, rfl, ?_⟩ | refine ⟨_, _, _, rfl, rfl, rfl, ?_⟩ | refine ⟨_, _, rfl, rfl, of_decide_eq_true rfl, ?_⟩ | refine ⟨_, ne_nil _, ?_⟩ | ((with_reducible refine lenOk ?_ ?_); rfl) | refine ⟨_, rfl, rfl, ?_⟩ | with_reducible refine w_rng1.mpr ?_ | with_reducible refine w_rng2.mpr ?_ | ((with_reducible refine ifT ?_ ?_); rfl) | ((with_reducible refine ifF ?_ ?_); rfl))
    refine pure_step (a_inverse m2 (bg x2 (by decide)) u2) rfl ?_
    repeat (first | ((with_reducible refine pg_turn ?_ ?_); rfl) | ((with_reducible refine pg_left ?_ ?_); rfl) | ((with_reducible refine pg_cells ?_ ?_); rfl) | ((with_reducible refine ps_turn ?_ ?_); rfl) | ((with_reducible refine ps_left ?_ ?_); rfl) | ((with_reducible refine w_var.mpr ?_); refine ⟨_, rfl, ?_⟩) | with_reducible refine wp_ok.mpr ?_ | with_reducible refine w_int.mpr ?_ | with_reducible refine w_bl.mpr ?_ | with_reducible refine w_non.mpr ?_ | with_reducible refine w_str.mpr ?_ | with_reducible refine w_glob.mpr ?_ | with_reducible refine w_chain.mpr ?_ | with_reducible refine w_ite.mpr ?_ | with_reducible refine w_esn.mpr ?_ | with_reducible refine w_esc.mpr ?_ | with_reducible refine w_tnot.mpr ?_ | with_reducible refine w_tand.mpr ?_ | with_reducible refine w_tor.mpr ?_ | with_reducible refine w_cn.mpr ?_ | with_reducible refine w_c1.mpr ?_ | with_reducible refine w_on.mpr ?_ | with_reducible refine w_rng2.mpr ?_ | with_reducible refine w_gnm.mpr ?_ | with_reducible refine w_kn.mpr ?_ | with_reducible refine w_kc.mpr ?_ | with_reducible refine w_asg.mpr ?_ | with_reducible refine w_par2.mpr ?_ | with_reducible refine w_expr.mpr ?_ | with_reducible refine w_ifs.mpr ?_ | with_reducible refine w_brk.mpr ?_ | with_reducible refine w_cnt.mpr ?_ | with_reducible refine w_pass.mpr ?_ | with_reducible refine w_raise.mpr ?_ | with_reducible refine w_sn.mpr ?_ | with_reducible refine w_sc.mpr ?_ | with_reducible refine w_call.mpr ?_ | with_reducible refine w_and.mpr ?_ | with_reducible refine w_or.mpr ?_ | with_reducible refine w_not.mpr ?_ | with_reducible refine w_neg.mpr ?_ | with_reducible refine w_dget.mpr ?_ | with_reducible refine w_dset.mpr ?_ | with_reducible refine w_gtup.mpr ?_ | with_reducible refine w_gltup.mpr ?_ | with_reducible refine w_gsn.mpr (And.intro rfl ?_) | with_reducible refine w_gsc.mpr ?_ | with_reducible refine w_ilst.mpr ?_ | with_reducible refine w_itup.mpr ?_ | with_reducible refine w_blt.mpr ?_ | with_reducible refine w_isi.mpr ?_ | with_reducible refine w_os.mpr ?_ | with_reducible refine w_idx.mpr ?_ | with_reducible refine w_slc.mpr ?_ | with_reducible refine w_bin.mpr ?_ | with_reducible refine w_cmp.mpr ?_ | with_reducible refine w_tval.mpr ?_ | with_reducible refine w_forr.mpr ?_ | with_reducible refine w_whl.mpr ?_ | with_reducible refine w_lc.mpr ?_ | with_reducible refine w_ret.mpr ?_ | with_reducible refine w_retN.mpr ?_ | (with_reducible refine w_tup.mpr ?_) | (with_reducible refine w_lst.mpr ?_) | (with_reducible refine b_mul.mpr (And.symm ⟨?_, by first | exact mulOk_l (by omega) (by omega) | exact mulOk_r (by omega) (by omega) | exact mulOk_bd (a := 1000) (b := 1000) (by assumption) (by assumption) (by decide) (by decide) (by decide) | assumption⟩)) | (with_reducible refine b_mod.mpr (And.symm ⟨?_, by first | omega | assumption⟩)) | (with_reducible refine b_div.mpr (And.symm ⟨?_, by first | exact divOk_of (by omega) (by omega) | assumption⟩)) | (with_reducible refine b_pow.mpr ⟨by decide, ?_⟩) | refine ⟨_, rfl, Eq.refl (penM _ _ _), ?_⟩ | refine ⟨_, rfl, ⟨by omega, by omega⟩, ?_⟩ | refine ⟨_, rfl, ?_⟩ | refine ⟨_, _, rfl, ?_⟩ | refine ⟨_, _, _, rfl, rfl, rfl, ?_⟩ | refine ⟨_, _, rfl, rfl, of_decide_eq_true rfl, ?_⟩ | refine ⟨_, ne_nil _, ?_⟩ | ((with_reducible refine lenOk ?_ ?_); rfl) | refine ⟨_, rfl, rfl, ?_⟩ | with_reducible refine w_rng1.mpr ?_ | with_reducible refine w_rng2.mpr ?_ | ((with_reducible refine ifT ?_ ?_); rfl) | ((with_reducible refine ifF ?_ ?_); rfl))
    refine pure_step (v := (inv (cmp m1 m2)).D) (by rw [a_compose (inv m2) (inv m1) (bg xi2 (by decide)) (bg xb (by decide)) ui2 ub, inv_both u1 u2]) rfl ?_
    repeat (first | (with_reducible refine ⟨_, ne6 _ _ _ _ _ _, ?_⟩) | (with_reducible refine ⟨_, ne3 _ _ _, ?_⟩) | (with_reducible refine ⟨_, ne2 _ _, ?_⟩) | (with_reducible refine ⟨_, ne_str _, ?_⟩) | ((with_reducible refine pg_turn ?_ ?_); rfl) | ((with_reducible refine pg_left ?_ ?_); rfl) | ((with_reducible refine pg_cells ?_ ?_); rfl) | ((with_reducible refine ps_turn ?_ ?_); rfl) | ((with_reducible refine ps_left ?_ ?_); rfl) | ((with_reducible refine w_var.mpr ?_); refine ⟨_, rfl, ?_⟩) | with_reducible refine wp_ok.mpr ?_ | with_reducible refine w_int.mpr ?_ | with_reducible refine w_bl.mpr ?_ | with_reducible refine w_non.mpr ?_ | with_reducible refine w_str.mpr ?_ | with_reducible refine w_glob.mpr ?_ | with_reducible refine w_chain.mpr ?_ | with_reducible refine w_ite.mpr ?_ | with_reducible refine w_esn.mpr ?_ | with_reducible refine w_esc.mpr ?_ | with_reducible refine w_tnot.mpr ?_ | with_reducible refine w_tand.mpr ?_ | with_reducible refine w_tor.mpr ?_ | with_reducible refine w_cn.mpr ?_ | with_reducible refine w_c1.mpr ?_ | with_reducible refine w_on.mpr ?_ | with_reducible refine w_rng2.mpr ?_ | with_reducible refine w_gnm.mpr ?_ | with_reducible refine w_kn.mpr ?_ | with_reducible refine w_kc.mpr ?_ | with_reducible refine w_asg.mpr ?_ | with_reducible refine w_par2.mpr ?_ | with_reducible refine w_expr.mpr ?_ | with_reducible refine w_ifs.mpr ?_ | with_reducible refine w_brk.mpr ?_ | with_reducible refine w_cnt.mpr ?_ | with_reducible refine w_pass.mpr ?_ | with_reducible refine w_raise.mpr ?_ | with_reducible refine w_sn.mpr ?_ | with_reducible refine w_sc.mpr ?_ | with_reducible refine w_call.mpr ?_ | with_reducible refine w_and.mpr ?_ | with_reducible refine w_or.mpr ?_ | with_reducible refine w_not.mpr ?_ | with_reducible refine w_neg.mpr ?_ | with_reducible refine w_dget.mpr ?_ | with_reducible refine w_dset.mpr ?_ | with_reducible refine w_gtup.mpr ?_ | with_reducible refine w_gltup.mpr ?_ | with_reducible refine w_gsn.mpr (And.intro rfl ?_) | with_reducible refine w_gsc.mpr ?_ | with_reducible refine w_ilst.mpr ?_ | with_reducible refine w_itup.mpr ?_ | with_reducible refine w_blt.mpr ?_ | with_reducible refine w_isi.mpr ?_ | with_reducible refine w_os.mpr ?_ | with_reducible refine w_idx.mpr ?_ | with_reducible refine w_slc.mpr ?_ | with_reducible refine w_bin.mpr ?_ | with_reducible refine w_cmp.mpr ?_ | with_reducible refine w_tval.mpr ?_ | with_reducible refine w_forr.mpr ?_ | with_reducible refine w_whl.mpr ?_ | with_reducible refine w_lc.mpr ?_ | with_reducible refine w_ret.mpr ?_ | with_reducible refine w_retN.mpr ?_ | (with_reducible refine w_tup.mpr ?_) | (with_reducible refine w_lst.mpr ?_) | (with_reducible refine b_mul.mpr (And.symm ⟨?_, by first | exact mulOk_l (by omega) (by omega) | exact mulOk_r (by omega) (by omega) | exact mulOk_bd (a := 1000) (b := 1000) (by assumption) (by assumption) (by decide) (by decide) (by decide) | assumption⟩)) | (with_reducible refine b_mod.mpr (And.symm ⟨?_, by first | omega | assumption⟩)) | (with_reducible refine b_div.mpr (And.symm ⟨?_, by first | exact divOk_of (by omega) (by omega) | assumption⟩)) | (with_reducible refine b_pow.mpr ⟨by decide, ?_⟩) | refine ⟨_, rfl, Eq.refl (penM _ _ _), ?_⟩ | refine ⟨_, rfl, ⟨by omega, by omega⟩, ?_⟩ | refine ⟨_, rfl, ?_⟩ | refine ⟨_, _, rfl, ?_⟩ | refine ⟨_, _, _, rfl, rfl, rfl, ?_⟩ | refine ⟨_, _, rfl, rfl, of_decide_eq_true rfl, ?_⟩ | refine ⟨_, ne_nil _, ?_⟩ | ((with_reducible refine lenOk ?_ ?_); rfl) | refine ⟨_, rfl, rfl, ?_⟩ | with_reducible refine w_rng1.mpr ?_ | with_reducible refine w_rng2.mpr ?_ | ((with_reducible refine ifT ?_ ?_); rfl) | ((with_reducible refine ifF ?_ ?_); rfl))
    refine pure_step (v := m1.D) (by rw [show M6 1 0 0 1 0 0 = still.D from rfl, a_compose still m1 (by unfold Mx still; exact ⟨big_i (by decide) (by decide), big_i (by decide) (by decide), big_i (by decide) (by decide), big_i (by decide) (by decide), big_i (by decide) (by decide), big_i (by decide) (by decide)⟩) (bg x1 (by decide)) (.inl rfl) u1, still_cmp]) rfl ?_
    repeat (first | (with_reducible refine ⟨_, ne6 _ _ _ _ _ _, ?_⟩) | (with_reducible refine ⟨_, ne3 _ _ _, ?_⟩) | (with_reducible refine ⟨_, ne2 _ _, ?_⟩) | (with_reducible refine ⟨_, ne_str _, ?_⟩) | ((with_reducible refine pg_turn ?_ ?_); rfl) | ((with_reducible refine pg_left ?_ ?_); rfl) | ((with_reducible refine pg_cells ?_ ?_); rfl) | ((with_reducible refine ps_turn ?_ ?_); rfl) | ((with_reducible refine ps_left ?_ ?_); rfl) | ((with_reducible refine w_var.mpr ?_); refine ⟨_, rfl, ?_⟩) | with_reducible refine wp_ok.mpr ?_ | with_reducible refine w_int.mpr ?_ | with_reducible refine w_bl.mpr ?_ | with_reducible refine w_non.mpr ?_ | with_reducible refine w_str.mpr ?_ | with_reducible refine w_glob.mpr ?_ | with_reducible refine w_chain.mpr ?_ | with_reducible refine w_ite.mpr ?_ | with_reducible refine w_esn.mpr ?_ | with_reducible refine w_esc.mpr ?_ | with_reducible refine w_tnot.mpr ?_ | with_reducible refine w_tand.mpr ?_ | with_reducible refine w_tor.mpr ?_ | with_reducible refine w_cn.mpr ?_ | with_reducible refine w_c1.mpr ?_ | with_reducible refine w_on.mpr ?_ | with_reducible refine w_rng2.mpr ?_ | with_reducible refine w_gnm.mpr ?_ | with_reducible refine w_kn.mpr ?_ | with_reducible refine w_kc.mpr ?_ | with_reducible refine w_asg.mpr ?_ | with_reducible refine w_par2.mpr ?_ | with_reducible refine w_expr.mpr ?_ | with_reducible refine w_ifs.mpr ?_ | with_reducible refine w_brk.mpr ?_ | with_reducible refine w_cnt.mpr ?_ | with_reducible refine w_pass.mpr ?_ | with_reducible refine w_raise.mpr ?_ | with_reducible refine w_sn.mpr ?_ | with_reducible refine w_sc.mpr ?_ | with_reducible refine w_call.mpr ?_ | with_reducible refine w_and.mpr ?_ | with_reducible refine w_or.mpr ?_ | with_reducible refine w_not.mpr ?_ | with_reducible refine w_neg.mpr ?_ | with_reducible refine w_dget.mpr ?_ | with_reducible refine w_dset.mpr ?_ | with_reducible refine w_gtup.mpr ?_ | with_reducible refine w_gltup.mpr ?_ | with_reducible refine w_gsn.mpr (And.intro rfl ?_) | with_reducible refine w_gsc.mpr ?_ | with_reducible refine w_ilst.mpr ?_ | with_reducible refine w_itup.mpr ?_ | with_reducible refine w_blt.mpr ?_ | with_reducible refine w_isi.mpr ?_ | with_reducible refine w_os.mpr ?_ | with_reducible refine w_idx.mpr ?_ | with_reducible refine w_slc.mpr ?_ | with_reducible refine w_bin.mpr ?_ | with_reducible refine w_cmp.mpr ?_ | with_reducible refine w_tval.mpr ?_ | with_reducible refine w_forr.mpr ?_ | with_reducible refine w_whl.mpr ?_ | with_reducible refine w_lc.mpr ?_ | with_reducible refine w_ret.mpr ?_ | with_reducible refine w_retN.mpr ?_ | (with_reducible refine w_tup.mpr ?_) | (with_reducible refine w_lst.mpr ?_) | (with_reducible refine b_mul.mpr (And.symm ⟨?_, by first | exact mulOk_l (by omega) (by omega) | exact mulOk_r (by omega) (by omega) | exact mulOk_bd (a := 1000) (b := 1000) (by assumption) (by assumption) (by decide) (by decide) (by decide) | assumption⟩)) | (with_reducible refine b_mod.mpr (And.symm ⟨?_, by first | omega | assumption⟩)) | (with_reducible refine b_div.mpr (And.symm ⟨?_, by first | exact divOk_of (by omega) (by omega) | assumption⟩)) | (with_reducible refine b_pow.mpr ⟨by decide, ?_⟩) | refine ⟨_, rfl, Eq.refl (penM _ _ _), ?_⟩ | refine ⟨_, rfl, ⟨by omega, by omega⟩, ?_⟩ | refine ⟨_, rfl, ?_⟩ | refine ⟨_, _, rfl, ?_⟩ | refine ⟨_, _, _, rfl, rfl, rfl, ?_⟩ | refine ⟨_, _, rfl, rfl, of_decide_eq_true rfl, ?_⟩ | refine ⟨_, ne_nil _, ?_⟩ | ((with_reducible refine lenOk ?_ ?_); rfl) | refine ⟨_, rfl, rfl, ?_⟩ | with_reducible refine w_rng1.mpr ?_ | with_reducible refine w_rng2.mpr ?_ | ((with_reducible refine ifT ?_ ?_); rfl) | ((with_reducible refine ifF ?_ ?_); rfl))
    refine pen_step hp8 rfl (d_great _ 20 _ _ _ hp8 (by omega) fun gx μ2 gx0 gx1 hp2 => ⟨hp2.len, ?_⟩)
    repeat (first | ((with_reducible refine pg_turn ?_ ?_); rfl) | ((with_reducible refine pg_left ?_ ?_); rfl) | ((with_reducible refine pg_cells ?_ ?_); rfl) | ((with_reducible refine ps_turn ?_ ?_); rfl) | ((with_reducible refine ps_left ?_ ?_); rfl) | ((with_reducible refine w_var.mpr ?_); refine ⟨_, rfl, ?_⟩) | with_reducible refine wp_ok.mpr ?_ | with_reducible refine w_int.mpr ?_ | with_reducible refine w_bl.mpr ?_ | with_reducible refine w_non.mpr ?_ | with_reducible refine w_str.mpr ?_ | with_reducible refine w_glob.mpr ?_ | with_reducible refine w_chain.mpr ?_ | with_reducible refine w_ite.mpr ?_ | with_reducible refine w_esn.mpr ?_ | with_reducible refine w_esc.mpr ?_ | with_reducible refine w_tnot.mpr ?_ | with_reducible refine w_tand.mpr ?_ | with_reducible refine w_tor.mpr ?_ | with_reducible refine w_cn.mpr ?_ | with_reducible refine w_c1.mpr ?_ | with_reducible refine w_on.mpr ?_ | with_reducible refine w_rng2.mpr ?_ | with_reducible refine w_gnm.mpr ?_ | with_reducible refine w_kn.mpr ?_ | with_reducible refine w_kc.mpr ?_ | with_reducible refine w_asg.mpr ?_ | with_reducible refine w_par2.mpr ?_ | with_reducible refine w_expr.mpr ?_ | with_reducible refine w_ifs.mpr ?_ | with_reducible refine w_brk.mpr ?_ | with_reducible refine w_cnt.mpr ?_ | with_reducible refine w_pass.mpr ?_ | with_reducible refine w_raise.mpr ?_ | with_reducible refine w_sn.mpr ?_ | with_reducible refine w_sc.mpr ?_ | with_reducible refine w_call.mpr ?_ | with_reducible refine w_and.mpr ?_ | with_reducible refine w_or.mpr ?_ | with_reducible refine w_not.mpr ?_ | with_reducible refine w_neg.mpr ?_ | with_reducible refine w_dget.mpr ?_ | with_reducible refine w_dset.mpr ?_ | with_reducible refine w_gtup.mpr ?_ | with_reducible refine w_gltup.mpr ?_ | with_reducible refine w_gsn.mpr (And.intro rfl ?_) | with_reducible refine w_gsc.mpr ?_ | with_reducible refine w_ilst.mpr ?_ | with_reducible refine w_itup.mpr ?_ | with_reducible refine w_blt.mpr ?_ | with_reducible refine w_isi.mpr ?_ | with_reducible refine w_os.mpr ?_ | with_reducible refine w_idx.mpr ?_ | with_reducible refine w_slc.mpr ?_ | with_reducible refine w_bin.mpr ?_ | with_reducible refine w_cmp.mpr ?_ | with_reducible refine w_tval.mpr ?_ | with_reducible refine w_forr.mpr ?_ | with_reducible refine w_whl.mpr ?_ | with_reducible refine w_lc.mpr ?_ | with_reducible refine w_ret.mpr ?_ | with_reducible refine w_retN.mpr ?_ | (with_reducible refine w_tup.mpr ?_) | (with_reducible refine w_lst.mpr ?_) | (with_reducible refine b_mul.mpr (And.symm ⟨?_, by first | exact mulOk_l (by omega) (by omega) | exact mulOk_r (by omega) (by omega) | exact mulOk_bd (a := 1000) (b := 1000) (by assumption) (by assumption) (by decide) (by decide) (by decide) | assumption⟩)) | (with_reducible refine b_mod.mpr (And.symm ⟨?_, by first | omega | assumption⟩)) | (with_reducible refine b_div.mpr (And.symm ⟨?_, by first | exact divOk_of (by omega) (by omega) | assumption⟩)) | (with_reducible refine b_pow.mpr ⟨by decide, ?_⟩) | refine ⟨_, rfl, Eq.refl (penM _ _ _), ?_⟩ | refine ⟨_, rfl, ⟨by omega, by omega⟩, ?_⟩ | refine ⟨_, rfl, ?_⟩ | refine ⟨_, _, rfl, ?_⟩ | refine ⟨_, _, _, rfl, rfl, rfl, ?_⟩ | refine ⟨_, _, rfl, rfl, of_decide_eq_true rfl, ?_⟩ | refine ⟨_, ne_nil _, ?_⟩ | ((with_reducible refine lenOk ?_ ?_); rfl) | refine ⟨_, rfl, rfl, ?_⟩ | with_reducible refine w_rng1.mpr ?_ | with_reducible refine w_rng2.mpr ?_ | ((with_reducible refine ifT ?_ ?_); rfl) | ((with_reducible refine ifF ?_ ?_); rfl))
    refine pen_step hp2 rfl (d_great _ 20 _ _ _ hp2 (by omega) fun gy μ3 gy0 gy1 hp3 => ⟨hp3.len, ?_⟩)
    repeat (first | ((with_reducible refine pg_turn ?_ ?_); rfl) | ((with_reducible refine pg_left ?_ ?_); rfl) | ((with_reducible refine pg_cells ?_ ?_); rfl) | ((with_reducible refine ps_turn ?_ ?_); rfl) | ((with_reducible refine ps_left ?_ ?_); rfl) | ((with_reducible refine w_var.mpr ?_); refine ⟨_, rfl, ?_⟩) | with_reducible refine wp_ok.mpr ?_ | with_reducible refine w_int.mpr ?_ | with_reducible refine w_bl.mpr ?_ | with_reducible refine w_non.mpr ?_ | with_reducible refine w_str.mpr ?_ | with_reducible refine w_glob.mpr ?_ | with_reducible refine w_chain.mpr ?_ | with_reducible refine w_ite.mpr ?_ | with_reducible refine w_esn.mpr ?_ | with_reducible refine w_esc.mpr ?_ | with_reducible refine w_tnot.mpr ?_ | with_reducible refine w_tand.mpr ?_ | with_reducible refine w_tor.mpr ?_ | with_reducible refine w_cn.mpr ?_ | with_reducible refine w_c1.mpr ?_ | with_reducible refine w_on.mpr ?_ | with_reducible refine w_rng2.mpr ?_ | with_reducible refine w_gnm.mpr ?_ | with_reducible refine w_kn.mpr ?_ | with_reducible refine w_kc.mpr ?_ | with_reducible refine w_asg.mpr ?_ | with_reducible refine w_par2.mpr ?_ | with_reducible refine w_expr.mpr ?_ | with_reducible refine w_ifs.mpr ?_ | with_reducible refine w_brk.mpr ?_ | with_reducible refine w_cnt.mpr ?_ | with_reducible refine w_pass.mpr ?_ | with_reducible refine w_raise.mpr ?_ | with_reducible refine w_sn.mpr ?_ | with_reducible refine w_sc.mpr ?_ | with_reducible refine w_call.mpr ?_ | with_reducible refine w_and.mpr ?_ | with_reducible refine w_or.mpr ?_ | with_reducible refine w_not.mpr ?_ | with_reducible refine w_neg.mpr ?_ | with_reducible refine w_dget.mpr ?_ | with_reducible refine w_dset.mpr ?_ | with_reducible refine w_gtup.mpr ?_ | with_reducible refine w_gltup.mpr ?_ | with_reducible refine w_gsn.mpr (And.intro rfl ?_) | with_reducible refine w_gsc.mpr ?_ | with_reducible refine w_ilst.mpr ?_ | with_reducible refine w_itup.mpr ?_ | with_reducible refine w_blt.mpr ?_ | with_reducible refine w_isi.mpr ?_ | with_reducible refine w_os.mpr ?_ | with_reducible refine w_idx.mpr ?_ | with_reducible refine w_slc.mpr ?_ | with_reducible refine w_bin.mpr ?_ | with_reducible refine w_cmp.mpr ?_ | with_reducible refine w_tval.mpr ?_ | with_reducible refine w_forr.mpr ?_ | with_reducible refine w_whl.mpr ?_ | with_reducible refine w_lc.mpr ?_ | with_reducible refine w_ret.mpr ?_ | with_reducible refine w_retN.mpr ?_ | (with_reducible refine w_tup.mpr ?_) | (with_reducible refine w_lst.mpr ?_) | (with_reducible refine b_mul.mpr (And.symm ⟨?_, by first | exact mulOk_l (by omega) (by omega) | exact mulOk_r (by omega) (by omega) | exact mulOk_bd (a := 1000) (b := 1000) (by assumption) (by assumption) (by decide) (by decide) (by decide) | assumption⟩)) | (with_reducible refine b_mod.mpr (And.symm ⟨?_, by first | omega | assumption⟩)) | (with_reducible refine b_div.mpr (And.symm ⟨?_, by first | exact divOk_of (by omega) (by omega) | assumption⟩)) | (with_reducible refine b_pow.mpr ⟨by decide, ?_⟩) | refine ⟨_, rfl, Eq.refl (penM _ _ _), ?_⟩ | refine ⟨_, rfl, ⟨by omega, by omega⟩, ?_⟩ | refine ⟨_, rfl, ?_⟩ | refine ⟨_, _, rfl, ?_⟩ | refine ⟨_, _, _, rfl, rfl, rfl, ?_⟩ | refine ⟨_, _, rfl, rfl, of_decide_eq_true rfl, ?_⟩ | refine ⟨_, ne_nil _, ?_⟩ | ((with_reducible refine lenOk ?_ ?_); rfl) | refine ⟨_, rfl, rfl, ?_⟩ | with_reducible refine w_rng1.mpr ?_ | with_reducible refine w_rng2.mpr ?_ | ((with_reducible refine ifT ?_ ?_); rfl) | ((with_reducible refine ifF ?_ ?_); rfl))
    refine pen_step hp3 rfl (d_draw _ _ _ _ _ hp3 (by decide) (by decide) (by omega) fun gz μ4 gz0 gz1 hp4 => ⟨hp4.len, ?_⟩)
    obtain ⟨g, hg, g0, g1, z1, z2, hgg, ax, ay⟩ := form_gcd (x := gx) (y := 0 - gy) (z := 1 + gz) (by omega)
    have ax2 : (gx / g).natAbs ≤ 10 ^ 20 := by omega
    have ay2 : ((0 - gy) / g).natAbs ≤ 10 ^ 20 := by omega
    have az2 : ((1 + gz) / g).natAbs ≤ 10 ^ 6 := by omega
    repeat (first | ((with_reducible refine pg_turn ?_ ?_); rfl) | ((with_reducible refine pg_left ?_ ?_); rfl) | ((with_reducible refine pg_cells ?_ ?_); rfl) | ((with_reducible refine ps_turn ?_ ?_); rfl) | ((with_reducible refine ps_left ?_ ?_); rfl) | ((with_reducible refine w_var.mpr ?_); refine ⟨_, rfl, ?_⟩) | with_reducible refine wp_ok.mpr ?_ | with_reducible refine w_int.mpr ?_ | with_reducible refine w_bl.mpr ?_ | with_reducible refine w_non.mpr ?_ | with_reducible refine w_str.mpr ?_ | with_reducible refine w_glob.mpr ?_ | with_reducible refine w_chain.mpr ?_ | with_reducible refine w_ite.mpr ?_ | with_reducible refine w_esn.mpr ?_ | with_reducible refine w_esc.mpr ?_ | with_reducible refine w_tnot.mpr ?_ | with_reducible refine w_tand.mpr ?_ | with_reducible refine w_tor.mpr ?_ | with_reducible refine w_cn.mpr ?_ | with_reducible refine w_c1.mpr ?_ | with_reducible refine w_on.mpr ?_ | with_reducible refine w_rng2.mpr ?_ | with_reducible refine w_gnm.mpr ?_ | with_reducible refine w_kn.mpr ?_ | with_reducible refine w_kc.mpr ?_ | with_reducible refine w_asg.mpr ?_ | with_reducible refine w_par2.mpr ?_ | with_reducible refine w_expr.mpr ?_ | with_reducible refine w_ifs.mpr ?_ | with_reducible refine w_brk.mpr ?_ | with_reducible refine w_cnt.mpr ?_ | with_reducible refine w_pass.mpr ?_ | with_reducible refine w_raise.mpr ?_ | with_reducible refine w_sn.mpr ?_ | with_reducible refine w_sc.mpr ?_ | with_reducible refine w_call.mpr ?_ | with_reducible refine w_and.mpr ?_ | with_reducible refine w_or.mpr ?_ | with_reducible refine w_not.mpr ?_ | with_reducible refine w_neg.mpr ?_ | with_reducible refine w_dget.mpr ?_ | with_reducible refine w_dset.mpr ?_ | with_reducible refine w_gtup.mpr ?_ | with_reducible refine w_gltup.mpr ?_ | with_reducible refine w_gsn.mpr (And.intro rfl ?_) | with_reducible refine w_gsc.mpr ?_ | with_reducible refine w_ilst.mpr ?_ | with_reducible refine w_itup.mpr ?_ | with_reducible refine w_blt.mpr ?_ | with_reducible refine w_isi.mpr ?_ | with_reducible refine w_os.mpr ?_ | with_reducible refine w_idx.mpr ?_ | with_reducible refine w_slc.mpr ?_ | with_reducible refine w_bin.mpr ?_ | with_reducible refine w_cmp.mpr ?_ | with_reducible refine w_tval.mpr ?_ | with_reducible refine w_forr.mpr ?_ | with_reducible refine w_whl.mpr ?_ | with_reducible refine w_lc.mpr ?_ | with_reducible refine w_ret.mpr ?_ | with_reducible refine w_retN.mpr ?_ | (with_reducible refine w_tup.mpr ?_) | (with_reducible refine w_lst.mpr ?_) | (with_reducible refine b_mul.mpr (And.symm ⟨?_, by first | exact mulOk_l (by omega) (by omega) | exact mulOk_r (by omega) (by omega) | exact mulOk_bd (a := 1000) (b := 1000) (by assumption) (by assumption) (by decide) (by decide) (by decide) | assumption⟩)) | (with_reducible refine b_mod.mpr (And.symm ⟨?_, by first | omega | assumption⟩)) | (with_reducible refine b_div.mpr (And.symm ⟨?_, by first | exact divOk_of (by omega) (by omega) | assumption⟩)) | (with_reducible refine b_pow.mpr ⟨by decide, ?_⟩) | refine ⟨_, rfl, Eq.refl (penM _ _ _), ?_⟩ | refine ⟨_, rfl, ⟨by omega, by omega⟩, ?_⟩ | refine ⟨_, rfl, ?_⟩ | refine ⟨_, _, rfl, ?_⟩ | refine ⟨_, _, _, rfl, rfl, rfl, ?_⟩ | refine ⟨_, _, rfl, rfl, of_decide_eq_true rfl, ?_⟩ | refine ⟨_, ne_nil _, ?_⟩ | ((with_reducible refine lenOk ?_ ?_); rfl) | refine ⟨_, rfl, rfl, ?_⟩ | with_reducible refine w_rng1.mpr ?_ | with_reducible refine w_rng2.mpr ?_ | ((with_reducible refine ifT ?_ ?_); rfl) | ((with_reducible refine ifF ?_ ?_); rfl))
    refine pure_step (a_form gx (0 - gy) (1 + gz) g hg g0 (by omega)) rfl ?_
    generalize gx / g = X at *
    generalize (0 - gy) / g = Y at *
    generalize (1 + gz) / g = Z at *
    obtain ⟨_, ⟨ka, kb, kc, kd⟩, kp, kq⟩ := h1
    have n1 := nmul ka ax2
    have n2 := nmul kb ay2
    have n3 := nmul kp az2
    have n4 := nmul kc ax2
    have n5 := nmul kd ay2
    have n6 := nmul kq az2
    repeat (first | ((with_reducible refine pg_turn ?_ ?_); rfl) | ((with_reducible refine pg_left ?_ ?_); rfl) | ((with_reducible refine pg_cells ?_ ?_); rfl) | ((with_reducible refine ps_turn ?_ ?_); rfl) | ((with_reducible refine ps_left ?_ ?_); rfl) | ((with_reducible refine w_var.mpr ?_); refine ⟨_, rfl, ?_⟩) | with_reducible refine wp_ok.mpr ?_ | with_reducible refine w_int.mpr ?_ | with_reducible refine w_bl.mpr ?_ | with_reducible refine w_non.mpr ?_ | with_reducible refine w_str.mpr ?_ | with_reducible refine w_glob.mpr ?_ | with_reducible refine w_chain.mpr ?_ | with_reducible refine w_ite.mpr ?_ | with_reducible refine w_esn.mpr ?_ | with_reducible refine w_esc.mpr ?_ | with_reducible refine w_tnot.mpr ?_ | with_reducible refine w_tand.mpr ?_ | with_reducible refine w_tor.mpr ?_ | with_reducible refine w_cn.mpr ?_ | with_reducible refine w_c1.mpr ?_ | with_reducible refine w_on.mpr ?_ | with_reducible refine w_rng2.mpr ?_ | with_reducible refine w_gnm.mpr ?_ | with_reducible refine w_kn.mpr ?_ | with_reducible refine w_kc.mpr ?_ | with_reducible refine w_asg.mpr ?_ | with_reducible refine w_par2.mpr ?_ | with_reducible refine w_expr.mpr ?_ | with_reducible refine w_ifs.mpr ?_ | with_reducible refine w_brk.mpr ?_ | with_reducible refine w_cnt.mpr ?_ | with_reducible refine w_pass.mpr ?_ | with_reducible refine w_raise.mpr ?_ | with_reducible refine w_sn.mpr ?_ | with_reducible refine w_sc.mpr ?_ | with_reducible refine w_call.mpr ?_ | with_reducible refine w_and.mpr ?_ | with_reducible refine w_or.mpr ?_ | with_reducible refine w_not.mpr ?_ | with_reducible refine w_neg.mpr ?_ | with_reducible refine w_dget.mpr ?_ | with_reducible refine w_dset.mpr ?_ | with_reducible refine w_gtup.mpr ?_ | with_reducible refine w_gltup.mpr ?_ | with_reducible refine w_gsn.mpr (And.intro rfl ?_) | with_reducible refine w_gsc.mpr ?_ | with_reducible refine w_ilst.mpr ?_ | with_reducible refine w_itup.mpr ?_ | with_reducible refine w_blt.mpr ?_ | with_reducible refine w_isi.mpr ?_ | with_reducible refine w_os.mpr ?_ | with_reducible refine w_idx.mpr ?_ | with_reducible refine w_slc.mpr ?_ | with_reducible refine w_bin.mpr ?_ | with_reducible refine w_cmp.mpr ?_ | with_reducible refine w_tval.mpr ?_ | with_reducible refine w_forr.mpr ?_ | with_reducible refine w_whl.mpr ?_ | with_reducible refine w_lc.mpr ?_ | with_reducible refine w_ret.mpr ?_ | with_reducible refine w_retN.mpr ?_ | (with_reducible refine w_tup.mpr ?_) | (with_reducible refine w_lst.mpr ?_) | (with_reducible refine b_mul.mpr (And.symm ⟨?_, by first | exact mulOk_l (by omega) (by omega) | exact mulOk_r (by omega) (by omega) | exact mulOk_bd (a := 1000) (b := 1000) (by assumption) (by assumption) (by decide) (by decide) (by decide) | assumption⟩)) | (with_reducible refine b_mod.mpr (And.symm ⟨?_, by first | omega | assumption⟩)) | (with_reducible refine b_div.mpr (And.symm ⟨?_, by first | exact divOk_of (by omega) (by omega) | assumption⟩)) | (with_reducible refine b_pow.mpr ⟨by decide, ?_⟩) | refine ⟨_, rfl, Eq.refl (penM _ _ _), ?_⟩ | refine ⟨_, rfl, ⟨by omega, by omega⟩, ?_⟩ | refine ⟨_, rfl, ?_⟩ | refine ⟨_, _, rfl, ?_⟩ | refine ⟨_, _, _, rfl, rfl, rfl, ?_⟩ | refine ⟨_, _, rfl, rfl, of_decide_eq_true rfl, ?_⟩ | refine ⟨_, ne_nil _, ?_⟩ | ((with_reducible refine lenOk ?_ ?_); rfl) | refine ⟨_, rfl, rfl, ?_⟩ | with_reducible refine w_rng1.mpr ?_ | with_reducible refine w_rng2.mpr ?_ | ((with_reducible refine ifT ?_ ?_); rfl) | ((with_reducible refine ifF ?_ ?_); rfl))
    refine pure_step (a_trans (cmp m1 m2) (bg x12 (by decide)) u12 X Y Z z1 (by omega) hgg (by omega) (by omega)) rfl ?_
    repeat (first | ((with_reducible refine pg_turn ?_ ?_); rfl) | ((with_reducible refine pg_left ?_ ?_); rfl) | ((with_reducible refine pg_cells ?_ ?_); rfl) | ((with_reducible refine ps_turn ?_ ?_); rfl) | ((with_reducible refine ps_left ?_ ?_); rfl) | ((with_reducible refine w_var.mpr ?_); refine ⟨_, rfl, ?_⟩) | with_reducible refine wp_ok.mpr ?_ | with_reducible refine w_int.mpr ?_ | with_reducible refine w_bl.mpr ?_ | with_reducible refine w_non.mpr ?_ | with_reducible refine w_str.mpr ?_ | with_reducible refine w_glob.mpr ?_ | with_reducible refine w_chain.mpr ?_ | with_reducible refine w_ite.mpr ?_ | with_reducible refine w_esn.mpr ?_ | with_reducible refine w_esc.mpr ?_ | with_reducible refine w_tnot.mpr ?_ | with_reducible refine w_tand.mpr ?_ | with_reducible refine w_tor.mpr ?_ | with_reducible refine w_cn.mpr ?_ | with_reducible refine w_c1.mpr ?_ | with_reducible refine w_on.mpr ?_ | with_reducible refine w_rng2.mpr ?_ | with_reducible refine w_gnm.mpr ?_ | with_reducible refine w_kn.mpr ?_ | with_reducible refine w_kc.mpr ?_ | with_reducible refine w_asg.mpr ?_ | with_reducible refine w_par2.mpr ?_ | with_reducible refine w_expr.mpr ?_ | with_reducible refine w_ifs.mpr ?_ | with_reducible refine w_brk.mpr ?_ | with_reducible refine w_cnt.mpr ?_ | with_reducible refine w_pass.mpr ?_ | with_reducible refine w_raise.mpr ?_ | with_reducible refine w_sn.mpr ?_ | with_reducible refine w_sc.mpr ?_ | with_reducible refine w_call.mpr ?_ | with_reducible refine w_and.mpr ?_ | with_reducible refine w_or.mpr ?_ | with_reducible refine w_not.mpr ?_ | with_reducible refine w_neg.mpr ?_ | with_reducible refine w_dget.mpr ?_ | with_reducible refine w_dset.mpr ?_ | with_reducible refine w_gtup.mpr ?_ | with_reducible refine w_gltup.mpr ?_ | with_reducible refine w_gsn.mpr (And.intro rfl ?_) | with_reducible refine w_gsc.mpr ?_ | with_reducible refine w_ilst.mpr ?_ | with_reducible refine w_itup.mpr ?_ | with_reducible refine w_blt.mpr ?_ | with_reducible refine w_isi.mpr ?_ | with_reducible refine w_os.mpr ?_ | with_reducible refine w_idx.mpr ?_ | with_reducible refine w_slc.mpr ?_ | with_reducible refine w_bin.mpr ?_ | with_reducible refine w_cmp.mpr ?_ | with_reducible refine w_tval.mpr ?_ | with_reducible refine w_forr.mpr ?_ | with_reducible refine w_whl.mpr ?_ | with_reducible refine w_lc.mpr ?_ | with_reducible refine w_ret.mpr ?_ | with_reducible refine w_retN.mpr ?_ | (with_reducible refine w_tup.mpr ?_) | (with_reducible refine w_lst.mpr ?_) | (with_reducible refine b_mul.mpr (And.symm ⟨?_, by first | exact mulOk_l (by omega) (by omega) | exact mulOk_r (by omega) (by omega) | exact mulOk_bd (a := 1000) (b := 1000) (by assumption) (by assumption) (by decide) (by decide) (by decide) | assumption⟩)) | (with_reducible refine b_mod.mpr (And.symm ⟨?_, by first | omega | assumption⟩)) | (with_reducible refine b_div.mpr (And.symm ⟨?_, by first | exact divOk_of (by omega) (by omega) | assumption⟩)) | (with_reducible refine b_pow.mpr ⟨by decide, ?_⟩) | refine ⟨_, rfl, Eq.refl (penM _ _ _), ?_⟩ | refine ⟨_, rfl, ⟨by omega, by omega⟩, ?_⟩ | refine ⟨_, rfl, ?_⟩ | refine ⟨_, _, rfl, ?_⟩ | refine ⟨_, _, _, rfl, rfl, rfl, ?_⟩ | refine ⟨_, _, rfl, rfl, of_decide_eq_true rfl, ?_⟩ | refine ⟨_, ne_nil _, ?_⟩ | ((with_reducible refine lenOk ?_ ?_); rfl) | refine ⟨_, rfl, rfl, ?_⟩ | with_reducible refine w_rng1.mpr ?_ | with_reducible refine w_rng2.mpr ?_ | ((with_reducible refine ifT ?_ ?_); rfl) | ((with_reducible refine ifF ?_ ?_); rfl))
    refine pure_step (a_trans m1 (bg x1 (by decide)) u1 X Y Z z1 (by omega) hgg (by omega) (by omega)) rfl ?_
    repeat (first | ((with_reducible refine pg_turn ?_ ?_); rfl) | ((with_reducible refine pg_left ?_ ?_); rfl) | ((with_reducible refine pg_cells ?_ ?_); rfl) | ((with_reducible refine ps_turn ?_ ?_); rfl) | ((with_reducible refine ps_left ?_ ?_); rfl) | ((with_reducible refine w_var.mpr ?_); refine ⟨_, rfl, ?_⟩) | with_reducible refine wp_ok.mpr ?_ | with_reducible refine w_int.mpr ?_ | with_reducible refine w_bl.mpr ?_ | with_reducible refine w_non.mpr ?_ | with_reducible refine w_str.mpr ?_ | with_reducible refine w_glob.mpr ?_ | with_reducible refine w_chain.mpr ?_ | with_reducible refine w_ite.mpr ?_ | with_reducible refine w_esn.mpr ?_ | with_reducible refine w_esc.mpr ?_ | with_reducible refine w_tnot.mpr ?_ | with_reducible refine w_tand.mpr ?_ | with_reducible refine w_tor.mpr ?_ | with_reducible refine w_cn.mpr ?_ | with_reducible refine w_c1.mpr ?_ | with_reducible refine w_on.mpr ?_ | with_reducible refine w_rng2.mpr ?_ | with_reducible refine w_gnm.mpr ?_ | with_reducible refine w_kn.mpr ?_ | with_reducible refine w_kc.mpr ?_ | with_reducible refine w_asg.mpr ?_ | with_reducible refine w_par2.mpr ?_ | with_reducible refine w_expr.mpr ?_ | with_reducible refine w_ifs.mpr ?_ | with_reducible refine w_brk.mpr ?_ | with_reducible refine w_cnt.mpr ?_ | with_reducible refine w_pass.mpr ?_ | with_reducible refine w_raise.mpr ?_ | with_reducible refine w_sn.mpr ?_ | with_reducible refine w_sc.mpr ?_ | with_reducible refine w_call.mpr ?_ | with_reducible refine w_and.mpr ?_ | with_reducible refine w_or.mpr ?_ | with_reducible refine w_not.mpr ?_ | with_reducible refine w_neg.mpr ?_ | with_reducible refine w_dget.mpr ?_ | with_reducible refine w_dset.mpr ?_ | with_reducible refine w_gtup.mpr ?_ | with_reducible refine w_gltup.mpr ?_ | with_reducible refine w_gsn.mpr (And.intro rfl ?_) | with_reducible refine w_gsc.mpr ?_ | with_reducible refine w_ilst.mpr ?_ | with_reducible refine w_itup.mpr ?_ | with_reducible refine w_blt.mpr ?_ | with_reducible refine w_isi.mpr ?_ | with_reducible refine w_os.mpr ?_ | with_reducible refine w_idx.mpr ?_ | with_reducible refine w_slc.mpr ?_ | with_reducible refine w_bin.mpr ?_ | with_reducible refine w_cmp.mpr ?_ | with_reducible refine w_tval.mpr ?_ | with_reducible refine w_forr.mpr ?_ | with_reducible refine w_whl.mpr ?_ | with_reducible refine w_lc.mpr ?_ | with_reducible refine w_ret.mpr ?_ | with_reducible refine w_retN.mpr ?_ | (with_reducible refine w_tup.mpr ?_) | (with_reducible refine w_lst.mpr ?_) | (with_reducible refine b_mul.mpr (And.symm ⟨?_, by first | exact mulOk_l (by omega) (by omega) | exact mulOk_r (by omega) (by omega) | exact mulOk_bd (a := 1000) (b := 1000) (by assumption) (by assumption) (by decide) (by decide) (by decide) | assumption⟩)) | (with_reducible refine b_mod.mpr (And.symm ⟨?_, by first | omega | assumption⟩)) | (with_reducible refine b_div.mpr (And.symm ⟨?_, by first | exact divOk_of (by omega) (by omega) | assumption⟩)) | (with_reducible refine b_pow.mpr ⟨by decide, ?_⟩) | refine ⟨_, rfl, Eq.refl (penM _ _ _), ?_⟩ | refine ⟨_, rfl, ⟨by omega, by omega⟩, ?_⟩ | refine ⟨_, rfl, ?_⟩ | refine ⟨_, _, rfl, ?_⟩ | refine ⟨_, _, _, rfl, rfl, rfl, ?_⟩ | refine ⟨_, _, rfl, rfl, of_decide_eq_true rfl, ?_⟩ | refine ⟨_, ne_nil _, ?_⟩ | ((with_reducible refine lenOk ?_ ?_); rfl) | refine ⟨_, rfl, rfl, ?_⟩ | with_reducible refine w_rng1.mpr ?_ | with_reducible refine w_rng2.mpr ?_ | ((with_reducible refine ifT ?_ ?_); rfl) | ((with_reducible refine ifF ?_ ?_); rfl))
    refine pure_step (v := P3 ((cmp m1 m2).a * X + (cmp m1 m2).b * Y + (cmp m1 m2).p * Z) ((cmp m1 m2).c * X + (cmp m1 m2).d * Y + (cmp m1 m2).q * Z) Z)
      (by rw [a_trans m2 (bg x2 (by decide)) u2 _ _ Z z1 (by omega) (pt_gcd u1 hgg) (by omega) (by omega), (pt_cmp m1 m2 X Y Z).1, (pt_cmp m1 m2 X Y Z).2]) rfl ?_
    repeat (first | (with_reducible refine ⟨_, ne6 _ _ _ _ _ _, ?_⟩) | (with_reducible refine ⟨_, ne3 _ _ _, ?_⟩) | (with_reducible refine ⟨_, ne2 _ _, ?_⟩) | (with_reducible refine ⟨_, ne_str _, ?_⟩) | ((with_reducible refine pg_turn ?_ ?_); rfl) | ((with_reducible refine pg_left ?_ ?_); rfl) | ((with_reducible refine pg_cells ?_ ?_); rfl) | ((with_reducible refine ps_turn ?_ ?_); rfl) | ((with_reducible refine ps_left ?_ ?_); rfl) | ((with_reducible refine w_var.mpr ?_); refine ⟨_, rfl, ?_⟩) | with_reducible refine wp_ok.mpr ?_ | with_reducible refine w_int.mpr ?_ | with_reducible refine w_bl.mpr ?_ | with_reducible refine w_non.mpr ?_ | with_reducible refine w_str.mpr ?_ | with_reducible refine w_glob.mpr ?_ | with_reducible refine w_chain.mpr ?_ | with_reducible refine w_ite.mpr ?_ | with_reducible refine w_esn.mpr ?_ | with_reducible refine w_esc.mpr ?_ | with_reducible refine w_tnot.mpr ?_ | with_reducible refine w_tand.mpr ?_ | with_reducible refine w_tor.mpr ?_ | with_reducible refine w_cn.mpr ?_ | with_reducible refine w_c1.mpr ?_ | with_reducible refine w_on.mpr ?_ | with_reducible refine w_rng2.mpr ?_ | with_reducible refine w_gnm.mpr ?_ | with_reducible refine w_kn.mpr ?_ | with_reducible refine w_kc.mpr ?_ | with_reducible refine w_asg.mpr ?_ | with_reducible refine w_par2.mpr ?_ | with_reducible refine w_expr.mpr ?_ | with_reducible refine w_ifs.mpr ?_ | with_reducible refine w_brk.mpr ?_ | with_reducible refine w_cnt.mpr ?_ | with_reducible refine w_pass.mpr ?_ | with_reducible refine w_raise.mpr ?_ | with_reducible refine w_sn.mpr ?_ | with_reducible refine w_sc.mpr ?_ | with_reducible refine w_call.mpr ?_ | with_reducible refine w_and.mpr ?_ | with_reducible refine w_or.mpr ?_ | with_reducible refine w_not.mpr ?_ | with_reducible refine w_neg.mpr ?_ | with_reducible refine w_dget.mpr ?_ | with_reducible refine w_dset.mpr ?_ | with_reducible refine w_gtup.mpr ?_ | with_reducible refine w_gltup.mpr ?_ | with_reducible refine w_gsn.mpr (And.intro rfl ?_) | with_reducible refine w_gsc.mpr ?_ | with_reducible refine w_ilst.mpr ?_ | with_reducible refine w_itup.mpr ?_ | with_reducible refine w_blt.mpr ?_ | with_reducible refine w_isi.mpr ?_ | with_reducible refine w_os.mpr ?_ | with_reducible refine w_idx.mpr ?_ | with_reducible refine w_slc.mpr ?_ | with_reducible refine w_bin.mpr ?_ | with_reducible refine w_cmp.mpr ?_ | with_reducible refine w_tval.mpr ?_ | with_reducible refine w_forr.mpr ?_ | with_reducible refine w_whl.mpr ?_ | with_reducible refine w_lc.mpr ?_ | with_reducible refine w_ret.mpr ?_ | with_reducible refine w_retN.mpr ?_ | (with_reducible refine w_tup.mpr ?_) | (with_reducible refine w_lst.mpr ?_) | (with_reducible refine b_mul.mpr (And.symm ⟨?_, by first | exact mulOk_l (by omega) (by omega) | exact mulOk_r (by omega) (by omega) | exact mulOk_bd (a := 1000) (b := 1000) (by assumption) (by assumption) (by decide) (by decide) (by decide) | assumption⟩)) | (with_reducible refine b_mod.mpr (And.symm ⟨?_, by first | omega | assumption⟩)) | (with_reducible refine b_div.mpr (And.symm ⟨?_, by first | exact divOk_of (by omega) (by omega) | assumption⟩)) | (with_reducible refine b_pow.mpr ⟨by decide, ?_⟩) | refine ⟨_, rfl, Eq.refl (penM _ _ _), ?_⟩ | refine ⟨_, rfl, ⟨by omega, by omega⟩, ?_⟩ | refine ⟨_, rfl, ?_⟩ | refine ⟨_, _, rfl, ?_⟩ | refine ⟨_, _, _, rfl, rfl, rfl, ?_⟩ | refine ⟨_, _, rfl, rfl, of_decide_eq_true rfl, ?_⟩ | refine ⟨_, ne_nil _, ?_⟩ | ((with_reducible refine lenOk ?_ ?_); rfl) | refine ⟨_, rfl, rfl, ?_⟩ | with_reducible refine w_rng1.mpr ?_ | with_reducible refine w_rng2.mpr ?_ | ((with_reducible refine ifT ?_ ?_); rfl) | ((with_reducible refine ifF ?_ ?_); rfl))
    exact hK _ _ _ _ _ _ _ (hp4.mono (by omega))
theorem one_big : BIG 1 := big_i (by decide) (by decide)
theorem nil_big : BIG 0 := big_i (by decide) (by decide)
theorem three {ms : List Mp} (h : ms.length = 3) : ∃ a b c, ms = [a, b, c] := by
  match ms, h with
  | [a, b, c], _ => exact ⟨a, b, c, rfl⟩
theorem law_wp (ns : List Int) : (runF (phi L23) f_law [.lst (ns.map .int)] []).wp (fun d _ => d = .bl true) (fun _ _ _ => False) := by
  rw [law_body]
  refine run_wp2 [some (.lst (ns.map .int)), none, none, none, none, none, none, none, none, none, none, none, none] rfl rfl ?_
  unfold lawBody
  repeat (first | ((with_reducible refine pg_turn ?_ ?_); rfl) | ((with_reducible refine pg_left ?_ ?_); rfl) | ((with_reducible refine pg_cells ?_ ?_); rfl) | ((with_reducible refine ps_turn ?_ ?_); rfl) | ((with_reducible refine ps_left ?_ ?_); rfl) | ((with_reducible refine w_var.mpr ?_); refine ⟨_, rfl, ?_⟩) | with_reducible refine wp_ok.mpr ?_ | with_reducible refine w_int.mpr ?_ | with_reducible refine w_bl.mpr ?_ | with_reducible refine w_non.mpr ?_ | with_reducible refine w_str.mpr ?_ | with_reducible refine w_glob.mpr ?_ | with_reducible refine w_chain.mpr ?_ | with_reducible refine w_ite.mpr ?_ | with_reducible refine w_esn.mpr ?_ | with_reducible refine w_esc.mpr ?_ | with_reducible refine w_tnot.mpr ?_ | with_reducible refine w_tand.mpr ?_ | with_reducible refine w_tor.mpr ?_ | with_reducible refine w_cn.mpr ?_ | with_reducible refine w_c1.mpr ?_ | with_reducible refine w_on.mpr ?_ | with_reducible refine w_rng2.mpr ?_ | with_reducible refine w_gnm.mpr ?_ | with_reducible refine w_kn.mpr ?_ | with_reducible refine w_kc.mpr ?_ | with_reducible refine w_asg.mpr ?_ | with_reducible refine w_par2.mpr ?_ | with_reducible refine w_expr.mpr ?_ | with_reducible refine w_ifs.mpr ?_ | with_reducible refine w_brk.mpr ?_ | with_reducible refine w_cnt.mpr ?_ | with_reducible refine w_pass.mpr ?_ | with_reducible refine w_raise.mpr ?_ | with_reducible refine w_sn.mpr ?_ | with_reducible refine w_sc.mpr ?_ | with_reducible refine w_call.mpr ?_ | with_reducible refine w_and.mpr ?_ | with_reducible refine w_or.mpr ?_ | with_reducible refine w_not.mpr ?_ | with_reducible refine w_neg.mpr ?_ | with_reducible refine w_dget.mpr ?_ | with_reducible refine w_dset.mpr ?_ | with_reducible refine w_gtup.mpr ?_ | with_reducible refine w_gltup.mpr ?_ | with_reducible refine w_gsn.mpr (And.intro rfl ?_) | with_reducible refine w_gsc.mpr ?_ | with_reducible refine w_ilst.mpr ?_ | with_reducible refine w_itup.mpr ?_ | with_reducible refine w_blt.mpr ?_ | with_reducible refine w_isi.mpr ?_ | with_reducible refine w_os.mpr ?_ | with_reducible refine w_idx.mpr ?_ | with_reducible refine w_slc.mpr ?_ | with_reducible refine w_bin.mpr ?_ | with_reducible refine w_cmp.mpr ?_ | with_reducible refine w_tval.mpr ?_ | with_reducible refine w_forr.mpr ?_ | with_reducible refine w_whl.mpr ?_ | with_reducible refine w_lc.mpr ?_ | with_reducible refine w_ret.mpr ?_ | with_reducible refine w_retN.mpr ?_ | (with_reducible refine w_tup.mpr ?_) | (with_reducible refine w_lst.mpr ?_) | (with_reducible refine b_mul.mpr (And.symm ⟨?_, by first | exact mulOk_l (by omega) (by omega) | exact mulOk_r (by omega) (by omega) | exact mulOk_bd (a := 1000) (b := 1000) (by assumption) (by assumption) (by decide) (by decide) (by decide) | assumption⟩)) | (with_reducible refine b_mod.mpr (And.symm ⟨?_, by first | omega | assumption⟩)) | (with_reducible refine b_div.mpr (And.symm ⟨?_, by first | exact divOk_of (by omega) (by omega) | assumption⟩)) | (with_reducible refine b_pow.mpr ⟨by decide, ?_⟩) | refine ⟨_, rfl, Eq.refl (penM _ _ _), ?_⟩ | refine ⟨_, rfl, ⟨by omega, by omega⟩, ?_⟩ | refine ⟨_, rfl, ?_⟩ | refine ⟨_, _, rfl, ?_⟩ | refine ⟨_, _, _, rfl, rfl, rfl, ?_⟩ | refine ⟨_, _, rfl, rfl, of_decide_eq_true rfl, ?_⟩ | refine ⟨_, ne_nil _, ?_⟩ | ((with_reducible refine lenOk ?_ ?_); rfl) | refine ⟨_, rfl, rfl, ?_⟩ | with_reducible refine w_rng1.mpr ?_ | with_reducible refine w_rng2.mpr ?_ | ((with_reducible refine ifT ?_ ?_); rfl) | ((with_reducible refine ifF ?_ ?_); rfl))
  refine new_step (d_pen ns) (by simp [penM]) (by simp [D.lts, D.lt, lts_ints]) ?_
  repeat (first | ((with_reducible refine pg_turn ?_ ?_); rfl) | ((with_reducible refine pg_left ?_ ?_); rfl) | ((with_reducible refine pg_cells ?_ ?_); rfl) | ((with_reducible refine ps_turn ?_ ?_); rfl) | ((with_reducible refine ps_left ?_ ?_); rfl) | ((with_reducible refine w_var.mpr ?_); refine ⟨_, rfl, ?_⟩) | with_reducible refine wp_ok.mpr ?_ | with_reducible refine w_int.mpr ?_ | with_reducible refine w_bl.mpr ?_ | with_reducible refine w_non.mpr ?_ | with_reducible refine w_str.mpr ?_ | with_reducible refine w_glob.mpr ?_ | with_reducible refine w_chain.mpr ?_ | with_reducible refine w_ite.mpr ?_ | with_reducible refine w_esn.mpr ?_ | with_reducible refine w_esc.mpr ?_ | with_reducible refine w_tnot.mpr ?_ | with_reducible refine w_tand.mpr ?_ | with_reducible refine w_tor.mpr ?_ | with_reducible refine w_cn.mpr ?_ | with_reducible refine w_c1.mpr ?_ | with_reducible refine w_on.mpr ?_ | with_reducible refine w_rng2.mpr ?_ | with_reducible refine w_gnm.mpr ?_ | with_reducible refine w_kn.mpr ?_ | with_reducible refine w_kc.mpr ?_ | with_reducible refine w_asg.mpr ?_ | with_reducible refine w_par2.mpr ?_ | with_reducible refine w_expr.mpr ?_ | with_reducible refine w_ifs.mpr ?_ | with_reducible refine w_brk.mpr ?_ | with_reducible refine w_cnt.mpr ?_ | with_reducible refine w_pass.mpr ?_ | with_reducible refine w_raise.mpr ?_ | with_reducible refine w_sn.mpr ?_ | with_reducible refine w_sc.mpr ?_ | with_reducible refine w_call.mpr ?_ | with_reducible refine w_and.mpr ?_ | with_reducible refine w_or.mpr ?_ | with_reducible refine w_not.mpr ?_ | with_reducible refine w_neg.mpr ?_ | with_reducible refine w_dget.mpr ?_ | with_reducible refine w_dset.mpr ?_ | with_reducible refine w_gtup.mpr ?_ | with_reducible refine w_gltup.mpr ?_ | with_reducible refine w_gsn.mpr (And.intro rfl ?_) | with_reducible refine w_gsc.mpr ?_ | with_reducible refine w_ilst.mpr ?_ | with_reducible refine w_itup.mpr ?_ | with_reducible refine w_blt.mpr ?_ | with_reducible refine w_isi.mpr ?_ | with_reducible refine w_os.mpr ?_ | with_reducible refine w_idx.mpr ?_ | with_reducible refine w_slc.mpr ?_ | with_reducible refine w_bin.mpr ?_ | with_reducible refine w_cmp.mpr ?_ | with_reducible refine w_tval.mpr ?_ | with_reducible refine w_forr.mpr ?_ | with_reducible refine w_whl.mpr ?_ | with_reducible refine w_lc.mpr ?_ | with_reducible refine w_ret.mpr ?_ | with_reducible refine w_retN.mpr ?_ | (with_reducible refine w_tup.mpr ?_) | (with_reducible refine w_lst.mpr ?_) | (with_reducible refine b_mul.mpr (And.symm ⟨?_, by first | exact mulOk_l (by omega) (by omega) | exact mulOk_r (by omega) (by omega) | exact mulOk_bd (a := 1000) (b := 1000) (by assumption) (by assumption) (by decide) (by decide) (by decide) | assumption⟩)) | (with_reducible refine b_mod.mpr (And.symm ⟨?_, by first | omega | assumption⟩)) | (with_reducible refine b_div.mpr (And.symm ⟨?_, by first | exact divOk_of (by omega) (by omega) | assumption⟩)) | (with_reducible refine b_pow.mpr ⟨by decide, ?_⟩) | refine ⟨_, rfl, Eq.refl (penM _ _ _), ?_⟩ | refine ⟨_, rfl, ⟨by omega, by omega⟩, ?_⟩ | refine ⟨_, rfl, ?_⟩ | refine ⟨_, _, rfl, ?_⟩ | refine ⟨_, _, _, rfl, rfl, rfl, ?_⟩ | refine ⟨_, _, rfl, rfl, of_decide_eq_true rfl, ?_⟩ | refine ⟨_, ne_nil _, ?_⟩ | ((with_reducible refine lenOk ?_ ?_); rfl) | refine ⟨_, rfl, rfl, ?_⟩ | with_reducible refine w_rng1.mpr ?_ | with_reducible refine w_rng2.mpr ?_ | ((with_reducible refine ifT ?_ ?_); rfl) | ((with_reducible refine ifF ?_ ?_); rfl))
  have hp0 : Pen 0 (penM (ns.take 63) 0 0) := ⟨_, _, _, rfl, by rw [List.length_take]; omega, by decide, by decide, by decide⟩
  refine for_wp (fun i ρ μ => ∃ o3 o4 o5 o6 o7 o8 o9 o10 o11 o12, ρ = [some (.lst (ns.map .int)), some (.ref 0), some (M6 1 0 0 1 0 0), o3, o4, o5, o6, o7, o8, o9, o10, o11, o12] ∧ Pen (80 * i) μ)
    ⟨_, _, _, _, _, _, _, _, _, _, rfl, hp0⟩ ?_ ?_
  · rintro i x ρ μ hx ⟨o3, o4, o5, o6, o7, o8, o9, o10, o11, o12, rfl, hpi⟩
    have hi : i < 20 := (List.getElem?_eq_some_iff.mp hx).1
    repeat (first | ((with_reducible refine pg_turn ?_ ?_); rfl) | ((with_reducible refine pg_left ?_ ?_); rfl) | ((with_reducible refine pg_cells ?_ ?_); rfl) | ((with_reducible refine ps_turn ?_ ?_); rfl) | ((with_reducible refine ps_left ?_ ?_); rfl) | ((with_reducible refine w_var.mpr ?_); refine ⟨_, rfl, ?_⟩) | with_reducible refine wp_ok.mpr ?_ | with_reducible refine w_int.mpr ?_ | with_reducible refine w_bl.mpr ?_ | with_reducible refine w_non.mpr ?_ | with_reducible refine w_str.mpr ?_ | with_reducible refine w_glob.mpr ?_ | with_reducible refine w_chain.mpr ?_ | with_reducible refine w_ite.mpr ?_ | with_reducible refine w_esn.mpr ?_ | with_reducible refine w_esc.mpr ?_ | with_reducible refine w_tnot.mpr ?_ | with_reducible refine w_tand.mpr ?_ | with_reducible refine w_tor.mpr ?_ | with_reducible refine w_cn.mpr ?_ | with_reducible refine w_c1.mpr ?_ | with_reducible refine w_on.mpr ?_ | with_reducible refine w_rng2.mpr ?_ | with_reducible refine w_gnm.mpr ?_ | with_reducible refine w_kn.mpr ?_ | with_reducible refine w_kc.mpr ?_ | with_reducible refine w_asg.mpr ?_ | with_reducible refine w_par2.mpr ?_ | with_reducible refine w_expr.mpr ?_ | with_reducible refine w_ifs.mpr ?_ | with_reducible refine w_brk.mpr ?_ | with_reducible refine w_cnt.mpr ?_ | with_reducible refine w_pass.mpr ?_ | with_reducible refine w_raise.mpr ?_ | with_reducible refine w_sn.mpr ?_ | with_reducible refine w_sc.mpr ?_ | with_reducible refine w_call.mpr ?_ | with_reducible refine w_and.mpr ?_ | with_reducible refine w_or.mpr ?_ | with_reducible refine w_not.mpr ?_ | with_reducible refine w_neg.mpr ?_ | with_reducible refine w_dget.mpr ?_ | with_reducible refine w_dset.mpr ?_ | with_reducible refine w_gtup.mpr ?_ | with_reducible refine w_gltup.mpr ?_ | with_reducible refine w_gsn.mpr (And.intro rfl ?_) | with_reducible refine w_gsc.mpr ?_ | with_reducible refine w_ilst.mpr ?_ | with_reducible refine w_itup.mpr ?_ | with_reducible refine w_blt.mpr ?_ | with_reducible refine w_isi.mpr ?_ | with_reducible refine w_os.mpr ?_ | with_reducible refine w_idx.mpr ?_ | with_reducible refine w_slc.mpr ?_ | with_reducible refine w_bin.mpr ?_ | with_reducible refine w_cmp.mpr ?_ | with_reducible refine w_tval.mpr ?_ | with_reducible refine w_forr.mpr ?_ | with_reducible refine w_whl.mpr ?_ | with_reducible refine w_lc.mpr ?_ | with_reducible refine w_ret.mpr ?_ | with_reducible refine w_retN.mpr ?_ | (with_reducible refine w_tup.mpr ?_) | (with_reducible refine w_lst.mpr ?_) | (with_reducible refine b_mul.mpr (And.symm ⟨?_, by first | exact mulOk_l (by omega) (by omega) | exact mulOk_r (by omega) (by omega) | exact mulOk_bd (a := 1000) (b := 1000) (by assumption) (by assumption) (by decide) (by decide) (by decide) | assumption⟩)) | (with_reducible refine b_mod.mpr (And.symm ⟨?_, by first | omega | assumption⟩)) | (with_reducible refine b_div.mpr (And.symm ⟨?_, by first | exact divOk_of (by omega) (by omega) | assumption⟩)) | (with_reducible refine b_pow.mpr ⟨by decide, ?_⟩) | refine ⟨_, rfl, Eq.refl (penM _ _ _), ?_⟩ | refine ⟨_, rfl, ⟨by omega, by omega⟩, ?_⟩ | refine ⟨_, rfl, ?_⟩ | refine ⟨_, _, rfl, ?_⟩ | refine ⟨_, _, _, rfl, rfl, rfl, ?_⟩ | refine ⟨_, _, rfl, rfl, of_decide_eq_true rfl, ?_⟩ | refine ⟨_, ne_nil _, ?_⟩ | ((with_reducible refine lenOk ?_ ?_); rfl) | refine ⟨_, rfl, rfl, ?_⟩ | with_reducible refine w_rng1.mpr ?_ | with_reducible refine w_rng2.mpr ?_ | ((with_reducible refine ifT ?_ ?_); rfl) | ((with_reducible refine ifF ?_ ?_); rfl))
    refine lc_wp (fun j acc μ => ∃ ms : List Mp, acc = ms.map Mp.D ∧ ms.length = j ∧ (∀ m ∈ ms, T0 m) ∧ Pen (80 * i + 7 * j) μ) ⟨[], rfl, rfl, (fun _ h => by cases h), hpi⟩ ?_ ?_
    · rintro j x acc μ hx ⟨ms, rfl, rfl, hT, hpj⟩
      have hj : ms.length < 3 := (List.getElem?_eq_some_iff.mp hx).1
      repeat (first | ((with_reducible refine pg_turn ?_ ?_); rfl) | ((with_reducible refine pg_left ?_ ?_); rfl) | ((with_reducible refine pg_cells ?_ ?_); rfl) | ((with_reducible refine ps_turn ?_ ?_); rfl) | ((with_reducible refine ps_left ?_ ?_); rfl) | ((with_reducible refine w_var.mpr ?_); refine ⟨_, rfl, ?_⟩) | with_reducible refine wp_ok.mpr ?_ | with_reducible refine w_int.mpr ?_ | with_reducible refine w_bl.mpr ?_ | with_reducible refine w_non.mpr ?_ | with_reducible refine w_str.mpr ?_ | with_reducible refine w_glob.mpr ?_ | with_reducible refine w_chain.mpr ?_ | with_reducible refine w_ite.mpr ?_ | with_reducible refine w_esn.mpr ?_ | with_reducible refine w_esc.mpr ?_ | with_reducible refine w_tnot.mpr ?_ | with_reducible refine w_tand.mpr ?_ | with_reducible refine w_tor.mpr ?_ | with_reducible refine w_cn.mpr ?_ | with_reducible refine w_c1.mpr ?_ | with_reducible refine w_on.mpr ?_ | with_reducible refine w_rng2.mpr ?_ | with_reducible refine w_gnm.mpr ?_ | with_reducible refine w_kn.mpr ?_ | with_reducible refine w_kc.mpr ?_ | with_reducible refine w_asg.mpr ?_ | with_reducible refine w_par2.mpr ?_ | with_reducible refine w_expr.mpr ?_ | with_reducible refine w_ifs.mpr ?_ | with_reducible refine w_brk.mpr ?_ | with_reducible refine w_cnt.mpr ?_ | with_reducible refine w_pass.mpr ?_ | with_reducible refine w_raise.mpr ?_ | with_reducible refine w_sn.mpr ?_ | with_reducible refine w_sc.mpr ?_ | with_reducible refine w_call.mpr ?_ | with_reducible refine w_and.mpr ?_ | with_reducible refine w_or.mpr ?_ | with_reducible refine w_not.mpr ?_ | with_reducible refine w_neg.mpr ?_ | with_reducible refine w_dget.mpr ?_ | with_reducible refine w_dset.mpr ?_ | with_reducible refine w_gtup.mpr ?_ | with_reducible refine w_gltup.mpr ?_ | with_reducible refine w_gsn.mpr (And.intro rfl ?_) | with_reducible refine w_gsc.mpr ?_ | with_reducible refine w_ilst.mpr ?_ | with_reducible refine w_itup.mpr ?_ | with_reducible refine w_blt.mpr ?_ | with_reducible refine w_isi.mpr ?_ | with_reducible refine w_os.mpr ?_ | with_reducible refine w_idx.mpr ?_ | with_reducible refine w_slc.mpr ?_ | with_reducible refine w_bin.mpr ?_ | with_reducible refine w_cmp.mpr ?_ | with_reducible refine w_tval.mpr ?_ | with_reducible refine w_forr.mpr ?_ | with_reducible refine w_whl.mpr ?_ | with_reducible refine w_lc.mpr ?_ | with_reducible refine w_ret.mpr ?_ | with_reducible refine w_retN.mpr ?_ | (with_reducible refine w_tup.mpr ?_) | (with_reducible refine w_lst.mpr ?_) | (with_reducible refine b_mul.mpr (And.symm ⟨?_, by first | exact mulOk_l (by omega) (by omega) | exact mulOk_r (by omega) (by omega) | exact mulOk_bd (a := 1000) (b := 1000) (by assumption) (by assumption) (by decide) (by decide) (by decide) | assumption⟩)) | (with_reducible refine b_mod.mpr (And.symm ⟨?_, by first | omega | assumption⟩)) | (with_reducible refine b_div.mpr (And.symm ⟨?_, by first | exact divOk_of (by omega) (by omega) | assumption⟩)) | (with_reducible refine b_pow.mpr ⟨by decide, ?_⟩) | refine ⟨_, rfl, Eq.refl (penM _ _ _), ?_⟩ | refine ⟨_, rfl, ⟨by omega, by omega⟩, ?_⟩ | refine ⟨_, rfl, ?_⟩ | refine ⟨_, _, rfl, ?_⟩ | refine ⟨_, _, _, rfl, rfl, rfl, ?_⟩ | refine ⟨_, _, rfl, rfl, of_decide_eq_true rfl, ?_⟩ | refine ⟨_, ne_nil _, ?_⟩ | ((with_reducible refine lenOk ?_ ?_); rfl) | refine ⟨_, rfl, rfl, ?_⟩ | with_reducible refine w_rng1.mpr ?_ | with_reducible refine w_rng2.mpr ?_ | ((with_reducible refine ifT ?_ ?_); rfl) | ((with_reducible refine ifF ?_ ?_); rfl))
      refine pen_step hpj rfl (d_pick _ _ _ _ _ hpj (of_decide_eq_true rfl) (of_decide_eq_true rfl) rfl (by omega) fun k w μ2 hw hp2 => ⟨hp2.len, ?_⟩)
      obtain ⟨far, rfl, f0, f1⟩ : ∃ far : Int, w = .int far ∧ 0 ≤ far ∧ far ≤ 1000000000 := by
        have mem := List.mem_of_getElem? hw
        simp only [List.mem_cons, List.not_mem_nil, or_false] at mem
        rcases mem with rfl | rfl | rfl
        · exact ⟨_, rfl, by decide, by decide⟩
        · exact ⟨_, rfl, by decide, by decide⟩
        · exact ⟨_, rfl, by decide, by decide⟩
      repeat (first | ((with_reducible refine pg_turn ?_ ?_); rfl) | ((with_reducible refine pg_left ?_ ?_); rfl) | ((with_reducible refine pg_cells ?_ ?_); rfl) | ((with_reducible refine ps_turn ?_ ?_); rfl) | ((with_reducible refine ps_left ?_ ?_); rfl) | ((with_reducible refine w_var.mpr ?_); refine ⟨_, rfl, ?_⟩) | with_reducible refine wp_ok.mpr ?_ | with_reducible refine w_int.mpr ?_ | with_reducible refine w_bl.mpr ?_ | with_reducible refine w_non.mpr ?_ | with_reducible refine w_str.mpr ?_ | with_reducible refine w_glob.mpr ?_ | with_reducible refine w_chain.mpr ?_ | with_reducible refine w_ite.mpr ?_ | with_reducible refine w_esn.mpr ?_ | with_reducible refine w_esc.mpr ?_ | with_reducible refine w_tnot.mpr ?_ | with_reducible refine w_tand.mpr ?_ | with_reducible refine w_tor.mpr ?_ | with_reducible refine w_cn.mpr ?_ | with_reducible refine w_c1.mpr ?_ | with_reducible refine w_on.mpr ?_ | with_reducible refine w_rng2.mpr ?_ | with_reducible refine w_gnm.mpr ?_ | with_reducible refine w_kn.mpr ?_ | with_reducible refine w_kc.mpr ?_ | with_reducible refine w_asg.mpr ?_ | with_reducible refine w_par2.mpr ?_ | with_reducible refine w_expr.mpr ?_ | with_reducible refine w_ifs.mpr ?_ | with_reducible refine w_brk.mpr ?_ | with_reducible refine w_cnt.mpr ?_ | with_reducible refine w_pass.mpr ?_ | with_reducible refine w_raise.mpr ?_ | with_reducible refine w_sn.mpr ?_ | with_reducible refine w_sc.mpr ?_ | with_reducible refine w_call.mpr ?_ | with_reducible refine w_and.mpr ?_ | with_reducible refine w_or.mpr ?_ | with_reducible refine w_not.mpr ?_ | with_reducible refine w_neg.mpr ?_ | with_reducible refine w_dget.mpr ?_ | with_reducible refine w_dset.mpr ?_ | with_reducible refine w_gtup.mpr ?_ | with_reducible refine w_gltup.mpr ?_ | with_reducible refine w_gsn.mpr (And.intro rfl ?_) | with_reducible refine w_gsc.mpr ?_ | with_reducible refine w_ilst.mpr ?_ | with_reducible refine w_itup.mpr ?_ | with_reducible refine w_blt.mpr ?_ | with_reducible refine w_isi.mpr ?_ | with_reducible refine w_os.mpr ?_ | with_reducible refine w_idx.mpr ?_ | with_reducible refine w_slc.mpr ?_ | with_reducible refine w_bin.mpr ?_ | with_reducible refine w_cmp.mpr ?_ | with_reducible refine w_tval.mpr ?_ | with_reducible refine w_forr.mpr ?_ | with_reducible refine w_whl.mpr ?_ | with_reducible refine w_lc.mpr ?_ | with_reducible refine w_ret.mpr ?_ | with_reducible refine w_retN.mpr ?_ | (with_reducible refine w_tup.mpr ?_) | (with_reducible refine w_lst.mpr ?_) | (with_reducible refine b_mul.mpr (And.symm ⟨?_, by first | exact mulOk_l (by omega) (by omega) | exact mulOk_r (by omega) (by omega) | exact mulOk_bd (a := 1000) (b := 1000) (by assumption) (by assumption) (by decide) (by decide) (by decide) | assumption⟩)) | (with_reducible refine b_mod.mpr (And.symm ⟨?_, by first | omega | assumption⟩)) | (with_reducible refine b_div.mpr (And.symm ⟨?_, by first | exact divOk_of (by omega) (by omega) | assumption⟩)) | (with_reducible refine b_pow.mpr ⟨by decide, ?_⟩) | refine ⟨_, rfl, Eq.refl (penM _ _ _), ?_⟩ | refine ⟨_, rfl, ⟨by omega, by omega⟩, ?_⟩ | refine ⟨_, rfl, ?_⟩ | refine ⟨_, _, rfl, ?_⟩ | refine ⟨_, _, _, rfl, rfl, rfl, ?_⟩ | refine ⟨_, _, rfl, rfl, of_decide_eq_true rfl, ?_⟩ | refine ⟨_, ne_nil _, ?_⟩ | ((with_reducible refine lenOk ?_ ?_); rfl) | refine ⟨_, rfl, rfl, ?_⟩ | with_reducible refine w_rng1.mpr ?_ | with_reducible refine w_rng2.mpr ?_ | ((with_reducible refine ifT ?_ ?_); rfl) | ((with_reducible refine ifF ?_ ?_); rfl))
      refine pen_step hp2 rfl (d_table hp2 (by omega) f0 f1 fun m μ3 hm hp3 => ⟨hp3.len, ?_⟩)
      refine ⟨by rw [List.length_map]; exact Nat.lt_trans hj (of_decide_eq_true rfl), ms ++ [m], by simp, by simp, fun z hz => ?_, hp3.mono (by omega)⟩
      rcases List.mem_append.mp hz with q | q
      · exact hT z q
      · rw [List.mem_singleton.mp q]; exact hm
    · rintro acc μ ⟨ms, rfl, hl, hT, hpj⟩
      obtain ⟨m1, m2, m3, rfl⟩ := three hl
      have t1 := hT m1 (by simp)
      have t2 := hT m2 (by simp)
      have t3 := hT m3 (by simp)
      have hp21 : Pen (80 * i + 21) μ := hpj
      have done : ∀ (m : Mp) (o7 o8 o9 o10 o11 o12 : Option D) (μ : Mem) (K : Ks), T1 m → Pen (80 * i + 31) μ → (∀ o3 o4 o5 o6 o7 o8 o9 o10 o11 o12 μ', Pen (80 * (i + 1)) μ' → K.nx [some (.lst (ns.map .int)), some (.ref 0), some (M6 1 0 0 1 0 0), o3, o4, o5, o6, o7, o8, o9, o10, o11, o12] μ') →
          (evSs (phi L23) lawRest [some (.lst (ns.map .int)), some (.ref 0), some (M6 1 0 0 1 0 0), some x, some m.D, some m2.D, some m3.D, o7, o8, o9, o10, o11, o12] μ).wp K := fun m o7 o8 o9 o10 o11 o12 μ K hm hpm hK =>
        rest_ok hm t2 t3 hpm (by omega) fun o7 o8 o9 o10 o11 o12 μ' h => hK _ _ _ _ _ _ _ _ _ _ _ (h.mono (by omega))
      repeat (first | ((with_reducible refine pg_turn ?_ ?_); rfl) | ((with_reducible refine pg_left ?_ ?_); rfl) | ((with_reducible refine pg_cells ?_ ?_); rfl) | ((with_reducible refine ps_turn ?_ ?_); rfl) | ((with_reducible refine ps_left ?_ ?_); rfl) | ((with_reducible refine w_var.mpr ?_); refine ⟨_, rfl, ?_⟩) | with_reducible refine wp_ok.mpr ?_ | with_reducible refine w_int.mpr ?_ | with_reducible refine w_bl.mpr ?_ | with_reducible refine w_non.mpr ?_ | with_reducible refine w_str.mpr ?_ | with_reducible refine w_glob.mpr ?_ | with_reducible refine w_chain.mpr ?_ | with_reducible refine w_ite.mpr ?_ | with_reducible refine w_esn.mpr ?_ | with_reducible refine w_esc.mpr ?_ | with_reducible refine w_tnot.mpr ?_ | with_reducible refine w_tand.mpr ?_ | with_reducible refine w_tor.mpr ?_ | with_reducible refine w_cn.mpr ?_ | with_reducible refine w_c1.mpr ?_ | with_reducible refine w_on.mpr ?_ | with_reducible refine w_rng2.mpr ?_ | with_reducible refine w_gnm.mpr ?_ | with_reducible refine w_kn.mpr ?_ | with_reducible refine w_kc.mpr ?_ | with_reducible refine w_asg.mpr ?_ | with_reducible refine w_par2.mpr ?_ | with_reducible refine w_expr.mpr ?_ | with_reducible refine w_ifs.mpr ?_ | with_reducible refine w_brk.mpr ?_ | with_reducible refine w_cnt.mpr ?_ | with_reducible refine w_pass.mpr ?_ | with_reducible refine w_raise.mpr ?_ | with_reducible refine w_sn.mpr ?_ | with_reducible refine w_sc.mpr ?_ | with_reducible refine w_call.mpr ?_ | with_reducible refine w_and.mpr ?_ | with_reducible refine w_or.mpr ?_ | with_reducible refine w_not.mpr ?_ | with_reducible refine w_neg.mpr ?_ | with_reducible refine w_dget.mpr ?_ | with_reducible refine w_dset.mpr ?_ | with_reducible refine w_gtup.mpr ?_ | with_reducible refine w_gltup.mpr ?_ | with_reducible refine w_gsn.mpr (And.intro rfl ?_) | with_reducible refine w_gsc.mpr ?_ | with_reducible refine w_ilst.mpr ?_ | with_reducible refine w_itup.mpr ?_ | with_reducible refine w_blt.mpr ?_ | with_reducible refine w_isi.mpr ?_ | with_reducible refine w_os.mpr ?_ | with_reducible refine w_idx.mpr ?_ | with_reducible refine w_slc.mpr ?_ | with_reducible refine w_bin.mpr ?_ | with_reducible refine w_cmp.mpr ?_ | with_reducible refine w_tval.mpr ?_ | with_reducible refine w_forr.mpr ?_ | with_reducible refine w_whl.mpr ?_ | with_reducible refine w_lc.mpr ?_ | with_reducible refine w_ret.mpr ?_ | with_reducible refine w_retN.mpr ?_ | (with_reducible refine w_tup.mpr ?_) | (with_reducible refine w_lst.mpr ?_) | (with_reducible refine b_mul.mpr (And.symm ⟨?_, by first | exact mulOk_l (by omega) (by omega) | exact mulOk_r (by omega) (by omega) | exact mulOk_bd (a := 1000) (b := 1000) (by assumption) (by assumption) (by decide) (by decide) (by decide) | assumption⟩)) | (with_reducible refine b_mod.mpr (And.symm ⟨?_, by first | omega | assumption⟩)) | (with_reducible refine b_div.mpr (And.symm ⟨?_, by first | exact divOk_of (by omega) (by omega) | assumption⟩)) | (with_reducible refine b_pow.mpr ⟨by decide, ?_⟩) | refine ⟨_, rfl, Eq.refl (penM _ _ _), ?_⟩ | refine ⟨_, rfl, ⟨by omega, by omega⟩, ?_⟩ | refine ⟨_, rfl, ?_⟩ | refine ⟨_, _, rfl, ?_⟩ | refine ⟨_, _, _, rfl, rfl, rfl, ?_⟩ | refine ⟨_, _, rfl, rfl, of_decide_eq_true rfl, ?_⟩ | refine ⟨_, ne_nil _, ?_⟩ | ((with_reducible refine lenOk ?_ ?_); rfl) | refine ⟨_, rfl, rfl, ?_⟩ | with_reducible refine w_rng1.mpr ?_ | with_reducible refine w_rng2.mpr ?_ | ((with_reducible refine ifT ?_ ?_); rfl) | ((with_reducible refine ifF ?_ ?_); rfl))
      refine pen_step hp21 rfl (d_draw _ _ _ _ _ hp21 (by decide) (by decide) (by omega) fun r μ2 r0 r1 hp2 => ⟨hp2.len, ?_⟩)
      repeat (first | ((with_reducible refine pg_turn ?_ ?_); rfl) | ((with_reducible refine pg_left ?_ ?_); rfl) | ((with_reducible refine pg_cells ?_ ?_); rfl) | ((with_reducible refine ps_turn ?_ ?_); rfl) | ((with_reducible refine ps_left ?_ ?_); rfl) | ((with_reducible refine w_var.mpr ?_); refine ⟨_, rfl, ?_⟩) | with_reducible refine wp_ok.mpr ?_ | with_reducible refine w_int.mpr ?_ | with_reducible refine w_bl.mpr ?_ | with_reducible refine w_non.mpr ?_ | with_reducible refine w_str.mpr ?_ | with_reducible refine w_glob.mpr ?_ | with_reducible refine w_chain.mpr ?_ | with_reducible refine w_ite.mpr ?_ | with_reducible refine w_esn.mpr ?_ | with_reducible refine w_esc.mpr ?_ | with_reducible refine w_tnot.mpr ?_ | with_reducible refine w_tand.mpr ?_ | with_reducible refine w_tor.mpr ?_ | with_reducible refine w_cn.mpr ?_ | with_reducible refine w_c1.mpr ?_ | with_reducible refine w_on.mpr ?_ | with_reducible refine w_rng2.mpr ?_ | with_reducible refine w_gnm.mpr ?_ | with_reducible refine w_kn.mpr ?_ | with_reducible refine w_kc.mpr ?_ | with_reducible refine w_asg.mpr ?_ | with_reducible refine w_par2.mpr ?_ | with_reducible refine w_expr.mpr ?_ | with_reducible refine w_ifs.mpr ?_ | with_reducible refine w_brk.mpr ?_ | with_reducible refine w_cnt.mpr ?_ | with_reducible refine w_pass.mpr ?_ | with_reducible refine w_raise.mpr ?_ | with_reducible refine w_sn.mpr ?_ | with_reducible refine w_sc.mpr ?_ | with_reducible refine w_call.mpr ?_ | with_reducible refine w_and.mpr ?_ | with_reducible refine w_or.mpr ?_ | with_reducible refine w_not.mpr ?_ | with_reducible refine w_neg.mpr ?_ | with_reducible refine w_dget.mpr ?_ | with_reducible refine w_dset.mpr ?_ | with_reducible refine w_gtup.mpr ?_ | with_reducible refine w_gltup.mpr ?_ | with_reducible refine w_gsn.mpr (And.intro rfl ?_) | with_reducible refine w_gsc.mpr ?_ | with_reducible refine w_ilst.mpr ?_ | with_reducible refine w_itup.mpr ?_ | with_reducible refine w_blt.mpr ?_ | with_reducible refine w_isi.mpr ?_ | with_reducible refine w_os.mpr ?_ | with_reducible refine w_idx.mpr ?_ | with_reducible refine w_slc.mpr ?_ | with_reducible refine w_bin.mpr ?_ | with_reducible refine w_cmp.mpr ?_ | with_reducible refine w_tval.mpr ?_ | with_reducible refine w_forr.mpr ?_ | with_reducible refine w_whl.mpr ?_ | with_reducible refine w_lc.mpr ?_ | with_reducible refine w_ret.mpr ?_ | with_reducible refine w_retN.mpr ?_ | (with_reducible refine w_tup.mpr ?_) | (with_reducible refine w_lst.mpr ?_) | (with_reducible refine b_mul.mpr (And.symm ⟨?_, by first | exact mulOk_l (by omega) (by omega) | exact mulOk_r (by omega) (by omega) | exact mulOk_bd (a := 1000) (b := 1000) (by assumption) (by assumption) (by decide) (by decide) (by decide) | assumption⟩)) | (with_reducible refine b_mod.mpr (And.symm ⟨?_, by first | omega | assumption⟩)) | (with_reducible refine b_div.mpr (And.symm ⟨?_, by first | exact divOk_of (by omega) (by omega) | assumption⟩)) | (with_reducible refine b_pow.mpr ⟨by decide, ?_⟩) | refine ⟨_, rfl, Eq.refl (penM _ _ _), ?_⟩ | refine ⟨_, rfl, ⟨by omega, by omega⟩, ?_⟩ | refine ⟨_, rfl, ?_⟩ | refine ⟨_, _, rfl, ?_⟩ | refine ⟨_, _, _, rfl, rfl, rfl, ?_⟩ | refine ⟨_, _, rfl, rfl, of_decide_eq_true rfl, ?_⟩ | refine ⟨_, ne_nil _, ?_⟩ | ((with_reducible refine lenOk ?_ ?_); rfl) | refine ⟨_, rfl, rfl, ?_⟩ | with_reducible refine w_rng1.mpr ?_ | with_reducible refine w_rng2.mpr ?_ | ((with_reducible refine ifT ?_ ?_); rfl) | ((with_reducible refine ifF ?_ ?_); rfl))
      by_cases hr : r = 0
      · subst hr
        refine ifT rfl ?_
        repeat (first | ((with_reducible refine pg_turn ?_ ?_); rfl) | ((with_reducible refine pg_left ?_ ?_); rfl) | ((with_reducible refine pg_cells ?_ ?_); rfl) | ((with_reducible refine ps_turn ?_ ?_); rfl) | ((with_reducible refine ps_left ?_ ?_); rfl) | ((with_reducible refine w_var.mpr ?_); refine ⟨_, rfl, ?_⟩) | with_reducible refine wp_ok.mpr ?_ | with_reducible refine w_int.mpr ?_ | with_reducible refine w_bl.mpr ?_ | with_reducible refine w_non.mpr ?_ | with_reducible refine w_str.mpr ?_ | with_reducible refine w_glob.mpr ?_ | with_reducible refine w_chain.mpr ?_ | with_reducible refine w_ite.mpr ?_ | with_reducible refine w_esn.mpr ?_ | with_reducible refine w_esc.mpr ?_ | with_reducible refine w_tnot.mpr ?_ | with_reducible refine w_tand.mpr ?_ | with_reducible refine w_tor.mpr ?_ | with_reducible refine w_cn.mpr ?_ | with_reducible refine w_c1.mpr ?_ | with_reducible refine w_on.mpr ?_ | with_reducible refine w_rng2.mpr ?_ | with_reducible refine w_gnm.mpr ?_ | with_reducible refine w_kn.mpr ?_ | with_reducible refine w_kc.mpr ?_ | with_reducible refine w_asg.mpr ?_ | with_reducible refine w_par2.mpr ?_ | with_reducible refine w_expr.mpr ?_ | with_reducible refine w_ifs.mpr ?_ | with_reducible refine w_brk.mpr ?_ | with_reducible refine w_cnt.mpr ?_ | with_reducible refine w_pass.mpr ?_ | with_reducible refine w_raise.mpr ?_ | with_reducible refine w_sn.mpr ?_ | with_reducible refine w_sc.mpr ?_ | with_reducible refine w_call.mpr ?_ | with_reducible refine w_and.mpr ?_ | with_reducible refine w_or.mpr ?_ | with_reducible refine w_not.mpr ?_ | with_reducible refine w_neg.mpr ?_ | with_reducible refine w_dget.mpr ?_ | with_reducible refine w_dset.mpr ?_ | with_reducible refine w_gtup.mpr ?_ | with_reducible refine w_gltup.mpr ?_ | with_reducible refine w_gsn.mpr (And.intro rfl ?_) | with_reducible refine w_gsc.mpr ?_ | with_reducible refine w_ilst.mpr ?_ | with_reducible refine w_itup.mpr ?_ | with_reducible refine w_blt.mpr ?_ | with_reducible refine w_isi.mpr ?_ | with_reducible refine w_os.mpr ?_ | with_reducible refine w_idx.mpr ?_ | with_reducible refine w_slc.mpr ?_ | with_reducible refine w_bin.mpr ?_ | with_reducible refine w_cmp.mpr ?_ | with_reducible refine w_tval.mpr ?_ | with_reducible refine w_forr.mpr ?_ | with_reducible refine w_whl.mpr ?_ | with_reducible refine w_lc.mpr ?_ | with_reducible refine w_ret.mpr ?_ | with_reducible refine w_retN.mpr ?_ | (with_reducible refine w_tup.mpr ?_) | (with_reducible refine w_lst.mpr ?_) | (with_reducible refine b_mul.mpr (And.symm ⟨?_, by first | exact mulOk_l (by omega) (by omega) | exact mulOk_r (by omega) (by omega) | exact mulOk_bd (a := 1000) (b := 1000) (by assumption) (by assumption) (by decide) (by decide) (by decide) | assumption⟩)) | (with_reducible refine b_mod.mpr (And.symm ⟨?_, by first | omega | assumption⟩)) | (with_reducible refine b_div.mpr (And.symm ⟨?_, by first | exact divOk_of (by omega) (by omega) | assumption⟩)) | (with_reducible refine b_pow.mpr ⟨by decide, ?_⟩) | refine ⟨_, rfl, Eq.refl (penM _ _ _), ?_⟩ | refine ⟨_, rfl, ⟨by omega, by omega⟩, ?_⟩ | refine ⟨_, rfl, ?_⟩ | refine ⟨_, _, rfl, ?_⟩ | refine ⟨_, _, _, rfl, rfl, rfl, ?_⟩ | refine ⟨_, _, rfl, rfl, of_decide_eq_true rfl, ?_⟩ | refine ⟨_, ne_nil _, ?_⟩ | ((with_reducible refine lenOk ?_ ?_); rfl) | refine ⟨_, rfl, rfl, ?_⟩ | with_reducible refine w_rng1.mpr ?_ | with_reducible refine w_rng2.mpr ?_ | ((with_reducible refine ifT ?_ ?_); rfl) | ((with_reducible refine ifF ?_ ?_); rfl))
        refine pen_step hp2 rfl (d_great _ 9 _ _ _ hp2 (by omega) fun g μ3 g0 g1 hp3 => ⟨hp3.len, ?_⟩)
        have ts := T0.shear t1 g0 g1
        have gb : BIG g := big_i (by omega) (by omega)
        repeat (first | ((with_reducible refine pg_turn ?_ ?_); rfl) | ((with_reducible refine pg_left ?_ ?_); rfl) | ((with_reducible refine pg_cells ?_ ?_); rfl) | ((with_reducible refine ps_turn ?_ ?_); rfl) | ((with_reducible refine ps_left ?_ ?_); rfl) | ((with_reducible refine w_var.mpr ?_); refine ⟨_, rfl, ?_⟩) | with_reducible refine wp_ok.mpr ?_ | with_reducible refine w_int.mpr ?_ | with_reducible refine w_bl.mpr ?_ | with_reducible refine w_non.mpr ?_ | with_reducible refine w_str.mpr ?_ | with_reducible refine w_glob.mpr ?_ | with_reducible refine w_chain.mpr ?_ | with_reducible refine w_ite.mpr ?_ | with_reducible refine w_esn.mpr ?_ | with_reducible refine w_esc.mpr ?_ | with_reducible refine w_tnot.mpr ?_ | with_reducible refine w_tand.mpr ?_ | with_reducible refine w_tor.mpr ?_ | with_reducible refine w_cn.mpr ?_ | with_reducible refine w_c1.mpr ?_ | with_reducible refine w_on.mpr ?_ | with_reducible refine w_rng2.mpr ?_ | with_reducible refine w_gnm.mpr ?_ | with_reducible refine w_kn.mpr ?_ | with_reducible refine w_kc.mpr ?_ | with_reducible refine w_asg.mpr ?_ | with_reducible refine w_par2.mpr ?_ | with_reducible refine w_expr.mpr ?_ | with_reducible refine w_ifs.mpr ?_ | with_reducible refine w_brk.mpr ?_ | with_reducible refine w_cnt.mpr ?_ | with_reducible refine w_pass.mpr ?_ | with_reducible refine w_raise.mpr ?_ | with_reducible refine w_sn.mpr ?_ | with_reducible refine w_sc.mpr ?_ | with_reducible refine w_call.mpr ?_ | with_reducible refine w_and.mpr ?_ | with_reducible refine w_or.mpr ?_ | with_reducible refine w_not.mpr ?_ | with_reducible refine w_neg.mpr ?_ | with_reducible refine w_dget.mpr ?_ | with_reducible refine w_dset.mpr ?_ | with_reducible refine w_gtup.mpr ?_ | with_reducible refine w_gltup.mpr ?_ | with_reducible refine w_gsn.mpr (And.intro rfl ?_) | with_reducible refine w_gsc.mpr ?_ | with_reducible refine w_ilst.mpr ?_ | with_reducible refine w_itup.mpr ?_ | with_reducible refine w_blt.mpr ?_ | with_reducible refine w_isi.mpr ?_ | with_reducible refine w_os.mpr ?_ | with_reducible refine w_idx.mpr ?_ | with_reducible refine w_slc.mpr ?_ | with_reducible refine w_bin.mpr ?_ | with_reducible refine w_cmp.mpr ?_ | with_reducible refine w_tval.mpr ?_ | with_reducible refine w_forr.mpr ?_ | with_reducible refine w_whl.mpr ?_ | with_reducible refine w_lc.mpr ?_ | with_reducible refine w_ret.mpr ?_ | with_reducible refine w_retN.mpr ?_ | (with_reducible refine w_tup.mpr ?_) | (with_reducible refine w_lst.mpr ?_) | (with_reducible refine b_mul.mpr (And.symm ⟨?_, by first | exact mulOk_l (by omega) (by omega) | exact mulOk_r (by omega) (by omega) | exact mulOk_bd (a := 1000) (b := 1000) (by assumption) (by assumption) (by decide) (by decide) (by decide) | assumption⟩)) | (with_reducible refine b_mod.mpr (And.symm ⟨?_, by first | omega | assumption⟩)) | (with_reducible refine b_div.mpr (And.symm ⟨?_, by first | exact divOk_of (by omega) (by omega) | assumption⟩)) | (with_reducible refine b_pow.mpr ⟨by decide, ?_⟩) | refine ⟨_, rfl, Eq.refl (penM _ _ _), ?_⟩ | refine ⟨_, rfl, ⟨by omega, by omega⟩, ?_⟩ | refine ⟨_, rfl, ?_⟩ | refine ⟨_, _, rfl, ?_⟩ | refine ⟨_, _, _, rfl, rfl, rfl, ?_⟩ | refine ⟨_, _, rfl, rfl, of_decide_eq_true rfl, ?_⟩ | refine ⟨_, ne_nil _, ?_⟩ | ((with_reducible refine lenOk ?_ ?_); rfl) | refine ⟨_, rfl, rfl, ?_⟩ | with_reducible refine w_rng1.mpr ?_ | with_reducible refine w_rng2.mpr ?_ | ((with_reducible refine ifT ?_ ?_); rfl) | ((with_reducible refine ifF ?_ ?_); rfl))
        refine pure_step (v := (cmp m1 (shear g)).D) (a_compose m1 (shear g) (bg t1.up.mx (by decide)) ⟨one_big, gb, nil_big, one_big, nil_big, nil_big⟩ t1.1 (shear_uni g)) rfl ?_
        refine w_gnm.mpr (w_sn.mpr ?_)
        exact done (cmp m1 (shear g)) _ _ _ _ _ _ μ3 _ ts (hp3.mono (by omega)) fun o3 o4 o5 o6 o7 o8 o9 o10 o11 o12 μ' h => ⟨o3, o4, o5, o6, o7, o8, o9, o10, o11, o12, rfl, h⟩
      · refine ifF (show (r == 0) = false from beq_false_of_ne hr) ?_
        refine w_sn.mpr ?_
        exact done m1 _ _ _ _ _ _ μ2 _ t1.up (hp2.mono (by omega)) fun o3 o4 o5 o6 o7 o8 o9 o10 o11 o12 μ' h => ⟨o3, o4, o5, o6, o7, o8, o9, o10, o11, o12, rfl, h⟩
  · rintro ρ μ ⟨o3, o4, o5, o6, o7, o8, o9, o10, o11, o12, rfl, hpi⟩
    repeat (first | ((with_reducible refine pg_turn ?_ ?_); rfl) | ((with_reducible refine pg_left ?_ ?_); rfl) | ((with_reducible refine pg_cells ?_ ?_); rfl) | ((with_reducible refine ps_turn ?_ ?_); rfl) | ((with_reducible refine ps_left ?_ ?_); rfl) | ((with_reducible refine w_var.mpr ?_); refine ⟨_, rfl, ?_⟩) | with_reducible refine wp_ok.mpr ?_ | with_reducible refine w_int.mpr ?_ | with_reducible refine w_bl.mpr ?_ | with_reducible refine w_non.mpr ?_ | with_reducible refine w_str.mpr ?_ | with_reducible refine w_glob.mpr ?_ | with_reducible refine w_chain.mpr ?_ | with_reducible refine w_ite.mpr ?_ | with_reducible refine w_esn.mpr ?_ | with_reducible refine w_esc.mpr ?_ | with_reducible refine w_tnot.mpr ?_ | with_reducible refine w_tand.mpr ?_ | with_reducible refine w_tor.mpr ?_ | with_reducible refine w_cn.mpr ?_ | with_reducible refine w_c1.mpr ?_ | with_reducible refine w_on.mpr ?_ | with_reducible refine w_rng2.mpr ?_ | with_reducible refine w_gnm.mpr ?_ | with_reducible refine w_kn.mpr ?_ | with_reducible refine w_kc.mpr ?_ | with_reducible refine w_asg.mpr ?_ | with_reducible refine w_par2.mpr ?_ | with_reducible refine w_expr.mpr ?_ | with_reducible refine w_ifs.mpr ?_ | with_reducible refine w_brk.mpr ?_ | with_reducible refine w_cnt.mpr ?_ | with_reducible refine w_pass.mpr ?_ | with_reducible refine w_raise.mpr ?_ | with_reducible refine w_sn.mpr ?_ | with_reducible refine w_sc.mpr ?_ | with_reducible refine w_call.mpr ?_ | with_reducible refine w_and.mpr ?_ | with_reducible refine w_or.mpr ?_ | with_reducible refine w_not.mpr ?_ | with_reducible refine w_neg.mpr ?_ | with_reducible refine w_dget.mpr ?_ | with_reducible refine w_dset.mpr ?_ | with_reducible refine w_gtup.mpr ?_ | with_reducible refine w_gltup.mpr ?_ | with_reducible refine w_gsn.mpr (And.intro rfl ?_) | with_reducible refine w_gsc.mpr ?_ | with_reducible refine w_ilst.mpr ?_ | with_reducible refine w_itup.mpr ?_ | with_reducible refine w_blt.mpr ?_ | with_reducible refine w_isi.mpr ?_ | with_reducible refine w_os.mpr ?_ | with_reducible refine w_idx.mpr ?_ | with_reducible refine w_slc.mpr ?_ | with_reducible refine w_bin.mpr ?_ | with_reducible refine w_cmp.mpr ?_ | with_reducible refine w_tval.mpr ?_ | with_reducible refine w_forr.mpr ?_ | with_reducible refine w_whl.mpr ?_ | with_reducible refine w_lc.mpr ?_ | with_reducible refine w_ret.mpr ?_ | with_reducible refine w_retN.mpr ?_ | (with_reducible refine w_tup.mpr ?_) | (with_reducible refine w_lst.mpr ?_) | (with_reducible refine b_mul.mpr (And.symm ⟨?_, by first | exact mulOk_l (by omega) (by omega) | exact mulOk_r (by omega) (by omega) | exact mulOk_bd (a := 1000) (b := 1000) (by assumption) (by assumption) (by decide) (by decide) (by decide) | assumption⟩)) | (with_reducible refine b_mod.mpr (And.symm ⟨?_, by first | omega | assumption⟩)) | (with_reducible refine b_div.mpr (And.symm ⟨?_, by first | exact divOk_of (by omega) (by omega) | assumption⟩)) | (with_reducible refine b_pow.mpr ⟨by decide, ?_⟩) | refine ⟨_, rfl, Eq.refl (penM _ _ _), ?_⟩ | refine ⟨_, rfl, ⟨by omega, by omega⟩, ?_⟩ | refine ⟨_, rfl, ?_⟩ | refine ⟨_, _, rfl, ?_⟩ | refine ⟨_, _, _, rfl, rfl, rfl, ?_⟩ | refine ⟨_, _, rfl, rfl, of_decide_eq_true rfl, ?_⟩ | refine ⟨_, ne_nil _, ?_⟩ | ((with_reducible refine lenOk ?_ ?_); rfl) | refine ⟨_, rfl, rfl, ?_⟩ | with_reducible refine w_rng1.mpr ?_ | with_reducible refine w_rng2.mpr ?_ | ((with_reducible refine ifT ?_ ?_); rfl) | ((with_reducible refine ifF ?_ ?_); rfl))
    exact fin_0 rfl rfl
theorem law_ok {S : Sys} : lawSp S (runF (phi L23) f_law) 63 := fun ns _ => by
  have h := law_wp ns
  generalize runF (phi L23) f_law [.lst (ns.map .int)] [] = r at h
  cases h with
  | ok h => exact ⟨_, by rw [h]⟩
  | exn h => exact h.elim
end K70
open PySem PySem.W PySem.Calls PyProof.Rows
theorem PySem.Challenge.cw_outleap_k70_inverse_and_compose_holds : PySem.Challenge.rw_outleap_k70_inverse_and_compose.Holds := by
  w_on; o_law
  refine HandSHeadRun.head_any (r := OpenLaw.row PySem.Challenge.rw_outleap_k70_inverse_and_compose) (q := view (OpenLaw.row PySem.Challenge.rw_outleap_k70_inverse_and_compose).prog [32]) (H := K70.hk) (ob := K70.ob) (M := 4000) (loose := K70.loose) (d := HandSHeadRun.topDef (OpenLaw.row PySem.Challenge.rw_outleap_k70_inverse_and_compose).prog 32) (kwd := []) K70.ob_eq
    (by kernel_rfl) (fun s => by kernel_rfl) K70.run (by kernel_rfl) (by kernel_rfl) (by kernel_rfl) (by rfl) (by first | assumption | decide +kernel) (by decide +kernel) ⟨rfl, rfl, rfl, rfl, rfl, by decide +kernel⟩ ?hw ?hc
  case hw => w_witness2
  case hc =>
    refine OB.walkG (l := PySem.Challenge.rw_outleap_k70_inverse_and_compose) (n := 63) (k := 6) (x := "_law_script") rfl (by decide) (by kernel_rfl) ⟨rfl, by decide, by decide⟩ ?F
    intro w mg fa h Y G hmg0
    obtain ⟨K, KX, c⟩ := Y
    have hmg : mg ("law" : PySem.Str) = some (.ref fa) := by
      have e : (HandSHeadRun.topDef (OpenLaw.row PySem.Challenge.rw_outleap_k70_inverse_and_compose).prog 32).name = ("law" : PySem.Str) := by kernel_rfl
      rw [← e]
      exact hmg0
    obtain ⟨fd, hb, hF⟩ := K70.facts (P := (PySem.Challenge.rw_outleap_k70_inverse_and_compose).prog) (w := w) KX G hmg c
    exact ⟨K, fd, _, fun _ => 0, K70.fnaK K, KX, hb, K70.law_ok, hF⟩
