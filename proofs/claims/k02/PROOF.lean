import PyProof.Rows.All
import Wide.All
import OpenK.AllK
import Wide.FinOn
import HandS.ForMost
import HandS.ForExc
import HandS.Evl
import HandS.TupAny
import HandS.Wide
import KE.DataEq
import HandS.ExcOwn
import HandS.CallSlots
import HandS.IsInst
import HandS.Text
import HandS.Strs
import HandS.StrMore
import HandS.AnyAll
import HandS.Small
import HandS.Style
import HandS.Comp
import HandS.Property
import HandS.Defaults
import HandS.FStr
import HandS.RaiseMore
import KE.KSuper
import KE.KExcSuper
import OpenK.KMeth
import KE.KOpsOwn
import KE.KCallOwn
import HandS.WordsExc
import HandS.Head0
import HandS.Head1
import HandS.Head2
import HandS.HeadEnd
import HandS.HeadHook1
import HandS.HeadHook2
import HandS.HeadNt
import KE.GoesEnumKw
import HandS.Zip
import PyProof.SumAny
import PyProof.NeKinds
import HandS.Iter
import HandS.Spec
import HandS.CallLocal
import HandS.Star
import HandS.SortInts
import PyProof.ReprReads
import KE.SortKeyHeap
import HandS.SortKw
import KE.KExcIs
import KE.KSuperObj
import HandS.DictComp
import KE.SortData
import HandS.WrittenGet
import HandS.Flow
import HandS.HeadHook3
import HandS.NoneIn
import HandS.SetBool
import HandS.TupSets
import KE.GoesEnum
import PyProof.ReprLen
import Wide.Once
import PySem.Challenge.RW_noworsecache_k02_whole_traces_joined
set_option Elab.async false
set_option linter.all false
set_option maxRecDepth 100000
set_option maxHeartbeats 4000000
/-! MP1: a machine on values with computable readings: data, states, steps. -/
namespace MP
open PySem L2
open Evl (Ex)

/-- data: what a settled value is; cell: a mutable object by its number -/
inductive D where
  | non | bl (b : Bool) | int (i : Int) | str (s : Str) | ty (n : String) | gl (n : String)
  | tup (xs : List D) | lst (xs : List D) | dct (xs : List (Key × D)) | obj (C : String) (xs : List (Str × D)) | cell (i : Nat) | exn (a dd : Addr) (xs : List (Str × D))
inductive Ob where
  | lst (xs : List D) | dct (xs : List (Key × D)) | ins (C : String) (xs : List (Str × D))
def Ob.toD : Ob → D
  | .lst xs => .lst xs
  | .dct xs => .dct xs
  | .ins C xs => .obj C xs
/-- a slot: empty, a settled value, an object of its own, one that is locked -/
inductive Sl where
  | u | d (x : D) | o (b : Ob) | lk (b : Ob)
/-- an expression's result: settled, a new object, what a slot holds -/
inductive RV where
  | d (x : D) | f (b : Ob) | sl (i : Nat)
inductive Cl where
  | c (b : Ob) | lk (b : Ob)
abbrev Sls := List Sl
abbrev Sto := List Cl
inductive Res (α : Type) where
  | ok (a : α) (sl : Sls) (st : Sto) | exc (C : String) (xs : List (Str × D)) (sl : Sls) (st : Sto) | no
abbrev Mn (α : Type) := Sls → Sto → Res α
def bnd {α β : Type} (m : Mn α) (k : α → Mn β) : Mn β := fun sl st => match m sl st with
  | .ok a sl' st' => k a sl' st'
  | .exc C xs sl' st' => .exc C xs sl' st'
  | .no => .no
def unit {α : Type} (a : α) : Mn α := fun sl st => .ok a sl st
def non {α : Type} : Mn α := fun _ _ => .no

section
variable (K : PySem.W.Frag) (cn : String → Addr) (G : Hp) (ρ : List Addr)
mutual
inductive Rep : D → V → Prop
  | non : Rep .non .non
  | bl {b : Bool} : Rep (.bl b) (.bl b)
  | int {i : Int} : Rep (.int i) (.int i)
  | str {s : Str} : Rep (.str s) (.str s)
  | ty {n : String} : Rep (.ty n) (.ty n)
  | gl {n : String} : Rep (.gl n) (.ref (cn n))
  | tup {xs : List D} {a : Addr} {vs : List V} (h : SqT K G a vs) (r : Reps xs vs) : Rep (.tup xs) (.ref a)
  | lst {xs : List D} {a : Addr} {vs : List V} (h : SqL K G a vs) (r : Reps xs vs) : Rep (.lst xs) (.ref a)
  | dct {xs : List (Key × D)} {a : Addr} {vs : List (Key × V)} (h : G a = some (.dK vs)) (r : RepK xs vs) : Rep (.dct xs) (.ref a)
  | obj {C : String} {xs : List (Str × D)} {a dx : Addr} {vs : List (Str × V)} (h : G a = some (.ins (cn C) dx vs)) (r : RepF xs vs) : Rep (.obj C xs) (.ref a)
  | cell {i : Nat} {a : Addr} (h : ρ[i]? = some a) : Rep (.cell i) (.ref a)
  | exn {a dd : Addr} {xs : List (Str × D)} {us : List (Str × V)} (h : G dd = some (.xd us)) (r : RepF xs us) : Rep (.exn a dd xs) (.ref a)
inductive Reps : List D → List V → Prop
  | nil : Reps [] []
  | cons {x : D} {v : V} {xs : List D} {vs : List V} (h : Rep x v) (r : Reps xs vs) : Reps (x :: xs) (v :: vs)
inductive RepK : List (Key × D) → List (Key × V) → Prop
  | nil : RepK [] []
  | cons {k : Key} {x : D} {v : V} {xs : List (Key × D)} {vs : List (Key × V)} (h : Rep x v) (r : RepK xs vs) : RepK ((k, x) :: xs) ((k, v) :: vs)
inductive RepF : List (Str × D) → List (Str × V) → Prop
  | nil : RepF [] []
  | cons {k : Str} {x : D} {v : V} {xs : List (Str × D)} {vs : List (Str × V)} (h : Rep x v) (r : RepF xs vs) : RepF ((k, x) :: xs) ((k, v) :: vs)
end
inductive ObOk : Ob → HO → Prop
  | lst {xs : List D} {vs : List V} (r : Reps K cn G ρ xs vs) : ObOk (.lst xs) (.lst vs)
  | dct {xs : List (Key × D)} {vs : List (Key × V)} (r : RepK K cn G ρ xs vs) : ObOk (.dct xs) (.dK vs)
  | ins {C : String} {xs : List (Str × D)} {dx : Addr} {vs : List (Str × V)} (r : RepF K cn G ρ xs vs) : ObOk (.ins C xs) (.ins (cn C) dx vs)
end
section
variable {K : PySem.W.Frag} {cn : String → Addr} {G G' : Hp} {ρ ρ' : List Addr}
theorem ix_mono {α : Type} {l l' : List α} (h : l <+: l') {i : Nat} {a : α} (e : l[i]? = some a) : l'[i]? = some a := by
  obtain ⟨t, rfl⟩ := h
  rw [List.getElem?_append_left (List.getElem?_eq_some_iff.mp e).1]
  exact e
mutual
theorem Rep.mono (e : Ex G G') (r : ρ <+: ρ') : ∀ {x : D} {v : V}, Rep K cn G ρ x v → Rep K cn G' ρ' x v
  | _, _, .non => .non
  | _, _, .bl => .bl
  | _, _, .int => .int
  | _, _, .str => .str
  | _, _, .ty => .ty
  | _, _, .gl => .gl
  | _, _, .tup h q => .tup (Evl.ex_t e h) (Reps.mono e r q)
  | _, _, .lst h q => .lst (Evl.ex_l e h) (Reps.mono e r q)
  | _, _, .dct h q => .dct (e _ _ h) (RepK.mono e r q)
  | _, _, .obj h q => .obj (e _ _ h) (RepF.mono e r q)
  | _, _, .cell h => .cell (ix_mono r h)
  | _, _, .exn h q => .exn (e _ _ h) (RepF.mono e r q)
theorem Reps.mono (e : Ex G G') (r : ρ <+: ρ') : ∀ {xs : List D} {vs : List V}, Reps K cn G ρ xs vs → Reps K cn G' ρ' xs vs
  | _, _, .nil => .nil
  | _, _, .cons h q => .cons (Rep.mono e r h) (Reps.mono e r q)
theorem RepK.mono (e : Ex G G') (r : ρ <+: ρ') : ∀ {xs : List (Key × D)} {vs : List (Key × V)}, RepK K cn G ρ xs vs → RepK K cn G' ρ' xs vs
  | _, _, .nil => .nil
  | _, _, .cons h q => .cons (Rep.mono e r h) (RepK.mono e r q)
theorem RepF.mono (e : Ex G G') (r : ρ <+: ρ') : ∀ {xs : List (Str × D)} {vs : List (Str × V)}, RepF K cn G ρ xs vs → RepF K cn G' ρ' xs vs
  | _, _, .nil => .nil
  | _, _, .cons h q => .cons (Rep.mono e r h) (RepF.mono e r q)
end
theorem ObOk.mono (e : Ex G G') (r : ρ <+: ρ') {b : Ob} {o : HO} (h : ObOk K cn G ρ b o) : ObOk K cn G' ρ' b o := by
  cases h with
  | lst q => exact .lst (q.mono e r)
  | dct q => exact .dct (q.mono e r)
  | ins q => exact .ins (q.mono e r)
theorem Reps.length : ∀ {xs : List D} {vs : List V}, Reps K cn G ρ xs vs → xs.length = vs.length
  | _, _, .nil => rfl
  | _, _, .cons _ q => congrArg (· + 1) q.length
theorem Reps.get : ∀ {xs : List D} {vs : List V} {i : Nat} {x : D}, Reps K cn G ρ xs vs → xs[i]? = some x → ∃ v, vs[i]? = some v ∧ Rep K cn G ρ x v
  | _, _, _, _, .nil, e => by simp at e
  | _, _, 0, _, .cons h _, e => by simp at e; subst e; exact ⟨_, rfl, h⟩
  | _, _, i + 1, x, .cons _ q, e => by
    obtain ⟨u, h1, h2⟩ := Reps.get (i := i) (x := x) q (by simpa using e)
    exact ⟨u, by simpa using h1, h2⟩
theorem Reps.get' : ∀ {xs : List D} {vs : List V} {i : Nat} {v : V}, Reps K cn G ρ xs vs → vs[i]? = some v → ∃ x, xs[i]? = some x ∧ Rep K cn G ρ x v
  | _, _, _, _, .nil, e => by simp at e
  | _, _, 0, _, .cons h _, e => by simp at e; subst e; exact ⟨_, rfl, h⟩
  | _, _, i + 1, x, .cons _ q, e => by
    obtain ⟨u, h1, h2⟩ := Reps.get' (i := i) (v := x) q (by simpa using e)
    exact ⟨u, by simpa using h1, h2⟩
theorem Reps.append : ∀ {xs ys : List D} {vs us : List V}, Reps K cn G ρ xs vs → Reps K cn G ρ ys us → Reps K cn G ρ (xs ++ ys) (vs ++ us)
  | _, _, _, _, .nil, q => q
  | _, _, _, _, .cons h r, q => .cons h (r.append q)
theorem Reps.take : ∀ {xs : List D} {vs : List V} (n : Nat), Reps K cn G ρ xs vs → Reps K cn G ρ (xs.take n) (vs.take n)
  | _, _, 0, _ => .nil
  | _, _, _ + 1, .nil => .nil
  | _, _, n + 1, .cons h r => .cons h (r.take n)
theorem Reps.drop : ∀ {xs : List D} {vs : List V} (n : Nat), Reps K cn G ρ xs vs → Reps K cn G ρ (xs.drop n) (vs.drop n)
  | _, _, 0, r => r
  | _, _, _ + 1, .nil => .nil
  | _, _, n + 1, .cons _ r => r.drop n
theorem Reps.set {y : D} {u : V} (h : Rep K cn G ρ y u) : ∀ {xs : List D} {vs : List V} (i : Nat), Reps K cn G ρ xs vs → Reps K cn G ρ (xs.set i y) (vs.set i u)
  | _, _, _, .nil => .nil
  | _, _, 0, .cons _ r => .cons h r
  | _, _, i + 1, .cons q r => .cons q (Reps.set h i r)
theorem RepF.lookup {f : Str} : ∀ {xs : List (Str × D)} {vs : List (Str × V)} {x : D}, RepF K cn G ρ xs vs → xs.lookup f = some x → ∃ v, vs.lookup f = some v ∧ Rep K cn G ρ x v
  | _, _, _, .nil, e => by simp [List.lookup] at e
  | _, _, x, .cons (k := k) h q, e => by
    unfold List.lookup at e ⊢
    cases c : (f == k) with
    | true =>
      rw [c] at e
      simp only [Option.some.injEq] at e
      subst e
      exact ⟨_, rfl, h⟩
    | false =>
      rw [c] at e
      exact q.lookup e
theorem RepF.lookup_none {f : Str} : ∀ {xs : List (Str × D)} {vs : List (Str × V)}, RepF K cn G ρ xs vs → xs.lookup f = none → vs.lookup f = none
  | _, _, .nil, e => rfl
  | _, _, .cons (k := k) h q, e => by
    unfold List.lookup at e ⊢
    cases c : (f == k) with
    | true =>
      rw [c] at e
      cases e
    | false =>
      rw [c] at e
      exact q.lookup_none e
theorem RepF.length : ∀ {xs : List (Str × D)} {vs : List (Str × V)}, RepF K cn G ρ xs vs → xs.length = vs.length
  | _, _, .nil => rfl
  | _, _, .cons _ q => congrArg (· + 1) q.length
theorem RepK.length : ∀ {xs : List (Key × D)} {vs : List (Key × V)}, RepK K cn G ρ xs vs → xs.length = vs.length
  | _, _, .nil => rfl
  | _, _, .cons _ q => congrArg (· + 1) q.length
end

/-! ### states -/
structure Zt where
  G : Hp
  H : Hp
  ρ : List Addr
  σ : St
  sl : Sls
  st : Sto
/-- the addresses of the slots' own objects, locked ones too -/
def Zt.own (Z : Zt) (a : Addr) : Prop := ∃ (i : Nat) (b : Ob), (Z.sl[i]? = some (Sl.o b) ∨ Z.sl[i]? = some (Sl.lk b)) ∧ Z.σ[i]? = some (some (V.ref a))
def Sl.ob : Sl → Option Ob
  | .o b => some b
  | .lk b => some b
  | _ => none
def Cl.ob : Cl → Ob
  | .c b => b
  | .lk b => b
section
variable (K : PySem.W.Frag) (cn : String → Addr)
def SlOk (Z : Zt) (i : Nat) : Sl → Prop
  | .u => True
  | .d x => ∃ v, Z.σ[i]? = some (some v) ∧ Rep K cn Z.G Z.ρ x v
  | .o b => ∃ p o, Z.σ[i]? = some (some (V.ref p)) ∧ Z.H p = some o ∧ Z.G p = none ∧ p ∉ Z.ρ ∧ ObOk K cn Z.G Z.ρ b o
  | .lk b => ∃ p o, Z.σ[i]? = some (some (V.ref p)) ∧ Z.H p = some o ∧ Z.G p = none ∧ p ∉ Z.ρ ∧ ObOk K cn Z.G Z.ρ b o
structure R (Z : Zt) : Prop where
  ex : Ex Z.G Z.H
  len : Z.ρ.length = Z.st.length
  cells : ∀ (i : Nat) (c : Cl) (a : Addr), Z.st[i]? = some c → Z.ρ[i]? = some a → ∃ o, Z.H a = some o ∧ Z.G a = none ∧ ObOk K cn Z.G Z.ρ c.ob o
  inj : Z.ρ.Nodup
  slen : Z.sl.length = Z.σ.length
  slots : ∀ (i : Nat) (s : Sl), Z.sl[i]? = some s → SlOk K cn Z i s
  dist : ∀ (i j : Nat) (s t : Sl) (b c : Ob) (a : Addr), i ≠ j → Z.sl[i]? = some s → Z.sl[j]? = some t → s.ob = some b → t.ob = some c → Z.σ[i]? = some (some (V.ref a)) → Z.σ[j]? = some (some (V.ref a)) → False
end
/-- an instance may have other fields, all else is as it was -/
def Like (o o' : HO) : Prop := o' = o ∨ ∃ C dx fs fs', o = .ins C dx fs ∧ o' = .ins C dx fs'
theorem Like.trans {o o' o'' : HO} (h : Like o o') (k : Like o' o'') : Like o o'' := by
  rcases h with rfl | ⟨C, dx, fs, fs', rfl, rfl⟩
  · exact k
  · rcases k with rfl | ⟨C2, dx2, gs, gs', e, rfl⟩
    · exact .inr ⟨C, dx, fs, fs', rfl, rfl⟩
    · cases e; exact .inr ⟨C, dx, fs, gs', rfl, rfl⟩
theorem Like.lst {vs : List V} {o : HO} (h : Like (.lst vs) o) : o = .lst vs := by
  rcases h with rfl | ⟨C, dx, fs, fs', e, _⟩
  · rfl
  · cases e
/-- from a state with the objects at A in hand to another with those at A' in hand -/
structure Step (Z : Zt) (A : Addr → Prop) (Z' : Zt) (A' : Addr → Prop) : Prop where
  g : Ex Z.G Z'.G
  r : Z.ρ <+: Z'.ρ
  keep : ∀ a o, Z.H a = some o → Z.G a = none → a ∉ Z.ρ → ¬ Z.own a → ¬ A a → Z'.H a = some o ∧ Z'.G a = none ∧ a ∉ Z'.ρ ∧ ¬ Z'.own a ∧ ¬ A' a
  lkS : ∀ (i : Nat) (b : Ob) (a : Addr) (o : HO), Z.sl[i]? = some (Sl.lk b) → Z.σ[i]? = some (some (V.ref a)) → Z.H a = some o → (∃ o', Z'.H a = some o' ∧ Like o o') ∧ (∃ b', Z'.sl[i]? = some (Sl.lk b')) ∧ Z'.σ[i]? = some (some (V.ref a))
  lkC : ∀ (i : Nat) (b : Ob) (a : Addr) (o : HO), Z.st[i]? = some (Cl.lk b) → Z.ρ[i]? = some a → Z.H a = some o → Z'.H a = some o ∧ ∃ b', Z'.st[i]? = some (Cl.lk b')
abbrev NoA : Addr → Prop := fun _ => False
theorem Step.mk' {Z Z' : Zt} {A A' : Addr → Prop} (g : Ex Z.G Z'.G) (r : Z.ρ <+: Z'.ρ) (keep : ∀ a o, Z.H a = some o → Z.G a = none → a ∉ Z.ρ → ¬ Z.own a → ¬ A a → Z'.H a = some o ∧ Z'.G a = none ∧ a ∉ Z'.ρ ∧ ¬ Z'.own a ∧ ¬ A' a)
    (hs : ∀ (i : Nat) (b : Ob), Z.sl[i]? = some (Sl.lk b) → Z'.sl[i]? = some (Sl.lk b) ∧ Z'.σ[i]? = Z.σ[i]?) (ht : ∀ (i : Nat) (b : Ob), Z.st[i]? = some (Cl.lk b) → Z'.st[i]? = some (Cl.lk b)) (hH : ∀ a o, Z.H a = some o → Z'.H a = some o) : Step Z A Z' A' :=
  ⟨g, r, keep, fun i b a o h1 h2 h3 => ⟨⟨o, hH a o h3, .inl rfl⟩, ⟨b, (hs i b h1).1⟩, by rw [(hs i b h1).2]; exact h2⟩, fun i b a o h1 h2 h3 => ⟨hH a o h3, b, ht i b h1⟩⟩
theorem Step.refl {Z : Zt} {A : Addr → Prop} : Step Z A Z A := Step.mk' (fun _ _ h => h) (List.prefix_refl _) (fun _ _ h g r o a => ⟨h, g, r, o, a⟩) (fun _ _ h => ⟨h, rfl⟩) (fun _ _ h => h) (fun _ _ h => h)
theorem Step.trans {Z Z' Z'' : Zt} {A A' A'' : Addr → Prop} (s : Step Z A Z' A') (t : Step Z' A' Z'' A'') : Step Z A Z'' A'' :=
  ⟨fun a o h => t.g a o (s.g a o h), s.r.trans t.r, fun a o h g r n m => by
    obtain ⟨h1, g1, r1, n1, m1⟩ := s.keep a o h g r n m
    exact t.keep a o h1 g1 r1 n1 m1, fun i b a o h1 h2 h3 => by
    obtain ⟨⟨o1, k1, l1⟩, ⟨b1, k2⟩, k3⟩ := s.lkS i b a o h1 h2 h3
    obtain ⟨⟨o2, k4, l2⟩, k5⟩ := t.lkS i b1 a o1 k2 k3 k1
    exact ⟨⟨o2, k4, l1.trans l2⟩, k5⟩, fun i b a o h1 h2 h3 => by
    obtain ⟨k1, b1, k2⟩ := s.lkC i b a o h1 h2 h3
    exact t.lkC i b1 a o k2 (ix_mono s.r h2) k1⟩
theorem Step.drop {Z Z' : Zt} {A A' B : Addr → Prop} (s : Step Z A Z' A') (h : ∀ a, B a → A' a) : Step Z A Z' B :=
  ⟨s.g, s.r, fun a o q g r n m => by
    obtain ⟨h1, g1, r1, n1, m1⟩ := s.keep a o q g r n m
    exact ⟨h1, g1, r1, n1, fun z => m1 (h a z)⟩, s.lkS, s.lkC⟩
theorem Step.less {Z Z' : Zt} {A A' B : Addr → Prop} (s : Step Z A Z' A') (h : ∀ a, A a → B a) : Step Z B Z' A' :=
  ⟨s.g, s.r, fun a o q g r n m => s.keep a o q g r n fun z => m (h a z), s.lkS, s.lkC⟩

/-! ### results -/
def rvA : RV → V → Addr → Prop
  | .f _, v, a => v = .ref a
  | _, _, _ => False
section
variable (K : PySem.W.Frag) (cn : String → Addr)
def RepRV (Z : Zt) : RV → V → Prop
  | .d x, v => Rep K cn Z.G Z.ρ x v
  | .f b, v => ∃ p o, v = .ref p ∧ Z.H p = some o ∧ Z.G p = none ∧ p ∉ Z.ρ ∧ ¬ Z.own p ∧ ObOk K cn Z.G Z.ρ b o
  | .sl i, v => Z.σ[i]? = some (some v)
end
section
variable {K : PySem.W.Frag} {cn : String → Addr} {Z Z' : Zt} {A A' : Addr → Prop}
/-- an object in hand stays so through a step that it has no part in -/
theorem RepRV.step {r : RV} {v : V} (h : RepRV K cn Z r v) (s : Step Z A Z' A') (hσ : Z'.σ = Z.σ) (hA : ∀ a, rvA r v a → ¬ A a) : RepRV K cn Z' r v ∧ ∀ a, rvA r v a → ¬ A' a := by
  cases r with
  | d x => exact ⟨Rep.mono s.g s.r h, fun _ z => z.elim⟩
  | f b =>
    obtain ⟨p, o, rfl, h1, h2, h3, h4, h5⟩ := h
    obtain ⟨q1, q2, q3, q4, q5⟩ := s.keep p o h1 h2 h3 h4 (hA p rfl)
    exact ⟨⟨p, o, rfl, q1, q2, q3, q4, h5.mono s.g s.r⟩, fun a z => by cases z; exact q5⟩
  | sl i =>
    refine ⟨?_, fun _ z => z.elim⟩
    show Z'.σ[i]? = _
    rw [hσ]
    exact h
end
/-- several results, the objects in hand apart -/
def rvsA : List RV → List V → Addr → Prop
  | r :: rs, v :: vs, a => rvA r v a ∨ rvsA rs vs a
  | _, _, _ => False
section
variable (K : PySem.W.Frag) (cn : String → Addr)
inductive RepRVs (Z : Zt) : List RV → List V → Prop
  | nil : RepRVs Z [] []
  | cons {r : RV} {v : V} {rs : List RV} {vs : List V} (h : RepRV K cn Z r v) (t : RepRVs Z rs vs) (d : ∀ a, rvA r v a → ¬ rvsA rs vs a) : RepRVs Z (r :: rs) (v :: vs)
end
/-! ### what is wanted -/
section
variable (K : PySem.W.Frag) (cn : String → Addr)
/-- the state behind: other heaps, the slots' values, the machine's state -/
abbrev Zt.to (σ : St) (sl : Sls) (st : Sto) (G H : Hp) (ρ : List Addr) : Zt := ⟨G, H, ρ, σ, sl, st⟩
def PostX (W : WX) (Z : Zt) (A : Addr → Prop) (C : String) (xs : List (Str × D)) (sl : Sls) (st : Sto) : Prop :=
  ∀ G H ρ σ d us, R K cn ⟨G, H, ρ, σ, sl, st⟩ → Step Z A ⟨G, H, ρ, σ, sl, st⟩ (· = d) → H d = some (.xd us) → G d = none → d ∉ ρ → RepF K cn G ρ xs us → W (.ref (cn C)) (some d) σ H
def PostE (W : WX) (Z : Zt) (A : Addr → Prop) (q : Res RV) (Q : VK) : Prop := match q with
  | .ok r sl st => ∀ G H ρ v, R K cn ⟨G, H, ρ, Z.σ, sl, st⟩ → RepRV K cn ⟨G, H, ρ, Z.σ, sl, st⟩ r v → Step Z A ⟨G, H, ρ, Z.σ, sl, st⟩ (rvA r v) → Q v H
  | .exc C xs sl st => ∀ G H ρ d us, R K cn ⟨G, H, ρ, Z.σ, sl, st⟩ → Step Z A ⟨G, H, ρ, Z.σ, sl, st⟩ (· = d) → H d = some (.xd us) → G d = none → d ∉ ρ → RepF K cn G ρ xs us → W (.ref (cn C)) (some d) Z.σ H
  | .no => False
def PostA (W : WX) (Z : Zt) (A : Addr → Prop) (q : Res (List RV)) (Q : List V → Hp → Prop) : Prop := match q with
  | .ok rs sl st => ∀ G H ρ vs, R K cn ⟨G, H, ρ, Z.σ, sl, st⟩ → RepRVs K cn ⟨G, H, ρ, Z.σ, sl, st⟩ rs vs → Step Z A ⟨G, H, ρ, Z.σ, sl, st⟩ (rvsA rs vs) → Q vs H
  | .exc C xs sl st => ∀ G H ρ d us, R K cn ⟨G, H, ρ, Z.σ, sl, st⟩ → Step Z A ⟨G, H, ρ, Z.σ, sl, st⟩ (· = d) → H d = some (.xd us) → G d = none → d ∉ ρ → RepF K cn G ρ xs us → W (.ref (cn C)) (some d) Z.σ H
  | .no => False
def PostT (W : WX) (Z : Zt) (A : Addr → Prop) (q : Res Bool) (Q : Bool → Hp → Prop) : Prop := match q with
  | .ok b sl st => ∀ G H ρ, R K cn ⟨G, H, ρ, Z.σ, sl, st⟩ → Step Z A ⟨G, H, ρ, Z.σ, sl, st⟩ NoA → Q b H
  | .exc C xs sl st => ∀ G H ρ d us, R K cn ⟨G, H, ρ, Z.σ, sl, st⟩ → Step Z A ⟨G, H, ρ, Z.σ, sl, st⟩ (· = d) → H d = some (.xd us) → G d = none → d ∉ ρ → RepF K cn G ρ xs us → W (.ref (cn C)) (some d) Z.σ H
  | .no => False
inductive Fl where
  | nx | rt (r : RV) | bk | ct
def PostS (W : WX) (Z : Zt) (A : Addr → Prop) (q : Res Fl) (D : Ends) : Prop := match q with
  | .ok .nx sl st => ∀ G H ρ σ, R K cn ⟨G, H, ρ, σ, sl, st⟩ → Step Z A ⟨G, H, ρ, σ, sl, st⟩ NoA → D.nx σ H
  | .ok .bk sl st => ∀ G H ρ σ, R K cn ⟨G, H, ρ, σ, sl, st⟩ → Step Z A ⟨G, H, ρ, σ, sl, st⟩ NoA → D.bk σ H
  | .ok .ct sl st => ∀ G H ρ σ, R K cn ⟨G, H, ρ, σ, sl, st⟩ → Step Z A ⟨G, H, ρ, σ, sl, st⟩ NoA → D.ct σ H
  | .ok (.rt r) sl st => ∀ G H ρ σ v, R K cn ⟨G, H, ρ, σ, sl, st⟩ → RepRV K cn ⟨G, H, ρ, σ, sl, st⟩ r v → Step Z A ⟨G, H, ρ, σ, sl, st⟩ (rvA r v) → D.rt v H
  | .exc C xs sl st => PostX K cn W Z A C xs sl st
  | .no => False
/-- the readings -/
def TM (W : WX) (m : Mn RV) : TE := fun σ H Q => ∃ G ρ sl st, R K cn ⟨G, H, ρ, σ, sl, st⟩ ∧ PostE K cn W ⟨G, H, ρ, σ, sl, st⟩ NoA (m sl st) Q
def TMa (W : WX) (m : Mn (List RV)) : TA := fun σ H Q => ∃ G ρ sl st, R K cn ⟨G, H, ρ, σ, sl, st⟩ ∧ PostA K cn W ⟨G, H, ρ, σ, sl, st⟩ NoA (m sl st) Q
def TMt (W : WX) (m : Mn Bool) : TT := fun σ H Q => ∃ G ρ sl st, R K cn ⟨G, H, ρ, σ, sl, st⟩ ∧ PostT K cn W ⟨G, H, ρ, σ, sl, st⟩ NoA (m sl st) Q
def TMs (W : WX) (m : Mn Fl) : TS := fun D σ H => ∃ G ρ sl st, R K cn ⟨G, H, ρ, σ, sl, st⟩ ∧ PostS K cn W ⟨G, H, ρ, σ, sl, st⟩ NoA (m sl st) D
end
end MP

set_option Elab.async false
set_option linter.all false
set_option maxRecDepth 100000
set_option maxHeartbeats 4000000
/-! MP2: names, constants, arguments, how an operation ends. -/
namespace MP
open PySem L2
open Evl (Ex)
section
variable {K : PySem.W.Frag} {cn : String → Addr} {Z Z' : Zt} {A A' B : Addr → Prop}
theorem Step.with (s : Step Z A Z' A') (B : Addr → Prop) : Step Z (fun a => A a ∨ B a) Z' (fun a => A' a ∨ B a) :=
  ⟨s.g, s.r, fun a o q g r n m => by
    obtain ⟨h1, g1, r1, n1, m1⟩ := s.keep a o q g r n fun z => m (.inl z)
    exact ⟨h1, g1, r1, n1, fun z => z.elim m1 fun e => m (.inr e)⟩, s.lkS, s.lkC⟩
theorem Step.end0 (s : Step Z A Z' A') : Step Z A Z' NoA := s.drop fun _ z => z.elim
theorem Step.start0 (s : Step Z NoA Z' A') : Step Z A Z' A' := s.less fun _ z => z.elim
theorem R.gnone (hR : R K cn Z) {a : Addr} (h : Z.H a = none) : Z.G a = none := by
  cases e : Z.G a with
  | none => rfl
  | some o => rw [hR.ex a o e] at h; cases h
theorem R.rnew (hR : R K cn Z) {a : Addr} (h : Z.H a = none) : a ∉ Z.ρ := fun hm => by
  obtain ⟨i, hi⟩ := List.mem_iff_getElem?.mp hm
  have hl : i < Z.st.length := by
    rw [← hR.len]
    exact (List.getElem?_eq_some_iff.mp hi).1
  obtain ⟨o, ho, _⟩ := hR.cells i _ a (List.getElem?_eq_getElem hl) hi
  rw [h] at ho; cases ho
theorem R.slot_own (hR : R K cn Z) {i : Nat} {s : Sl} {b : Ob} (e : Z.sl[i]? = some s) (hs : s.ob = some b) : ∃ p o, Z.σ[i]? = some (some (V.ref p)) ∧ Z.H p = some o ∧ Z.G p = none ∧ p ∉ Z.ρ ∧ ObOk K cn Z.G Z.ρ b o := by
  have h := hR.slots i s e
  cases s with
  | u => cases hs
  | d x => cases hs
  | o b' => cases hs; exact h
  | lk b' => cases hs; exact h
theorem Zt.own_of {i : Nat} {s : Sl} {b : Ob} {a : Addr} (e : Z.sl[i]? = some s) (hs : s.ob = some b) (h : Z.σ[i]? = some (some (V.ref a))) : Z.own a := by
  cases s with
  | u => cases hs
  | d x => cases hs
  | o b' => exact ⟨i, b', .inl e, h⟩
  | lk b' => exact ⟨i, b', .inr e, h⟩
theorem Zt.own_iff {a : Addr} : Z.own a ↔ ∃ (i : Nat) (s : Sl) (b : Ob), Z.sl[i]? = some s ∧ s.ob = some b ∧ Z.σ[i]? = some (some (V.ref a)) := by
  constructor
  · rintro ⟨i, b, h | h, e⟩
    · exact ⟨i, _, b, h, rfl, e⟩
    · exact ⟨i, _, b, h, rfl, e⟩
  · rintro ⟨i, s, b, h, hs, e⟩
    exact Zt.own_of h hs e
theorem R.onew (hR : R K cn Z) {a : Addr} (h : Z.H a = none) : ¬ Z.own a := fun ⟨i, b, hs, e⟩ => by
  have q : ∃ s : Sl, Z.sl[i]? = some s ∧ s.ob = some b := by
    rcases hs with hs | hs
    · exact ⟨_, hs, rfl⟩
    · exact ⟨_, hs, rfl⟩
  obtain ⟨s, h1, h2⟩ := q
  obtain ⟨p, o, hp, ho, _⟩ := hR.slot_own h1 h2
  rw [hp] at e; cases e
  rw [h] at ho; cases ho
theorem ex_new {G H : Hp} {p : Addr} {o : HO} (h : Ex G H) (hp : H p = none) : Ex G (upd H p o) := fun a u e => by
  have e' := h a u e
  rw [upd_ne (ne_of_none e' hp)]
  exact e'
theorem ex_mut {G H : Hp} {p : Addr} {o : HO} (h : Ex G H) (hp : G p = none) : Ex G (upd H p o) := fun a u e => by
  rw [upd_ne (ne_of_none e hp)]
  exact h a u e
theorem ex_set {G H : Hp} {p : Addr} {o : HO} (h : Ex G H) (hp : H p = some o) : Ex (upd G p o) H := fun a u e => by
  by_cases c : a = p
  · subst c; rw [upd_same] at e; cases e; exact hp
  · rw [upd_ne c] at e; exact h a u e
theorem SlOk.mono {i : Nat} {s : Sl} (h : SlOk K cn Z i s) {G' H' : Hp} {ρ' : List Addr} (g : Ex Z.G G') (r : Z.ρ <+: ρ')
    (k : ∀ b p o, s.ob = some b → Z.σ[i]? = some (some (V.ref p)) → Z.H p = some o → Z.G p = none → p ∉ Z.ρ → H' p = some o ∧ G' p = none ∧ p ∉ ρ') : SlOk K cn { Z with G := G', H := H', ρ := ρ' } i s := by
  cases s with
  | u => trivial
  | d x =>
    obtain ⟨v, h1, h2⟩ := h
    exact ⟨v, h1, h2.mono g r⟩
  | o b =>
    obtain ⟨p, o, h1, h2, h3, h4, h5⟩ := h
    obtain ⟨k1, k2, k3⟩ := k b p o rfl h1 h2 h3 h4
    exact ⟨p, o, h1, k1, k2, k3, h5.mono g r⟩
  | lk b =>
    obtain ⟨p, o, h1, h2, h3, h4, h5⟩ := h
    obtain ⟨k1, k2, k3⟩ := k b p o rfl h1 h2 h3 h4
    exact ⟨p, o, h1, k1, k2, k3, h5.mono g r⟩
/-- a new object laid -/
theorem R.laid (hR : R K cn Z) {p : Addr} (o : HO) (hp : Z.H p = none) : R K cn { Z with H := upd Z.H p o } := by
  refine ⟨ex_new hR.ex hp, hR.len, fun i c a h1 h2 => ?_, hR.inj, hR.slen, fun i s h => ?_, hR.dist⟩
  · obtain ⟨u, e1, e2, e3⟩ := hR.cells i c a h1 h2
    exact ⟨u, by show upd Z.H p o a = _; rw [upd_ne (ne_of_none e1 hp)]; exact e1, e2, e3⟩
  · exact SlOk.mono (hR.slots i s h) (fun _ _ e => e) (List.prefix_refl _) fun b q u _ _ e1 e2 e3 => ⟨by rw [upd_ne (ne_of_none e1 hp)]; exact e1, e2, e3⟩
theorem Step.laid (hR : R K cn Z) {p : Addr} (o : HO) (hp : Z.H p = none) : Step Z A { Z with H := upd Z.H p o } (fun a => A a ∨ a = p) :=
  Step.mk' (fun _ _ e => e) (List.prefix_refl _) (fun a u h g r n m => ⟨by show upd Z.H p o a = _; rw [upd_ne (ne_of_none h hp)]; exact h, g, r, n, fun z => z.elim m fun e => ne_of_none h hp e⟩)
    (fun _ _ h => ⟨h, rfl⟩) (fun _ _ h => h) (fun a u h => by show upd Z.H p o a = _; rw [upd_ne (ne_of_none h hp)]; exact h)
/-- an object in hand is settled -/
theorem R.settle (hR : R K cn Z) {p : Addr} {o : HO} (h : Z.H p = some o) (hg : Z.G p = none) (hr : p ∉ Z.ρ) (hn : ¬ Z.own p) : R K cn { Z with G := upd Z.G p o } := by
  have g : Ex Z.G (upd Z.G p o) := fun a u e => by rw [upd_ne (ne_of_none e hg)]; exact e
  refine ⟨ex_set hR.ex h, hR.len, fun i c a h1 h2 => ?_, hR.inj, hR.slen, fun i s hs => ?_, hR.dist⟩
  · obtain ⟨u, e1, e2, e3⟩ := hR.cells i c a h1 h2
    have hap : a ≠ p := fun z => hr (z ▸ List.mem_of_getElem? h2)
    exact ⟨u, e1, by show upd Z.G p o a = none; rw [upd_ne hap]; exact e2, e3.mono g (List.prefix_refl _)⟩
  · refine SlOk.mono (hR.slots i s hs) g (List.prefix_refl _) fun b q u hb e0 e1 e2 e3 => ⟨e1, ?_, e3⟩
    have hqp : q ≠ p := fun z => hn (z ▸ Zt.own_of hs hb e0)
    rw [upd_ne hqp]; exact e2
theorem Step.settle (hR : R K cn Z) {p : Addr} {o : HO} (hg : Z.G p = none) (hA : A p) : Step Z A { Z with G := upd Z.G p o } NoA :=
  Step.mk' (fun a u e => by show upd Z.G p o a = _; rw [upd_ne (ne_of_none e hg)]; exact e) (List.prefix_refl _) (fun a u h g r n m => ⟨h, by
    show upd Z.G p o a = none
    rw [upd_ne (fun z => m (by rw [z]; exact hA))]; exact g, r, n, fun z => z⟩) (fun _ _ h => ⟨h, rfl⟩) (fun _ _ h => h) (fun _ _ h => h)
theorem ObOk.rep {G : Hp} {ρ : List Addr} {b : Ob} {o : HO} {p : Addr} (h : ObOk K cn G ρ b o) (hg : G p = none) : Rep K cn (upd G p o) ρ b.toD (.ref p) := by
  have g : Ex G (upd G p o) := fun a u e => by rw [upd_ne (ne_of_none e hg)]; exact e
  have e : upd G p o p = some o := upd_same
  cases h with
  | lst r => exact .lst (.inl (.inl e)) (r.mono g (List.prefix_refl _))
  | dct r => exact .dct e (r.mono g (List.prefix_refl _))
  | ins r => exact .obj e (r.mono g (List.prefix_refl _))
end

/-! ### names and constants -/
def mVar (i : Nat) : Mn RV := fun sl st => match sl[i]? with
  | some (.d x) => .ok (.d x) sl st
  | some (.o _) => .ok (.sl i) sl st
  | some (.lk _) => .ok (.sl i) sl st
  | _ => .no
def mC (x : D) : Mn RV := unit (.d x)
section
variable {X : Cx} {W : WX} {cn : String → Addr} {K : PySem.W.Frag}
theorem PE.imp {e : Expr} {t t' : TE} (h : PE X e t) (k : ∀ σ H Q, t' σ H Q → t σ H Q) : PE X e t' := ⟨fun pins s σ H Q I q => h.run pins s σ H Q I (k σ H Q q)⟩
theorem PT.imp {e : Expr} {t t' : TT} (h : PT X e t) (k : ∀ σ H Q, t' σ H Q → t σ H Q) : PT X e t' := ⟨fun pins s σ H Q I q => h.run pins s σ H Q I (k σ H Q q)⟩
theorem PA.imp {e : List Expr} {t t' : TA} (h : PA X e t) (k : ∀ σ H Q, t' σ H Q → t σ H Q) : PA X e t' := ⟨fun pos pins s σ H Q I q => h.run pos pins s σ H Q I (k σ H Q q)⟩
theorem PS.imp {e : Stmt} {t t' : TS} (h : PS X e t) (k : ∀ D σ H, t' D σ H → t D σ H) : PS X e t' := ⟨fun pins s σ H D I q => h.run pins s σ H D I (k D σ H q)⟩
theorem PSs.imp {e : List Stmt} {t t' : TS} (h : PSs X e t) (k : ∀ D σ H, t' D σ H → t D σ H) : PSs X e t' := ⟨fun pins s σ H D I q => h.run pins s σ H D I (k D σ H q)⟩
theorem tm_var {i : Nat} : ∀ σ H Q, TM K cn W (mVar i) σ H Q → tVar i σ H Q := by
  rintro σ H Q ⟨G, ρ, sl, st, hR, h⟩
  unfold mVar at h
  cases e : sl[i]? with
  | none => rw [e] at h; exact h.elim
  | some s =>
    rw [e] at h
    have hs := hR.slots i s e
    cases s with
    | u => exact h.elim
    | d x =>
      obtain ⟨v, h1, h2⟩ := hs
      exact ⟨v, h1, h G H ρ v hR h2 Step.refl⟩
    | o b =>
      obtain ⟨p, o, h1, _⟩ := hs
      exact ⟨_, h1, h G H ρ _ hR h1 Step.refl⟩
    | lk b =>
      obtain ⟨p, o, h1, _⟩ := hs
      exact ⟨_, h1, h G H ρ _ hR h1 Step.refl⟩
theorem tm_c {x : D} {v : V} (r : ∀ G ρ, Rep K cn G ρ x v) : ∀ σ H Q, TM K cn W (mC x) σ H Q → tC v σ H Q := by
  rintro σ H Q ⟨G, ρ, sl, st, hR, h⟩
  exact h G H ρ v hR (r G ρ) Step.refl

/-! ### arguments -/
def mNil : Mn (List RV) := unit []
def mCons (a : Mn RV) (b : Mn (List RV)) : Mn (List RV) := bnd a fun r => bnd b fun rs => unit (r :: rs)
theorem tma_nil : ∀ σ H Q, TMa K cn W mNil σ H Q → tNil σ H Q := by
  rintro σ H Q ⟨G, ρ, sl, st, hR, h⟩
  exact h G H ρ [] hR .nil (Step.refl.drop fun _ z => z.elim)
theorem tma_cons {a : Mn RV} {b : Mn (List RV)} : ∀ σ H Q, TMa K cn W (mCons a b) σ H Q → tCons (TM K cn W a) (TMa K cn W b) σ H Q := by
  rintro σ H Q ⟨G, ρ, sl, st, hR, h⟩
  refine ⟨G, ρ, sl, st, hR, ?_⟩
  unfold mCons bnd at h
  cases ha : a sl st with
  | no => rw [ha] at h; exact h.elim
  | exc C xs sl1 st1 => rw [ha] at h; exact h
  | ok r sl1 st1 =>
    rw [ha] at h
    intro G1 H1 ρ1 v1 hR1 hv1 hS1
    refine ⟨G1, ρ1, sl1, st1, hR1, ?_⟩
    dsimp only at h
    cases hb : b sl1 st1 with
    | no => rw [hb] at h; exact h.elim
    | exc C xs sl2 st2 =>
      rw [hb] at h
      intro G2 H2 ρ2 d us hR2 hS2
      exact h G2 H2 ρ2 d us hR2 (hS1.end0.trans hS2)
    | ok rs sl2 st2 =>
      rw [hb] at h
      intro G2 H2 ρ2 vs hR2 hvs hS2
      obtain ⟨k1, k2⟩ := hv1.step hS2 rfl (fun _ _ z => z)
      refine h G2 H2 ρ2 (v1 :: vs) hR2 (.cons k1 hvs k2) ?_
      refine (hS1.trans ((hS2.with (rvA r v1)).less (fun a z => z.elim False.elim id))).drop fun a z => ?_
      exact (show rvA r v1 a ∨ rvsA rs vs a from z).elim Or.inr Or.inl
/-! ### operations on the results of arguments -/
def OpOk (K : PySem.W.Frag) (cn : String → Addr) (W : WX) (r : List V → Hp → VK → Prop) (f : List RV → Mn RV) : Prop := ∀ (Z : Zt) (rs : List RV) (vs : List V) (Q : VK), R K cn Z → RepRVs K cn Z rs vs → PostE K cn W Z (rvsA rs vs) (f rs Z.sl Z.st) Q → r vs Z.H Q
def mOp (f : List RV → Mn RV) (a : Mn (List RV)) : Mn RV := bnd a f
theorem PostE.trans {W : WX} {Z Z1 : Zt} {A A1 : Addr → Prop} {q : Res RV} {Q : VK} (hS : Step Z A Z1 A1) (hσ : Z1.σ = Z.σ) (h : PostE K cn W Z A q Q) : PostE K cn W Z1 A1 q Q := by
  cases q with
  | no => exact h
  | ok r sl st =>
    intro G H ρ v
    rw [hσ]
    intro hR hv hT
    exact h G H ρ v hR hv (hS.trans hT)
  | exc C xs sl st =>
    intro G H ρ d us
    rw [hσ]
    intro hR hT
    exact h G H ρ d us hR (hS.trans hT)
theorem tm_op {r : List V → Hp → VK → Prop} {f : List RV → Mn RV} {a : Mn (List RV)} (ho : OpOk K cn W r f) : ∀ σ H Q, TM K cn W (mOp f a) σ H Q → TMa K cn W a σ H fun vs H1 => r vs H1 Q := by
  rintro σ H Q ⟨G, ρ, sl, st, hR, h⟩
  refine ⟨G, ρ, sl, st, hR, ?_⟩
  unfold mOp bnd at h
  cases ha : a sl st with
  | no => rw [ha] at h; exact h.elim
  | exc C xs sl1 st1 => rw [ha] at h; exact h
  | ok rs sl1 st1 =>
    rw [ha] at h
    intro G1 H1 ρ1 vs hR1 hvs hS1
    exact ho ⟨G1, H1, ρ1, σ, sl1, st1⟩ rs vs Q hR1 hvs (PostE.trans hS1 rfl h)
theorem tm_two {a b : Mn RV} {P : V → V → Hp → Prop} : ∀ σ H, TMa K cn W (mCons a (mCons b mNil)) σ H (fun vs H1 => ∃ x y, vs = [x, y] ∧ P x y H1) → TM K cn W a σ H fun x H1 => TM K cn W b σ H1 fun y H2 => P x y H2 := by
  intro σ H h
  have h1 := tma_cons σ H _ h
  obtain ⟨G, ρ, sl, st, hR, q⟩ := h1
  refine ⟨G, ρ, sl, st, hR, ?_⟩
  cases e : a sl st with
  | no => rw [e] at q; exact q
  | exc C xs sl1 st1 => rw [e] at q; exact q
  | ok r sl1 st1 =>
    rw [e] at q
    intro G1 H1 ρ1 v1 hR1 hv1 hS1
    have q1 := tma_cons σ H1 _ (q G1 H1 ρ1 v1 hR1 hv1 hS1)
    obtain ⟨G2, ρ2, sl2, st2, hR2, q2⟩ := q1
    refine ⟨G2, ρ2, sl2, st2, hR2, ?_⟩
    cases e2 : b sl2 st2 with
    | no => rw [e2] at q2; exact q2
    | exc C xs sl1 st1 => rw [e2] at q2; exact q2
    | ok r sl1 st1 =>
      rw [e2] at q2
      intro G3 H3 ρ3 v3 hR3 hv3 hS3
      obtain ⟨x, y, ev, hp⟩ := tma_nil σ H3 _ (q2 G3 H3 ρ3 v3 hR3 hv3 hS3)
      cases ev
      exact hp
theorem tm_one {a : Mn RV} {P : V → Hp → Prop} : ∀ σ H, TMa K cn W (mCons a mNil) σ H (fun vs H1 => ∃ x, vs = [x] ∧ P x H1) → TM K cn W a σ H P := by
  intro σ H h
  have h1 := tma_cons σ H _ h
  obtain ⟨G, ρ, sl, st, hR, q⟩ := h1
  refine ⟨G, ρ, sl, st, hR, ?_⟩
  cases e : a sl st with
  | no => rw [e] at q; exact q
  | exc C xs sl1 st1 => rw [e] at q; exact q
  | ok r sl1 st1 =>
    rw [e] at q
    intro G1 H1 ρ1 v1 hR1 hv1 hS1
    obtain ⟨x, ev, hp⟩ := tma_nil σ H1 _ (q G1 H1 ρ1 v1 hR1 hv1 hS1)
    cases ev
    exact hp
/-! ### how an operation ends -/
variable {Z : Zt} {A : Addr → Prop} {Q : VK}
/-- a settled value, nothing new -/
theorem fin_d {x : D} {v : V} (hR : R K cn Z) (h : PostE K cn W Z A (.ok (.d x) Z.sl Z.st) Q) (hv : Rep K cn Z.G Z.ρ x v) : Q v Z.H := h Z.G Z.H Z.ρ v hR hv Step.refl.end0
/-- a new object -/
theorem fin_f {b : Ob} {o : HO} {p : Addr} (hR : R K cn Z) (h : PostE K cn W Z A (.ok (.f b) Z.sl Z.st) Q) (hb : ObOk K cn Z.G Z.ρ b o) (hp : Z.H p = none) : Q (.ref p) (upd Z.H p o) :=
  h Z.G (upd Z.H p o) Z.ρ (.ref p) (hR.laid o hp) ⟨p, o, rfl, upd_same, hR.gnone hp, hR.rnew hp, hR.onew hp, hb⟩ ((Step.laid hR o hp).drop fun a z => .inr (by cases z; rfl))
/-- a new tuple -/
theorem fin_tup {xs : List D} {vs : List V} {p : Addr} (hR : R K cn Z) (h : PostE K cn W Z A (.ok (.d (.tup xs)) Z.sl Z.st) Q) (hb : Reps K cn Z.G Z.ρ xs vs) (hp : Z.H p = none) : Q (.ref p) (upd Z.H p (.tup vs)) := by
  have g : Ex Z.G (upd Z.G p (.tup vs)) := fun a u e => by rw [upd_ne (ne_of_none e (hR.gnone hp))]; exact e
  refine h (upd Z.G p (.tup vs)) (upd Z.H p (.tup vs)) Z.ρ (.ref p) ((hR.laid (.tup vs) hp).settle (p := p) upd_same (hR.gnone hp) (hR.rnew hp) (hR.onew hp)) (.tup (.inl (.inl upd_same)) (hb.mono g (List.prefix_refl _))) ?_
  exact (Step.laid hR (.tup vs) hp).trans (Step.settle (hR.laid (.tup vs) hp) (hR.gnone hp) (.inr rfl))
end
end MP

set_option Elab.async false
set_option linter.all false
set_option maxRecDepth 100000
set_option maxHeartbeats 4000000
/-! MP3: what a result shows, pure operations, whole numbers, texts, comparisons. -/
namespace MP
open PySem L2
open Evl (Ex)
/-! ### what a result shows -/
def deref (st : Sto) : D → Option D
  | .cell i => match st[i]? with
    | some c => some c.ob.toD
    | none => none
  | x => some x
def view (sl : Sls) (st : Sto) : RV → Option D
  | .d x => deref st x
  | .f b => some b.toD
  | .sl i => match sl[i]? with
    | some (.o b) => some b.toD
    | some (.lk b) => some b.toD
    | some (.d x) => deref st x
    | _ => none
def views (sl : Sls) (st : Sto) : List RV → Option (List D)
  | [] => some []
  | r :: rs => match view sl st r, views sl st rs with
    | some x, some xs => some (x :: xs)
    | _, _ => none
section
variable (K : PySem.W.Frag) (cn : String → Addr)
def RepH (Z : Zt) : D → V → Prop
  | .lst xs, v => ∃ a vs, v = .ref a ∧ SqL K Z.H a vs ∧ Reps K cn Z.G Z.ρ xs vs
  | .dct xs, v => ∃ a vs, v = .ref a ∧ Z.H a = some (.dK vs) ∧ RepK K cn Z.G Z.ρ xs vs
  | .obj C xs, v => ∃ a dx vs, v = .ref a ∧ Z.H a = some (.ins (cn C) dx vs) ∧ RepF K cn Z.G Z.ρ xs vs
  | .cell _, _ => False
  | x, v => Rep K cn Z.G Z.ρ x v
inductive RepHs (Z : Zt) : List D → List V → Prop
  | nil : RepHs Z [] []
  | cons {x : D} {v : V} {xs : List D} {vs : List V} (h : RepH K cn Z x v) (t : RepHs Z xs vs) : RepHs Z (x :: xs) (v :: vs)
end
section
variable {K : PySem.W.Frag} {cn : String → Addr} {Z : Zt}
theorem Rep.toH (hR : R K cn Z) {x : D} {v : V} (h : Rep K cn Z.G Z.ρ x v) (n : ∀ i, x ≠ .cell i) : RepH K cn Z x v := by
  cases h with
  | tup h r => exact Rep.tup h r
  | lst h r => exact ⟨_, _, rfl, Evl.ex_l hR.ex h, r⟩
  | dct h r => exact ⟨_, _, rfl, hR.ex _ _ h, r⟩
  | obj h r => exact ⟨_, _, _, rfl, hR.ex _ _ h, r⟩
  | cell h => exact (n _ rfl).elim
  | non => exact Rep.non
  | bl => exact Rep.bl
  | int => exact Rep.int
  | str => exact Rep.str
  | ty => exact Rep.ty
  | gl => exact Rep.gl
  | exn h r => exact Rep.exn h r
theorem ObOk.toH {b : Ob} {o : HO} {p : Addr} (h : ObOk K cn Z.G Z.ρ b o) (e : Z.H p = some o) : RepH K cn Z b.toD (.ref p) := by
  cases h with
  | lst r => exact ⟨p, _, rfl, .inl (.inl e), r⟩
  | dct r => exact ⟨p, _, rfl, e, r⟩
  | ins r => exact ⟨p, _, _, rfl, e, r⟩
theorem deref_ok (hR : R K cn Z) {x y : D} {v : V} (h : Rep K cn Z.G Z.ρ x v) (e : deref Z.st x = some y) : RepH K cn Z y v := by
  by_cases c : ∃ i, x = .cell i
  · obtain ⟨i, rfl⟩ := c
    cases h with
    | cell h =>
      unfold deref at e
      dsimp only at e
      cases q : Z.st[i]? with
      | none => rw [q] at e; cases e
      | some c =>
        rw [q] at e
        cases e
        obtain ⟨o, h1, h2, h3⟩ := hR.cells i c _ q h
        exact h3.toH h1
  · have n : ∀ i, x ≠ .cell i := fun i z => c ⟨i, z⟩
    have ey : deref Z.st x = some x := by
      cases x with
      | cell i => exact (n i rfl).elim
      | _ => rfl
    rw [ey] at e
    cases e
    exact h.toH hR n
theorem view_ok (hR : R K cn Z) {r : RV} {v : V} {x : D} (h : RepRV K cn Z r v) (e : view Z.sl Z.st r = some x) : RepH K cn Z x v := by
  cases r with
  | d y => exact deref_ok hR h e
  | f b =>
    obtain ⟨p, o, rfl, h1, h2, h3, h4, h5⟩ := h
    cases e
    exact h5.toH h1
  | sl i =>
    have h : Z.σ[i]? = some (some v) := h
    unfold view at e
    dsimp only at e
    cases q : Z.sl[i]? with
    | none => rw [q] at e; cases e
    | some s =>
      rw [q] at e
      have hs := hR.slots i s q
      cases s with
      | u => cases e
      | d y =>
        obtain ⟨w, h1, h2⟩ := hs
        rw [h] at h1; cases h1
        exact deref_ok hR h2 e
      | o b =>
        obtain ⟨p, o, h1, h2, _, _, h5⟩ := hs
        rw [h] at h1; cases h1
        cases e
        exact h5.toH h2
      | lk b =>
        obtain ⟨p, o, h1, h2, _, _, h5⟩ := hs
        rw [h] at h1; cases h1
        cases e
        exact h5.toH h2
theorem views_ok (hR : R K cn Z) : ∀ {rs : List RV} {vs : List V} {xs : List D}, RepRVs K cn Z rs vs → views Z.sl Z.st rs = some xs → RepHs K cn Z xs vs
  | _, _, _, .nil, e => by cases e; exact .nil
  | r :: rs, _, xs, .cons h t d, e => by
    unfold views at e
    cases q : view Z.sl Z.st r with
    | none => rw [q] at e; cases e
    | some x =>
      rw [q] at e
      cases q2 : views Z.sl Z.st rs with
      | none => rw [q2] at e; cases e
      | some ys =>
        rw [q2] at e
        cases e
        exact .cons (view_ok hR h q) (views_ok hR t q2)
end
/-! ### pure operations -/
inductive PR where
  | d (x : D) | f (b : Ob) | t (xs : List D) | no
def mPure (g : List D → PR) : List RV → Mn RV := fun rs sl st => match views sl st rs with
  | some xs => match g xs with
    | .d x => .ok (.d x) sl st
    | .f b => .ok (.f b) sl st
    | .t ys => .ok (.d (.tup ys)) sl st
    | .no => .no
  | none => .no
section
variable (K : PySem.W.Frag) (cn : String → Addr)
def PostP (Z : Zt) (q : PR) (Q : VK) : Prop := match q with
  | .d x => ∀ v, Rep K cn Z.G Z.ρ x v → Q v Z.H
  | .f b => ∀ p o, Z.H p = none → ObOk K cn Z.G Z.ρ b o → Q (.ref p) (upd Z.H p o)
  | .t xs => (∀ v, Rep K cn Z.G Z.ρ (.tup xs) v → Q v Z.H) ∧ ∀ p vs, Z.H p = none → Reps K cn Z.G Z.ρ xs vs → Q (.ref p) (upd Z.H p (.tup vs))
  | .no => False
def POk (r : List V → Hp → VK → Prop) (g : List D → PR) : Prop := ∀ (Z : Zt) (xs : List D) (vs : List V) (Q : VK), R K cn Z → RepHs K cn Z xs vs → PostP K cn Z (g xs) Q → r vs Z.H Q
end
section
variable {K : PySem.W.Frag} {cn : String → Addr} {W : WX} {X : Cx}
theorem POk.op {r : List V → Hp → VK → Prop} {g : List D → PR} (h : POk K cn r g) : OpOk K cn W r (mPure g) := by
  intro Z rs vs Q hR hv hq
  unfold mPure at hq
  cases e : views Z.sl Z.st rs with
  | none => rw [e] at hq; exact hq.elim
  | some xs =>
    rw [e] at hq
    refine h Z xs vs Q hR (views_ok hR hv e) ?_
    dsimp only at hq
    cases eg : g xs with
    | no => rw [eg] at hq; exact hq
    | d x => rw [eg] at hq; exact fun v hv => fin_d hR hq hv
    | f b => rw [eg] at hq; exact fun p o hp hb => fin_f hR hq hb hp
    | t ys => rw [eg] at hq; exact ⟨fun v hv => fin_d hR hq hv, fun p us hp hb => fin_tup hR hq hb hp⟩
/-- two operands, by a rule of values -/
def r2l (r : R2) : List V → Hp → VK → Prop := fun vs H Q => ∃ x y, vs = [x, y] ∧ r x y H Q
def r1l (r : V → Hp → VK → Prop) : List V → Hp → VK → Prop := fun vs H Q => ∃ x, vs = [x] ∧ r x H Q
theorem me_bin {op : Operator} {r : R2} {a b : Expr} {pos : Pos} {f : List RV → Mn RV} {ma mb : Mn RV} (ho : OpR X (binaryOp op) r) (hf : OpOk K cn W (r2l r) f) (ha : PE X a (TM K cn W ma)) (hb : PE X b (TM K cn W mb)) :
    PE X (.BinOp a op b pos) (TM K cn W (mOp f (mCons ma (mCons mb mNil)))) := PE.imp (pe_op ho ha hb) fun σ H Q h => tm_two σ H (tm_op hf σ H Q h)
theorem me_un {op : UnaryOp} {r : V → Hp → VK → Prop} {a : Expr} {pos : Pos} {f : List RV → Mn RV} {ma : Mn RV} (ho : UnR X (unaryOp op) r) (hf : OpOk K cn W (r1l r) f) (ha : PE X a (TM K cn W ma)) :
    PE X (.UnaryOp op a pos) (TM K cn W (mOp f (mCons ma mNil))) := PE.imp (pe_un ho ha) fun σ H Q h => tm_one σ H (tm_op hf σ H Q h)
theorem me_cmp {op : CmpOp} {r : R2} {a b : Expr} {pos : Pos} {f : List RV → Mn RV} {ma mb : Mn RV} (ho : OpR X (compareOp op) r) (hf : OpOk K cn W (r2l r) f) (ha : PE X a (TM K cn W ma)) (hb : PE X b (TM K cn W mb)) (hm : behindInMarks op b = false) :
    PE X (.Compare a [op] [b] pos) (TM K cn W (mOp f (mCons ma (mCons mb mNil)))) := PE.imp (pe_cmpR ho ha hb hm) fun σ H Q h => tm_two σ H (tm_op hf σ H Q h)
theorem me_ix {r : R2} {a b : Expr} {pos : Pos} {f : List RV → Mn RV} {ma mb : Mn RV} (ho : IxR X r) (hf : OpOk K cn W (r2l r) f) (ha : PE X a (TM K cn W ma)) (hb : PE X b (TM K cn W mb)) (hs : PlainIx b) :
    PE X (.Subscript a b pos) (TM K cn W (mOp f (mCons ma (mCons mb mNil)))) := PE.imp (pe_ix ho ha hb hs) fun σ H Q h => tm_two σ H (tm_op hf σ H Q h)
theorem me_blt {id : String} {x : Str} {r : List V → Hp → VK → Prop} {e : Expr} {es : List Expr} {p pos : Pos} {f : List RV → Mn RV} {ma : Mn (List RV)} (hc : CallR X (.builtin id) r) (hf : OpOk K cn W r f) (hg : Gl X x) (hm : X.mg x = none) (hv : bootBuiltins x = some (.builtin id)) (ha : PA X (e :: es) (TMa K cn W ma))
    (hn : x ≠ "__name__" := by decide) (hdb : (x == ("__debug__" : Str)) = false := by decide)
    (he : starEach (e :: es) X.env = (false, eval e X.env) :: starEach es X.env := by rfl) (hpl : (backTo pos (starEach es X.env)).any (·.1) = false := by rfl) :
    PE X (.Call (.Name x p) (e :: es) [] pos) (TM K cn W (mOp f ma)) := PE.imp (pe_callB hc hg hm hv ha hn hdb he hpl) fun σ H Q h => tm_op hf σ H Q h
theorem me_bty {T : String} {x : Str} {r : List V → Hp → VK → Prop} {e : Expr} {es : List Expr} {p pos : Pos} {f : List RV → Mn RV} {ma : Mn (List RV)} (hc : CallR X (.type T) r) (hf : OpOk K cn W r f) (hg : Gl X x) (hm : X.mg x = none) (hv : bootBuiltins x = some (.type T)) (ha : PA X (e :: es) (TMa K cn W ma))
    (hn : x ≠ "__name__" := by decide) (hdb : (x == ("__debug__" : Str)) = false := by decide)
    (he : starEach (e :: es) X.env = (false, eval e X.env) :: starEach es X.env := by rfl) (hpl : (backTo pos (starEach es X.env)).any (·.1) = false := by rfl) :
    PE X (.Call (.Name x p) (e :: es) [] pos) (TM K cn W (mOp f ma)) := PE.imp (pe_callTy hc hg hm hv ha hn hdb he hpl) fun σ H Q h => tm_op hf σ H Q h
theorem me_var {i : Nat} {x : Str} {pos : Pos} (hN : X.N[i]? = some x := by rfl) (hv : Vis X.env.scope x := by first | exact Or.inl rfl | exact Or.inr (Or.inl rfl) | exact Or.inr (Or.inr rfl)) (hd : (x == ("__debug__" : Str)) = false := by decide)
    (hcd : (x == ("__classdict__" : Str)) = false := by decide) : PE X (.Name x pos) (TM K cn W (mVar i)) := PE.imp (pe_var hN hv hd hcd) tm_var
theorem me_int {i : Int} {j pos} : PE X (.Constant (.int i) j pos) (TM K cn W (mC (.int i))) := PE.imp pe_int (tm_c fun _ _ => .int)
theorem me_bl {b : Bool} {j pos} : PE X (.Constant (.bool b) j pos) (TM K cn W (mC (.bl b))) := PE.imp pe_bl (tm_c fun _ _ => .bl)
theorem me_non {j pos} : PE X (.Constant .none j pos) (TM K cn W (mC .non)) := PE.imp pe_non (tm_c fun _ _ => .non)
theorem me_str {s : Str} {j pos} : PE X (.Constant (.str s) j pos) (TM K cn W (mC (.str s))) := PE.imp pe_str (tm_c fun _ _ => .str)
theorem ma_nil : PA X [] (TMa K cn W mNil) := PA.imp pa_nil tma_nil
theorem ma_cons {e : Expr} {es : List Expr} {m : Mn RV} {ms : Mn (List RV)} (ha : PE X e (TM K cn W m)) (hr : PA X es (TMa K cn W ms)) (hs : starEach (e :: es) X.env = (false, eval e X.env) :: starEach es X.env := by rfl) : PA X (e :: es) (TMa K cn W (mCons m ms)) :=
  PA.imp (pa_cons ha hr hs) tma_cons
end

/-! ### forms -/
section
variable {K : PySem.W.Frag} {cn : String → Addr} {Z : Zt}
theorem RepHs.two {x y : D} {vs : List V} (h : RepHs K cn Z [x, y] vs) : ∃ v w, vs = [v, w] ∧ RepH K cn Z x v ∧ RepH K cn Z y w := by
  cases h with
  | cons a t => cases t with
    | cons b u => cases u; exact ⟨_, _, rfl, a, b⟩
theorem RepHs.one {x : D} {vs : List V} (h : RepHs K cn Z [x] vs) : ∃ v, vs = [v] ∧ RepH K cn Z x v := by
  cases h with
  | cons a t => cases t; exact ⟨_, rfl, a⟩
theorem RepH.tup (hR : R K cn Z) {xs : List D} {v : V} (h : RepH K cn Z (.tup xs) v) : ∃ a vs, v = .ref a ∧ SqT K Z.H a vs ∧ Reps K cn Z.G Z.ρ xs vs ∧ Rep K cn Z.G Z.ρ (.tup xs) v := by
  have h' : Rep K cn Z.G Z.ρ (.tup xs) v := h
  cases h' with
  | tup q r => exact ⟨_, _, rfl, Evl.ex_t hR.ex q, r, h⟩
theorem RepH.int {i : Int} {v : V} (h : RepH K cn Z (.int i) v) : v = .int i := by
  have h : Rep K cn Z.G Z.ρ (.int i) v := h
  cases h; rfl
theorem RepH.str {i : Str} {v : V} (h : RepH K cn Z (.str i) v) : v = .str i := by
  have h : Rep K cn Z.G Z.ρ (.str i) v := h
  cases h; rfl
theorem RepH.bl {i : Bool} {v : V} (h : RepH K cn Z (.bl i) v) : v = .bl i := by
  have h : Rep K cn Z.G Z.ρ (.bl i) v := h
  cases h; rfl
theorem RepH.non {v : V} (h : RepH K cn Z .non v) : v = .non := by
  have h : Rep K cn Z.G Z.ρ .non v := h
  cases h; rfl
end

/-! ### whole numbers -/
def gII (f : Int → Int → PR) : List D → PR
  | [.int i, .int j] => f i j
  | _ => .no
section
variable {K : PySem.W.Frag} {cn : String → Addr}
theorem gII_ok {r : R2} {f : Int → Int → PR} (h : ∀ (Z : Zt) (i j : Int) (Q : VK), R K cn Z → PostP K cn Z (f i j) Q → r (.int i) (.int j) Z.H Q) : POk K cn (r2l r) (gII f) := by
  intro Z xs vs Q hR hv hq
  unfold gII at hq
  split at hq
  · obtain ⟨v, w, rfl, h1, h2⟩ := hv.two
    cases h1.int
    cases h2.int
    exact ⟨_, _, rfl, h Z _ _ Q hR hq⟩
  · exact hq.elim
theorem ok_add : POk K cn (r2l (rI0 fun i j => .int (i + j))) (gII fun i j => .d (.int (i + j))) := gII_ok fun Z i j Q hR h => ⟨i, j, rfl, rfl, h _ .int⟩
theorem ok_sub : POk K cn (r2l (rI0 fun i j => .int (i - j))) (gII fun i j => .d (.int (i - j))) := gII_ok fun Z i j Q hR h => ⟨i, j, rfl, rfl, h _ .int⟩
theorem ok_lt : POk K cn (r2l (rI0 fun i j => .bl (decide (i < j)))) (gII fun i j => .d (.bl (decide (i < j)))) := gII_ok fun Z i j Q hR h => ⟨i, j, rfl, rfl, h _ .bl⟩
theorem ok_le : POk K cn (r2l (rI0 fun i j => .bl (decide (i ≤ j)))) (gII fun i j => .d (.bl (decide (i ≤ j)))) := gII_ok fun Z i j Q hR h => ⟨i, j, rfl, rfl, h _ .bl⟩
theorem ok_gt : POk K cn (r2l (rI0 fun i j => .bl (decide (j < i)))) (gII fun i j => .d (.bl (decide (j < i)))) := gII_ok fun Z i j Q hR h => ⟨i, j, rfl, rfl, h _ .bl⟩
theorem ok_ge : POk K cn (r2l (rI0 fun i j => .bl (decide (j ≤ i)))) (gII fun i j => .d (.bl (decide (j ≤ i)))) := gII_ok fun Z i j Q hR h => ⟨i, j, rfl, rfl, h _ .bl⟩
/-- products and quotients of numbers below a million bits, divisors below nine thousand -/
def mulOk (i j : Int) : Bool := decide (i.natAbs.log2 + j.natAbs.log2 < 1000000)
def divOk (j : Int) : Bool := decide (0 < j) && decide (j.natAbs.log2 < 9000)
theorem ok_mul : POk K cn (r2l (rI CMulW fun i j => .int (i * j))) (gII fun i j => if mulOk i j = true then .d (.int (i * j)) else .no) := gII_ok fun Z i j Q hR h => by
  by_cases c : mulOk i j = true
  · rw [if_pos c] at h
    exact ⟨i, j, rfl, rfl, (show i.natAbs.log2 + j.natAbs.log2 < 1000000 from of_decide_eq_true c), h _ .int⟩
  · rw [if_neg c] at h
    exact h.elim
theorem ok_fdiv : POk K cn (r2l (rI CDivW fun i j => .int (i / j))) (gII fun i j => if divOk j = true then .d (.int (i / j)) else .no) := gII_ok fun Z i j Q hR h => by
  by_cases c : divOk j = true
  · rw [if_pos c] at h
    have c' := (Bool.and_eq_true_iff.mp c)
    exact ⟨i, j, rfl, rfl, ⟨of_decide_eq_true c'.1, of_decide_eq_true c'.2⟩, h _ .int⟩
  · rw [if_neg c] at h
    exact h.elim
theorem ok_mod : POk K cn (r2l (rI (fun _ j => 0 < j) fun i j => .int (i % j))) (gII fun i j => if 0 < j then .d (.int (i % j)) else .no) := gII_ok fun Z i j Q hR h => by
  by_cases c : 0 < j
  · rw [if_pos c] at h
    exact ⟨i, j, rfl, rfl, c, h _ .int⟩
  · rw [if_neg c] at h
    exact h.elim
theorem ok_pow : POk K cn (r2l (rI CPow fun i j => .int (i ^ j.toNat))) (gII fun i j => if (0 ≤ j ∧ j ≤ 1000000 ∧ i.natAbs < 2 ^ 64) then .d (.int (i ^ j.toNat)) else .no) := gII_ok fun Z i j Q hR h => by
  by_cases c : (0 ≤ j ∧ j ≤ 1000000 ∧ i.natAbs < 2 ^ 64)
  · rw [if_pos c] at h
    exact ⟨i, j, rfl, rfl, c, h _ .int⟩
  · rw [if_neg c] at h
    exact h.elim
theorem ok_neg : POk K cn (r1l (rU fun i => .int (-i))) (fun xs => match xs with | [.int i] => .d (.int (-i)) | _ => .no) := by
  intro Z xs vs Q hR hv hq
  dsimp only at hq
  split at hq
  · obtain ⟨v, rfl, h⟩ := hv.one
    cases h.int
    exact ⟨_, rfl, _, rfl, hq _ .int⟩
  · exact hq.elim
end
end MP

set_option Elab.async false
set_option linter.all false
set_option maxRecDepth 100000
set_option maxHeartbeats 4000000
/-! MP4: tests, statements, loops. -/
namespace MP
open PySem L2
open Evl (Ex)
/-! ### tests -/
def truth : D → Option Bool
  | .non => some false
  | .bl b => some b
  | .int i => some (i != 0)
  | .str s => if s.length ≤ sizeLine then some ((s.length : Int) != 0) else none
  | .lst xs => some (!xs.isEmpty)
  | .tup xs => some (!xs.isEmpty)
  | .dct xs => some (!xs.isEmpty)
  | _ => none
/-- a value as a test -/
def mTru (m : Mn RV) : Mn Bool := bnd m fun r sl st => match view sl st r with
  | some x => match truth x with
    | some b => .ok b sl st
    | none => .no
  | none => .no
/-- a value that is True or False -/
def mTB (m : Mn RV) : Mn Bool := bnd m fun r sl st => match r with
  | .d (.bl b) => .ok b sl st
  | _ => .no
def mAnd (a b : Mn Bool) : Mn Bool := bnd a fun c => if c = true then b else unit false
def mOr (a b : Mn Bool) : Mn Bool := bnd a fun c => if c = true then unit true else b
def mNot (a : Mn Bool) : Mn Bool := bnd a fun c => unit (!c)
/-- a test's answer as a value -/
def mBv (a : Mn Bool) : Mn RV := bnd a fun c => unit (.d (.bl c))
def mIfE (t : Mn Bool) (a b : Mn RV) : Mn RV := bnd t fun c => if c = true then a else b
/-! ### statements -/
def putIn (i : Nat) : RV → Mn Fl
  | .d x => fun sl st => .ok .nx (sl.set i (.d x)) st
  | .f b => fun sl st => .ok .nx (sl.set i (.o b)) st
  | .sl j => fun sl st => match sl[j]? with
    | some (.o b) => .ok .nx ((sl.set j (.d b.toD)).set i (.d b.toD)) st
    | some (.d x) => .ok .nx (sl.set i (.d x)) st
    | _ => .no
def assign (i : Nat) (r : RV) : Mn Fl := fun sl st => match sl[i]? with
  | none => .no
  | some (.lk _) => .no
  | some _ => putIn i r sl st
def mSet (i : Nat) (m : Mn RV) : Mn Fl := bnd m (assign i)
def mRet (m : Mn RV) : Mn Fl := bnd m fun r => unit (.rt r)
def mDo (m : Mn RV) : Mn Fl := bnd m fun _ => unit .nx
def mSeq (a b : Mn Fl) : Mn Fl := bnd a fun f => match f with
  | .nx => b
  | f => unit f
def mIf (t : Mn Bool) (a b : Mn Fl) : Mn Fl := bnd t fun c => if c = true then a else b
def mSkip : Mn Fl := unit .nx
def mBrk : Mn Fl := unit .bk
def mCnt : Mn Fl := unit .ct
def mWhile (t : Mn Bool) (b : Mn Fl) : Nat → Mn Fl
  | 0 => non
  | n + 1 => bnd t fun c => if c = true then bnd b fun f => match f with
    | .nx => mWhile t b n
    | .ct => mWhile t b n
    | .bk => unit .nx
    | .rt r => unit (.rt r)
    else unit .nx

section
variable {K : PySem.W.Frag} {cn : String → Addr} {W : WX} {X : Cx} {Z : Zt} {A : Addr → Prop}
theorem RepH.truth (hR : R K cn Z) {x : D} {v : V} {b : Bool} (h : RepH K cn Z x v) (e : truth x = some b) : TruV K v Z.H b := by
  cases x with
  | non => cases h.non; cases e; rfl
  | bl c => cases h.bl; cases e; rfl
  | int i => cases h.int; cases e; rfl
  | str s =>
    cases h.str
    unfold MP.truth at e
    dsimp only at e
    by_cases c : s.length ≤ sizeLine
    · rw [if_pos c] at e; cases e; exact ⟨c, rfl⟩
    · rw [if_neg c] at e; cases e
  | ty n => cases e
  | gl n => cases e
  | tup xs =>
    obtain ⟨a, vs, rfl, h1, h2, _⟩ := h.tup hR
    cases e
    refine .inr (.inl ⟨vs, h1, ?_⟩)
    cases h2 <;> rfl
  | lst xs =>
    obtain ⟨a, vs, rfl, h1, h2⟩ := h
    cases e
    refine .inl ⟨vs, h1, ?_⟩
    cases h2 <;> rfl
  | dct xs =>
    obtain ⟨a, vs, rfl, h1, h2⟩ := h
    cases e
    refine .inr (.inr ⟨vs, h1, ?_⟩)
    cases h2 <;> rfl
  | obj C xs => cases e
  | cell i => cases e
  | exn a dd xs => cases e
/-- the three ends of a first part -/
theorem PostT.trans {Z1 : Zt} {A1 : Addr → Prop} {q : Res Bool} {Q : Bool → Hp → Prop} (hS : Step Z A Z1 A1) (hσ : Z1.σ = Z.σ) (h : PostT K cn W Z A q Q) : PostT K cn W Z1 A1 q Q := by
  cases q with
  | no => exact h
  | ok r sl st =>
    intro G H ρ
    rw [hσ]
    intro hR hT
    exact h G H ρ hR (hS.trans hT)
  | exc C xs sl st =>
    intro G H ρ d us
    rw [hσ]
    intro hR hT
    exact h G H ρ d us hR (hS.trans hT)
theorem PostS.trans {Z1 : Zt} {A1 : Addr → Prop} {q : Res Fl} {D : Ends} (hS : Step Z A Z1 A1) (h : PostS K cn W Z A q D) : PostS K cn W Z1 A1 q D := by
  cases q with
  | no => exact h
  | ok f sl st =>
    cases f with
    | nx => exact fun G H ρ σ hR hT => h G H ρ σ hR (hS.trans hT)
    | bk => exact fun G H ρ σ hR hT => h G H ρ σ hR (hS.trans hT)
    | ct => exact fun G H ρ σ hR hT => h G H ρ σ hR (hS.trans hT)
    | rt r => exact fun G H ρ σ v hR hv hT => h G H ρ σ v hR hv (hS.trans hT)
  | exc C xs sl st => exact fun G H ρ σ d us hR hT => h G H ρ σ d us hR (hS.trans hT)
theorem PostS.less {A1 : Addr → Prop} {q : Res Fl} {D : Ends} (hA : ∀ a, A a → A1 a) (h : PostS K cn W Z A1 q D) : PostS K cn W Z A q D := by
  cases q with
  | no => exact h
  | ok f sl st =>
    cases f with
    | nx => exact fun G H ρ σ hR hT => h G H ρ σ hR (hT.less hA)
    | bk => exact fun G H ρ σ hR hT => h G H ρ σ hR (hT.less hA)
    | ct => exact fun G H ρ σ hR hT => h G H ρ σ hR (hT.less hA)
    | rt r => exact fun G H ρ σ v hR hv hT => h G H ρ σ v hR hv (hT.less hA)
  | exc C xs sl st => exact fun G H ρ σ d us hR hT => h G H ρ σ d us hR (hT.less hA)
/-- a value first, then what is done with it -/
theorem tm_s {m : Mn RV} {k : RV → Mn Fl} {P : V → St → Hp → Prop} {D : Ends} {σ : St} {H : Hp} (h : TMs K cn W (bnd m k) D σ H)
    (hk : ∀ G H ρ sl st r v, R K cn ⟨G, H, ρ, σ, sl, st⟩ → RepRV K cn ⟨G, H, ρ, σ, sl, st⟩ r v → PostS K cn W ⟨G, H, ρ, σ, sl, st⟩ (rvA r v) (k r sl st) D → P v σ H) : TM K cn W m σ H fun v H1 => P v σ H1 := by
  obtain ⟨G, ρ, sl, st, hR, h⟩ := h
  refine ⟨G, ρ, sl, st, hR, ?_⟩
  unfold bnd at h
  cases e : m sl st with
  | no => rw [e] at h; exact h
  | exc C xs sl1 st1 =>
    rw [e] at h
    exact fun G1 H1 ρ1 d us hR1 hS1 => h G1 H1 ρ1 σ d us hR1 hS1
  | ok r sl1 st1 =>
    rw [e] at h
    exact fun G1 H1 ρ1 v hR1 hv hS => hk G1 H1 ρ1 sl1 st1 r v hR1 hv (h.trans hS)
theorem tm_t {α : Type} {m : Mn Bool} {k : Bool → Mn Fl} {P : Bool → St → Hp → Prop} {D : Ends} {σ : St} {H : Hp} (h : TMs K cn W (bnd m k) D σ H)
    (hk : ∀ G H ρ sl st b, R K cn ⟨G, H, ρ, σ, sl, st⟩ → PostS K cn W ⟨G, H, ρ, σ, sl, st⟩ NoA (k b sl st) D → P b σ H) : TMt K cn W m σ H fun v H1 => P v σ H1 := by
  obtain ⟨G, ρ, sl, st, hR, h⟩ := h
  refine ⟨G, ρ, sl, st, hR, ?_⟩
  unfold bnd at h
  cases e : m sl st with
  | no => rw [e] at h; exact h
  | exc C xs sl1 st1 =>
    rw [e] at h
    exact fun G1 H1 ρ1 d us hR1 hS1 => h G1 H1 ρ1 σ d us hR1 hS1
  | ok r sl1 st1 =>
    rw [e] at h
    exact fun G1 H1 ρ1 hR1 hS => hk G1 H1 ρ1 sl1 st1 r hR1 (h.trans hS)
/-! ### tests, by the rules -/
theorem tm_vt {m : Mn RV} {k : RV → Mn Bool} {P : V → Hp → Prop} {Q : Bool → Hp → Prop} {σ : St} {H : Hp} (h : TMt K cn W (bnd m k) σ H Q)
    (hk : ∀ G H ρ sl st r v, R K cn ⟨G, H, ρ, σ, sl, st⟩ → RepRV K cn ⟨G, H, ρ, σ, sl, st⟩ r v → PostT K cn W ⟨G, H, ρ, σ, sl, st⟩ (rvA r v) (k r sl st) Q → P v H) : TM K cn W m σ H P := by
  obtain ⟨G, ρ, sl, st, hR, h⟩ := h
  refine ⟨G, ρ, sl, st, hR, ?_⟩
  unfold bnd at h
  cases e : m sl st with
  | no => rw [e] at h; exact h
  | exc C xs sl1 st1 => rw [e] at h; exact h
  | ok r sl1 st1 =>
    rw [e] at h
    exact fun G1 H1 ρ1 v hR1 hv hS => hk G1 H1 ρ1 sl1 st1 r v hR1 hv (h.trans hS rfl)
theorem tm_tt {m : Mn Bool} {k : Bool → Mn Bool} {P : Bool → Hp → Prop} {Q : Bool → Hp → Prop} {σ : St} {H : Hp} (h : TMt K cn W (bnd m k) σ H Q)
    (hk : ∀ G H ρ sl st b, R K cn ⟨G, H, ρ, σ, sl, st⟩ → PostT K cn W ⟨G, H, ρ, σ, sl, st⟩ NoA (k b sl st) Q → P b H) : TMt K cn W m σ H P := by
  obtain ⟨G, ρ, sl, st, hR, h⟩ := h
  refine ⟨G, ρ, sl, st, hR, ?_⟩
  unfold bnd at h
  cases e : m sl st with
  | no => rw [e] at h; exact h
  | exc C xs sl1 st1 => rw [e] at h; exact h
  | ok r sl1 st1 =>
    rw [e] at h
    exact fun G1 H1 ρ1 hR1 hS => hk G1 H1 ρ1 sl1 st1 r hR1 (h.trans hS rfl)
theorem tm_tv {m : Mn Bool} {k : Bool → Mn RV} {P : Bool → Hp → Prop} {Q : VK} {σ : St} {H : Hp} (h : TM K cn W (bnd m k) σ H Q)
    (hk : ∀ G H ρ sl st b, R K cn ⟨G, H, ρ, σ, sl, st⟩ → PostE K cn W ⟨G, H, ρ, σ, sl, st⟩ NoA (k b sl st) Q → P b H) : TMt K cn W m σ H P := by
  obtain ⟨G, ρ, sl, st, hR, h⟩ := h
  refine ⟨G, ρ, sl, st, hR, ?_⟩
  unfold bnd at h
  cases e : m sl st with
  | no => rw [e] at h; exact h
  | exc C xs sl1 st1 => rw [e] at h; exact h
  | ok r sl1 st1 =>
    rw [e] at h
    exact fun G1 H1 ρ1 hR1 hS => hk G1 H1 ρ1 sl1 st1 r hR1 (h.trans hS rfl)
/-- the same state, nothing in hand -/
theorem PostT.here {b : Bool} {Q : Bool → Hp → Prop} (hR : R K cn Z) (h : PostT K cn W Z A (.ok b Z.sl Z.st) Q) : Q b Z.H := h Z.G Z.H Z.ρ hR Step.refl.end0
theorem mt_tru {e : Expr} {m : Mn RV} (h : PE X e (TM X.K cn W m)) (he : ∀ whole, isTrue e X.env whole = (do let v ← whole; standAt e.pos; holding [v] (truthy v))) : PT X e (TMt X.K cn W (mTru m)) :=
  PT.imp (pt_truth h he) fun σ H Q q => tm_vt q fun G H ρ sl st r v hR hv h => by
    cases e1 : view sl st r with
    | none => rw [e1] at h; exact h.elim
    | some x =>
      rw [e1] at h
      dsimp only at h
      cases e2 : truth x with
      | none => rw [e2] at h; exact h.elim
      | some b => rw [e2] at h; exact ⟨b, (view_ok hR hv e1).truth hR e2, PostT.here hR h⟩
theorem tb_of {m : Mn RV} : ∀ σ H Q, TMt K cn W (mTB m) σ H Q → TM K cn W m σ H fun x H' => ∃ k, x = .bl k ∧ Q k H' := fun σ H Q q => tm_vt q fun G H ρ sl st r v hR hv h => by
  split at h
  · cases (show Rep K cn G ρ (.bl _) v from hv)
    exact ⟨_, rfl, PostT.here hR h⟩
  · exact h.elim
theorem mt_cmp {op : CmpOp} {r : R2} {a b : Expr} {pos : Pos} {f : List RV → Mn RV} {ma mb : Mn RV} (ho : OpR X (compareOp op) r) (hf : OpOk K cn W (r2l r) f) (ha : PE X a (TM K cn W ma)) (hb : PE X b (TM K cn W mb)) (hm : behindInMarks op b = false) :
    PT X (.Compare a [op] [b] pos) (TMt K cn W (mTB (mOp f (mCons ma (mCons mb mNil))))) :=
  PT.imp (pt_cmpR ho ha hb hm) fun σ H Q q => tm_two σ H (tm_op hf σ H _ (tb_of σ H Q q))
theorem mt_val {e : Expr} {m : Mn RV} (h : PE X e (TM K cn W m)) (he : ∀ whole, isTrue e X.env whole = (do let v ← whole; standAt e.pos; holding [v] (truthy v)) := by intro _; rfl) : PT X e (TMt K cn W (mTB m)) :=
  PT.imp (pt_val h he) tb_of
theorem mw_and1 {a : Expr} {pos : Pos} {m : Mn Bool} (h : PT X a (TMt K cn W m)) : PW X (.BoolOp .And [a] pos) (TMt K cn W m) := pw_and1 h
theorem mw_or1 {a : Expr} {pos : Pos} {m : Mn Bool} (h : PT X a (TMt K cn W m)) : PW X (.BoolOp .Or [a] pos) (TMt K cn W m) := pw_or1 h
theorem PW.imp {e : Expr} {t t' : TT} (h : PW X e t) (k : ∀ σ H Q, t' σ H Q → t σ H Q) : PW X e t' := ⟨fun w pins s σ H Q I q => h.run w pins s σ H Q I (k σ H Q q)⟩
theorem mw_and {a b : Expr} {rest : List Expr} {pos : Pos} {m n : Mn Bool} (ha : PT X a (TMt K cn W m)) (hb : PW X (.BoolOp .And (b :: rest) pos) (TMt K cn W n)) : PW X (.BoolOp .And (a :: b :: rest) pos) (TMt K cn W (mAnd m n)) :=
  PW.imp (pw_and ha hb) fun σ H Q q => tm_tt q fun G H ρ sl st c hR h => by
    cases c with
    | true => exact iteT ⟨G, ρ, sl, st, hR, h⟩
    | false => exact iteF (PostT.here hR h)
theorem mw_or {a b : Expr} {rest : List Expr} {pos : Pos} {m n : Mn Bool} (ha : PT X a (TMt K cn W m)) (hb : PW X (.BoolOp .Or (b :: rest) pos) (TMt K cn W n)) : PW X (.BoolOp .Or (a :: b :: rest) pos) (TMt K cn W (mOr m n)) :=
  PW.imp (pw_or ha hb) fun σ H Q q => tm_tt q fun G H ρ sl st c hR h => by
    cases c with
    | true => exact iteT (PostT.here hR h)
    | false => exact iteF ⟨G, ρ, sl, st, hR, h⟩
theorem mt_not {a : Expr} {pos : Pos} {m : Mn Bool} (ha : PT X a (TMt K cn W m)) : PT X (.UnaryOp .Not a pos) (TMt K cn W (mNot m)) :=
  PT.imp (pt_not ha) fun σ H Q q => tm_tt q fun G H ρ sl st c hR h => PostT.here hR h
theorem me_ifE {c a b : Expr} {pos : Pos} {t : Mn Bool} {m n : Mn RV} (hc : PT X c (TMt K cn W t)) (ha : PE X a (TM K cn W m)) (hb : PE X b (TM K cn W n)) : PE X (.IfExp c a b pos) (TM K cn W (mIfE t m n)) :=
  PE.imp (pe_ifExp hc ha hb) fun σ H Q q => tm_tv q fun G H ρ sl st c hR h => by
    cases c with
    | true => exact iteT ⟨G, ρ, sl, st, hR, h⟩
    | false => exact iteF ⟨G, ρ, sl, st, hR, h⟩
/-! ### assignment -/
theorem get_set {α : Type} {l : List α} {i j : Nat} {x y : α} (h : (l.set i x)[j]? = some y) : (j = i ∧ i < l.length ∧ y = x) ∨ (j ≠ i ∧ l[j]? = some y) := by
  by_cases c : j = i
  · subst c
    have hl : j < l.length := by
      have := (List.getElem?_eq_some_iff.mp h).1
      simpa using this
    rw [List.getElem?_set_self hl] at h
    exact .inl ⟨rfl, hl, (Option.some.inj h).symm⟩
  · rw [List.getElem?_set_ne (Ne.symm c)] at h
    exact .inr ⟨c, h⟩
/-- slot i takes a settled value or an object in hand; the rest as it is -/
theorem R.put (hR : R K cn Z) {i : Nat} {v : V} {s : Sl} (hi : ∃ s0, Z.sl[i]? = some s0 ∧ ∀ b, s0 ≠ .lk b) (hs : SlOk K cn ⟨Z.G, Z.H, Z.ρ, Z.σ.set i (some v), Z.sl.set i s, Z.st⟩ i s) (hd : ∀ b a, s.ob = some b → v = .ref a → ¬ Z.own a) :
    R K cn ⟨Z.G, Z.H, Z.ρ, Z.σ.set i (some v), Z.sl.set i s, Z.st⟩ := by
  refine ⟨hR.ex, hR.len, hR.cells, hR.inj, by simpa using hR.slen, fun j t h => ?_, fun j k t u b c a hjk h1 h2 e1 e2 g1 g2 => ?_⟩
  · rcases get_set h with ⟨rfl, _, rfl⟩ | ⟨hj, h⟩
    · exact hs
    · have q := hR.slots j t h
      have e : (Z.σ.set i (some v))[j]? = Z.σ[j]? := List.getElem?_set_ne (Ne.symm hj)
      cases t with
      | u => trivial
      | d x =>
        obtain ⟨w, h1, h2⟩ := q
        exact ⟨w, e.trans h1, h2⟩
      | o b =>
        obtain ⟨p, o, h1, h2⟩ := q
        exact ⟨p, o, e.trans h1, h2⟩
      | lk b =>
        obtain ⟨p, o, h1, h2⟩ := q
        exact ⟨p, o, e.trans h1, h2⟩
  · have side : ∀ {j : Nat} {t : Sl} {b : Ob}, (Z.sl.set i s)[j]? = some t → t.ob = some b → (Z.σ.set i (some v))[j]? = some (some (V.ref a)) → (j = i ∧ t = s ∧ v = .ref a) ∨ (j ≠ i ∧ Z.sl[j]? = some t ∧ Z.σ[j]? = some (some (V.ref a))) := fun {j t b} h e g => by
      rcases get_set h with ⟨rfl, _, rfl⟩ | ⟨hj, h⟩
      · rcases get_set g with ⟨_, _, q⟩ | ⟨q, _⟩
        · cases q; exact .inl ⟨rfl, rfl, rfl⟩
        · exact (q rfl).elim
      · rw [List.getElem?_set_ne (Ne.symm hj)] at g
        exact .inr ⟨hj, h, g⟩
    rcases side h1 e1 g1 with ⟨rfl, rfl, rfl⟩ | ⟨n1, s1, s2⟩
    · rcases side h2 e2 g2 with ⟨rfl, _, _⟩ | ⟨n2, s3, s4⟩
      · exact hjk rfl
      · exact hd b a e1 rfl (Zt.own_of s3 e2 s4)
    · rcases side h2 e2 g2 with ⟨rfl, rfl, rfl⟩ | ⟨n2, s3, s4⟩
      · exact hd c a e2 rfl (Zt.own_of s1 e1 s2)
      · exact hR.dist j k t u b c a hjk s1 s3 e1 e2 s2 s4
theorem Step.put {i : Nat} {v : V} {s : Sl} (hi : ∃ s0, Z.sl[i]? = some s0 ∧ ∀ b, s0 ≠ .lk b) (hd : ∀ b a, s.ob = some b → v = .ref a → A a) : Step Z A ⟨Z.G, Z.H, Z.ρ, Z.σ.set i (some v), Z.sl.set i s, Z.st⟩ NoA := by
  refine Step.mk' (fun _ _ h => h) (List.prefix_refl _) (fun a o h g r n m => ⟨h, g, r, fun q => ?_, fun z => z⟩) (fun j b h1 => ?_) (fun _ _ h => h) (fun _ _ h => h)
  · obtain ⟨j, t, b, h1, h2, h3⟩ := Zt.own_iff.mp q
    rcases get_set h1 with ⟨rfl, _, rfl⟩ | ⟨hj, h1⟩
    · rcases get_set h3 with ⟨_, _, e⟩ | ⟨e, _⟩
      · cases e; exact m (hd b a h2 rfl)
      · exact e rfl
    · have h3 : (Z.σ.set i (some v))[j]? = some (some (V.ref a)) := h3
      rw [List.getElem?_set_ne (Ne.symm hj)] at h3
      exact n (Zt.own_of h1 h2 h3)
  · obtain ⟨s0, hs0, hl⟩ := hi
    have c : j ≠ i := fun z => by subst z; rw [hs0] at h1; cases h1; exact hl b rfl
    exact ⟨by show (Z.sl.set i s)[j]? = _; rw [List.getElem?_set_ne (Ne.symm c)]; exact h1, List.getElem?_set_ne (Ne.symm c)⟩
/-- a slot's own object is settled where it is -/
theorem R.settleSl (hR : R K cn Z) {j : Nat} {b : Ob} (h : Z.sl[j]? = some (.o b)) : ∃ p G', Z.σ[j]? = some (some (V.ref p)) ∧ R K cn { Z with G := G', sl := Z.sl.set j (.d b.toD) } ∧ Rep K cn G' Z.ρ b.toD (.ref p) ∧ Step Z A { Z with G := G', sl := Z.sl.set j (.d b.toD) } NoA := by
  obtain ⟨p, o, h1, h2, h3, h4, h5⟩ := hR.slots j _ h
  have g : Ex Z.G (upd Z.G p o) := fun a u e => by rw [upd_ne (ne_of_none e h3)]; exact e
  have hrep := h5.rep h3
  have hj : j < Z.sl.length := (List.getElem?_eq_some_iff.mp h).1
  refine ⟨p, upd Z.G p o, h1, ⟨ex_set hR.ex h2, hR.len, fun i c a q1 q2 => ?_, hR.inj, by simpa using hR.slen, fun i s hs => ?_, fun i k t u b1 c a hik q1 q2 e1 e2 g1 g2 => ?_⟩, hrep, Step.mk' g (List.prefix_refl _) (fun a u q gq r n m => ⟨q, ?_, r, fun z => ?_, fun z => z⟩) (fun i b1 q1 => ?_) (fun _ _ h => h) (fun _ _ h => h)⟩
  · obtain ⟨u, e1, e2, e3⟩ := hR.cells i c a q1 q2
    have hap : a ≠ p := fun z => h4 (z ▸ List.mem_of_getElem? q2)
    exact ⟨u, e1, by show upd Z.G p o a = none; rw [upd_ne hap]; exact e2, e3.mono g (List.prefix_refl _)⟩
  · rcases get_set hs with ⟨rfl, _, rfl⟩ | ⟨hi, hs⟩
    · exact ⟨_, h1, hrep⟩
    · refine SlOk.mono (Z := { Z with sl := Z.sl.set j (.d b.toD) }) (G' := upd Z.G p o) (H' := Z.H) (ρ' := Z.ρ) ?_ g (List.prefix_refl _) fun b1 q u hb e0 e1 e2 e3 => ⟨e1, ?_, e3⟩
      · have q := hR.slots i s hs
        cases s <;> exact q
      · have hqp : q ≠ p := fun z => hR.dist i j s (.o b) b1 b p hi hs h hb rfl (z ▸ e0) h1
        rw [upd_ne hqp]; exact e2
  · rcases get_set q1 with ⟨rfl, _, rfl⟩ | ⟨n1, q1⟩
    · cases e1
    · rcases get_set q2 with ⟨rfl, _, rfl⟩ | ⟨n2, q2⟩
      · cases e2
      · exact hR.dist i k t u b1 c a hik q1 q2 e1 e2 g1 g2
  · show upd Z.G p o a = none
    rw [upd_ne (fun z => n (Zt.own_of h rfl (by rw [z]; exact h1)))]; exact gq
  · obtain ⟨i, t, b1, q1, q2, q3⟩ := Zt.own_iff.mp z
    rcases get_set q1 with ⟨rfl, _, rfl⟩ | ⟨n1, q1⟩
    · cases q2
    · exact n (Zt.own_of q1 q2 q3)
  · have c : i ≠ j := fun z => by subst z; rw [h] at q1; cases q1
    exact ⟨by show (Z.sl.set j _)[i]? = _; rw [List.getElem?_set_ne (Ne.symm c)]; exact q1, rfl⟩
theorem assign_ok (hR : R K cn Z) {i : Nat} {r : RV} {v : V} {D : Ends} (hv : RepRV K cn Z r v) (h : PostS K cn W Z (rvA r v) (assign i r Z.sl Z.st) D) : D.nx (Z.σ.set i (some v)) Z.H := by
  unfold assign at h
  cases e : Z.sl[i]? with
  | none => rw [e] at h; exact h.elim
  | some s0 =>
    rw [e] at h
    have hil : i < Z.sl.length := (List.getElem?_eq_some_iff.mp e).1
    have key : ∀ (hn : ∀ b, s0 ≠ .lk b), PostS K cn W Z (rvA r v) (putIn i r Z.sl Z.st) D → D.nx (Z.σ.set i (some v)) Z.H := by
      intro hn h
      have hi : ∃ s0, Z.sl[i]? = some s0 ∧ ∀ b, s0 ≠ .lk b := ⟨s0, e, hn⟩
      have hσi : (Z.σ.set i (some v))[i]? = some (some v) := List.getElem?_set_self (by rw [← hR.slen]; exact hil)
      cases r with
      | d x => exact h Z.G Z.H Z.ρ _ (hR.put hi ⟨v, hσi, hv⟩ fun b a z _ => by cases z) (Step.put hi fun b a z _ => by cases z)
      | f b =>
        obtain ⟨p, o, rfl, h1, h2, h3, h4, h5⟩ := hv
        exact h Z.G Z.H Z.ρ _ (hR.put hi ⟨p, o, hσi, h1, h2, h3, h5⟩ fun b a _ z => by cases z; exact h4) (Step.put hi fun b a _ z => by cases z; rfl)
      | sl j =>
        unfold putIn at h
        dsimp only at h
        have hv : Z.σ[j]? = some (some v) := hv
        cases ej : Z.sl[j]? with
        | none => rw [ej] at h; exact h.elim
        | some s =>
          rw [ej] at h
          cases s with
          | u => exact h.elim
          | lk b => exact h.elim
          | d x =>
            obtain ⟨w, h1, h2⟩ := hR.slots j _ ej
            rw [hv] at h1; cases h1
            exact h Z.G Z.H Z.ρ _ (hR.put hi ⟨v, hσi, h2⟩ fun b a z _ => by cases z) (Step.put hi fun b a z _ => by cases z)
          | o b =>
            obtain ⟨p, G', h1, hR', hrep, hS⟩ := hR.settleSl (A := rvA (.sl j) v) ej
            rw [hv] at h1; cases h1
            have hi' : ∃ s1, (Z.sl.set j (.d b.toD))[i]? = some s1 ∧ ∀ b, s1 ≠ .lk b := by
              by_cases c : i = j
              · subst c
                exact ⟨_, List.getElem?_set_self hil, fun b z => by cases z⟩
              · exact ⟨s0, by rw [List.getElem?_set_ne (Ne.symm c)]; exact e, hn⟩
            exact h G' Z.H Z.ρ _ (hR'.put hi' ⟨_, hσi, hrep⟩ fun b a z _ => by cases z) (hS.trans (Step.put hi' fun b a z _ => by cases z))
    cases s0 with
    | lk b => exact h.elim
    | u => exact key (fun b z => by cases z) h
    | d x => exact key (fun b z => by cases z) h
    | o b => exact key (fun b z => by cases z) h
theorem ms_set {i : Nat} {x : Str} {e : Expr} {m : Mn RV} {pos pos' : Pos} (hN : X.N.Nodup) (hi : X.N[i]? = some x) (hx : Loc X.env.scope x) (he : PE X e (TM K cn W m)) (hs : swapsWith e (some (.Name x pos')) pos.line X.env = pure false := by rfl)
    (hf : X.fn x = true ∨ X.env.scope.names.lookup x = some .local := by first | exact .inl rfl | exact .inr rfl | assumption) : PS X (.Assign [.Name x pos'] e pos) (TMs K cn W (mSet i m)) :=
  PS.imp (ps_set hN hi hx he hs hf) fun D σ H q => tm_s (P := fun v σ H => D.nx (σ.set i (some v)) H) q fun G H ρ sl st r v hR hv h => assign_ok (Z := ⟨G, H, ρ, σ, sl, st⟩) hR hv h
theorem ms_ret {e : Expr} {m : Mn RV} {pos : Pos} (he : PE X e (TM K cn W m)) : PS X (.Return (some e) pos) (TMs K cn W (mRet m)) :=
  PS.imp (ps_ret he) fun D σ H q => tm_s (P := fun v σ H => D.rt v H) q fun G H ρ sl st r v hR hv h => h G H ρ σ v hR hv Step.refl
theorem ms_retN {pos : Pos} : PS X (.Return none pos) (TMs K cn W (mRet (mC .non))) := PS.imp ps_retN fun D σ H q => by
  obtain ⟨G, ρ, sl, st, hR, h⟩ := q
  exact h G H ρ σ .non hR .non Step.refl
theorem ms_do {e : Expr} {m : Mn RV} {pos : Pos} (he : PE X e (TM K cn W m)) (hs : swapsWith e none pos.line X.env = pure false := by rfl) : PS X (.Expr e pos) (TMs K cn W (mDo m)) :=
  PS.imp (ps_expr he hs) fun D σ H q => tm_s (P := fun v σ H => D.nx σ H) q fun G H ρ sl st r v hR hv h => h G H ρ σ hR Step.refl.end0
theorem ms_doc {x : Str} {j pos pos'} : PS X (.Expr (.Constant (.str x) j pos) pos') (TMs K cn W mSkip) := PS.imp ps_doc fun D σ H q => by
  obtain ⟨G, ρ, sl, st, hR, h⟩ := q
  exact h G H ρ σ hR Step.refl
theorem ms_pass {pos} : PS X (.Pass pos) (TMs K cn W mSkip) := PS.imp ps_pass fun D σ H q => by
  obtain ⟨G, ρ, sl, st, hR, h⟩ := q
  exact h G H ρ σ hR Step.refl
theorem ms_brk {pos} : PS X (.Break pos) (TMs K cn W mBrk) := PS.imp ps_break fun D σ H q => by
  obtain ⟨G, ρ, sl, st, hR, h⟩ := q
  exact h G H ρ σ hR Step.refl
theorem ms_cnt {pos} : PS X (.Continue pos) (TMs K cn W mCnt) := PS.imp ps_continue fun D σ H q => by
  obtain ⟨G, ρ, sl, st, hR, h⟩ := q
  exact h G H ρ σ hR Step.refl
theorem ms_if {c : Expr} {a b : List Stmt} {t : Mn Bool} {m n : Mn Fl} {pos : Pos} (hc : PT X c (TMt K cn W t)) (ha : PSs X a (TMs K cn W m)) (hb : PSs X b (TMs K cn W n)) : PS X (.If c a b pos) (TMs K cn W (mIf t m n)) :=
  PS.imp (ps_if hc ha hb) fun D σ H q => tm_t (α := Unit) (P := fun b σ H => if b = true then TMs K cn W m D σ H else TMs K cn W n D σ H) q fun G H ρ sl st b hR h => by
    cases b with
    | true => exact iteT ⟨G, ρ, sl, st, hR, h⟩
    | false => exact iteF ⟨G, ρ, sl, st, hR, h⟩
theorem mss_nil : PSs X [] (TMs K cn W mSkip) := PSs.imp pss_nil fun D σ H q => by
  obtain ⟨G, ρ, sl, st, hR, h⟩ := q
  exact h G H ρ σ hR Step.refl
/-- a statement's end, then the rest -/
theorem PostS.seq {a : Res Fl} {b : Mn Fl} {D : Ends} (h : PostS K cn W Z A (match a with
      | .ok .nx sl st => b sl st
      | .ok f sl st => .ok f sl st
      | .exc C xs sl st => .exc C xs sl st
      | .no => .no) D) : PostS K cn W Z A a { D with nx := TMs K cn W b D } := by
  cases a with
  | no => exact h
  | exc C xs sl st => exact h
  | ok f sl st =>
    cases f with
    | nx => exact fun G H ρ σ hR hS => ⟨G, ρ, sl, st, hR, PostS.trans hS h⟩
    | bk => exact h
    | ct => exact h
    | rt r => exact h
theorem mSeq_eq (a b : Mn Fl) (sl : Sls) (st : Sto) : mSeq a b sl st = (match a sl st with
      | .ok .nx sl st => b sl st
      | .ok f sl st => .ok f sl st
      | .exc C xs sl st => .exc C xs sl st
      | .no => .no) := by
  unfold mSeq bnd
  cases a sl st with
  | no => rfl
  | exc C xs sl st => rfl
  | ok f sl st => cases f <;> rfl
theorem mss_cons {s : Stmt} {rest : List Stmt} {a b : Mn Fl} (h1 : PS X s (TMs K cn W a)) (h2 : PSs X rest (TMs K cn W b)) : PSs X (s :: rest) (TMs K cn W (mSeq a b)) :=
  PSs.imp (pss_cons h1 h2) fun D σ H q => by
    obtain ⟨G, ρ, sl, st, hR, h⟩ := q
    refine ⟨G, ρ, sl, st, hR, ?_⟩
    rw [mSeq_eq] at h
    exact PostS.seq h
theorem mss_one {s : Stmt} {a : Mn Fl} (h1 : PS X s (TMs K cn W a)) : PSs X [s] (TMs K cn W a) := pss_one h1
/-! ### while -/
theorem ms_while {c : Expr} {body : List Stmt} {t : Mn Bool} {b : Mn Fl} {pos : Pos} (n : Nat) (hp : PassesOwn (model X.prog X.w) X.A X.env X.xe) (hc : PT X c (TMt K cn W t)) (hb : PSs X body (TMs K cn W b)) : PS X (.While c body [] pos) (TMs K cn W (mWhile t b n)) :=
  PS.imp (ps_while hp hc hb) fun D σ H q => by
    refine ⟨fun m σ H => TMs K cn W (mWhile t b m) D σ H, ⟨n, q⟩, fun m σ H w => ?_⟩
    cases m with
    | zero =>
      obtain ⟨G, ρ, sl, st, hR, h⟩ := w
      exact h.elim
    | succ m =>
      refine tm_t (α := Unit) (P := fun b' σ H1 => if b' = true then ∃ N : St → Hp → Prop, (∀ σ' H', N σ' H' → ∃ m', m' < m + 1 ∧ TMs K cn W (mWhile t b m') D σ' H') ∧ TMs K cn W b { D with nx := N, ct := N, bk := D.nx } σ H1 else D.nx σ H1) w fun G H ρ sl st c hR h => ?_
      cases c with
      | false => exact iteF (h G H ρ σ hR Step.refl)
      | true =>
        refine iteT ⟨fun σ' H' => TMs K cn W (mWhile t b m) D σ' H', fun σ' H' q => ⟨m, Nat.lt_succ_self m, q⟩, G, ρ, sl, st, hR, ?_⟩
        have h : PostS K cn W ⟨G, H, ρ, σ, sl, st⟩ NoA (bnd b (fun f => match f with
          | .nx => mWhile t b m
          | .ct => mWhile t b m
          | .bk => unit .nx
          | .rt r => unit (.rt r)) sl st) D := h
        unfold bnd at h
        cases e : b sl st with
        | no => rw [e] at h; exact h
        | exc C xs sl1 st1 => rw [e] at h; exact h
        | ok f sl1 st1 =>
          rw [e] at h
          cases f with
          | nx => exact fun G1 H1 ρ1 σ1 hR1 hS => ⟨G1, ρ1, sl1, st1, hR1, PostS.trans hS h⟩
          | ct => exact fun G1 H1 ρ1 σ1 hR1 hS => ⟨G1, ρ1, sl1, st1, hR1, PostS.trans hS h⟩
          | bk => exact h
          | rt r => exact h
end
end MP

set_option Elab.async false
set_option linter.all false
set_option maxRecDepth 100000
set_option maxHeartbeats 4000000
/-! MP5: values that go out of hand, displays, calls of defs, a def by its body. -/
namespace MP
open PySem L2
open Evl (Ex)
/-! ### out of hand -/
def esc : RV → Mn D
  | .d x => unit x
  | .f b => unit b.toD
  | .sl j => fun sl st => match sl[j]? with
    | some (.o b) => .ok b.toD (sl.set j (.d b.toD)) st
    | some (.d x) => .ok x sl st
    | _ => .no
def escs : List RV → Mn (List D)
  | [] => unit []
  | r :: rs => bnd (esc r) fun x => bnd (escs rs) fun xs => unit (x :: xs)
/-- an object in hand becomes a cell -/
def toCell : RV → Mn RV
  | .d x => unit (.d x)
  | .f b => fun sl st => .ok (.d (.cell st.length)) sl (st ++ [.c b])
  | .sl j => fun sl st => match sl[j]? with
    | some (.o b) => .ok (.d (.cell st.length)) (sl.set j (.d (.cell st.length))) (st ++ [.c b])
    | some (.d x) => .ok (.d x) sl st
    | _ => .no
def mCell (m : Mn RV) : Mn RV := bnd m toCell
section
variable {K : PySem.W.Frag} {cn : String → Addr} {W : WX} {X : Cx} {Z : Zt} {A : Addr → Prop}
theorem esc_ok (hR : R K cn Z) {r : RV} {v : V} {x : D} {sl : Sls} {st : Sto} (hv : RepRV K cn Z r v) (h : esc r Z.sl Z.st = .ok x sl st) :
    st = Z.st ∧ ∃ G, R K cn ⟨G, Z.H, Z.ρ, Z.σ, sl, st⟩ ∧ Rep K cn G Z.ρ x v ∧ Step Z (rvA r v) ⟨G, Z.H, Z.ρ, Z.σ, sl, st⟩ NoA := by
  cases r with
  | d y => cases h; exact ⟨rfl, Z.G, hR, hv, Step.refl.end0⟩
  | f b =>
    cases h
    obtain ⟨p, o, rfl, h1, h2, h3, h4, h5⟩ := hv
    exact ⟨rfl, upd Z.G p o, hR.settle h1 h2 h3 h4, h5.rep h2, Step.settle hR h2 rfl⟩
  | sl j =>
    unfold esc at h
    dsimp only at h
    have hv : Z.σ[j]? = some (some v) := hv
    cases e : Z.sl[j]? with
    | none => rw [e] at h; cases h
    | some s =>
      rw [e] at h
      cases s with
      | u => cases h
      | lk b => cases h
      | d y =>
        cases h
        obtain ⟨w, h1, h2⟩ := hR.slots j _ e
        rw [hv] at h1; cases h1
        exact ⟨rfl, Z.G, hR, h2, Step.refl.end0⟩
      | o b =>
        cases h
        obtain ⟨p, G', h1, hR', hrep, hS⟩ := hR.settleSl (A := rvA (.sl j) v) e
        rw [hv] at h1; cases h1
        exact ⟨rfl, G', hR', hrep, hS⟩
theorem RepRVs.step {Z' : Zt} {A A' : Addr → Prop} : ∀ {rs : List RV} {vs : List V}, RepRVs K cn Z rs vs → Step Z A Z' A' → Z'.σ = Z.σ → (∀ a, rvsA rs vs a → ¬ A a) → RepRVs K cn Z' rs vs ∧ ∀ a, rvsA rs vs a → ¬ A' a
  | _, _, .nil, _, _, _ => ⟨.nil, fun _ z => z.elim⟩
  | r :: rs, v :: vs, .cons h t d, s, hσ, hA => by
    obtain ⟨h1, h2⟩ := h.step s hσ fun a z => hA a (.inl z)
    obtain ⟨h3, h4⟩ := RepRVs.step t s hσ fun a z => hA a (.inr z)
    exact ⟨.cons h1 h3 d, fun a z => (show rvA r v a ∨ rvsA rs vs a from z).elim (h2 a) (h4 a)⟩
theorem escs_ok : ∀ {rs : List RV} {vs : List V} {Z : Zt} {xs : List D} {sl : Sls} {st : Sto}, R K cn Z → RepRVs K cn Z rs vs → escs rs Z.sl Z.st = .ok xs sl st →
    st = Z.st ∧ ∃ G, R K cn ⟨G, Z.H, Z.ρ, Z.σ, sl, st⟩ ∧ Reps K cn G Z.ρ xs vs ∧ Step Z (rvsA rs vs) ⟨G, Z.H, Z.ρ, Z.σ, sl, st⟩ NoA
  | [], [], Z, xs, sl, st, hR, .nil, h => by
    cases h
    exact ⟨rfl, Z.G, hR, .nil, Step.refl.end0⟩
  | r :: rs, v :: vs, Z, xs, sl, st, hR, .cons hv t d, h => by
    unfold escs bnd at h
    cases e : esc r Z.sl Z.st with
    | no => rw [e] at h; cases h
    | exc C ys s1 t1 => rw [e] at h; cases h
    | ok x sl1 st1 =>
      rw [e] at h
      dsimp only at h
      obtain ⟨rfl, G1, hR1, hx, hS1⟩ := esc_ok hR hv e
      cases e2 : escs rs sl1 Z.st with
      | no => rw [e2] at h; cases h
      | exc C ys s1 t1 => rw [e2] at h; cases h
      | ok ys sl2 st2 =>
        rw [e2] at h
        cases h
        obtain ⟨t1, t2⟩ := RepRVs.step t hS1 rfl fun a z q => d a q z
        obtain ⟨h1, G2, hR2, hys, hS2⟩ := escs_ok (Z := ⟨G1, Z.H, Z.ρ, Z.σ, sl1, Z.st⟩) hR1 t1 e2
        have h1 : st = Z.st := h1
        subst h1
        refine ⟨rfl, G2, hR2, .cons (hx.mono hS2.g hS2.r) hys, ?_⟩
        have k := (hS1.with (rvsA rs vs)).trans (hS2.less (B := fun a => NoA a ∨ rvsA rs vs a) fun a z => .inr z)
        exact k.less fun a z => z
/-- an object in hand is a cell from now on -/
theorem R.cell (hR : R K cn Z) {p : Addr} {o : HO} {b : Ob} (h : Z.H p = some o) (hg : Z.G p = none) (hr : p ∉ Z.ρ) (hn : ¬ Z.own p) (hb : ObOk K cn Z.G Z.ρ b o) : R K cn { Z with ρ := Z.ρ ++ [p], st := Z.st ++ [.c b] } := by
  have r : Z.ρ <+: Z.ρ ++ [p] := List.prefix_append _ _
  refine ⟨hR.ex, by simp [hR.len], fun i c a h1 h2 => ?_, ?_, hR.slen, fun i s hs => ?_, hR.dist⟩
  · by_cases hi : i < Z.st.length
    · have h1 : (Z.st ++ [.c b])[i]? = some c := h1
      have h2 : (Z.ρ ++ [p])[i]? = some a := h2
      rw [List.getElem?_append_left hi] at h1
      rw [List.getElem?_append_left (by rw [hR.len]; exact hi)] at h2
      obtain ⟨u, e1, e2, e3⟩ := hR.cells i c a h1 h2
      exact ⟨u, e1, e2, e3.mono (fun _ _ e => e) r⟩
    · have h1 : (Z.st ++ [.c b])[i]? = some c := h1
      have h2 : (Z.ρ ++ [p])[i]? = some a := h2
      have hl := (List.getElem?_eq_some_iff.mp h1).1
      rw [List.length_append, List.length_singleton] at hl
      have ei : i = Z.st.length := by omega
      subst ei
      have e1 : (Z.st ++ [Cl.c b])[Z.st.length]? = some (.c b) := by simp
      have e2 : (Z.ρ ++ [p])[Z.st.length]? = some p := by rw [← hR.len]; simp
      rw [e1] at h1; cases h1
      rw [e2] at h2; cases h2
      exact ⟨o, h, hg, hb.mono (fun _ _ e => e) r⟩
  · show (Z.ρ ++ [p]).Nodup
    rw [List.nodup_append]
    refine ⟨hR.inj, by simp, fun a ha b hb e => ?_⟩
    have : b = p := by simpa using hb
    subst this
    subst e
    exact hr ha
  · refine SlOk.mono (Z := Z) (hR.slots i s hs) (G' := Z.G) (H' := Z.H) (fun _ _ e => e) r fun b1 q u hb1 e0 e1 e2 e3 => ⟨e1, e2, fun z => ?_⟩
    rcases List.mem_append.mp z with z | z
    · exact e3 z
    · have : q = p := by simpa using z
      subst this
      exact hn (Zt.own_of hs hb1 e0)
theorem Step.cell {p : Addr} {b : Ob} (hA : A p) : Step Z A { Z with ρ := Z.ρ ++ [p], st := Z.st ++ [.c b] } NoA :=
  Step.mk' (fun _ _ e => e) (List.prefix_append _ _) (fun a u h g r n m => ⟨h, g, fun z => by
    rcases List.mem_append.mp z with z | z
    · exact r z
    · have e : a = p := by simpa using z
      subst e
      exact m hA, n, fun z => z⟩) (fun _ _ h => ⟨h, rfl⟩) (fun i b1 q1 => by show (Z.st ++ [.c b])[i]? = _; rw [List.getElem?_append_left (List.getElem?_eq_some_iff.mp q1).1]; exact q1) (fun _ _ h => h)
/-- a slot's own object as a cell -/
theorem R.cellSl (hR : R K cn Z) {j : Nat} {b : Ob} (h : Z.sl[j]? = some (.o b)) : ∃ p, Z.σ[j]? = some (some (V.ref p)) ∧ R K cn { Z with ρ := Z.ρ ++ [p], sl := Z.sl.set j (.d (.cell Z.st.length)), st := Z.st ++ [.c b] } ∧
    Step Z A { Z with ρ := Z.ρ ++ [p], sl := Z.sl.set j (.d (.cell Z.st.length)), st := Z.st ++ [.c b] } NoA := by
  obtain ⟨p, o, h1, h2, h3, h4, h5⟩ := hR.slots j _ h
  have r : Z.ρ <+: Z.ρ ++ [p] := List.prefix_append _ _
  have hj : j < Z.sl.length := (List.getElem?_eq_some_iff.mp h).1
  have ec : (Z.ρ ++ [p])[Z.st.length]? = some p := by rw [← hR.len]; simp
  refine ⟨p, h1, ⟨hR.ex, by simp [hR.len], fun i c a q1 q2 => ?_, ?_, by simpa using hR.slen, fun i s hs => ?_, fun i k t u b1 c a hik q1 q2 e1 e2 g1 g2 => ?_⟩, Step.mk' (fun _ _ e => e) r (fun a u q gq rq n m => ⟨q, gq, fun z => ?_, fun z => ?_, fun z => z⟩) (fun i b1 q1 => ?_) (fun i b1 q1 => ?_) (fun _ _ h => h)⟩
  · by_cases hi : i < Z.st.length
    · have q1 : (Z.st ++ [.c b])[i]? = some c := q1
      have q2 : (Z.ρ ++ [p])[i]? = some a := q2
      rw [List.getElem?_append_left hi] at q1
      rw [List.getElem?_append_left (by rw [hR.len]; exact hi)] at q2
      obtain ⟨u, e1, e2, e3⟩ := hR.cells i c a q1 q2
      exact ⟨u, e1, e2, e3.mono (fun _ _ e => e) r⟩
    · have q1 : (Z.st ++ [.c b])[i]? = some c := q1
      have q2 : (Z.ρ ++ [p])[i]? = some a := q2
      have hl := (List.getElem?_eq_some_iff.mp q1).1
      rw [List.length_append, List.length_singleton] at hl
      have ei : i = Z.st.length := by omega
      subst ei
      have e1 : (Z.st ++ [Cl.c b])[Z.st.length]? = some (.c b) := by simp
      rw [e1] at q1; cases q1
      rw [ec] at q2; cases q2
      exact ⟨o, h2, h3, h5.mono (fun _ _ e => e) r⟩
  · show (Z.ρ ++ [p]).Nodup
    rw [List.nodup_append]
    refine ⟨hR.inj, by simp, fun a ha b hb e => ?_⟩
    have : b = p := by simpa using hb
    subst this
    subst e
    exact h4 ha
  · have hs0 : (Z.sl.set j (.d (.cell Z.st.length)))[i]? = some s := hs
    rcases get_set hs0 with ⟨rfl, _, rfl⟩ | ⟨hi, hs1⟩
    · exact ⟨_, h1, .cell ec⟩
    · refine SlOk.mono (Z := { Z with sl := Z.sl.set j (.d (.cell Z.st.length)), st := Z.st ++ [.c b] }) (G' := Z.G) (H' := Z.H) (ρ' := Z.ρ ++ [p]) ?_ (fun _ _ e => e) r fun b1 q u hb e0 e1 e2 e3 => ⟨e1, e2, fun z => ?_⟩
      · have q := hR.slots i s hs1
        cases s <;> exact q
      · rcases List.mem_append.mp z with z | z
        · exact e3 z
        · have : q = p := by simpa using z
          subst this
          exact hR.dist i j s (.o b) b1 b q hi hs1 h hb rfl e0 h1
  · rcases get_set q1 with ⟨rfl, _, rfl⟩ | ⟨n1, q1⟩
    · cases e1
    · rcases get_set q2 with ⟨rfl, _, rfl⟩ | ⟨n2, q2⟩
      · cases e2
      · exact hR.dist i k t u b1 c a hik q1 q2 e1 e2 g1 g2
  · rcases List.mem_append.mp z with z | z
    · exact rq z
    · have e : a = p := by simpa using z
      subst e
      exact n (Zt.own_of h rfl h1)
  · obtain ⟨i, t, b1, q1, q2, q3⟩ := Zt.own_iff.mp z
    rcases get_set q1 with ⟨rfl, _, rfl⟩ | ⟨n1, q1⟩
    · cases q2
    · exact n (Zt.own_of q1 q2 q3)
  · have c : i ≠ j := fun z => by subst z; rw [h] at q1; cases q1
    exact ⟨by show (Z.sl.set j _)[i]? = _; rw [List.getElem?_set_ne (Ne.symm c)]; exact q1, rfl⟩
  · show (Z.st ++ [.c b])[i]? = _
    rw [List.getElem?_append_left (List.getElem?_eq_some_iff.mp q1).1]; exact q1
theorem tm_cell {m : Mn RV} : ∀ σ H Q, TM K cn W (mCell m) σ H Q → TM K cn W m σ H Q := by
  rintro σ H Q ⟨G, ρ, sl, st, hR, h⟩
  refine ⟨G, ρ, sl, st, hR, ?_⟩
  unfold mCell bnd at h
  cases e : m sl st with
  | no => rw [e] at h; exact h
  | exc C xs sl1 st1 => rw [e] at h; exact h
  | ok r sl1 st1 =>
    rw [e] at h
    intro G1 H1 ρ1 v hR1 hv hS
    have h : PostE K cn W ⟨G, H, ρ, σ, sl, st⟩ NoA (toCell r sl1 st1) Q := h
    cases r with
    | d x => exact h G1 H1 ρ1 v hR1 hv hS
    | f b =>
      obtain ⟨p, o, rfl, h1, h2, h3, h4, h5⟩ := hv
      exact h G1 H1 (ρ1 ++ [p]) (.ref p) (hR1.cell h1 h2 h3 h4 h5) (.cell (by rw [← hR1.len]; simp)) (hS.trans (Step.cell (Z := ⟨G1, H1, ρ1, σ, sl1, st1⟩) rfl))
    | sl j =>
      unfold toCell at h
      dsimp only at h
      have hv : σ[j]? = some (some v) := hv
      cases ej : sl1[j]? with
      | none => rw [ej] at h; exact h.elim
      | some s =>
        rw [ej] at h
        cases s with
        | u => exact h.elim
        | lk b => exact h.elim
        | d x =>
          obtain ⟨w, h1, h2⟩ := hR1.slots j _ ej
          have h1 : σ[j]? = some (some w) := h1
          rw [hv] at h1; cases h1
          exact h G1 H1 ρ1 v hR1 h2 hS
        | o b =>
          obtain ⟨p, h1, hR2, hS2⟩ := R.cellSl (A := rvA (.sl j) v) hR1 ej
          have h1 : σ[j]? = some (some (V.ref p)) := h1
          rw [hv] at h1; cases h1
          exact h G1 H1 (ρ1 ++ [p]) (.ref p) hR2 (.cell (by rw [← hR1.len]; simp)) (hS.trans hS2)
theorem me_cell {e : Expr} {m : Mn RV} (h : PE X e (TM K cn W m)) : PE X e (TM K cn W (mCell m)) := PE.imp h tm_cell

/-! ### displays -/
def dispL (rs : List RV) : Mn RV := bnd (escs rs) fun xs sl st => if xs.length ≤ 100000 then .ok (.f (.lst xs)) sl st else .no
def dispT (rs : List RV) : Mn RV := bnd (escs rs) fun xs sl st => if xs.length ≤ 100000 then .ok (.d (.tup xs)) sl st else .no
/-- operations whose errors are wished for at the slots -/
def OpOkS (K : PySem.W.Frag) (cn : String → Addr) (W : WX) (r : St → List V → Hp → VK → Prop) (f : List RV → Mn RV) : Prop := ∀ (Z : Zt) (rs : List RV) (vs : List V) (Q : VK), R K cn Z → RepRVs K cn Z rs vs → PostE K cn W Z (rvsA rs vs) (f rs Z.sl Z.st) Q → r Z.σ vs Z.H Q
/-- an operation on settled arguments -/
theorem op_escsS {r : St → List V → Hp → VK → Prop} {k : List D → Mn RV} (h : ∀ (Z : Zt) (xs : List D) (vs : List V) (Q : VK), R K cn Z → Reps K cn Z.G Z.ρ xs vs → PostE K cn W Z NoA (k xs Z.sl Z.st) Q → r Z.σ vs Z.H Q) : OpOkS K cn W r (fun rs => bnd (escs rs) k) := by
  intro Z rs vs Q hR hv hq
  unfold bnd at hq
  dsimp only at hq
  cases e : escs rs Z.sl Z.st with
  | no => rw [e] at hq; exact hq.elim
  | exc C ys s1 t1 =>
    exfalso
    clear hq
    have : ∀ (rs : List RV) (sl : Sls) (st : Sto), escs rs sl st ≠ .exc C ys s1 t1 := by
      intro rs
      induction rs with
      | nil => intro sl st z; cases z
      | cons r rs ih =>
        intro sl st z
        unfold escs bnd at z
        have q : ∀ C ys s1 t1, esc r sl st ≠ .exc C ys s1 t1 := by
          intro C ys s1 t1 z
          cases r with
          | d x => cases z
          | f b => cases z
          | sl j =>
            unfold esc at z
            dsimp only at z
            split at z <;> cases z
        cases e : esc r sl st with
        | no => rw [e] at z; cases z
        | exc C ys s1 t1 => exact q _ _ _ _ e
        | ok x s2 t2 =>
          rw [e] at z
          dsimp only at z
          cases e3 : escs rs s2 t2 with
          | no => rw [e3] at z; cases z
          | exc C1 ys1 s3 t3 =>
            rw [e3] at z
            cases z
            exact ih _ _ e3
          | ok ys1 s3 t3 => rw [e3] at z; cases z
    exact this _ _ _ e
  | ok xs sl st =>
    rw [e] at hq
    obtain ⟨rfl, G, hR1, hxs, hS⟩ := escs_ok hR hv e
    exact h ⟨G, Z.H, Z.ρ, Z.σ, sl, Z.st⟩ xs vs Q hR1 hxs (PostE.trans hS rfl hq)
theorem op_escs {r : List V → Hp → VK → Prop} {k : List D → Mn RV} (h : ∀ (Z : Zt) (xs : List D) (vs : List V) (Q : VK), R K cn Z → Reps K cn Z.G Z.ρ xs vs → PostE K cn W Z NoA (k xs Z.sl Z.st) Q → r vs Z.H Q) : OpOk K cn W r (fun rs => bnd (escs rs) k) :=
  op_escsS (r := fun _ => r) h
theorem dispL_ok : OpOk K cn W (fun vs H Q => vs.length ≤ sizeLine ∧ ∀ p, H p = none → Q (.ref p) (upd H p (.lst vs))) dispL := op_escs fun Z xs vs Q hR hx h => by
  by_cases c : xs.length ≤ 100000
  · rw [if_pos c] at h
    exact ⟨by rw [← hx.length]; exact Nat.le_trans c (by decide), fun p hp => fin_f hR h (.lst hx) hp⟩
  · rw [if_neg c] at h
    exact h.elim
theorem dispT_ok : OpOk K cn W (fun vs H Q => vs.length ≤ sizeLine ∧ ∀ p, H p = none → Q (.ref p) (upd H p (.tup vs))) dispT := op_escs fun Z xs vs Q hR hx h => by
  by_cases c : xs.length ≤ 100000
  · rw [if_pos c] at h
    exact ⟨by rw [← hx.length]; exact Nat.le_trans c (by decide), fun p hp => fin_tup hR h hx hp⟩
  · rw [if_neg c] at h
    exact h.elim
theorem me_lst {es : List Expr} {m : Mn (List RV)} {pos : Pos} (h : PA X es (TMa K cn W m)) : PE X (.List es pos) (TM K cn W (mOp dispL m)) := PE.imp (pe_lst h) fun σ H Q q => tm_op dispL_ok σ H Q q
theorem me_tup {es : List Expr} {m : Mn (List RV)} {x1} {pos : Pos} (h : PA X es (TMa K cn W m)) : PE X (.Tuple es x1 pos) (TM K cn W (mOp dispT m)) := PE.imp (pe_tup h) fun σ H Q q => tm_op dispT_ok σ H Q q

/-! ### calls of defs -/
inductive CRes where
  | ok (r : RV) (st : Sto) | exc (C : String) (xs : List (Str × D)) (st : Sto) | no
abbrev Fn := List D → Sto → CRes
def PostC (K : PySem.W.Frag) (cn : String → Addr) (Z : Zt) (q : CRes) (Q : VK) (E : XK) : Prop := match q with
  | .ok r st => ∀ G H ρ v, R K cn ⟨G, H, ρ, [], [], st⟩ → RepRV K cn ⟨G, H, ρ, [], [], st⟩ r v → Step Z NoA ⟨G, H, ρ, [], [], st⟩ (rvA r v) → Q v H
  | .exc C xs st => ∀ G H ρ d us, R K cn ⟨G, H, ρ, [], [], st⟩ → Step Z NoA ⟨G, H, ρ, [], [], st⟩ (· = d) → H d = some (.xd us) → G d = none → d ∉ ρ → RepF K cn G ρ xs us → E (.ref (cn C)) (some d) H
  | .no => False
/-- a def's promise: what the function says -/
def spM (K : PySem.W.Frag) (cn : String → Addr) (φ : Fn) (n : Nat) : Sp := fun vs H Q E => vs.length = n ∧ ∃ G ρ st ds, R K cn ⟨G, H, ρ, [], [], st⟩ ∧ Reps K cn G ρ ds vs ∧ PostC K cn ⟨G, H, ρ, [], [], st⟩ (φ ds st) Q E
def ofC (sl : Sls) : CRes → Res RV
  | .ok (.d x) st => .ok (.d x) sl st
  | .ok (.f b) st => .ok (.f b) sl st
  | .ok (.sl _) _ => .no
  | .exc C xs st => .exc C xs sl st
  | .no => .no
/-- a call: the arguments settled, the function -/
def callF (φ : Fn) (n : Nat) (rs : List RV) : Mn RV := bnd (escs rs) fun ds sl st => if ds.length = n then ofC sl (φ ds st) else .no
theorem R.bare (hR : R K cn Z) : R K cn ⟨Z.G, Z.H, Z.ρ, [], [], Z.st⟩ := ⟨hR.ex, hR.len, hR.cells, hR.inj, rfl, fun i s h => by simp at h, fun i j s t b c a _ h => by simp at h⟩
theorem bare_own {G H : Hp} {ρ : List Addr} {st : Sto} {a : Addr} : ¬ (Zt.own ⟨G, H, ρ, [], [], st⟩ a) := fun ⟨i, b, h, _⟩ => by
  rcases h with h | h <;> simp at h
/-- behind a call: the caller's slots are as they were -/
theorem R.framedA (hR : R K cn Z) {G H : Hp} {ρ : List Addr} {st : Sto} {A A' : Addr → Prop} (h : R K cn ⟨G, H, ρ, [], [], st⟩) (s : Step ⟨Z.G, Z.H, Z.ρ, [], [], Z.st⟩ A ⟨G, H, ρ, [], [], st⟩ A') (hA : ∀ a, A a → ¬ Z.own a) :
    R K cn ⟨G, H, ρ, Z.σ, Z.sl, st⟩ ∧ Step Z A ⟨G, H, ρ, Z.σ, Z.sl, st⟩ A' ∧ ∀ a, A' a → ¬ Z.own a := by
  have kp : ∀ (i : Nat) (t : Sl) (b : Ob), Z.sl[i]? = some t → t.ob = some b → ∀ p o, Z.σ[i]? = some (some (V.ref p)) → Z.H p = some o → Z.G p = none → p ∉ Z.ρ → H p = some o ∧ G p = none ∧ p ∉ ρ ∧ ¬ A' p := fun i t b h1 h2 p o e0 e1 e2 e3 => by
    obtain ⟨k1, k2, k3, _, k5⟩ := s.keep p o e1 e2 e3 bare_own (fun z => hA p z (Zt.own_of h1 h2 e0))
    exact ⟨k1, k2, k3, k5⟩
  refine ⟨⟨h.ex, h.len, h.cells, h.inj, hR.slen, fun i t e => ?_, hR.dist⟩, ⟨s.g, s.r, fun a o e g r n m => ?_, fun i b a o h1 h2 e => ?_, fun i b a o h1 h2 e => ?_⟩, fun a ha n => ?_⟩
  · exact SlOk.mono (Z := { Z with st := st }) (by have q := hR.slots i t e; cases t <;> exact q) s.g s.r fun b p o hb e0 e1 e2 e3 => by
      obtain ⟨k1, k2, k3, _⟩ := kp i t b e hb p o e0 e1 e2 e3
      exact ⟨k1, k2, k3⟩
  · obtain ⟨k1, k2, k3, _, k5⟩ := s.keep a o e g r bare_own m
    exact ⟨k1, k2, k3, n, k5⟩
  · obtain ⟨p, u, q1, q2, q3, q4, _⟩ := hR.slot_own h1 rfl
    rw [q1] at h2; cases h2
    rw [e] at q2; cases q2
    obtain ⟨k1, _⟩ := kp i _ b h1 rfl _ o q1 e q3 q4
    exact ⟨⟨_, k1, .inl rfl⟩, ⟨b, h1⟩, q1⟩
  · exact s.lkC i b a o h1 h2 e
  · obtain ⟨i, t, b, h1, h2, h3⟩ := Zt.own_iff.mp n
    obtain ⟨p, o, q1, q2, q3, q4, _⟩ := hR.slot_own h1 h2
    rw [h3] at q1; cases q1
    exact (kp i t b h1 h2 _ o h3 q2 q3 q4).2.2.2 ha
theorem R.framed (hR : R K cn Z) {G H : Hp} {ρ : List Addr} {st : Sto} {A' : Addr → Prop} (h : R K cn ⟨G, H, ρ, [], [], st⟩) (s : Step ⟨Z.G, Z.H, Z.ρ, [], [], Z.st⟩ NoA ⟨G, H, ρ, [], [], st⟩ A') :
    R K cn ⟨G, H, ρ, Z.σ, Z.sl, st⟩ ∧ Step Z NoA ⟨G, H, ρ, Z.σ, Z.sl, st⟩ A' ∧ ∀ a, A' a → ¬ Z.own a := hR.framedA h s fun _ z => z.elim
theorem RepRV.framed {σ : St} {sl : Sls} {G H : Hp} {ρ : List Addr} {st : Sto} {r : RV} {v : V} (h : RepRV K cn ⟨G, H, ρ, [], [], st⟩ r v) (n : ∀ a, rvA r v a → ¬ Zt.own ⟨G, H, ρ, σ, sl, st⟩ a) (hs : ∀ i, r ≠ .sl i) : RepRV K cn ⟨G, H, ρ, σ, sl, st⟩ r v := by
  cases r with
  | d x => exact h
  | f b =>
    obtain ⟨p, o, rfl, h1, h2, h3, h4, h5⟩ := h
    exact ⟨p, o, rfl, h1, h2, h3, n p rfl, h5⟩
  | sl i => exact (hs i rfl).elim
/-- where a call's end is wanted with the caller's slots -/
theorem postC_of (hR : R K cn Z) {q : CRes} {Q : VK} (h : PostE K cn W Z NoA (ofC Z.sl q) Q) : PostC K cn ⟨Z.G, Z.H, Z.ρ, [], [], Z.st⟩ q Q (fun cls d H => W cls d Z.σ H) := by
  cases q with
  | no => exact h
  | exc C xs st =>
    intro G H ρ d us hR1 hS hd hg hr hf
    obtain ⟨k1, k2, k3⟩ := hR.framed hR1 hS
    exact h G H ρ d us k1 k2 hd hg hr hf
  | ok r st =>
    intro G H ρ v hR1 hv hS
    obtain ⟨k1, k2, k3⟩ := hR.framed hR1 hS
    have nown : ∀ a, rvA r v a → ¬ Zt.own ⟨G, H, ρ, Z.σ, Z.sl, st⟩ a := fun a z => k3 a z
    cases r with
    | d x => exact h G H ρ v k1 hv k2
    | f b => exact h G H ρ v k1 (hv.framed nown (fun i z => by cases z)) k2
    | sl i =>
      have hv : ([] : St)[i]? = some (some v) := hv
      simp at hv
theorem tm_opS {r : St → List V → Hp → VK → Prop} {f : List RV → Mn RV} {a : Mn (List RV)} (ho : OpOkS K cn W r f) : ∀ σ H Q, TM K cn W (mOp f a) σ H Q → TMa K cn W a σ H fun vs H1 => r σ vs H1 Q := by
  rintro σ H Q ⟨G, ρ, sl, st, hR, h⟩
  refine ⟨G, ρ, sl, st, hR, ?_⟩
  unfold mOp bnd at h
  cases ha : a sl st with
  | no => rw [ha] at h; exact h.elim
  | exc C xs sl1 st1 => rw [ha] at h; exact h
  | ok rs sl1 st1 =>
    rw [ha] at h
    intro G1 H1 ρ1 vs hR1 hvs hS1
    exact ho ⟨G1, H1, ρ1, σ, sl1, st1⟩ rs vs Q hR1 hvs (PostE.trans hS1 rfl h)
theorem callF_ok {φ : Fn} {n : Nat} : OpOkS K cn W (fun σ vs H Q => spM K cn φ n vs H Q (fun cls d H => W cls d σ H)) (callF φ n) := op_escsS fun Z xs vs Q hR hx h => by
  by_cases c : xs.length = n
  · rw [if_pos c] at h
    exact ⟨by rw [← hx.length]; exact c, Z.G, Z.ρ, Z.st, xs, hR.bare, hx, postC_of hR h⟩
  · rw [if_neg c] at h
    exact h.elim
/-- f(e, ..) -/
theorem me_call {k n : Nat} {f : Addr} {fd : FuncData} {ps : List Str} {φ : Fn} {x : Str} {e : Expr} {es : List Expr} {p pos : Pos} {m : Mn (List RV)} (F : FnOk X.prog X.w X.K X.mg X.base (L2.CX X.prog X.w) k f fd ps (spM K cn φ n)) (tk : Takes X W) (hr : Room k X.A) (hg : Gl X x) (hm : X.mg x = some (.ref f)) (hk : PySem.W.keepIn X.K (.ref f) = true) (hb : Binds X.K fd ps [])
    (ha : PA X (e :: es) (TMa K cn W m)) (hdb : (x == ("__debug__" : Str)) = false := by decide) (he : starEach (e :: es) X.env = (false, eval e X.env) :: starEach es X.env := by rfl) (hpl : (backTo pos (starEach es X.env)).any (·.1) = false := by rfl) :
    PE X (.Call (.Name x p) (e :: es) [] pos) (TM K cn W (mOp (callF φ n) m)) :=
  PE.imp (pe_callS F hr hg hm hk hb (fun σ => passAt tk σ) ha hdb he hpl) fun σ H Q q => tm_opS callF_ok σ H Q q
/-! ### a def by its body -/
def runB (m : Mn Fl) (n : Nat) : Fn := fun ds st => match m (ds.map Sl.d ++ List.replicate (n - ds.length) Sl.u) st with
  | .ok .nx _ st' => .ok (.d .non) st'
  | .ok (.rt (.d x)) _ st' => .ok (.d x) st'
  | .ok (.rt (.f b)) _ st' => .ok (.f b) st'
  | .ok (.rt (.sl i)) sl' st' => match sl'[i]? with
    | some (.o b) => .ok (.f b) st'
    | some (.d x) => .ok (.d x) st'
    | _ => .no
  | .exc C xs _ st' => .exc C xs st'
  | _ => .no
theorem start_get {N : List Str} {vs : List V} {i : Nat} {v : V} (h : vs[i]? = some v) : (L2.start N vs)[i]? = some (some v) := by
  unfold L2.start
  have hl := (List.getElem?_eq_some_iff.mp h).1
  rw [List.getElem?_append_left (by simpa using hl), List.getElem?_map, h]
  rfl
theorem R.enter {G H : Hp} {ρ : List Addr} {st : Sto} {ds : List D} {vs : List V} {N : List Str} (h : R K cn ⟨G, H, ρ, [], [], st⟩) (hv : Reps K cn G ρ ds vs) : R K cn ⟨G, H, ρ, L2.start N vs, ds.map Sl.d ++ List.replicate (N.length - ds.length) Sl.u, st⟩ := by
  have shape : ∀ (i : Nat) (s : Sl), (ds.map Sl.d ++ List.replicate (N.length - ds.length) Sl.u)[i]? = some s → (∃ x, ds[i]? = some x ∧ s = .d x) ∨ s = .u := fun i s e => by
    by_cases c : i < ds.length
    · rw [List.getElem?_append_left (by simpa using c), List.getElem?_map] at e
      rw [List.getElem?_eq_getElem c] at e
      exact .inl ⟨_, List.getElem?_eq_getElem c, (Option.some.inj e).symm⟩
    · rw [List.getElem?_append_right (by simpa using Nat.le_of_not_lt c), List.getElem?_replicate] at e
      split at e
      · exact .inr (Option.some.inj e).symm
      · cases e
  refine ⟨h.ex, h.len, h.cells, h.inj, ?_, fun i s e => ?_, fun i j s t b c a _ e1 _ e3 => ?_⟩
  · unfold L2.start
    simp only [List.length_append, List.length_map, List.length_replicate]
    rw [hv.length]
  · rcases shape i s e with ⟨x, hx, rfl⟩ | rfl
    · obtain ⟨v, h1, h2⟩ := hv.get hx
      exact ⟨v, start_get h1, h2⟩
    · trivial
  · rcases shape i s e1 with ⟨x, hx, rfl⟩ | rfl <;> cases e3
/-- the step of a body, without its slots -/
theorem Step.leave {σ σ' : St} {sl sl' : Sls} {G H G' H' : Hp} {ρ ρ' : List Addr} {st st' : Sto} {A' : Addr → Prop} (s : Step ⟨G, H, ρ, σ, sl, st⟩ NoA ⟨G', H', ρ', σ', sl', st'⟩ A') (n : ∀ (i : Nat) (b : Ob), sl[i]? ≠ some (Sl.o b) ∧ sl[i]? ≠ some (Sl.lk b)) : Step ⟨G, H, ρ, [], [], st⟩ NoA ⟨G', H', ρ', [], [], st'⟩ A' := by
  refine ⟨s.g, s.r, fun a o h g r _ m => ?_, fun i b a o h1 => by simp at h1, fun i b a o h1 h2 h3 => s.lkC i b a o h1 h2 h3⟩
  · obtain ⟨k1, k2, k3, _, k5⟩ := s.keep a o h g r (fun ⟨i, b, q, _⟩ => q.elim (n i b).1 (n i b).2) m
    exact ⟨k1, k2, k3, bare_own, k5⟩
theorem entry_free {ds : List D} {n : Nat} (i : Nat) (b : Ob) : (ds.map Sl.d ++ List.replicate n Sl.u)[i]? ≠ some (Sl.o b) ∧ (ds.map Sl.d ++ List.replicate n Sl.u)[i]? ≠ some (Sl.lk b) := by
  by_cases c : i < ds.length
  · rw [List.getElem?_append_left (by simpa using c), List.getElem?_map, List.getElem?_eq_getElem c]
    exact ⟨fun z => (by cases z), fun z => (by cases z)⟩
  · rw [List.getElem?_append_right (by simpa using Nat.le_of_not_lt c), List.getElem?_replicate]
    split
    · exact ⟨fun z => (by cases z), fun z => (by cases z)⟩
    · exact ⟨fun z => (by cases z), fun z => (by cases z)⟩
/-- a body's end, as the call wants it -/
theorem postS_of {N : List Str} {G H : Hp} {ρ : List Addr} {st : Sto} {ds : List D} {vs : List V} {m : Mn Fl} {Q : VK} {E : XK} (hR : R K cn ⟨G, H, ρ, [], [], st⟩) (hv : Reps K cn G ρ ds vs) (h : PostC K cn ⟨G, H, ρ, [], [], st⟩ (runB m N.length ds st) Q E) :
    TMs K cn (fun cls d _ H => E cls d H) m { nx := fun _ H' => Q .non H', rt := Q } (L2.start N vs) H := by
  refine ⟨G, ρ, _, st, hR.enter hv, ?_⟩
  unfold runB at h
  cases e : m (ds.map Sl.d ++ List.replicate (N.length - ds.length) Sl.u) st with
  | no => rw [e] at h; exact h
  | exc C xs sl' st' =>
    rw [e] at h
    intro G1 H1 ρ1 σ1 d us hR1 hS hd hg hr hf
    exact h G1 H1 ρ1 d us hR1.bare (hS.leave entry_free) hd hg hr hf
  | ok f sl' st' =>
    rw [e] at h
    cases f with
    | nx => exact fun G1 H1 ρ1 σ1 hR1 hS => h G1 H1 ρ1 .non hR1.bare .non (hS.leave entry_free)
    | bk => exact h.elim
    | ct => exact h.elim
    | rt r =>
      intro G1 H1 ρ1 σ1 v hR1 hv1 hS
      have hS' := hS.leave entry_free
      cases r with
      | d x => exact h G1 H1 ρ1 v hR1.bare hv1 hS'
      | f b =>
        obtain ⟨p, o, rfl, h1, h2, h3, h4, h5⟩ := hv1
        exact h G1 H1 ρ1 _ hR1.bare ⟨p, o, rfl, h1, h2, h3, bare_own, h5⟩ hS'
      | sl i =>
        dsimp only at h
        have hv1 : σ1[i]? = some (some v) := hv1
        cases ei : sl'[i]? with
        | none => rw [ei] at h; exact h.elim
        | some s =>
          rw [ei] at h
          cases s with
          | u => exact h.elim
          | lk b => exact h.elim
          | d x =>
            obtain ⟨w, h1, h2⟩ := hR1.slots i _ ei
            have h1 : σ1[i]? = some (some w) := h1
            rw [hv1] at h1; cases h1
            exact h G1 H1 ρ1 v hR1.bare h2 hS'
          | o b =>
            obtain ⟨p, o, h1, h2, h3, h4, h5⟩ := hR1.slots i _ ei
            have h1 : σ1[i]? = some (some (V.ref p)) := h1
            rw [hv1] at h1; cases h1
            refine h G1 H1 ρ1 _ hR1.bare ⟨p, o, rfl, h2, h3, h4, bare_own, h5⟩ ⟨hS'.g, hS'.r, fun a u q g r n m => ?_, hS'.lkS, hS'.lkC⟩
            obtain ⟨_, _, _, k4, _⟩ := hS.keep a u q g r (fun ⟨j, c, z, _⟩ => z.elim (entry_free j c).1 (entry_free j c).2) m
            obtain ⟨k1, k2, k3, _, _⟩ := hS'.keep a u q g r n m
            exact ⟨k1, k2, k3, bare_own, fun z => (by cases z; exact k4 (Zt.own_of ei rfl hv1))⟩
end
section
variable {P : Program} {w : World} {K : PySem.W.Frag} {cn : String → Addr} {mg : Str → Option Value} {base : Heap}
/-- the context of a def's body -/
abbrev cxB (P : Program) (w : World) (K : PySem.W.Frag) (mg : Str → Option Value) (base : Heap) (N : List Str) (qual : Str) (sc : Scope) (f : Addr) (cdv : Value) (A : Around) (outer : List Env) (s : Shared) (H : Hp) (E : XK) : Cx := cxOf (L2.CX P w) P w K mg base N qual sc f cdv A outer s H E
/-- what holds of the context in which a body's parts stand -/
structure Good (X : Cx) (W : WX) (k : Nat) : Prop where
  tk : Takes X W
  calm : X.calm = true
  hp : PassesOwn (model X.prog X.w) X.A X.env X.xe
  hr : Room k X.A
  nd : X.N.Nodup
theorem fn_body {x qual : Str} {st : Stmt} {f : Addr} {fd : FuncData} {N ps : List Str} {k : Nat} {m : Mn Fl} (F : Fun K x qual st f fd) (S : FnScope N ps (defScope st))
    (hb : ∀ (cdv : Value) (A : Around) (outer : List Env) (s : Shared) (H : Hp) (E : XK), Good (cxB P w K mg base N qual (defScope st) f cdv A outer s H E) (fun cls d _ H => E cls d H) k →
      PSs (cxB P w K mg base N qual (defScope st) f cdv A outer s H E) (defBody st) (TMs K cn (fun cls d _ H => E cls d H) m)) : FnOk P w K mg base (L2.CX P w) (k + 1) f fd ps (spM K cn (runB m N.length) ps.length) := by
  refine F.okX S (fun vs H Q E h => h.1) (fun cdv A outer s H vs Q E hr h => ?_)
  obtain ⟨hl, G, ρ, st', ds, hR, hv, hp⟩ := h
  exact ⟨_, hb cdv A outer s H E ⟨takes_of rfl rfl rfl rfl, rfl, passes_of rfl, hr, S.nd⟩, postS_of hR hv hp⟩
end
end MP

set_option Elab.async false
set_option linter.all false
set_option maxRecDepth 100000
set_option maxHeartbeats 4000000
/-! MP6: locks, targets, what is walked, for. -/
namespace MP
open PySem L2
open Evl (Ex)
/-! ### locks -/
inductive Hd where
  | none | sl (j : Nat) | ce (i : Nat)
def lockS : Hd → Sls → Sls
  | .sl j, sl => match sl[j]? with
    | some (.o b) => sl.set j (.lk b)
    | _ => sl
  | _, sl => sl
def lockC : Hd → Sto → Sto
  | .ce i, st => match st[i]? with
    | some (.c b) => st.set i (.lk b)
    | _ => st
  | _, st => st
/-- as it was ahead of the lock (sl: the slots ahead of it) -/
def unlS : Hd → Sls → Sls → Sls
  | .sl j, sl, sl' => match sl[j]? with
    | some (.o _) => match sl'[j]? with
      | some (.lk b) => sl'.set j (.o b)
      | _ => sl'
    | _ => sl'
  | _, _, sl' => sl'
def unlC : Hd → Sto → Sto → Sto
  | .ce i, st, st' => match st[i]? with
    | some (.c _) => match st'[i]? with
      | some (.lk b) => st'.set i (.c b)
      | _ => st'
    | _ => st'
  | _, _, st' => st'
def mHold {α : Type} (h : Hd) (m : Mn α) : Mn α := fun sl st => match m (lockS h sl) (lockC h st) with
  | .ok a sl' st' => .ok a (unlS h sl sl') (unlC h st st')
  | .exc C xs sl' st' => .exc C xs (unlS h sl sl') (unlC h st st')
  | .no => .no
/-- the same objects, more or fewer of them locked -/
structure SameOb (sl sl' : Sls) (st st' : Sto) : Prop where
  sl_len : sl'.length = sl.length
  st_len : st'.length = st.length
  sl_d : ∀ (i : Nat) (s : Sl), sl'[i]? = some s → sl[i]? = some s ∨ ∃ b, s.ob = some b ∧ ∃ t : Sl, sl[i]? = some t ∧ t.ob = some b
  sl_o : ∀ (i : Nat) (s : Sl) (b : Ob), sl[i]? = some s → s.ob = some b → ∃ t : Sl, sl'[i]? = some t ∧ t.ob = some b
  st_c : ∀ (i : Nat) (c : Cl), st'[i]? = some c → ∃ d : Cl, st[i]? = some d ∧ d.ob = c.ob
theorem SameOb.refl {sl : Sls} {st : Sto} : SameOb sl sl st st := ⟨rfl, rfl, fun _ _ h => .inl h, fun _ s _ h e => ⟨s, h, e⟩, fun _ c h => ⟨c, h, rfl⟩⟩
theorem sameOb_sl {sl : Sls} {st : Sto} {j : Nat} {s t : Sl} {b : Ob} (h : sl[j]? = some s) (hs : s.ob = some b) (ht : t.ob = some b) : SameOb sl (sl.set j t) st st := by
  have hj : j < sl.length := (List.getElem?_eq_some_iff.mp h).1
  refine ⟨by simp, rfl, fun i u e => ?_, fun i u c e hu => ?_, fun _ c e => ⟨c, e, rfl⟩⟩
  · rcases get_set e with ⟨rfl, _, rfl⟩ | ⟨_, e⟩
    · exact .inr ⟨b, ht, s, h, hs⟩
    · exact .inl e
  · by_cases c1 : i = j
    · subst c1
      rw [h] at e; cases e
      rw [hs] at hu; cases hu
      exact ⟨t, List.getElem?_set_self hj, ht⟩
    · exact ⟨u, by rw [List.getElem?_set_ne (Ne.symm c1)]; exact e, hu⟩
theorem sameOb_st {sl : Sls} {st : Sto} {j : Nat} {c d : Cl} (h : st[j]? = some c) (hc : d.ob = c.ob) : SameOb sl sl st (st.set j d) := by
  refine ⟨rfl, by simp, fun i u e => .inl e, fun i u b e hu => ⟨u, e, hu⟩, fun i u e => ?_⟩
  rcases get_set e with ⟨rfl, _, rfl⟩ | ⟨_, e⟩
  · exact ⟨c, h, hc.symm⟩
  · exact ⟨u, e, rfl⟩
theorem lock_same (h : Hd) (sl : Sls) (st : Sto) : SameOb sl (lockS h sl) st (lockC h st) := by
  cases h with
  | none => exact SameOb.refl
  | sl j =>
    show SameOb sl (match sl[j]? with
      | some (.o b) => sl.set j (.lk b)
      | _ => sl) st st
    cases e : sl[j]? with
    | none => exact SameOb.refl
    | some s =>
      cases s with
      | o b => exact sameOb_sl (b := b) e rfl rfl
      | _ => exact SameOb.refl
  | ce i =>
    show SameOb sl sl st (match st[i]? with
      | some (.c b) => st.set i (.lk b)
      | _ => st)
    cases e : st[i]? with
    | none => exact SameOb.refl
    | some s =>
      cases s with
      | c b => exact sameOb_st e rfl
      | _ => exact SameOb.refl
theorem unl_same (h : Hd) (sl sl' : Sls) (st st' : Sto) : SameOb sl' (unlS h sl sl') st' (unlC h st st') := by
  cases h with
  | none => exact SameOb.refl
  | sl j =>
    show SameOb sl' (match sl[j]? with
      | some (.o _) => match sl'[j]? with
        | some (.lk b) => sl'.set j (.o b)
        | _ => sl'
      | _ => sl') st' st'
    cases e : sl[j]? with
    | none => exact SameOb.refl
    | some s =>
      cases s with
      | o b =>
        show SameOb sl' (match sl'[j]? with
          | some (.lk b) => sl'.set j (.o b)
          | _ => sl') st' st'
        cases e2 : sl'[j]? with
        | none => exact SameOb.refl
        | some s =>
          cases s with
          | lk b => exact sameOb_sl (b := b) e2 rfl rfl
          | _ => exact SameOb.refl
      | _ => exact SameOb.refl
  | ce i =>
    show SameOb sl' sl' st' (match st[i]? with
      | some (.c _) => match st'[i]? with
        | some (.lk b) => st'.set i (.c b)
        | _ => st'
      | _ => st')
    cases e : st[i]? with
    | none => exact SameOb.refl
    | some s =>
      cases s with
      | c b =>
        show SameOb sl' sl' st' (match st'[i]? with
          | some (.lk b) => st'.set i (.c b)
          | _ => st')
        cases e2 : st'[i]? with
        | none => exact SameOb.refl
        | some s =>
          cases s with
          | lk b => exact sameOb_st e2 rfl
          | _ => exact SameOb.refl
      | _ => exact SameOb.refl
section
variable {K : PySem.W.Frag} {cn : String → Addr} {W : WX} {X : Cx} {Z : Zt} {A : Addr → Prop}
theorem R.same (hR : R K cn Z) {sl : Sls} {st : Sto} (h : SameOb Z.sl sl Z.st st) : R K cn { Z with sl := sl, st := st } := by
  refine ⟨hR.ex, by rw [hR.len]; exact h.st_len.symm, fun i c a e1 e2 => ?_, hR.inj, by rw [← hR.slen]; exact h.sl_len, fun i s e => ?_, fun i j s t b c a hij e1 e2 k1 k2 => ?_⟩
  · obtain ⟨d, h1, h2⟩ := h.st_c i c e1
    obtain ⟨o, q1, q2, q3⟩ := hR.cells i d a h1 e2
    exact ⟨o, q1, q2, by rw [← h2]; exact q3⟩
  · rcases h.sl_d i s e with e' | ⟨b, hb, t, e', ht⟩
    · have q := hR.slots i s e'
      cases s <;> exact q
    · have q := hR.slot_own e' ht
      cases s with
      | u => cases hb
      | d x => cases hb
      | o b' => cases hb; exact q
      | lk b' => cases hb; exact q
  · have side : ∀ {i : Nat} {s : Sl} {b : Ob}, sl[i]? = some s → s.ob = some b → ∃ t : Sl, Z.sl[i]? = some t ∧ t.ob = some b := fun {i s b} e hb => by
      rcases h.sl_d i s e with e' | ⟨b', hb', t, e', ht⟩
      · exact ⟨s, e', hb⟩
      · rw [hb'] at hb; cases hb
        exact ⟨t, e', ht⟩
    obtain ⟨s', q1, q2⟩ := side e1 k1
    obtain ⟨t', q3, q4⟩ := side e2 k2
    exact hR.dist i j s' t' b c a hij q1 q3 q2 q4
theorem own_same {sl : Sls} {st : Sto} (h : SameOb Z.sl sl Z.st st) {a : Addr} : Zt.own { Z with sl := sl, st := st } a ↔ Z.own a := by
  constructor
  · intro q
    obtain ⟨i, s, b, h1, h2, h3⟩ := Zt.own_iff.mp q
    rcases h.sl_d i s h1 with e | ⟨b', hb, t, e, ht⟩
    · exact Zt.own_of e h2 h3
    · exact Zt.own_of e ht h3
  · intro q
    obtain ⟨i, s, b, h1, h2, h3⟩ := Zt.own_iff.mp q
    obtain ⟨t, e, ht⟩ := h.sl_o i s b h1 h2
    exact Zt.own_of (Z := { Z with sl := sl, st := st }) e ht h3
theorem lockS_lk (h : Hd) {sl : Sls} {i : Nat} {b : Ob} (e : sl[i]? = some (Sl.lk b)) : (lockS h sl)[i]? = some (Sl.lk b) := by
  cases h with
  | none => exact e
  | ce j => exact e
  | sl j =>
    show (match sl[j]? with
      | some (.o b) => sl.set j (.lk b)
      | _ => sl)[i]? = _
    cases q : sl[j]? with
    | none => exact e
    | some s =>
      cases s with
      | o c =>
        have n : i ≠ j := fun z => by subst z; rw [q] at e; cases e
        show (sl.set j (.lk c))[i]? = _
        rw [List.getElem?_set_ne (Ne.symm n)]; exact e
      | _ => exact e
theorem lockC_lk (h : Hd) {st : Sto} {i : Nat} {b : Ob} (e : st[i]? = some (Cl.lk b)) : (lockC h st)[i]? = some (Cl.lk b) := by
  cases h with
  | none => exact e
  | sl j => exact e
  | ce j =>
    show (match st[j]? with
      | some (.c b) => st.set j (.lk b)
      | _ => st)[i]? = _
    cases q : st[j]? with
    | none => exact e
    | some s =>
      cases s with
      | c d =>
        have n : i ≠ j := fun z => by subst z; rw [q] at e; cases e
        show (st.set j (.lk d))[i]? = _
        rw [List.getElem?_set_ne (Ne.symm n)]; exact e
      | _ => exact e
theorem unlS_lk (h : Hd) {sl sl' : Sls} {i : Nat} {b b' : Ob} (e : sl[i]? = some (Sl.lk b)) (e' : sl'[i]? = some (Sl.lk b')) : (unlS h sl sl')[i]? = some (Sl.lk b') := by
  cases h with
  | none => exact e'
  | ce j => exact e'
  | sl j =>
    show (match sl[j]? with
      | some (.o _) => match sl'[j]? with
        | some (.lk b) => sl'.set j (.o b)
        | _ => sl'
      | _ => sl')[i]? = _
    cases q : sl[j]? with
    | none => exact e'
    | some s =>
      cases s with
      | o c =>
        have n : i ≠ j := fun z => by subst z; rw [q] at e; cases e
        show (match sl'[j]? with
          | some (.lk b) => sl'.set j (.o b)
          | _ => sl')[i]? = _
        cases q2 : sl'[j]? with
        | none => exact e'
        | some s =>
          cases s with
          | lk d =>
            show (sl'.set j (.o d))[i]? = _
            rw [List.getElem?_set_ne (Ne.symm n)]; exact e'
          | _ => exact e'
      | _ => exact e'
theorem unlC_lk (h : Hd) {st st' : Sto} {i : Nat} {b b' : Ob} (e : st[i]? = some (Cl.lk b)) (e' : st'[i]? = some (Cl.lk b')) : (unlC h st st')[i]? = some (Cl.lk b') := by
  cases h with
  | none => exact e'
  | sl j => exact e'
  | ce j =>
    show (match st[j]? with
      | some (.c _) => match st'[j]? with
        | some (.lk b) => st'.set j (.c b)
        | _ => st'
      | _ => st')[i]? = _
    cases q : st[j]? with
    | none => exact e'
    | some s =>
      cases s with
      | c d =>
        have n : i ≠ j := fun z => by subst z; rw [q] at e; cases e
        show (match st'[j]? with
          | some (.lk b) => st'.set j (.c b)
          | _ => st')[i]? = _
        cases q2 : st'[j]? with
        | none => exact e'
        | some s =>
          cases s with
          | lk d =>
            show (st'.set j (.c d))[i]? = _
            rw [List.getElem?_set_ne (Ne.symm n)]; exact e'
          | _ => exact e'
      | _ => exact e'
theorem RepRV.same {sl : Sls} {st : Sto} (h : SameOb Z.sl sl Z.st st) {r : RV} {v : V} (hv : RepRV K cn Z r v) : RepRV K cn { Z with sl := sl, st := st } r v := by
  cases r with
  | d x => exact hv
  | f b =>
    obtain ⟨p, o, rfl, h1, h2, h3, h4, h5⟩ := hv
    exact ⟨p, o, rfl, h1, h2, h3, fun z => h4 ((own_same h).mp z), h5⟩
  | sl i => exact hv
/-- locked -/
def Zt.lock (Z : Zt) (h : Hd) : Zt := { Z with sl := lockS h Z.sl, st := lockC h Z.st }
theorem R.lock (hR : R K cn Z) (h : Hd) : R K cn (Z.lock h) := hR.same (lock_same h Z.sl Z.st)
theorem Step.lock (h : Hd) : Step Z A (Z.lock h) A :=
  Step.mk' (fun _ _ e => e) (List.prefix_refl _) (fun a o e g r n m => ⟨e, g, r, fun z => n ((own_same (lock_same h Z.sl Z.st)).mp z), m⟩) (fun i b e => ⟨lockS_lk h e, rfl⟩) (fun i b e => lockC_lk h e) (fun _ _ e => e)
/-- a step of the locked state, unlocked behind it -/
theorem Step.unlock {h : Hd} {Z1 : Zt} {A' : Addr → Prop} (s : Step (Z.lock h) A Z1 A') : Step Z A { Z1 with sl := unlS h Z.sl Z1.sl, st := unlC h Z.st Z1.st } A' := by
  have sm := unl_same h Z.sl Z1.sl Z.st Z1.st
  refine ⟨s.g, s.r, fun a o e g r n m => ?_, fun i b a o h1 h2 h3 => ?_, fun i b a o h1 h2 h3 => ?_⟩
  · obtain ⟨k1, k2, k3, k4, k5⟩ := s.keep a o e g r (fun z => n ((own_same (lock_same h Z.sl Z.st)).mp z)) m
    exact ⟨k1, k2, k3, fun z => k4 ((own_same sm).mp z), k5⟩
  · obtain ⟨k1, ⟨b', k2⟩, k3⟩ := s.lkS i b a o (lockS_lk h h1) h2 h3
    exact ⟨k1, ⟨b', unlS_lk h h1 k2⟩, k3⟩
  · obtain ⟨k1, b', k2⟩ := s.lkC i b a o (lockC_lk h h1) h2 h3
    exact ⟨k1, b', unlC_lk h h1 k2⟩
/-- a statement under a lock -/
theorem hold_post {m : Mn Fl} {h : Hd} {D : Ends} (q : PostS K cn W Z A (mHold h m Z.sl Z.st) D) : PostS K cn W (Z.lock h) A (m (lockS h Z.sl) (lockC h Z.st)) D := by
  unfold mHold at q
  cases e : m (lockS h Z.sl) (lockC h Z.st) with
  | no => rw [e] at q; exact q
  | exc C xs sl st =>
    rw [e] at q
    intro G H ρ σ d us hR hS
    have sm := unl_same h Z.sl sl Z.st st
    exact q G H ρ σ d us (hR.same sm) (Step.unlock (Z1 := ⟨G, H, ρ, σ, sl, st⟩) hS)
  | ok f sl st =>
    rw [e] at q
    have sm := unl_same h Z.sl sl Z.st st
    cases f with
    | nx => exact fun G H ρ σ hR hS => q G H ρ σ (hR.same sm) (Step.unlock (Z1 := ⟨G, H, ρ, σ, sl, st⟩) hS)
    | bk => exact fun G H ρ σ hR hS => q G H ρ σ (hR.same sm) (Step.unlock (Z1 := ⟨G, H, ρ, σ, sl, st⟩) hS)
    | ct => exact fun G H ρ σ hR hS => q G H ρ σ (hR.same sm) (Step.unlock (Z1 := ⟨G, H, ρ, σ, sl, st⟩) hS)
    | rt r => exact fun G H ρ σ v hR hv hS => q G H ρ σ v (hR.same sm) (RepRV.same (Z := ⟨G, H, ρ, σ, sl, st⟩) sm hv) (Step.unlock (Z1 := ⟨G, H, ρ, σ, sl, st⟩) hS)
/-! ### targets -/
inductive Tgt where
  | nm (i : Nat) | tp (ts : List Tgt) | ot (f : MP.D → Mn Fl)
end
mutual
def mTgt : Tgt → D → Mn Fl
  | .nm i, x => assign i (.d x)
  | .ot f, x => f x
  | .tp ts, x => match x with
    | .tup xs => if xs.length = ts.length then mTgts ts xs else non
    | _ => non
def mTgts : List Tgt → List D → Mn Fl
  | [], [] => unit .nx
  | t :: ts, x :: xs => mSeq (mTgt t x) (mTgts ts xs)
  | _, _ => non
end
section
variable {K : PySem.W.Frag} {cn : String → Addr} {W : WX} {X : Cx} {Z : Zt} {A : Addr → Prop}
/-- the target's reading does what the machine does -/
def GOk (K : PySem.W.Frag) (cn : String → Addr) (W : WX) (g : TG) (t : Tgt) : Prop := ∀ (Z : Zt) (x : D) (v : V) (D : Ends), R K cn Z → Rep K cn Z.G Z.ρ x v → PostS K cn W Z NoA (mTgt t x Z.sl Z.st) D → g v Z.σ Z.H D.nx
def GsOk (K : PySem.W.Frag) (cn : String → Addr) (W : WX) (g : TGs) (ts : List Tgt) : Prop := ∀ (Z : Zt) (xs : List D) (vs : List V) (D : Ends), R K cn Z → Reps K cn Z.G Z.ρ xs vs → PostS K cn W Z NoA (mTgts ts xs Z.sl Z.st) D → g vs Z.σ Z.H D.nx
theorem gok_nm {i : Nat} : GOk K cn W (gName i) (.nm i) := fun Z x v D hR hv h => assign_ok (r := .d x) hR hv (PostS.less (fun _ z => z) h)
theorem gsok_nil : GsOk K cn W gNil [] := fun Z xs vs D hR hv h => by
  cases hv with
  | nil => exact ⟨rfl, h Z.G Z.H Z.ρ Z.σ hR Step.refl⟩
  | cons _ _ => exact h.elim
theorem gsok_cons {g : TG} {gs : TGs} {t : Tgt} {ts : List Tgt} (h1 : GOk K cn W g t) (h2 : GsOk K cn W gs ts) : GsOk K cn W (gCons g gs) (t :: ts) := fun Z xs vs D hR hv h => by
  cases hv with
  | nil => exact h.elim
  | @cons x v xs vs hx hr =>
    have h : PostS K cn W Z NoA (mSeq (mTgt t x) (mTgts ts xs) Z.sl Z.st) D := h
    rw [mSeq_eq] at h
    refine ⟨v, vs, rfl, ?_⟩
    refine h1 Z x v { D with nx := fun σ' H' => gs vs σ' H' D.nx } hR hx ?_
    cases e : mTgt t x Z.sl Z.st with
    | no => rw [e] at h; exact h
    | exc C ys sl st => rw [e] at h; exact h
    | ok f sl st =>
      rw [e] at h
      cases f with
      | nx => exact fun G H ρ σ hR1 hS => h2 ⟨G, H, ρ, σ, sl, st⟩ xs vs D hR1 (hr.mono hS.g hS.r) (PostS.trans hS h)
      | bk => exact h
      | ct => exact h
      | rt r => exact h
theorem gok_tp {gs : TGs} {ts : List Tgt} {n : Nat} (h : GsOk K cn W gs ts) (hn : ts.length = n) : GOk K cn W (gTup K n gs) (.tp ts) := fun Z x v D hR hv hq => by
  unfold mTgt at hq
  cases hv with
  | @tup xs a vs h1 h2 =>
    dsimp only at hq
    by_cases c : xs.length = ts.length
    · rw [if_pos c] at hq
      exact ⟨a, vs, rfl, Evl.ex_t hR.ex h1, by rw [← h2.length, c, hn], h Z xs vs D hR h2 hq⟩
    · rw [if_neg c] at hq
      exact hq.elim
  | _ => exact hq.elim
/-- target = value -/
def mAsg (m : Mn RV) (t : Tgt) : Mn Fl := bnd m fun r => bnd (esc r) fun x => mTgt t x
theorem esc_ex {r : RV} {sl sl' : Sls} {st st' : Sto} {C : String} {xs : List (Str × MP.D)} : esc r sl st ≠ .exc C xs sl' st' := by
  intro z
  cases r with
  | d x => cases z
  | f b => cases z
  | sl j =>
    unfold esc at z
    dsimp only at z
    split at z <;> cases z
theorem ms_asg {tg e : Expr} {m : Mn RV} {g : TG} {t : Tgt} {pos : Pos} (he : PE X e (TM K cn W m)) (hg : PG X tg g) (hk : GOk K cn W g t) (hs : swapsWithSole [tg] e pos.line X.env = pure false := by rfl) (hw : swappedStores [tg] e X.env = pure none := by rfl)
    (h1 : (assignEach [tg] X.env).map (·.2) = [PySem.assign tg X.env] := by rfl) : PS X (.Assign [tg] e pos) (TMs K cn W (mAsg m t)) :=
  PS.imp (ps_asg he hg hs hw h1) fun D σ H q => tm_s (P := fun v σ H => g v σ H D.nx) q fun G H ρ sl st r v hR hv h => by
    unfold bnd at h
    cases e : esc r sl st with
    | no => rw [e] at h; exact h.elim
    | exc C xs sl1 st1 => exact (esc_ex e).elim
    | ok x sl1 st1 =>
      rw [e] at h
      obtain ⟨rfl, G1, hR1, hx, hS⟩ := esc_ok (Z := ⟨G, H, ρ, σ, sl, st⟩) hR hv e
      exact hk _ x v D hR1 hx (PostS.trans hS h)
/-! ### what is walked -/
/-- P stays through all steps; where it holds, the walk gives the items one after the other -/
structure Walks (K : PySem.W.Frag) (cn : String → Addr) (J : It) (xs : List MP.D) (B : Addr → Prop) (P : Zt → Prop) : Prop where
  keepA : ∀ {Z Z' : Zt} {A A' : Addr → Prop}, P Z → Step Z A Z' A' → (∀ a, A a → ¬ B a) → P Z'
  go : ∀ {Z : Zt} {i : Nat} {x : MP.D}, R K cn Z → P Z → xs[i]? = some x → J.go i Z.H ∧ ∀ v H', J.yld i Z.H v H' → ∃ G', R K cn ⟨G', H', Z.ρ, Z.σ, Z.sl, Z.st⟩ ∧ Rep K cn G' Z.ρ x v ∧ Step Z NoA ⟨G', H', Z.ρ, Z.σ, Z.sl, Z.st⟩ NoA
  stop : ∀ {Z : Zt}, R K cn Z → P Z → J.stop xs.length Z.H
theorem Walks.keep {J : It} {xs : List MP.D} {B : Addr → Prop} {P : Zt → Prop} (w : Walks K cn J xs B P) {Z Z' : Zt} {A' : Addr → Prop} (h : P Z) (s : Step Z NoA Z' A') : P Z' := w.keepA h s fun _ z => z.elim
def PostI (K : PySem.W.Frag) (cn : String → Addr) (W : WX) (Z : Zt) (q : Res (List MP.D × Hd)) (T : It → Hp → Prop) : Prop := match q with
  | .ok (xs, h) sl st => ∀ G H ρ A' J B P, R K cn ⟨G, H, ρ, Z.σ, sl, st⟩ → Step Z NoA ⟨G, H, ρ, Z.σ, sl, st⟩ A' → (∀ a, B a → H a ≠ none) → Walks K cn J xs B P → P (Zt.lock ⟨G, H, ρ, Z.σ, sl, st⟩ h) → T J H
  | .exc C xs sl st => ∀ G H ρ d us, R K cn ⟨G, H, ρ, Z.σ, sl, st⟩ → Step Z NoA ⟨G, H, ρ, Z.σ, sl, st⟩ (· = d) → H d = some (.xd us) → G d = none → d ∉ ρ → RepF K cn G ρ xs us → W (.ref (cn C)) (some d) Z.σ H
  | .no => False
def TMi (K : PySem.W.Frag) (cn : String → Addr) (W : WX) (m : Mn (List MP.D × Hd)) : TI := fun σ H T => ∃ G ρ sl st, R K cn ⟨G, H, ρ, σ, sl, st⟩ ∧ PostI K cn W ⟨G, H, ρ, σ, sl, st⟩ (m sl st) T
theorem PI.imp {tg e : Expr} {t t' : TI} (h : PI X tg e t) (k : ∀ σ H T, t' σ H T → t σ H T) : PI X tg e t' := ⟨fun pins s σ H T I q => h.run pins s σ H T I (k σ H T q)⟩
def forL (t : Tgt) (b : Mn Fl) : List MP.D → Mn Fl
  | [] => unit .nx
  | x :: xs => mSeq (mTgt t x) (bnd b fun f => match f with
    | .nx => forL t b xs
    | .ct => forL t b xs
    | .bk => unit .nx
    | .rt r => unit (.rt r))
def mFor (m : Mn (List MP.D × Hd)) (t : Tgt) (b : Mn Fl) : Mn Fl := bnd m fun p => mHold p.2 (forL t b p.1)
theorem ms_for {iter tg : Expr} {body : List Stmt} {g : TG} {pos : Pos} {m : Mn (List MP.D × Hd)} {t : Tgt} {b : Mn Fl} (hp : PassesOwn (model X.prog X.w) X.A X.env X.xe) (hc : X.calm = true) (hi : PI X tg iter (TMi K cn W m)) (hg : PG X tg g) (hk : GOk K cn W g t) (hb : PSs X body (TMs K cn W b))
    (hs : ∀ x, foldedSetIterable iter X.env x = pure x := by intro _; rfl) : PS X (.For tg iter body [] pos) (TMs K cn W (mFor m t b)) :=
  PS.imp (ps_for hp hc hi hg hb hs) fun D σ H q => by
    obtain ⟨G, ρ, sl, st, hR, h⟩ := q
    refine ⟨G, ρ, sl, st, hR, ?_⟩
    unfold mFor bnd at h
    cases e : m sl st with
    | no => rw [e] at h; exact h
    | exc C xs sl1 st1 => rw [e] at h; exact fun G1 H1 ρ1 d us hR1 hS => h G1 H1 ρ1 σ d us hR1 hS
    | ok p sl1 st1 =>
      obtain ⟨xs, hd⟩ := p
      rw [e] at h
      intro G1 H1 ρ1 A' J B P hR1 hS hB hW hP
      have h1 : PostS K cn W ⟨G1, H1, ρ1, σ, sl1, st1⟩ NoA (mHold hd (forL t b xs) sl1 st1) D := PostS.trans hS.end0 h
      have h2 := hold_post h1
      refine ⟨fun i k σ' H' => k + i = xs.length ∧ ∃ G' ρ' sl' st', R K cn ⟨G', H', ρ', σ', sl', st'⟩ ∧ P ⟨G', H', ρ', σ', sl', st'⟩ ∧ PostS K cn W ⟨G', H', ρ', σ', sl', st'⟩ NoA (forL t b (xs.drop i) sl' st') D, ⟨xs.length, by omega, G1, ρ1, _, _, hR1.lock hd, hP, by rw [List.drop_zero]; exact h2⟩, ?_⟩
      rintro i k σ' H' ⟨hk1, G', ρ', sl', st', hR', hP', hq⟩
      by_cases c : i < xs.length
      · right
        obtain ⟨hgo, hy⟩ := hW.go hR' hP' (List.getElem?_eq_getElem c)
        refine ⟨hgo, fun σ2 H2 => k - 1 + (i + 1) = xs.length ∧ ∃ G' ρ' sl' st', R K cn ⟨G', H2, ρ', σ2, sl', st'⟩ ∧ P ⟨G', H2, ρ', σ2, sl', st'⟩ ∧ PostS K cn W ⟨G', H2, ρ', σ2, sl', st'⟩ NoA (forL t b (xs.drop (i + 1)) sl' st') D, fun σ2 H2 z => ⟨k - 1, by omega, z⟩, fun v H2 hyl => ?_⟩
        obtain ⟨G2, hR2, hv, hS2⟩ := hy v H2 hyl
        have hP2 := hW.keep hP' hS2
        have ed : xs.drop i = xs[i] :: xs.drop (i + 1) := by rw [List.drop_eq_getElem_cons c]
        rw [ed] at hq
        have hq2 : PostS K cn W ⟨G2, H2, ρ', σ', sl', st'⟩ NoA (mSeq (mTgt t xs[i]) (bnd b fun f => match f with
          | .nx => forL t b (xs.drop (i + 1))
          | .ct => forL t b (xs.drop (i + 1))
          | .bk => unit .nx
          | .rt r => unit (.rt r)) sl' st') D := PostS.trans hS2 hq
        rw [mSeq_eq] at hq2
        refine hk ⟨G2, H2, ρ', σ', sl', st'⟩ xs[i] v { D with nx := _ } hR2 hv ?_
        cases et : mTgt t xs[i] sl' st' with
        | no => rw [et] at hq2; exact hq2
        | exc C ys s3 t3 => rw [et] at hq2; exact hq2
        | ok f s3 t3 =>
          rw [et] at hq2
          cases f with
          | bk => exact hq2
          | ct => exact hq2
          | rt r => exact hq2
          | nx =>
            intro G3 H3 ρ3 σ3 hR3 hS3
            have hP3 := hW.keep hP2 hS3
            have hq3 := PostS.trans hS3 hq2
            refine ⟨G3, ρ3, s3, t3, hR3, ?_⟩
            unfold bnd at hq3
            dsimp only at hq3
            cases eb : b s3 t3 with
            | no => rw [eb] at hq3; exact hq3
            | exc C ys s4 t4 => rw [eb] at hq3; exact hq3
            | ok f s4 t4 =>
              rw [eb] at hq3
              cases f with
              | nx => exact fun G4 H4 ρ4 σ4 hR4 hS4 => ⟨by omega, G4, ρ4, s4, t4, hR4, hW.keep hP3 hS4, PostS.trans hS4 hq3⟩
              | ct => exact fun G4 H4 ρ4 σ4 hR4 hS4 => ⟨by omega, G4, ρ4, s4, t4, hR4, hW.keep hP3 hS4, PostS.trans hS4 hq3⟩
              | bk => exact hq3
              | rt r => exact hq3
      · left
        have ei : i = xs.length := by omega
        subst ei
        refine ⟨hW.stop hR' hP', ?_⟩
        rw [List.drop_length] at hq
        exact hq G' H' ρ' σ' hR' Step.refl
/-- over a list that stands -/
def Stay (K : PySem.W.Frag) (a : Addr) (vs : List V) (Z : Zt) : Prop := SqL K Z.G a vs ∨ (Z.H a = some (.lst vs) ∧ ((Z.G a = none ∧ a ∉ Z.ρ ∧ ¬ Z.own a) ∨ (∃ (i : Nat) (b : Ob), Z.sl[i]? = some (Sl.lk b) ∧ Z.σ[i]? = some (some (V.ref a))) ∨ ∃ (i : Nat) (b : Ob), Z.st[i]? = some (Cl.lk b) ∧ Z.ρ[i]? = some a))
theorem Stay.keep {a : Addr} {vs : List V} {Z' : Zt} {A A' : Addr → Prop} (h : Stay K a vs Z) (s : Step Z A Z' A') (n : ¬ A a) : Stay K a vs Z' := by
  rcases h with h | ⟨h, ⟨h1, h2, h3⟩ | ⟨i, b, h1, h2⟩ | ⟨i, b, h1, h2⟩⟩
  · exact .inl (Evl.ex_l s.g h)
  · obtain ⟨k1, k2, k3, k4, _⟩ := s.keep a _ h h1 h2 h3 n
    exact .inr ⟨k1, .inl ⟨k2, k3, k4⟩⟩
  · obtain ⟨⟨o', k1, l1⟩, ⟨b', k2⟩, k3⟩ := s.lkS i b a _ h1 h2 h
    cases l1.lst
    exact .inr ⟨k1, .inr (.inl ⟨i, b', k2, k3⟩)⟩
  · obtain ⟨k1, b', k2⟩ := s.lkC i b a _ h1 h2 h
    exact .inr ⟨k1, .inr (.inr ⟨i, b', k2, ix_mono s.r h2⟩)⟩
theorem Stay.seq {a : Addr} {vs : List V} (hR : R K cn Z) (h : Stay K a vs Z) : SqL K Z.H a vs := by
  rcases h with h | ⟨h, _⟩
  · exact Evl.ex_l hR.ex h
  · exact .inl (.inl h)
theorem walks_list {a : Addr} {vs : List V} {xs : List MP.D} {G0 : Hp} {ρ0 : List Addr} (hx : Reps K cn G0 ρ0 xs vs) : Walks K cn (Itl K a) xs (· = a) (fun Z => Stay K a vs Z ∧ Ex G0 Z.G ∧ ρ0 <+: Z.ρ) where
  keepA := fun h s n => ⟨h.1.keep s (fun z => n a z rfl), fun b o e => s.g b o (h.2.1 b o e), h.2.2.trans s.r⟩
  go := fun {Z i x} hR h e => by
    obtain ⟨v, hv, hr⟩ := hx.get e
    refine ⟨⟨vs, v, h.1.seq hR, hv⟩, fun w H' y => ?_⟩
    obtain ⟨rfl, y⟩ := y
    have q := y vs (h.1.seq hR)
    rw [hv] at q; cases q
    exact ⟨Z.G, hR, hr.mono h.2.1 h.2.2, Step.refl⟩
  stop := fun {Z} hR h => ⟨vs, h.1.seq hR, by rw [hx.length]; exact Nat.le_refl _⟩
theorem walks_tup {a : Addr} {vs : List V} {xs : List MP.D} {G0 : Hp} {ρ0 : List Addr} (ht : SqT K G0 a vs) (hx : Reps K cn G0 ρ0 xs vs) : Walks K cn (Itt K a) xs NoA (fun Z => Ex G0 Z.G ∧ ρ0 <+: Z.ρ) where
  keepA := fun h s _ => ⟨fun b o e => s.g b o (h.1 b o e), h.2.trans s.r⟩
  go := fun {Z i x} hR h e => by
    obtain ⟨v, hv, hr⟩ := hx.get e
    have q : SqT K Z.H a vs := Evl.ex_t hR.ex (Evl.ex_t h.1 ht)
    refine ⟨⟨vs, v, q, hv⟩, fun w H' y => ?_⟩
    obtain ⟨rfl, y⟩ := y
    have q := y vs q
    rw [hv] at q; cases q
    exact ⟨Z.G, hR, hr.mono h.1 h.2, Step.refl⟩
  stop := fun {Z} hR h => ⟨vs, Evl.ex_t hR.ex (Evl.ex_t h.1 ht), by rw [hx.length]; exact Nat.le_refl _⟩
theorem walks_lstG {a : Addr} {vs : List V} {xs : List MP.D} {G0 : Hp} {ρ0 : List Addr} (ht : SqL K G0 a vs) (hx : Reps K cn G0 ρ0 xs vs) : Walks K cn (Itl K a) xs NoA (fun Z => Ex G0 Z.G ∧ ρ0 <+: Z.ρ) where
  keepA := fun h s _ => ⟨fun b o e => s.g b o (h.1 b o e), h.2.trans s.r⟩
  go := fun {Z i x} hR h e => by
    obtain ⟨v, hv, hr⟩ := hx.get e
    have q : SqL K Z.H a vs := Evl.ex_l hR.ex (Evl.ex_l h.1 ht)
    refine ⟨⟨vs, v, q, hv⟩, fun w H' y => ?_⟩
    obtain ⟨rfl, y⟩ := y
    have q := y vs q
    rw [hv] at q; cases q
    exact ⟨Z.G, hR, hr.mono h.1 h.2, Step.refl⟩
  stop := fun {Z} hR h => ⟨vs, Evl.ex_l hR.ex (Evl.ex_l h.1 ht), by rw [hx.length]; exact Nat.le_refl _⟩
/-- the items of a list or a tuple, and what is to be locked -/
def srcOf (r : RV) : Mn (List MP.D × Hd) := fun sl st => match r with
  | .d (.lst xs) => .ok (xs, .none) sl st
  | .d (.tup xs) => .ok (xs, .none) sl st
  | .d (.cell i) => match st[i]? with
    | some (.c (.lst xs)) => .ok (xs, .ce i) sl st
    | some (.lk (.lst xs)) => .ok (xs, .none) sl st
    | _ => .no
  | .f (.lst xs) => .ok (xs, .none) sl st
  | .sl j => match sl[j]? with
    | some (.o (.lst xs)) => .ok (xs, .sl j) sl st
    | some (.lk (.lst xs)) => .ok (xs, .none) sl st
    | _ => .no
  | _ => .no
def mSrc (m : Mn RV) : Mn (List MP.D × Hd) := bnd m srcOf
/-- the list or tuple at x is walked -/
def iSeqR (K : PySem.W.Frag) (tl : TE) : TI := fun σ H R => tl σ H fun x H1 => (∃ a, x = .ref a ∧ (∃ xs, SqL K H1 a xs) ∧ R (Itl K a) H1) ∨ ∃ a, x = .ref a ∧ (∃ xs, SqT K H1 a xs) ∧ R (Itt K a) H1
theorem pi_seq {tg l : Expr} {tl : TE} (hl : PE X l tl) : PI X tg l (iSeqR X.K tl) := by
  refine ⟨fun pins s σ H R I h => ?_⟩
  refine thn (hl.run pins s σ H _ I h) fun v s1 ⟨x, H1, I1, r1, q1⟩ => ?_
  rcases q1 with ⟨a, e, ⟨xs, hq⟩, q⟩ | ⟨a, e, ⟨xs, hq⟩, q⟩
  · subst e
    cases r1
    obtain ⟨its, rv, p, hz⟩ := I1.list hq
    refine wpAny_pyIter_list p.isList ?_
    refine ⟨s1.heap.objs.size, [s1.heap.objs.size], _, _, H1, rfl, I1.kept (t' := s1.toks) fun b o e => Heap.get?_push_of_some _ e, turn_list a _, ⟨_, Heap.get?_push_size _ rfl, rfl, rfl⟩, fun b hb => ?_, q⟩
    have e : b = s1.heap.objs.size := by simpa using hb
    subst e
    exact I1.fpOk (Nat.le_refl _) (I1.hok.fresh (Nat.le_refl _))
  · subst e
    cases r1
    obtain ⟨its, rv, p, hz⟩ := I1.tuple hq
    refine wpAny_pyIter_tuple (show s1.heap.IsTuple a its.toArray from p) ?_
    refine ⟨s1.heap.objs.size, [s1.heap.objs.size], _, _, H1, rfl, I1.kept (t' := s1.toks) fun b o e => Heap.get?_push_of_some _ e, turn_tuple a _, ⟨_, Heap.get?_push_size _ rfl, rfl, rfl⟩, fun b hb => ?_, q⟩
    have e : b = s1.heap.objs.size := by simpa using hb
    subst e
    exact I1.fpOk (Nat.le_refl _) (I1.hok.fresh (Nat.le_refl _))
theorem ObOk.lst_inv {G : Hp} {ρ : List Addr} {xs : List MP.D} {o : HO} (h : ObOk K cn G ρ (.lst xs) o) : ∃ vs, o = .lst vs ∧ Reps K cn G ρ xs vs := by
  cases h with
  | lst r => exact ⟨_, rfl, r⟩
theorem mi_seq {tg l : Expr} {m : Mn RV} (hl : PE X l (TM X.K cn W m)) : PI X tg l (TMi X.K cn W (mSrc m)) :=
  PI.imp (pi_seq hl) fun σ H T q => by
    obtain ⟨G, ρ, sl, st, hR, h⟩ := q
    refine ⟨G, ρ, sl, st, hR, ?_⟩
    unfold mSrc bnd at h
    cases e : m sl st with
    | no => rw [e] at h; exact h
    | exc C xs sl1 st1 => rw [e] at h; exact h
    | ok r sl1 st1 =>
      rw [e] at h
      intro G1 H1 ρ1 v hR1 hv hS
      have h : PostI X.K cn W ⟨G, H, ρ, σ, sl, st⟩ (srcOf r sl1 st1) T := h
      unfold srcOf at h
      cases r with
      | d x =>
        cases x with
        | lst xs =>
          cases hv with
          | @lst _ a vs h1 h2 => exact .inl ⟨a, rfl, ⟨vs, Evl.ex_l hR1.ex h1⟩, h G1 H1 ρ1 _ (Itl X.K a) _ _ hR1 hS (fun _ z => z.elim) (walks_lstG h1 h2) ⟨fun _ _ e => e, List.prefix_refl _⟩⟩
        | tup xs =>
          cases hv with
          | @tup _ a vs h1 h2 => exact .inr ⟨a, rfl, ⟨vs, Evl.ex_t hR1.ex h1⟩, h G1 H1 ρ1 _ (Itt X.K a) _ _ hR1 hS (fun _ z => z.elim) (walks_tup h1 h2) ⟨fun _ _ e => e, List.prefix_refl _⟩⟩
        | cell i =>
          cases hv with
          | @cell _ a h1 =>
            dsimp only at h
            cases ec : st1[i]? with
            | none => rw [ec] at h; exact h.elim
            | some c =>
              rw [ec] at h
              obtain ⟨o, q1, q2, q3⟩ := hR1.cells i c a ec h1
              cases c with
              | c b =>
                cases b with
                | lst xs =>
                  obtain ⟨vs, rfl, hr⟩ := q3.lst_inv
                  refine .inl ⟨a, rfl, ⟨vs, .inl (.inl q1)⟩, h G1 H1 ρ1 _ (Itl X.K a) _ _ hR1 hS (fun b z y => by subst z; cases y.symm.trans q1) (walks_list hr) ⟨.inr ⟨q1, .inr (.inr ⟨i, .lst xs, ?_, h1⟩)⟩, fun _ _ e => e, List.prefix_refl _⟩⟩
                  show (lockC (.ce i) st1)[i]? = _
                  show (match st1[i]? with
                    | some (.c b) => st1.set i (.lk b)
                    | _ => st1)[i]? = _
                  rw [ec]
                  exact List.getElem?_set_self (List.getElem?_eq_some_iff.mp ec).1
                | dct _ => exact h.elim
                | ins _ _ => exact h.elim
              | lk b =>
                cases b with
                | lst xs =>
                  obtain ⟨vs, rfl, hr⟩ := q3.lst_inv
                  exact .inl ⟨a, rfl, ⟨vs, .inl (.inl q1)⟩, h G1 H1 ρ1 _ (Itl X.K a) _ _ hR1 hS (fun b z y => by subst z; cases y.symm.trans q1) (walks_list hr) ⟨.inr ⟨q1, .inr (.inr ⟨i, .lst xs, ec, h1⟩)⟩, fun _ _ e => e, List.prefix_refl _⟩⟩
                | dct _ => exact h.elim
                | ins _ _ => exact h.elim
        | _ => exact h.elim
      | f b =>
        cases b with
        | lst xs =>
          obtain ⟨p, o, rfl, q1, q2, q3, q4, q5⟩ := hv
          obtain ⟨vs, rfl, hr⟩ := q5.lst_inv
          exact .inl ⟨p, rfl, ⟨vs, .inl (.inl q1)⟩, h G1 H1 ρ1 _ (Itl X.K p) _ _ hR1 hS (fun b z y => by subst z; cases y.symm.trans q1) (walks_list hr) ⟨.inr ⟨q1, .inl ⟨q2, q3, q4⟩⟩, fun _ _ e => e, List.prefix_refl _⟩⟩
        | dct _ => exact h.elim
        | ins _ _ => exact h.elim
      | sl j =>
        have hv : σ[j]? = some (some v) := hv
        dsimp only at h
        cases ec : sl1[j]? with
        | none => rw [ec] at h; exact h.elim
        | some s =>
          rw [ec] at h
          cases s with
          | u => exact h.elim
          | d x => exact h.elim
          | o b =>
            cases b with
            | lst xs =>
              obtain ⟨p, o, q0, q1, q2, q3, q5⟩ := hR1.slots j _ ec
              have q0 : σ[j]? = some (some (V.ref p)) := q0
              rw [hv] at q0; cases q0
              obtain ⟨vs, rfl, hr⟩ := q5.lst_inv
              refine .inl ⟨p, rfl, ⟨vs, .inl (.inl q1)⟩, h G1 H1 ρ1 _ (Itl X.K p) _ _ hR1 hS (fun b z y => by subst z; cases y.symm.trans q1) (walks_list hr) ⟨.inr ⟨q1, .inr (.inl ⟨j, .lst xs, ?_, hv⟩)⟩, fun _ _ e => e, List.prefix_refl _⟩⟩
              show (match sl1[j]? with
                | some (.o b) => sl1.set j (.lk b)
                | _ => sl1)[j]? = _
              rw [ec]
              exact List.getElem?_set_self (List.getElem?_eq_some_iff.mp ec).1
            | dct _ => exact h.elim
            | ins _ _ => exact h.elim
          | lk b =>
            cases b with
            | lst xs =>
              obtain ⟨p, o, q0, q1, q2, q3, q5⟩ := hR1.slots j _ ec
              have q0 : σ[j]? = some (some (V.ref p)) := q0
              rw [hv] at q0; cases q0
              obtain ⟨vs, rfl, hr⟩ := q5.lst_inv
              exact .inl ⟨p, rfl, ⟨vs, .inl (.inl q1)⟩, h G1 H1 ρ1 _ (Itl X.K p) _ _ hR1 hS (fun b z y => by subst z; cases y.symm.trans q1) (walks_list hr) ⟨.inr ⟨q1, .inr (.inl ⟨j, .lst xs, ec, hv⟩)⟩, fun _ _ e => e, List.prefix_refl _⟩⟩
            | dct _ => exact h.elim
            | ins _ _ => exact h.elim
/-! ### ranges -/
def rngL (lo : Int) (n : Nat) : List MP.D := (List.range n).map fun (k : Nat) => MP.D.int (lo + (k : Int))
theorem walks_rng {lo : Int} {n : Nat} : Walks K cn (Itr lo n) (rngL lo n) NoA (fun _ => True) where
  keepA := fun _ _ _ => trivial
  go := fun {Z i x} hR _ e => by
    have hi : i < n := by
      have := (List.getElem?_eq_some_iff.mp e).1
      simpa [rngL] using this
    have ex : x = .int (lo + i) := by
      unfold rngL at e
      rw [List.getElem?_map, List.getElem?_range hi] at e
      exact (Option.some.inj e).symm
    subst ex
    refine ⟨hi, fun v H' y => ?_⟩
    obtain ⟨rfl, rfl⟩ := y
    exact ⟨Z.G, hR, .int, Step.refl⟩
  stop := fun {Z} _ _ => by
    show n ≤ (rngL lo n).length
    simp [rngL]
def rngOf (rs : List RV) : Mn (List MP.D × Hd) := fun sl st => match rs with
  | [.d (.int j)] => if -(2 ^ 62) ≤ j ∧ j < 2 ^ 62 then .ok (rngL 0 j.toNat, .none) sl st else .no
  | [.d (.int i), .d (.int j)] => if -(2 ^ 62) ≤ i ∧ i < 2 ^ 62 ∧ -(2 ^ 62) ≤ j ∧ j < 2 ^ 62 then .ok (rngL i (j - i).toNat, .none) sl st else .no
  | _ => .no
def mRng (m : Mn (List RV)) : Mn (List MP.D × Hd) := bnd m rngOf
theorem rng_core {m : Mn (List RV)} {σ : St} {H : Hp} {T : It → Hp → Prop} (q : TMi K cn W (mRng m) σ H T) : TMa K cn W m σ H fun vs H1 => (∃ j : Int, vs = [.int j] ∧ -(2 ^ 62) ≤ j ∧ j < 2 ^ 62 ∧ T (Itr 0 j.toNat) H1) ∨ ∃ i j : Int, vs = [.int i, .int j] ∧ (-(2 ^ 62) ≤ i ∧ i < 2 ^ 62 ∧ -(2 ^ 62) ≤ j ∧ j < 2 ^ 62) ∧ T (Itr i (j - i).toNat) H1 := by
  obtain ⟨G, ρ, sl, st, hR, h⟩ := q
  refine ⟨G, ρ, sl, st, hR, ?_⟩
  unfold mRng bnd at h
  cases e : m sl st with
  | no => rw [e] at h; exact h
  | exc C xs sl1 st1 => rw [e] at h; exact h
  | ok rs sl1 st1 =>
    rw [e] at h
    intro G1 H1 ρ1 vs hR1 hv hS
    have h : PostI K cn W ⟨G, H, ρ, σ, sl, st⟩ (rngOf rs sl1 st1) T := h
    unfold rngOf at h
    split at h
    · cases hv with
      | cons h1 t _ =>
        cases t
        cases (show Rep K cn G1 ρ1 (.int _) _ from h1)
        split at h
        · rename_i c
          exact .inl ⟨_, rfl, c.1, c.2, h G1 H1 ρ1 _ _ _ _ hR1 hS (fun _ z => z.elim) walks_rng trivial⟩
        · exact h.elim
    · cases hv with
      | cons h1 t _ =>
        cases t with
        | cons h2 t _ =>
          cases t
          cases (show Rep K cn G1 ρ1 (.int _) _ from h1)
          cases (show Rep K cn G1 ρ1 (.int _) _ from h2)
          split at h
          · rename_i c
            exact .inr ⟨_, _, rfl, c, h G1 H1 ρ1 _ _ _ _ hR1 hS (fun _ z => z.elim) walks_rng trivial⟩
          · exact h.elim
    · exact h.elim
theorem TMa.len1 {a : Mn RV} {σ : St} {H : Hp} {Q Q' : List V → Hp → Prop} (q : TMa K cn W (mCons a mNil) σ H Q) (h : ∀ v H1, Q [v] H1 → Q' [v] H1) : TMa K cn W (mCons a mNil) σ H Q' := by
  obtain ⟨G, ρ, sl, st, hR, q⟩ := q
  refine ⟨G, ρ, sl, st, hR, ?_⟩
  unfold mCons bnd at q ⊢
  cases e : a sl st with
  | no => rw [e] at q; exact q
  | exc C xs sl1 st1 => rw [e] at q; exact q
  | ok r sl1 st1 =>
    rw [e] at q
    intro G1 H1 ρ1 vs hR1 hv hS
    have z := q G1 H1 ρ1 vs hR1 hv hS
    cases hv with
    | cons h1 t _ => cases t; exact h _ _ z
theorem mi_range1 {tg a : Expr} {ma : Mn RV} {p pos : Pos} (hg : Gl X "range") (hm : X.mg "range" = none) (ha : PE X a (TM K cn W ma)) (hs : starEach [a] X.env = [(false, eval a X.env)] := by rfl) : PI X tg (.Call (.Name "range" p) [a] [] pos) (TMi K cn W (mRng (mCons ma mNil))) :=
  PI.imp (pi_range1 hg hm (ma_cons ha ma_nil (by rw [hs]; rfl)) hs) fun σ H T q => TMa.len1 (rng_core q) fun v H1 z => by
    rcases z with ⟨j, e, h⟩ | ⟨i, j, e, _⟩
    · exact ⟨j, e, h⟩
    · cases e
end
end MP

set_option Elab.async false
set_option linter.all false
set_option maxRecDepth 100000
set_option maxHeartbeats 4000000
/-! MP7: list comprehensions. -/
namespace MP
open PySem L2
open Evl (Ex)
def wipeS (sl : Sls) : List Nat → Sls
  | [] => sl
  | v :: vs => (wipeS sl vs).set v .u
/-- the slots vs as in sl0 -/
def backS (sl0 sl : Sls) : List Nat → Sls
  | [] => sl
  | v :: vs => match sl0[v]? with
    | some s => (backS sl0 sl vs).set v s
    | none => backS sl0 sl vs
def noLk (sl : Sls) : List Nat → Bool
  | [] => true
  | v :: vs => (match sl[v]? with
    | some (.lk _) => false
    | _ => true) && noLk sl vs
abbrev WF : WX := fun _ _ _ _ => False
def compL (t : Tgt) (tt : Mn Bool) (te : Mn RV) (vs : List Nat) : List D → List D → Mn (List D)
  | [], acc => unit acc
  | x :: xs, acc => fun sl st => match mTgt t x sl st with
    | .ok .nx sl1 st1 => match tt sl1 st1 with
      | .ok true sl2 st2 => match te sl2 st2 with
        | .ok r sl3 st3 => match esc r sl3 st3 with
          | .ok y sl4 st4 => if acc.length < 100000 ∧ noLk sl4 vs = true then compL t tt te vs xs (acc ++ [y]) (wipeS sl4 vs) st4 else .no
          | _ => .no
        | _ => .no
      | .ok false sl2 st2 => if noLk sl2 vs = true then compL t tt te vs xs acc (wipeS sl2 vs) st2 else .no
      | _ => .no
    | _ => .no
def mComp (vs : List Nat) (mi : Mn (List D × Hd)) (t : Tgt) (tt : Mn Bool) (te : Mn RV) : Mn RV := bnd mi fun p sl st =>
  if noLk (lockS p.2 sl) vs = true then
    match compL t tt te vs p.1 [] (wipeS (lockS p.2 sl) vs) (lockC p.2 st) with
    | .ok ys sl' st' => .ok (.f (.lst ys)) (unlS p.2 sl (backS (lockS p.2 sl) sl' vs)) (unlC p.2 st st')
    | _ => .no
  else .no
theorem wipeS_get (sl : Sls) : ∀ (vs : List Nat) (i : Nat) (s : Sl), (wipeS sl vs)[i]? = some s → (i ∈ vs ∧ s = .u) ∨ (i ∉ vs ∧ sl[i]? = some s)
  | [], i, s, h => .inr ⟨by simp, h⟩
  | v :: vs, i, s, h => by
    rcases get_set h with ⟨rfl, _, rfl⟩ | ⟨hi, h⟩
    · exact .inl ⟨by simp, rfl⟩
    · rcases wipeS_get sl vs i s h with ⟨h1, h2⟩ | ⟨h1, h2⟩
      · exact .inl ⟨List.mem_cons_of_mem _ h1, h2⟩
      · exact .inr ⟨by simp [hi, h1], h2⟩
theorem wipeS_out (sl : Sls) : ∀ (vs : List Nat) (i : Nat), i ∉ vs → (wipeS sl vs)[i]? = sl[i]?
  | [], i, h => rfl
  | v :: vs, i, h => by
    have h1 : i ≠ v := fun z => h (by simp [z])
    have h2 : i ∉ vs := fun z => h (List.mem_cons_of_mem _ z)
    show ((wipeS sl vs).set v .u)[i]? = _
    rw [List.getElem?_set_ne (Ne.symm h1)]
    exact wipeS_out sl vs i h2
theorem wipeS_length (sl : Sls) : ∀ vs : List Nat, (wipeS sl vs).length = sl.length
  | [] => rfl
  | v :: vs => by unfold wipeS; rw [List.length_set, wipeS_length sl vs]
theorem wipe_out (σ : St) : ∀ (vs : List Nat) (i : Nat), i ∉ vs → (wipe σ vs)[i]? = σ[i]?
  | [], i, h => rfl
  | v :: vs, i, h => by
    have h1 : i ≠ v := fun z => h (by simp [z])
    have h2 : i ∉ vs := fun z => h (List.mem_cons_of_mem _ z)
    show ((wipe σ vs).set v none)[i]? = _
    rw [List.getElem?_set_ne (Ne.symm h1)]
    exact wipe_out σ vs i h2
theorem backS_length (sl0 sl : Sls) : ∀ vs : List Nat, (backS sl0 sl vs).length = sl.length
  | [] => rfl
  | v :: vs => by
    unfold backS
    cases sl0[v]? with
    | none => exact backS_length sl0 sl vs
    | some s => show ((backS sl0 sl vs).set v s).length = _; rw [List.length_set, backS_length sl0 sl vs]
theorem backS_get (sl0 sl : Sls) (hl : sl0.length = sl.length) : ∀ (vs : List Nat) (i : Nat) (s : Sl), (backS sl0 sl vs)[i]? = some s → (i ∈ vs ∧ sl0[i]? = some s) ∨ (i ∉ vs ∧ sl[i]? = some s)
  | [], i, s, h => .inr ⟨by simp, h⟩
  | v :: vs, i, s, h => by
    unfold backS at h
    cases e : sl0[v]? with
    | none =>
      rw [e] at h
      rcases backS_get sl0 sl hl vs i s h with ⟨h1, h2⟩ | ⟨h1, h2⟩
      · exact .inl ⟨List.mem_cons_of_mem _ h1, h2⟩
      · have hi : i < sl.length := (List.getElem?_eq_some_iff.mp h2).1
        have c : i ≠ v := fun z => by subst z; rw [List.getElem?_eq_none_iff] at e; omega
        exact .inr ⟨by simp [c, h1], h2⟩
    | some t =>
      rw [e] at h
      rcases get_set (show ((backS sl0 sl vs).set v t)[i]? = some s from h) with ⟨rfl, _, rfl⟩ | ⟨hi, h⟩
      · exact .inl ⟨by simp, e⟩
      · rcases backS_get sl0 sl hl vs i s h with ⟨h1, h2⟩ | ⟨h1, h2⟩
        · exact .inl ⟨List.mem_cons_of_mem _ h1, h2⟩
        · exact .inr ⟨by simp [hi, h1], h2⟩
theorem backS_in (sl0 sl : Sls) (hl : sl0.length = sl.length) : ∀ (vs : List Nat) (i : Nat) (s : Sl), i ∈ vs → sl0[i]? = some s → (backS sl0 sl vs)[i]? = some s
  | v :: vs, i, s, h, e => by
    unfold backS
    by_cases c : i = v
    · subst c
      rw [e]
      show ((backS sl0 sl vs).set i s)[i]? = _
      refine List.getElem?_set_self ?_
      rw [backS_length, ← hl]
      exact (List.getElem?_eq_some_iff.mp e).1
    · have h1 : i ∈ vs := by
        rcases List.mem_cons.mp h with z | z
        · exact (c z).elim
        · exact z
      cases e2 : sl0[v]? with
      | none => exact backS_in sl0 sl hl vs i s h1 e
      | some t =>
        show ((backS sl0 sl vs).set v t)[i]? = _
        rw [List.getElem?_set_ne (Ne.symm c)]
        exact backS_in sl0 sl hl vs i s h1 e
theorem backS_out (sl0 sl : Sls) : ∀ (vs : List Nat) (i : Nat), i ∉ vs → (backS sl0 sl vs)[i]? = sl[i]?
  | [], i, h => rfl
  | v :: vs, i, h => by
    have h1 : i ≠ v := fun z => h (by simp [z])
    have h2 : i ∉ vs := fun z => h (List.mem_cons_of_mem _ z)
    unfold backS
    cases sl0[v]? with
    | none => exact backS_out sl0 sl vs i h2
    | some s =>
      show ((backS sl0 sl vs).set v s)[i]? = _
      rw [List.getElem?_set_ne (Ne.symm h1)]
      exact backS_out sl0 sl vs i h2
theorem noLk_out {sl : Sls} : ∀ {vs : List Nat} {i : Nat} {b : Ob}, noLk sl vs = true → sl[i]? = some (Sl.lk b) → i ∉ vs
  | [], i, b, _, _ => by simp
  | v :: vs, i, b, h, e => by
    unfold noLk at h
    rw [Bool.and_eq_true] at h
    have h2 := noLk_out (vs := vs) h.2 e
    have h1 : i ≠ v := fun z => by
      subst z
      rw [e] at h
      exact Bool.noConfusion h.1
    simp [h1, h2]
section
variable {K : PySem.W.Frag} {cn : String → Addr} {W : WX} {X : Cx} {Z : Zt} {A : Addr → Prop}
def Zt.wipe (Z : Zt) (vs : List Nat) : Zt := { Z with σ := L2.wipe Z.σ vs, sl := wipeS Z.sl vs }
theorem R.wipe (hR : R K cn Z) (vs : List Nat) : R K cn (Z.wipe vs) := by
  refine ⟨hR.ex, hR.len, hR.cells, hR.inj, ?_, fun i s h => ?_, fun i j s t b c a hij e1 e2 k1 k2 g1 g2 => ?_⟩
  · show (wipeS Z.sl vs).length = (L2.wipe Z.σ vs).length
    rw [wipeS_length, wipe_length]; exact hR.slen
  · rcases wipeS_get Z.sl vs i s h with ⟨_, rfl⟩ | ⟨hi, h⟩
    · trivial
    · have q := hR.slots i s h
      have e : (L2.wipe Z.σ vs)[i]? = Z.σ[i]? := wipe_out Z.σ vs i hi
      cases s with
      | u => trivial
      | d x =>
        obtain ⟨w, h1, h2⟩ := q
        exact ⟨w, e.trans h1, h2⟩
      | o b =>
        obtain ⟨p, o, h1, h2⟩ := q
        exact ⟨p, o, e.trans h1, h2⟩
      | lk b =>
        obtain ⟨p, o, h1, h2⟩ := q
        exact ⟨p, o, e.trans h1, h2⟩
  · rcases wipeS_get Z.sl vs i s e1 with ⟨_, rfl⟩ | ⟨hi, e1⟩
    · cases k1
    · rcases wipeS_get Z.sl vs j t e2 with ⟨_, rfl⟩ | ⟨hj, e2⟩
      · cases k2
      · have g1 : (L2.wipe Z.σ vs)[i]? = _ := g1
        have g2 : (L2.wipe Z.σ vs)[j]? = _ := g2
        rw [wipe_out Z.σ vs i hi] at g1
        rw [wipe_out Z.σ vs j hj] at g2
        exact hR.dist i j s t b c a hij e1 e2 k1 k2 g1 g2
theorem own_wipe {vs : List Nat} {a : Addr} (h : (Z.wipe vs).own a) : Z.own a := by
  obtain ⟨i, s, b, h1, h2, h3⟩ := Zt.own_iff.mp h
  rcases wipeS_get Z.sl vs i s h1 with ⟨_, rfl⟩ | ⟨hi, h1⟩
  · cases h2
  · have h3 : (L2.wipe Z.σ vs)[i]? = _ := h3
    rw [wipe_out Z.σ vs i hi] at h3
    exact Zt.own_of h1 h2 h3
theorem Step.wipe {vs : List Nat} (hn : noLk Z.sl vs = true) : Step Z A (Z.wipe vs) A :=
  Step.mk' (fun _ _ e => e) (List.prefix_refl _) (fun a o e g r n m => ⟨e, g, r, fun z => n (own_wipe z), m⟩) (fun i b e => by
    have hi := noLk_out hn e
    exact ⟨(wipeS_out Z.sl vs i hi).trans e, wipe_out Z.σ vs i hi⟩) (fun _ _ e => e) (fun _ _ e => e)
/-- behind the block: its own names' slots are as they were -/
theorem R.back (hR : R K cn Z) {vs : List Nat} {G H : Hp} {ρ : List Addr} {sl : Sls} {st : Sto} {A' : Addr → Prop} (hR1 : R K cn ⟨G, H, ρ, L2.wipe Z.σ vs, sl, st⟩) (s : Step (Z.wipe vs) NoA ⟨G, H, ρ, L2.wipe Z.σ vs, sl, st⟩ A') (hs : ∀ i ∈ vs, ∀ s, sl[i]? = some s → s = Sl.u) :
    R K cn ⟨G, H, ρ, Z.σ, backS Z.sl sl vs, st⟩ ∧ Step Z NoA ⟨G, H, ρ, Z.σ, backS Z.sl sl vs, st⟩ A' ∧ ∀ a, A' a → ¬ Zt.own ⟨G, H, ρ, L2.wipe Z.σ vs, sl, st⟩ a → ¬ Zt.own ⟨G, H, ρ, Z.σ, backS Z.sl sl vs, st⟩ a := by
  have hl : Z.sl.length = sl.length := by
    have h1 := hR1.slen
    have h1 : sl.length = (L2.wipe Z.σ vs).length := h1
    rw [h1, wipe_length]; exact hR.slen
  -- an own object of a slot in vs is protected meanwhile
  have prot : ∀ (i : Nat) (t : Sl) (b : Ob), i ∈ vs → Z.sl[i]? = some t → t.ob = some b → ∀ p o, Z.σ[i]? = some (some (V.ref p)) → Z.H p = some o → Z.G p = none → p ∉ Z.ρ → H p = some o ∧ G p = none ∧ p ∉ ρ ∧ ¬ Zt.own ⟨G, H, ρ, L2.wipe Z.σ vs, sl, st⟩ p ∧ ¬ A' p := fun i t b hi h1 h2 p o e0 e1 e2 e3 => by
    refine s.keep p o e1 e2 e3 (fun z => ?_) (fun z => z)
    obtain ⟨j, u, c, q1, q2, q3⟩ := Zt.own_iff.mp z
    rcases wipeS_get Z.sl vs j u q1 with ⟨_, rfl⟩ | ⟨hj, q1⟩
    · cases q2
    · have q3 : (L2.wipe Z.σ vs)[j]? = _ := q3
      rw [wipe_out Z.σ vs j hj] at q3
      exact hR.dist i j t u b c p (fun z => hj (z ▸ hi)) h1 q1 h2 q2 e0 q3
  refine ⟨⟨hR1.ex, hR1.len, hR1.cells, hR1.inj, ?_, fun i t h => ?_, fun i j t u b c a hij e1 e2 k1 k2 g1 g2 => ?_⟩, ⟨s.g, s.r, fun a o e g r n m => ?_, fun i b a o h1 h2 h3 => ?_, fun i b a o h1 h2 h3 => s.lkC i b a o h1 h2 h3⟩, fun a ha hn z => ?_⟩
  · show (backS Z.sl sl vs).length = Z.σ.length
    rw [backS_length, ← hl]; exact hR.slen
  · rcases backS_get Z.sl sl hl vs i t h with ⟨hi, h⟩ | ⟨hi, h⟩
    · refine SlOk.mono (Z := { Z with sl := backS Z.sl sl vs, st := st }) (G' := G) (H' := H) (ρ' := ρ) (by have q := hR.slots i t h; cases t <;> exact q) s.g s.r fun b p o hb e0 e1 e2 e3 => ?_
      obtain ⟨k1, k2, k3, _⟩ := prot i t b hi h hb p o e0 e1 e2 e3
      exact ⟨k1, k2, k3⟩
    · have q := hR1.slots i t h
      have e : (L2.wipe Z.σ vs)[i]? = Z.σ[i]? := wipe_out Z.σ vs i hi
      cases t with
      | u => trivial
      | d x =>
        obtain ⟨w, h1, h2⟩ := q
        exact ⟨w, e.symm.trans h1, h2⟩
      | o b =>
        obtain ⟨p, o, h1, h2⟩ := q
        exact ⟨p, o, e.symm.trans h1, h2⟩
      | lk b =>
        obtain ⟨p, o, h1, h2⟩ := q
        exact ⟨p, o, e.symm.trans h1, h2⟩
  · have cross : ∀ {i j : Nat} {t u : Sl} {b c : Ob}, i ∈ vs → j ∉ vs → Z.sl[i]? = some t → sl[j]? = some u → t.ob = some b → u.ob = some c → Z.σ[i]? = some (some (V.ref a)) → Z.σ[j]? = some (some (V.ref a)) → False := fun {i j t u b c} hi hj h1 h2 hb hc g1 g2 => by
      obtain ⟨p, o, q1, q2, q3, q4, _⟩ := hR.slot_own h1 hb
      rw [g1] at q1; cases q1
      obtain ⟨_, _, _, k4, _⟩ := prot i t b hi h1 hb _ o g1 q2 q3 q4
      exact k4 (Zt.own_of (Z := ⟨G, H, ρ, L2.wipe Z.σ vs, sl, st⟩) h2 hc ((wipe_out Z.σ vs j hj).trans g2))
    rcases backS_get Z.sl sl hl vs i t e1 with ⟨hi, h1⟩ | ⟨hi, h1⟩
    · rcases backS_get Z.sl sl hl vs j u e2 with ⟨hj, h2⟩ | ⟨hj, h2⟩
      · exact hR.dist i j t u b c a hij h1 h2 k1 k2 g1 g2
      · exact cross hi hj h1 h2 k1 k2 g1 g2
    · rcases backS_get Z.sl sl hl vs j u e2 with ⟨hj, h2⟩ | ⟨hj, h2⟩
      · exact cross hj hi h2 h1 k2 k1 g2 g1
      · exact hR1.dist i j t u b c a hij h1 h2 k1 k2 ((wipe_out Z.σ vs i hi).trans g1) ((wipe_out Z.σ vs j hj).trans g2)
  · obtain ⟨k1, k2, k3, k4, k5⟩ := s.keep a o e g r (fun z => n (own_wipe z)) m
    refine ⟨k1, k2, k3, fun z => ?_, k5⟩
    obtain ⟨i, t, b, q1, q2, q3⟩ := Zt.own_iff.mp z
    rcases backS_get Z.sl sl hl vs i t q1 with ⟨hi, h1⟩ | ⟨hi, h1⟩
    · exact n (Zt.own_of h1 q2 q3)
    · exact k4 (Zt.own_of (Z := ⟨G, H, ρ, L2.wipe Z.σ vs, sl, st⟩) h1 q2 ((wipe_out Z.σ vs i hi).trans q3))
  · by_cases hi : i ∈ vs
    · obtain ⟨p, u, q1, q2, q3, q4, _⟩ := hR.slot_own h1 rfl
      rw [h2] at q1; cases q1
      rw [h3] at q2; cases q2
      obtain ⟨k1, _⟩ := prot i _ b hi h1 rfl a o h2 h3 q3 q4
      exact ⟨⟨_, k1, .inl rfl⟩, ⟨b, backS_in Z.sl sl hl vs i _ hi h1⟩, h2⟩
    · obtain ⟨k1, ⟨b', k2⟩, _⟩ := s.lkS i b a o ((wipeS_out Z.sl vs i hi).trans h1) ((wipe_out Z.σ vs i hi).trans h2) h3
      exact ⟨k1, ⟨b', (backS_out Z.sl sl vs i hi).trans k2⟩, h2⟩
  · obtain ⟨i, t, b, q1, q2, q3⟩ := Zt.own_iff.mp z
    rcases backS_get Z.sl sl hl vs i t q1 with ⟨hi, h1⟩ | ⟨hi, h1⟩
    · obtain ⟨p, o, e1, e2, e3, e4, _⟩ := hR.slot_own h1 q2
      rw [q3] at e1; cases e1
      exact (prot i t b hi h1 q2 _ o q3 e2 e3 e4).2.2.2.2 ha
    · exact hn (Zt.own_of (Z := ⟨G, H, ρ, L2.wipe Z.σ vs, sl, st⟩) h1 q2 ((wipe_out Z.σ vs i hi).trans q3))
/-- the new list in hand is written -/
theorem R.hand (hR : R K cn Z) {p : Addr} {o u : HO} (h : Z.H p = some o) (hg : Z.G p = none) (hr : p ∉ Z.ρ) (hn : ¬ Z.own p) : R K cn { Z with H := upd Z.H p u } := by
  refine ⟨ex_mut hR.ex hg, hR.len, fun i c a h1 h2 => ?_, hR.inj, hR.slen, fun i s hs => ?_, hR.dist⟩
  · obtain ⟨w, e1, e2, e3⟩ := hR.cells i c a h1 h2
    have hap : a ≠ p := fun z => hr (z ▸ List.mem_of_getElem? h2)
    exact ⟨w, by show upd Z.H p u a = _; rw [upd_ne hap]; exact e1, e2, e3⟩
  · refine SlOk.mono (hR.slots i s hs) (fun _ _ e => e) (List.prefix_refl _) fun b q w hb e0 e1 e2 e3 => ⟨?_, e2, e3⟩
    have hqp : q ≠ p := fun z => hn (z ▸ Zt.own_of hs hb e0)
    rw [upd_ne hqp]; exact e1
theorem Step.hand (hR : R K cn Z) {p : Addr} {u : HO} (hr : p ∉ Z.ρ) (hn : ¬ Z.own p) : Step Z (· = p) { Z with H := upd Z.H p u } (· = p) := by
  refine ⟨fun _ _ e => e, List.prefix_refl _, fun a o e g r n m => ⟨by show upd Z.H p u a = _; rw [upd_ne m]; exact e, g, r, n, m⟩, fun i b a o h1 h2 h3 => ⟨⟨o, ?_, .inl rfl⟩, ⟨b, h1⟩, h2⟩, fun i b a o h1 h2 h3 => ⟨?_, b, h1⟩⟩
  · show upd Z.H p u a = _
    rw [upd_ne (fun z => hn (by rw [← z]; exact Zt.own_of h1 rfl h2))]; exact h3
  · show upd Z.H p u a = _
    rw [upd_ne (fun z => hr (by rw [← z]; exact List.mem_of_getElem? h2))]; exact h3
theorem wipeS_u (sl : Sls) (vs : List Nat) : ∀ i ∈ vs, ∀ s, (wipeS sl vs)[i]? = some s → s = Sl.u := fun i hi s h => by
  rcases wipeS_get sl vs i s h with ⟨_, e⟩ | ⟨n, _⟩
  · exact e
  · exact (n hi).elim
theorem wipe_wipe {σ σ2 : St} {vs : List Nat} (h : L2.wipe σ2 vs = L2.wipe σ vs) : L2.wipe (L2.wipe σ vs) vs = L2.wipe σ vs := by
  have idem : ∀ (σ : St) (vs us : List Nat), (∀ v ∈ vs, v ∈ us) → L2.wipe (L2.wipe σ us) vs = L2.wipe σ us := by
    intro σ vs us
    induction vs with
    | nil => intro _; rfl
    | cons v vs ih =>
      intro hv
      show (L2.wipe (L2.wipe σ us) vs).set v none = _
      rw [ih fun w hw => hv w (List.mem_cons_of_mem _ hw)]
      apply List.ext_getElem?
      intro i
      by_cases c : i = v
      · subst c
        have hm := hv i List.mem_cons_self
        cases e : (L2.wipe σ us)[i]? with
        | none =>
          rw [List.getElem?_eq_none_iff] at e ⊢
          simpa using e
        | some x =>
          have hl : i < (L2.wipe σ us).length := (List.getElem?_eq_some_iff.mp e).1
          rw [List.getElem?_set_self hl]
          cases x with
          | none => rfl
          | some w =>
            have := (wipe_some e).2
            exact (this hm).elim
      · rw [List.getElem?_set_ne (Ne.symm c)]
  exact idem σ vs vs fun _ h => h
end
end MP

set_option Elab.async false
set_option linter.all false
set_option maxRecDepth 100000
set_option maxHeartbeats 4000000
/-! MP8: operators, subscripts, builtins over data. -/
namespace MP
open PySem PySem.Spec PyProof.Rows L2
open Evl (Ex)
section
variable {X : Cx}
def rCatS (K : PySem.W.Frag) : R2 := fun x y H Q => ∃ l b xs zs, x = .ref l ∧ y = .ref b ∧ SqL K H l xs ∧ SqL K H b zs ∧ xs.length + zs.length ≤ sizeLine ∧ ∀ p, H p = none → Q (.ref p) (upd H p (.lst (xs ++ zs)))
theorem op_catS : OpR X (binaryOp .Add) (rCatS X.K) := by
  intro pins s σ H x y v u Q I rx ry h
  obtain ⟨l, b, xs, zs, rfl, rfl, hH, hB, hz, q⟩ := h
  cases rx
  cases ry
  obtain ⟨its, r, hl, e⟩ := I.list hH
  obtain ⟨its2, r2, hl2, e2⟩ := I.list hB
  obtain ⟨o, n, g1, g2, g3, g4⟩ := hl
  obtain ⟨o2, n2, k1, k2, k3, k4⟩ := hl2
  obtain ⟨oc, od, oda, osl⟩ := o
  obtain ⟨oc2, od2, oda2, osl2⟩ := o2
  dsimp only at g2 g3 g4 k2 k3 k4
  subst g2 g3 g4 k2 k3 k4
  have l1 := r.length
  have l2 := r2.length
  refine concat_meets (T := "list") ⟨_, g1, rfl⟩ ⟨_, k1, rfl⟩ noFill_list_add seq_list_add F.slot_list_add F.entry_list_add (F.args_list_add_2 _ _) (list_addW l b its.toArray its2.toArray n n2 none none osl osl2 (by rw [List.size_toArray, List.size_toArray]; omega)) ⟨g1, k1, ?_⟩
  have ea : its.toArray ++ its2.toArray = (its ++ its2).toArray := by simp
  rw [ea]
  exact ⟨.ref _, _, I.lnew (t' := s.toks) (r.append r2) (by rw [List.length_append]; omega), rfl, q _ I.fresh⟩

def rDEq (K : PySem.W.Frag) (neg : Bool) : R2 := fun x y H Q => ∃ d e, Dp K H x d ∧ Dp K H y e ∧ d.plain = true ∧ e.plain = true ∧ min d.depth e.depth ≤ 64 ∧ Q (.bl (if neg = true then !PyData.eqv d e else PyData.eqv d e)) H
theorem op_deq (hu : X.A.units + 64 < cLine) : OpR X (compareOp .Eq) (rDEq X.K false) := by
  intro pins s σ H x y v u Q I rx ry h
  obtain ⟨d, e, hd, he, sd, se, hm, q⟩ := h
  obtain ⟨as, r1⟩ := Dp.reads I d x v hd rx
  obtain ⟨bs, r2⟩ := Dp.reads I e y u he ry
  exact SeqAt.eq_plain r1 r2 sd se (by omega) ⟨.bl _, H, I, rfl, q⟩
theorem op_dne (hu : X.A.units + 64 < cLine) : OpR X (compareOp .NotEq) (rDEq X.K true) := by
  intro pins s σ H x y v u Q I rx ry h
  obtain ⟨d, e, hd, he, sd, se, hm, q⟩ := h
  obtain ⟨as, r1⟩ := Dp.reads I d x v hd rx
  obtain ⟨bs, r2⟩ := Dp.reads I e y u he ry
  exact SeqAt.ne_plain r1 r2 sd se (by omega) ⟨.bl _, H, I, rfl, q⟩
/-- membership in a list or tuple of data -/
def rDIn (K : PySem.W.Frag) (neg : Bool) : R2 := fun x y H Q => ∃ d ds, Dp K H x d ∧ (Dp K H y (.list ds) ∨ Dp K H y (.tuple ds)) ∧ d.plain = true ∧ PyData.plainAll ds = true ∧ min (PyData.depthAll ds) d.depth ≤ 60 ∧ Q (.bl (if neg = true then !ds.any (fun z => PyData.eqv z d) else ds.any fun z => PyData.eqv z d)) H
theorem op_din (hu : X.A.units + 64 < cLine) : OpR X (compareOp .In) (rDIn X.K false) := by
  intro pins s σ H x y v u Q I rx ry h
  obtain ⟨d, ds, hd, he, sd, se, hm, q⟩ := h
  obtain ⟨as, r1⟩ := Dp.reads I d x v hd rx
  rcases he with he | he
  · obtain ⟨bs, r2⟩ := Dp.reads I _ y u he ry
    exact SeqAt.in_list_data r2 r1 se sd (by omega) ⟨.bl _, H, I, rfl, q⟩
  · obtain ⟨bs, r2⟩ := Dp.reads I _ y u he ry
    exact SeqAt.in_tuple_data r2 r1 se sd (by omega) ⟨.bl _, H, I, rfl, q⟩
theorem op_dnin (hu : X.A.units + 64 < cLine) : OpR X (compareOp .NotIn) (rDIn X.K true) := by
  intro pins s σ H x y v u Q I rx ry h
  obtain ⟨d, ds, hd, he, sd, se, hm, q⟩ := h
  obtain ⟨as, r1⟩ := Dp.reads I d x v hd rx
  rcases he with he | he
  · obtain ⟨bs, r2⟩ := Dp.reads I _ y u he ry
    exact SeqAt.notIn_list_data r2 r1 se sd (by omega) ⟨.bl _, H, I, rfl, q⟩
  · obtain ⟨bs, r2⟩ := Dp.reads I _ y u he ry
    exact SeqAt.notIn_tuple_data r2 r1 se sd (by omega) ⟨.bl _, H, I, rfl, q⟩
end
/-! ### data as PyData -/
mutual
def dat : D → Option PyData
  | .non => some .none
  | .bl b => some (.bool b)
  | .int i => some (.int i)
  | .str s => some (.str s)
  | .tup xs => match dats xs with
    | some ds => some (.tuple ds)
    | none => none
  | .lst xs => match dats xs with
    | some ds => some (.list ds)
    | none => none
  | _ => none
def dats : List D → Option (List PyData)
  | [] => some []
  | x :: xs => match dat x, dats xs with
    | some d, some ds => some (d :: ds)
    | _, _ => none
end
section
variable {K : PySem.W.Frag} {cn : String → Addr} {Z : Zt}
mutual
theorem dat_plain : ∀ {x : D} {d : PyData}, dat x = some d → d.plain = true
  | .non, _, h => by cases h; rfl
  | .bl b, _, h => by cases h; rfl
  | .int i, _, h => by cases h; rfl
  | .str s, _, h => by cases h; rfl
  | .tup xs, _, h => by
    unfold dat at h
    cases e : dats xs with
    | none => rw [e] at h; cases h
    | some ds => rw [e] at h; cases h; exact dats_plain e
  | .lst xs, _, h => by
    unfold dat at h
    cases e : dats xs with
    | none => rw [e] at h; cases h
    | some ds => rw [e] at h; cases h; exact dats_plain e
  | .ty n, _, h => by cases h
  | .gl n, _, h => by cases h
  | .dct n, _, h => by cases h
  | .obj C n, _, h => by cases h
  | .cell n, _, h => by cases h
  | .exn _ _ _, _, h => by cases h
theorem dats_plain : ∀ {x : List D} {d : List PyData}, dats x = some d → PyData.plainAll d = true
  | [], _, h => by cases h; rfl
  | x :: xs, _, h => by
    unfold dats at h
    cases e : dat x with
    | none => rw [e] at h; cases h
    | some d =>
      cases e2 : dats xs with
      | none => rw [e, e2] at h; cases h
      | some ds =>
        rw [e, e2] at h; cases h
        simp only [PyData.plainAll, dat_plain e, dats_plain e2, Bool.and_self]
end
mutual
theorem dat_dp {H G : Hp} {ρ : List Addr} (hE : Ex G H) : ∀ {x : D} {d : PyData} {v : V}, Rep K cn G ρ x v → dat x = some d → Dp K H v d
  | _, _, _, .non, h => by cases h; exact .non
  | _, _, _, .bl, h => by cases h; exact .bl _
  | _, _, _, .int, h => by cases h; exact .int _
  | _, _, _, .str, h => by cases h; exact .str _
  | _, _, _, .tup (xs := xs) q r, h => by
    unfold dat at h
    cases e : dats xs with
    | none => rw [e] at h; cases h
    | some ds => rw [e] at h; cases h; exact .tup (Evl.ex_t hE q) (dats_dp hE r e)
  | _, _, _, .lst (xs := xs) q r, h => by
    unfold dat at h
    cases e : dats xs with
    | none => rw [e] at h; cases h
    | some ds => rw [e] at h; cases h; exact .lst (Evl.ex_l hE q) (dats_dp hE r e)
  | _, _, _, .ty, h => by cases h
  | _, _, _, .gl, h => by cases h
  | _, _, _, .dct _ _, h => by cases h
  | _, _, _, .obj _ _, h => by cases h
  | _, _, _, .cell _, h => by cases h
  | _, _, _, .exn _ _, h => by cases h
theorem dats_dp {H G : Hp} {ρ : List Addr} (hE : Ex G H) : ∀ {x : List D} {d : List PyData} {v : List V}, Reps K cn G ρ x v → dats x = some d → DpAll K H v d
  | _, _, _, .nil, h => by cases h; exact .nil
  | _, _, _, .cons (x := x) (xs := xs) q r, h => by
    unfold dats at h
    cases e : dat x with
    | none => rw [e] at h; cases h
    | some d =>
      cases e2 : dats xs with
      | none => rw [e, e2] at h; cases h
      | some ds =>
        rw [e, e2] at h; cases h
        exact .cons (dat_dp hE q e) (dats_dp hE r e2)
end
theorem RepH.dp (hR : R K cn Z) {x : D} {d : PyData} {v : V} (h : RepH K cn Z x v) (e : dat x = some d) : Dp K Z.H v d := by
  cases x with
  | lst xs =>
    obtain ⟨a, vs, rfl, q, r⟩ := h
    unfold dat at e
    cases e2 : dats xs with
    | none => rw [e2] at e; cases e
    | some ds => rw [e2] at e; cases e; exact .lst q (dats_dp hR.ex r e2)
  | tup xs =>
    exact dat_dp hR.ex (show Rep K cn Z.G Z.ρ (.tup xs) v from h) e
  | dct xs => cases e
  | obj C xs => cases e
  | cell i => cases e
  | exn a dd xs => cases e
  | non => exact dat_dp hR.ex (show Rep K cn Z.G Z.ρ .non v from h) e
  | bl b => exact dat_dp hR.ex (show Rep K cn Z.G Z.ρ (.bl b) v from h) e
  | int b => exact dat_dp hR.ex (show Rep K cn Z.G Z.ρ (.int b) v from h) e
  | str b => exact dat_dp hR.ex (show Rep K cn Z.G Z.ρ (.str b) v from h) e
  | ty b => cases e
  | gl b => cases e
end
/-! ### operators by what stands there -/
def gAdd : List D → PR
  | [.int i, .int j] => .d (.int (i + j))
  | [.str a, .str b] => if a.length + b.length ≤ sizeLine then .d (.str (a ++ b)) else .no
  | [.lst xs, .lst ys] => if xs.length + ys.length ≤ sizeLine then .f (.lst (xs ++ ys)) else .no
  | [.tup xs, .tup ys] => if xs.length + ys.length ≤ sizeLine then .t (xs ++ ys) else .no
  | _ => .no
def gDEq (neg : Bool) : List D → PR
  | [x, y] => match dat x, dat y with
    | some d, some e => if min d.depth e.depth ≤ 64 then .d (.bl (if neg = true then !PyData.eqv d e else PyData.eqv d e)) else .no
    | _, _ => .no
  | _ => .no
def inStr (i j : Str) : Bool := !(Builtin.Str.occurrences j i 0 j.length 1).isEmpty
def gDIn (neg : Bool) : List D → PR
  | [x, .lst ys] => match dat x, dats ys with
    | some d, some ds => if min (PyData.depthAll ds) d.depth ≤ 60 then .d (.bl (if neg = true then !ds.any (fun z => PyData.eqv z d) else ds.any fun z => PyData.eqv z d)) else .no
    | _, _ => .no
  | [x, .tup ys] => match dat x, dats ys with
    | some d, some ds => if min (PyData.depthAll ds) d.depth ≤ 60 then .d (.bl (if neg = true then !ds.any (fun z => PyData.eqv z d) else ds.any fun z => PyData.eqv z d)) else .no
    | _, _ => .no
  | [.str i, .str j] => .d (.bl (if neg = true then !inStr i j else inStr i j))
  | _ => .no
def gIsN (neg : Bool) : List D → PR
  | [.non, .non] => .d (.bl (!neg))
  | [_, .non] => .d (.bl neg)
  | _ => .no
def gIx : List D → PR
  | [.lst xs, .int i] => match atI xs i with
    | some x => .d x
    | none => .no
  | [.tup xs, .int i] => match atI xs i with
    | some x => .d x
    | none => .no
  | [.str z, .int i] => if z.length ≤ sizeLine then match atI z.cps.toList i with
    | some c => .d (.str ⟨#[c]⟩)
    | none => .no else .no
  | _ => .no
section
variable {K : PySem.W.Frag} {cn : String → Addr} {Z : Zt}
theorem ok_addU : POk K cn (r2l (fun x y H Q => rI0 (fun i j => .int (i + j)) x y H Q ∨ (∃ i j : Str, x = .str i ∧ y = .str j ∧ i.length + j.length ≤ sizeLine ∧ Q (.str (i ++ j)) H) ∨ rCatS K x y H Q ∨ rCatA K x y H Q)) gAdd := by
  intro Z xs vs Q hR hv hq
  unfold gAdd at hq
  split at hq
  · obtain ⟨v, w, rfl, h1, h2⟩ := hv.two
    cases h1.int
    cases h2.int
    exact ⟨_, _, rfl, .inl ⟨_, _, rfl, rfl, hq _ .int⟩⟩
  · obtain ⟨v, w, rfl, h1, h2⟩ := hv.two
    cases h1.str
    cases h2.str
    split at hq
    · rename_i hl
      exact ⟨_, _, rfl, .inr (.inl ⟨_, _, rfl, rfl, hl, hq _ .str⟩)⟩
    · exact hq.elim
  · obtain ⟨v, w, rfl, ⟨a, us, rfl, q1, r1⟩, ⟨b, ws, rfl, q2, r2⟩⟩ := hv.two
    split at hq
    · rename_i hl
      refine ⟨_, _, rfl, .inr (.inr (.inl ⟨_, _, us, ws, rfl, rfl, q1, q2, ?_, fun p hp => hq p _ hp (.lst (r1.append r2))⟩))⟩
      rw [← r1.length, ← r2.length]
      exact hl
    · exact hq.elim
  · obtain ⟨v, w, rfl, h1, h2⟩ := hv.two
    obtain ⟨a, us, rfl, q1, r1, k1⟩ := h1.tup hR
    obtain ⟨b, ws, rfl, q2, r2, k2⟩ := h2.tup hR
    split at hq
    · rename_i xs ys hl
      have e1 := r1.length
      have e2 := r2.length
      refine ⟨_, _, rfl, .inr (.inr (.inr ⟨_, _, us, ws, rfl, rfl, q1, q2, by omega, fun z => ?_, fun z1 z2 => ?_, fun _ _ p hp => hq.2 p _ hp (r1.append r2)⟩))⟩
      · subst z
        cases r1
        exact hq.1 _ k2
      · subst z2
        cases r2
        rw [List.append_nil] at hq
        exact hq.1 _ k1
    · exact hq.elim
  · exact hq.elim
end
end MP

set_option Elab.async false
set_option linter.all false
set_option maxRecDepth 100000
set_option maxHeartbeats 4000000
/-! MP9: comparisons of data, subscripts, slices, builtins. -/
namespace MP
open PySem PySem.Spec PyProof.Rows L2
open Evl (Ex)
section
variable {K : PySem.W.Frag} {cn : String → Addr} {Z : Zt}
theorem ok_deq {neg : Bool} : POk K cn (r2l (rDEq K neg)) (gDEq neg) := by
  intro Z xs vs Q hR hv hq
  unfold gDEq at hq
  split at hq
  · rename_i x y
    obtain ⟨v, w, rfl, h1, h2⟩ := hv.two
    split at hq
    · rename_i d e h3 h4
      split at hq
      · rename_i h5
        exact ⟨_, _, rfl, d, e, h1.dp hR h3, h2.dp hR h4, dat_plain h3, dat_plain h4, h5, hq _ .bl⟩
      · exact hq.elim
    · exact hq.elim
  · exact hq.elim
def rInU (K : PySem.W.Frag) (neg : Bool) : R2 := fun x y H Q => rDIn K neg x y H Q ∨ (∃ i j : Str, x = .str i ∧ y = .str j ∧ Q (.bl (if neg = true then !inStr i j else inStr i j)) H)
theorem ok_din {neg : Bool} : POk K cn (r2l (rInU K neg)) (gDIn neg) := by
  intro Z xs vs Q hR hv hq
  unfold gDIn at hq
  split at hq
  · obtain ⟨v, w, rfl, h1, h2⟩ := hv.two
    split at hq
    · rename_i ys d ds h3 h4
      split at hq
      · rename_i h5
        refine ⟨_, _, rfl, .inl ⟨d, ds, h1.dp hR h3, .inl (h2.dp hR (by unfold dat; rw [h4])), dat_plain h3, dats_plain h4, h5, hq _ .bl⟩⟩
      · exact hq.elim
    · exact hq.elim
  · obtain ⟨v, w, rfl, h1, h2⟩ := hv.two
    split at hq
    · rename_i ys d ds h3 h4
      split at hq
      · rename_i h5
        refine ⟨_, _, rfl, .inl ⟨d, ds, h1.dp hR h3, .inr (h2.dp hR (by unfold dat; rw [h4])), dat_plain h3, dats_plain h4, h5, hq _ .bl⟩⟩
      · exact hq.elim
    · exact hq.elim
  · obtain ⟨v, w, rfl, h1, h2⟩ := hv.two
    cases h1.str
    cases h2.str
    exact ⟨_, _, rfl, .inr ⟨_, _, rfl, rfl, hq _ .bl⟩⟩
  · exact hq.elim
def rIsN' (neg : Bool) : R2 := fun x y H Q => y = .non ∧ Q (.bl (if neg = true then !decide (x = .non) else decide (x = .non))) H
theorem Rep.ne_non {G : Hp} {ρ : List Addr} {x : D} {v : V} (h : Rep K cn G ρ x v) (n : x ≠ .non) : v ≠ .non := by
  cases h with
  | non => exact (n rfl).elim
  | _ => exact fun z => nomatch z
theorem RepH.ne_non {x : D} {v : V} (h : RepH K cn Z x v) (n : x ≠ .non) : v ≠ .non := by
  cases x with
  | lst xs => obtain ⟨a, vs, rfl, _⟩ := h; exact fun z => nomatch z
  | dct xs => obtain ⟨a, vs, rfl, _⟩ := h; exact fun z => nomatch z
  | obj C xs => obtain ⟨a, _, vs, rfl, _⟩ := h; exact fun z => nomatch z
  | cell i => exact False.elim h
  | exn a dd xs => exact Rep.ne_non (show Rep K cn Z.G Z.ρ (.exn a dd xs) v from h) n
  | non => exact (n rfl).elim
  | tup xs => exact Rep.ne_non (show Rep K cn Z.G Z.ρ (.tup xs) v from h) n
  | bl b => exact Rep.ne_non (show Rep K cn Z.G Z.ρ (.bl b) v from h) n
  | int b => exact Rep.ne_non (show Rep K cn Z.G Z.ρ (.int b) v from h) n
  | str b => exact Rep.ne_non (show Rep K cn Z.G Z.ρ (.str b) v from h) n
  | ty b => exact Rep.ne_non (show Rep K cn Z.G Z.ρ (.ty b) v from h) n
  | gl b => exact Rep.ne_non (show Rep K cn Z.G Z.ρ (.gl b) v from h) n
theorem ok_isN {neg : Bool} : POk K cn (r2l (rIsN' neg)) (gIsN neg) := by
  intro Z xs vs Q hR hv hq
  unfold gIsN at hq
  split at hq
  · obtain ⟨v, w, rfl, h1, h2⟩ := hv.two
    cases h1.non
    cases h2.non
    have := hq _ .bl
    cases neg <;> exact ⟨_, _, rfl, rfl, by simpa using this⟩
  · rename_i x hx
    obtain ⟨v, w, rfl, h1, h2⟩ := hv.two
    cases h2.non
    have n : v ≠ .non := h1.ne_non (fun z => hx z)
    have := hq _ .bl
    cases neg <;> exact ⟨_, _, rfl, rfl, by simpa [n] using this⟩
  · exact hq.elim
theorem atI_rep {G : Hp} {ρ : List Addr} {xs : List D} {vs : List V} {i : Int} {x : D} (h : Reps K cn G ρ xs vs) (e : atI xs i = some x) : ∃ v, atI vs i = some v ∧ Rep K cn G ρ x v := by
  unfold atI at e ⊢
  rw [← h.length]
  cases c : ixN xs.length i with
  | none => rw [c] at e; cases e
  | some j => rw [c] at e; exact h.get e
theorem ok_ix : POk K cn (r2l (rIx K)) gIx := by
  intro Z xs vs Q hR hv hq
  unfold gIx at hq
  split at hq
  · obtain ⟨v, w, rfl, ⟨a, us, rfl, q1, r1⟩, h2⟩ := hv.two
    cases h2.int
    split at hq
    · rename_i x e
      obtain ⟨u, e2, r2⟩ := atI_rep r1 e
      exact ⟨_, _, rfl, .inl ⟨a, us, _, u, rfl, rfl, q1, e2, hq _ r2⟩⟩
    · exact hq.elim
  · obtain ⟨v, w, rfl, h1, h2⟩ := hv.two
    obtain ⟨a, us, rfl, q1, r1, _⟩ := h1.tup hR
    cases h2.int
    split at hq
    · rename_i x e
      obtain ⟨u, e2, r2⟩ := atI_rep r1 e
      exact ⟨_, _, rfl, .inr (.inl ⟨a, us, _, u, rfl, rfl, q1, e2, hq _ r2⟩)⟩
    · exact hq.elim
  · obtain ⟨v, w, rfl, h1, h2⟩ := hv.two
    cases h1.str
    cases h2.int
    split at hq
    · rename_i hl
      split at hq
      · rename_i c e
        exact ⟨_, _, rfl, .inr (.inr ⟨_, _, c, rfl, rfl, hl, e, hq _ .str⟩)⟩
      · exact hq.elim
    · exact hq.elim
  · exact hq.elim
/-! ### builtins of one argument -/
def gLen : List D → PR
  | [.lst xs] => .d (.int xs.length)
  | [.tup xs] => .d (.int xs.length)
  | [.str z] => if z.length ≤ sizeLine then .d (.int z.length) else .no
  | [.dct kvs] => .d (.int kvs.length)
  | _ => .no
def rLenU (K : PySem.W.Frag) : List V → Hp → VK → Prop := fun xs H Q => (∃ x n, xs = [x] ∧ LenV K x H n ∧ Q (.int n) H) ∨ (∃ a kvs, xs = [V.ref a] ∧ H a = some (.dK kvs) ∧ Q (.int kvs.length) H)
theorem ok_len : POk K cn (rLenU K) gLen := by
  intro Z xs vs Q hR hv hq
  unfold gLen at hq
  split at hq
  · obtain ⟨v, rfl, ⟨a, us, rfl, q1, r1⟩⟩ := hv.one
    rw [r1.length] at hq
    exact .inl ⟨_, us.length, rfl, .inl ⟨us, q1, rfl⟩, hq _ .int⟩
  · obtain ⟨v, rfl, h1⟩ := hv.one
    obtain ⟨a, us, rfl, q1, r1, _⟩ := h1.tup hR
    rw [r1.length] at hq
    exact .inl ⟨_, us.length, rfl, .inr ⟨us, q1, rfl⟩, hq _ .int⟩
  · obtain ⟨v, rfl, h1⟩ := hv.one
    cases h1.str
    split at hq
    · rename_i hl
      exact .inl ⟨_, _, rfl, ⟨hl, rfl⟩, hq _ .int⟩
    · exact hq.elim
  · obtain ⟨v, rfl, ⟨a, us, rfl, q1, r1⟩⟩ := hv.one
    rw [r1.length] at hq
    exact .inr ⟨_, us, rfl, q1, hq _ .int⟩
  · exact hq.elim
def gList : List D → PR
  | [.lst xs] => .f (.lst xs)
  | [.tup xs] => .f (.lst xs)
  | _ => .no
def rListOf (K : PySem.W.Frag) : List V → Hp → VK → Prop := fun xs H Q => ∃ p ys, xs = [.ref p] ∧ (SqL K H p ys ∨ SqT K H p ys) ∧ ∀ l, H l = none → Q (.ref l) (upd H l (.lst ys))
theorem ok_list : POk K cn (rListOf K) gList := by
  intro Z xs vs Q hR hv hq
  unfold gList at hq
  split at hq
  · obtain ⟨v, rfl, ⟨a, us, rfl, q1, r1⟩⟩ := hv.one
    exact ⟨a, us, rfl, .inl q1, fun l hl => hq l _ hl (.lst r1)⟩
  · obtain ⟨v, rfl, h1⟩ := hv.one
    obtain ⟨a, us, rfl, q1, r1, _⟩ := h1.tup hR
    exact ⟨a, us, rfl, .inr q1, fun l hl => hq l _ hl (.lst r1)⟩
  · exact hq.elim
def gTupleOf : List D → PR
  | [.lst xs] => .t xs
  | [.tup xs] => .d (.tup xs)
  | _ => .no
def rTupleOf (K : PySem.W.Frag) : List V → Hp → VK → Prop := fun xs H Q => ∃ p ys, xs = [.ref p] ∧ ((SqL K H p ys ∧ ∀ l, H l = none → Q (.ref l) (upd H l (.tup ys))) ∨ (SqT K H p ys ∧ Q (.ref p) H))
theorem ok_tupleOf : POk K cn (rTupleOf K) gTupleOf := by
  intro Z xs vs Q hR hv hq
  unfold gTupleOf at hq
  split at hq
  · obtain ⟨v, rfl, ⟨a, us, rfl, q1, r1⟩⟩ := hv.one
    exact ⟨a, us, rfl, .inl ⟨q1, fun l hl => hq.2 l _ hl r1⟩⟩
  · obtain ⟨v, rfl, h1⟩ := hv.one
    obtain ⟨a, us, rfl, q1, r1, k1⟩ := h1.tup hR
    exact ⟨a, us, rfl, .inr ⟨q1, hq _ k1⟩⟩
  · exact hq.elim
/-- the whole numbers of a row -/
def intsD : List D → Option (List Int)
  | [] => some []
  | .int i :: xs => match intsD xs with
    | some ns => some (i :: ns)
    | none => none
  | _ :: _ => none
theorem ints_rep {G : Hp} {ρ : List Addr} : ∀ {xs : List D} {vs : List V} {ns : List Int}, Reps K cn G ρ xs vs → intsD xs = some ns → vs = ns.map V.int
  | _, _, _, .nil, e => by cases e; rfl
  | x :: xs, _, ns, .cons h r, e => by
    cases x with
    | int i =>
      unfold intsD at e
      cases c : intsD xs with
      | none => rw [c] at e; cases e
      | some ms =>
        rw [c] at e
        cases e
        cases h
        rw [List.map_cons, ints_rep r c]
    | _ => cases e
def blsD : List D → Option (List Bool)
  | [] => some []
  | .bl i :: xs => match blsD xs with
    | some ns => some (i :: ns)
    | none => none
  | _ :: _ => none
theorem bls_rep {G : Hp} {ρ : List Addr} : ∀ {xs : List D} {vs : List V} {ns : List Bool}, Reps K cn G ρ xs vs → blsD xs = some ns → vs = ns.map V.bl
  | _, _, _, .nil, e => by cases e; rfl
  | x :: xs, _, ns, .cons h r, e => by
    cases x with
    | bl i =>
      unfold blsD at e
      cases c : blsD xs with
      | none => rw [c] at e; cases e
      | some ms =>
        rw [c] at e
        cases e
        cases h
        rw [List.map_cons, bls_rep r c]
    | _ => cases e
def gSum : List D → PR
  | [.lst xs] => match intsD xs with
    | some ns => .d (.int ns.sum)
    | none => .no
  | _ => .no
theorem ok_sum : POk K cn (rSum K) gSum := by
  intro Z xs vs Q hR hv hq
  unfold gSum at hq
  split at hq
  · obtain ⟨v, rfl, ⟨a, us, rfl, q1, r1⟩⟩ := hv.one
    split at hq
    · rename_i ns e
      cases ints_rep r1 e
      exact ⟨a, ns, rfl, q1, hq _ .int⟩
    · exact hq.elim
  · exact hq.elim
def gAll (any : Bool) : List D → PR
  | [.lst xs] => match blsD xs with
    | some ns => .d (.bl (if any = true then ns.any id else ns.all id))
    | none => .no
  | _ => .no
theorem ok_any : POk K cn (rAny K) (gAll true) := by
  intro Z xs vs Q hR hv hq
  unfold gAll at hq
  split at hq
  · obtain ⟨v, rfl, ⟨a, us, rfl, q1, r1⟩⟩ := hv.one
    split at hq
    · rename_i ns e
      cases bls_rep r1 e
      exact ⟨a, ns, rfl, q1, hq _ .bl⟩
    · exact hq.elim
  · exact hq.elim
theorem ok_all : POk K cn (rAll K) (gAll false) := by
  intro Z xs vs Q hR hv hq
  unfold gAll at hq
  split at hq
  · obtain ⟨v, rfl, ⟨a, us, rfl, q1, r1⟩⟩ := hv.one
    split at hq
    · rename_i ns e
      cases bls_rep r1 e
      exact ⟨a, ns, rfl, q1, hq _ .bl⟩
    · exact hq.elim
  · exact hq.elim
/-- max, min of two whole numbers or of a list of them -/
def maxL : List Int → Option Int
  | [] => none
  | i :: ns => some (ns.foldl max i)
def minL : List Int → Option Int
  | [] => none
  | i :: ns => some (ns.foldl min i)
theorem foldl_max_ge (ns : List Int) : ∀ i : Int, i ≤ ns.foldl max i ∧ (∀ y ∈ ns, y ≤ ns.foldl max i) ∧ (ns.foldl max i = i ∨ ns.foldl max i ∈ ns) := by
  induction ns with
  | nil => exact fun i => ⟨Int.le_refl _, by simp, .inl rfl⟩
  | cons n ns ih =>
    intro i
    obtain ⟨h1, h2, h3⟩ := ih (max i n)
    show i ≤ ns.foldl max (max i n) ∧ _ ∧ _
    refine ⟨by omega, fun y hy => ?_, ?_⟩
    · show y ≤ ns.foldl max (max i n)
      rcases List.mem_cons.mp hy with rfl | hy
      · omega
      · exact h2 y hy
    · show ns.foldl max (max i n) = i ∨ ns.foldl max (max i n) ∈ n :: ns
      rcases h3 with h3 | h3
      · rcases Int.le_total i n with c | c
        · right; rw [h3, Int.max_eq_right c]; exact List.mem_cons_self
        · left; rw [h3, Int.max_eq_left c]
      · right; exact List.mem_cons_of_mem _ h3
theorem foldl_min_le (ns : List Int) : ∀ i : Int, ns.foldl min i ≤ i ∧ (∀ y ∈ ns, ns.foldl min i ≤ y) ∧ (ns.foldl min i = i ∨ ns.foldl min i ∈ ns) := by
  induction ns with
  | nil => exact fun i => ⟨Int.le_refl _, by simp, .inl rfl⟩
  | cons n ns ih =>
    intro i
    obtain ⟨h1, h2, h3⟩ := ih (min i n)
    show ns.foldl min (min i n) ≤ i ∧ _ ∧ _
    refine ⟨by omega, fun y hy => ?_, ?_⟩
    · show ns.foldl min (min i n) ≤ y
      rcases List.mem_cons.mp hy with rfl | hy
      · omega
      · exact h2 y hy
    · show ns.foldl min (min i n) = i ∨ ns.foldl min (min i n) ∈ n :: ns
      rcases h3 with h3 | h3
      · rcases Int.le_total i n with c | c
        · left; rw [h3, Int.min_eq_left c]
        · right; rw [h3, Int.min_eq_right c]; exact List.mem_cons_self
      · right; exact List.mem_cons_of_mem _ h3
def gMax : List D → PR
  | [.int i, .int j] => .d (.int (max i j))
  | [.lst xs] => match intsD xs with
    | some ns => match maxL ns with
      | some m => .d (.int m)
      | none => .no
    | none => .no
  | _ => .no
def gMin : List D → PR
  | [.int i, .int j] => .d (.int (min i j))
  | [.lst xs] => match intsD xs with
    | some ns => match minL ns with
      | some m => .d (.int m)
      | none => .no
    | none => .no
  | _ => .no
def rMaxU (K : PySem.W.Frag) : List V → Hp → VK → Prop := fun xs H Q => (∃ i j, xs = [.int i, .int j] ∧ Q (.int (if j > i then j else i)) H) ∨ rMax K xs H Q
def rMinU (K : PySem.W.Frag) : List V → Hp → VK → Prop := fun xs H Q => (∃ i j, xs = [.int i, .int j] ∧ Q (.int (if j < i then j else i)) H) ∨ rMin K xs H Q
theorem ok_max : POk K cn (rMaxU K) gMax := by
  intro Z xs vs Q hR hv hq
  unfold gMax at hq
  split at hq
  · rename_i i j
    obtain ⟨v, w, rfl, h1, h2⟩ := hv.two
    cases h1.int
    cases h2.int
    refine .inl ⟨_, _, rfl, ?_⟩
    have e : (if j > i then j else i) = max i j := by split <;> omega
    rw [e]
    exact hq _ .int
  · obtain ⟨v, rfl, ⟨a, us, rfl, q1, r1⟩⟩ := hv.one
    split at hq
    · rename_i ns e
      split at hq
      · rename_i m e2
        cases ints_rep r1 e
        cases ns with
        | nil => cases e2
        | cons n ns =>
          cases e2
          obtain ⟨h1, h2, h3⟩ := foldl_max_ge ns n
          refine .inr ⟨a, n :: ns, rfl, q1, by simp, fun m' hm hy => ?_⟩
          have : m' = ns.foldl max n := by
            have k1 : m' ≤ ns.foldl max n := by
              rcases List.mem_cons.mp hm with rfl | hm
              · exact h1
              · exact h2 _ hm
            have k2 : ns.foldl max n ≤ m' := by
              rcases h3 with h3 | h3
              · rw [h3]; exact hy _ List.mem_cons_self
              · exact hy _ (List.mem_cons_of_mem _ h3)
            omega
          rw [this]
          exact hq _ .int
      · exact hq.elim
    · exact hq.elim
  · exact hq.elim
theorem ok_min : POk K cn (rMinU K) gMin := by
  intro Z xs vs Q hR hv hq
  unfold gMin at hq
  split at hq
  · rename_i i j
    obtain ⟨v, w, rfl, h1, h2⟩ := hv.two
    cases h1.int
    cases h2.int
    refine .inl ⟨_, _, rfl, ?_⟩
    have e : (if j < i then j else i) = min i j := by split <;> omega
    rw [e]
    exact hq _ .int
  · obtain ⟨v, rfl, ⟨a, us, rfl, q1, r1⟩⟩ := hv.one
    split at hq
    · rename_i ns e
      split at hq
      · rename_i m e2
        cases ints_rep r1 e
        cases ns with
        | nil => cases e2
        | cons n ns =>
          cases e2
          obtain ⟨h1, h2, h3⟩ := foldl_min_le ns n
          refine .inr ⟨a, n :: ns, rfl, q1, by simp, fun m' hm hy => ?_⟩
          have : m' = ns.foldl min n := by
            have k1 : ns.foldl min n ≤ m' := by
              rcases List.mem_cons.mp hm with rfl | hm
              · exact h1
              · exact h2 _ hm
            have k2 : m' ≤ ns.foldl min n := by
              rcases h3 with h3 | h3
              · rw [h3]; exact hy _ List.mem_cons_self
              · exact hy _ (List.mem_cons_of_mem _ h3)
            omega
          rw [this]
          exact hq _ .int
      · exact hq.elim
    · exact hq.elim
  · exact hq.elim
def gAbs : List D → PR
  | [.int i] => .d (.int (i.natAbs))
  | _ => .no
theorem ok_abs : POk K cn (fun xs H Q => ∃ i, xs = [.int i] ∧ Q (.int (if i < 0 then -i else i)) H) gAbs := by
  intro Z xs vs Q hR hv hq
  unfold gAbs at hq
  split at hq
  · rename_i i
    obtain ⟨v, rfl, h1⟩ := hv.one
    cases h1.int
    refine ⟨_, rfl, ?_⟩
    have e : (if i < 0 then -i else i) = (i.natAbs : Int) := by split <;> omega
    rw [e]
    exact hq _ .int
  · exact hq.elim
def gInt : List D → PR
  | [.int i] => .d (.int i)
  | [.bl k] => .d (.int (if k = true then 1 else 0))
  | _ => .no
theorem ok_int : POk K cn (fun xs H Q => (∃ i, xs = [.int i] ∧ Q (.int i) H) ∨ ∃ k : Bool, xs = [.bl k] ∧ Q (.int (if k then 1 else 0)) H) gInt := by
  intro Z xs vs Q hR hv hq
  unfold gInt at hq
  split at hq
  · obtain ⟨v, rfl, h1⟩ := hv.one
    cases h1.int
    exact .inl ⟨_, rfl, hq _ .int⟩
  · obtain ⟨v, rfl, h1⟩ := hv.one
    cases h1.bl
    exact .inr ⟨_, rfl, hq _ .int⟩
  · exact hq.elim
def gStr : List D → PR
  | [.int i] => if i.natAbs.log2 < 1920 then .d (.str (Str.ofString (toString i))) else .no
  | [.str s] => .d (.str s)
  | _ => .no
def rStrU : List V → Hp → VK → Prop := fun xs H Q => (∃ i : Int, xs = [.int i] ∧ i.natAbs.log2 < 1920 ∧ Q (.str (toString i)) H) ∨ ∃ a, xs = [.str a] ∧ Q (.str a) H
theorem ok_str : POk K cn rStrU gStr := by
  intro Z xs vs Q hR hv hq
  unfold gStr at hq
  split at hq
  · obtain ⟨v, rfl, h1⟩ := hv.one
    cases h1.int
    split at hq
    · rename_i h
      exact .inl ⟨_, rfl, h, hq _ .str⟩
    · exact hq.elim
  · obtain ⟨v, rfl, h1⟩ := hv.one
    cases h1.str
    exact .inr ⟨_, rfl, hq _ .str⟩
  · exact hq.elim
end
end MP

set_option Elab.async false
set_option linter.all false
set_option maxRecDepth 100000
set_option maxHeartbeats 4000000
/-! MP10: objects that change: list methods, items set. -/
namespace MP
open PySem PySem.Spec PyProof.Rows L2
open Evl (Ex)
section
variable {K : PySem.W.Frag} {cn : String → Addr} {W : WX} {X : Cx} {Z : Zt} {A : Addr → Prop}
theorem TM.mono {m : Mn RV} {σ : L2.St} {H : Hp} {Q Q' : VK} (h : TM K cn W m σ H Q) (k : ∀ v H1, Q v H1 → Q' v H1) : TM K cn W m σ H Q' := by
  obtain ⟨G, ρ, sl, st, hR, q⟩ := h
  refine ⟨G, ρ, sl, st, hR, ?_⟩
  cases e : m sl st with
  | no => rw [e] at q; exact q
  | exc C xs s t => rw [e] at q; exact q
  | ok r s t => rw [e] at q; exact fun G1 H1 ρ1 v a b c => k _ _ (q G1 H1 ρ1 v a b c)
theorem TMa.mono {m : Mn (List RV)} {σ : L2.St} {H : Hp} {Q Q' : List V → Hp → Prop} (h : TMa K cn W m σ H Q) (k : ∀ v H1, Q v H1 → Q' v H1) : TMa K cn W m σ H Q' := by
  obtain ⟨G, ρ, sl, st, hR, q⟩ := h
  refine ⟨G, ρ, sl, st, hR, ?_⟩
  cases e : m sl st with
  | no => rw [e] at q; exact q
  | exc C xs s t => rw [e] at q; exact q
  | ok r s t => rw [e] at q; exact fun G1 H1 ρ1 v a b c => k _ _ (q G1 H1 ρ1 v a b c)
end
/-- the built-in type of what stands there -/
def tyD : D → String
  | .lst _ => "list"
  | .dct _ => "dict"
  | .str _ => "str"
  | _ => ""
def mTy (T : String) (m : Mn RV) : Mn RV := bnd m fun r sl st => match view sl st r with
  | some x => if tyD x = T then .ok r sl st else .no
  | none => .no
section
variable {K : PySem.W.Frag} {cn : String → Addr} {W : WX} {X : Cx} {Z : Zt} {A : Addr → Prop}
theorem RepH.ty {x : D} {v : V} {T : String} (h : RepH K cn Z x v) (e : tyD x = T) (hT : T ≠ "") : tyV K T v Z.H := by
  subst e
  cases x with
  | lst xs => obtain ⟨a, vs, rfl, q, _⟩ := h; exact .inl ⟨rfl, vs, q⟩
  | dct xs => obtain ⟨a, vs, rfl, q, _⟩ := h; exact .inr (.inr (.inl ⟨rfl, .inl ⟨vs, q⟩⟩))
  | str s => cases h.str; rfl
  | _ => exact (hT rfl).elim
theorem tm_ty {m : Mn RV} {T : String} (hT : T ≠ "") {σ : L2.St} {H : Hp} {P : VK} (h : TM K cn W (mTy T m) σ H P) : TM K cn W m σ H fun x H1 => tyV K T x H1 ∧ P x H1 := by
  obtain ⟨G, ρ, sl, st, hR, q⟩ := h
  refine ⟨G, ρ, sl, st, hR, ?_⟩
  unfold mTy bnd at q
  cases e : m sl st with
  | no => rw [e] at q; exact q
  | exc C xs s t => rw [e] at q; exact q
  | ok r s t =>
    rw [e] at q
    dsimp only at q
    intro G1 H1 ρ1 v hR1 hv1 hS
    cases e2 : view s t r with
    | none => rw [e2] at q; exact q.elim
    | some x =>
      rw [e2] at q
      dsimp only at q
      by_cases c : tyD x = T
      · rw [if_pos c] at q
        exact ⟨(view_ok hR1 hv1 e2).ty c hT, q G1 H1 ρ1 v hR1 hv1 hS⟩
      · rw [if_neg c] at q; exact q.elim
def rMt (r : V → List V → Hp → VK → Prop) : List V → Hp → VK → Prop := fun vs H Q => ∃ x xs, vs = x :: xs ∧ r x xs H Q
theorem tm_meth {r : V → List V → Hp → VK → Prop} {T : String} (hT : T ≠ "") {f : List RV → Mn RV} {mo : Mn RV} {ma : Mn (List RV)} (hf : OpOk K cn W (rMt r) f) : ∀ σ H Q, TM K cn W (mOp f (mCons (mTy T mo) ma)) σ H Q → tBM K T r (TM K cn W mo) (TMa K cn W ma) σ H Q := by
  intro σ H Q h
  have h1 := tma_cons σ H _ (tm_op hf σ H Q h)
  refine (tm_ty hT h1).mono fun x H1 q => ⟨q.1, q.2.mono fun vs H2 k => ?_⟩
  obtain ⟨y, ys, e, k⟩ := k
  cases e
  exact k
theorem tm_meth0 {r : V → List V → Hp → VK → Prop} {T : String} (hT : T ≠ "") {f : List RV → Mn RV} {mo : Mn RV} (hf : OpOk K cn W (rMt r) f) : ∀ σ H Q, TM K cn W (mOp f (mCons (mTy T mo) mNil)) σ H Q → tBM0 K T r (TM K cn W mo) σ H Q := by
  intro σ H Q h
  have h1 := tma_cons σ H _ (tm_op hf σ H Q h)
  refine (tm_ty hT h1).mono fun x H1 q => ⟨q.1, ?_⟩
  obtain ⟨y, ys, e, k⟩ := tma_nil σ H1 _ q.2
  cases e
  exact k
theorem me_meth {r : V → List V → Hp → VK → Prop} {T id : String} {o e : Expr} {es : List Expr} {name : Str} {apos cpos : Pos} {f : List RV → Mn RV} {mo : Mn RV} {ma : Mn (List RV)} (hT : T ≠ "") (pa : PlainAttrs T) (slot : Slot T name id) (hty : typeOf (.builtin id) = pure (.type "method_descriptor")) (hm : MtR X id r) (hf : OpOk K cn W (rMt r) f) (hK : X.K = K) (ho : PE X o (TM K cn W mo)) (ha : PA X (e :: es) (TMa K cn W ma))
    (hbase : attributeBase o name X.env (eval o X.env) = eval o X.env := by rfl)
    (hfew : ((backTo cpos (starEach (e :: es) X.env)).all (fun x => !x.1) && (backToKw cpos (keywordEach [] X.env)).all (fun x => x.1.isSome)
      && decide ((e :: es).length + ([] : List Keyword).length + (if ([] : List Keyword).isEmpty then 0 else 1) < 30)) = true := by rfl)
    (hline : (apos.endLine == cpos.line) = true := by rfl) (hs : starEach (e :: es) X.env = (false, eval e X.env) :: starEach es X.env := by rfl) (hplain : (backTo cpos (starEach es X.env)).any (·.1) = false := by rfl) :
    PE X (.Call (.Attribute o name apos) (e :: es) [] cpos) (TM K cn W (mOp f (mCons (mTy T mo) ma))) := by
  subst hK
  exact PE.imp (pe_bm pa slot hty hm ho ha hbase hfew hline hs hplain) (tm_meth hT hf)
theorem me_meth0 {r : V → List V → Hp → VK → Prop} {T id : String} {o : Expr} {name : Str} {apos cpos : Pos} {f : List RV → Mn RV} {mo : Mn RV} (hT : T ≠ "") (pa : PlainAttrs T) (slot : Slot T name id) (hty : typeOf (.builtin id) = pure (.type "method_descriptor")) (hm : MtR X id r) (hf : OpOk K cn W (rMt r) f) (hK : X.K = K) (ho : PE X o (TM K cn W mo))
    (hbase : attributeBase o name X.env (eval o X.env) = eval o X.env := by rfl) (hline : (apos.endLine == cpos.line) = true := by rfl) :
    PE X (.Call (.Attribute o name apos) [] [] cpos) (TM K cn W (mOp f (mCons (mTy T mo) mNil))) := by
  subst hK
  exact PE.imp (pe_bm0 pa slot hty hm ho hbase hline) (tm_meth0 hT hf)

/-! ### an object is rewritten -/
theorem R.wslot (hR : R K cn Z) {i : Nat} {b b' : Ob} {p : Addr} {o' : HO} (h : Z.sl[i]? = some (.o b)) (hp : Z.σ[i]? = some (some (.ref p))) (hb : ObOk K cn Z.G Z.ρ b' o') : R K cn { Z with H := upd Z.H p o', sl := Z.sl.set i (.o b') } := by
  obtain ⟨p0, o, h1, h2, h3, h4, h5⟩ := hR.slots i _ h
  rw [hp] at h1; cases h1
  have hi : i < Z.sl.length := (List.getElem?_eq_some_iff.mp h).1
  refine ⟨ex_mut hR.ex h3, hR.len, fun j c a h1 h2 => ?_, hR.inj, by simpa using hR.slen, fun j s hs => ?_, fun j k s t b1 c a hjk h1 h2 e1 e2 g1 g2 => ?_⟩
  · obtain ⟨w, e1, e2, e3⟩ := hR.cells j c a h1 h2
    have hap : a ≠ p := fun z => h4 (z ▸ List.mem_of_getElem? h2)
    exact ⟨w, by show upd Z.H p o' a = _; rw [upd_ne hap]; exact e1, e2, e3⟩
  · rcases get_set hs with ⟨rfl, _, rfl⟩ | ⟨hj, hs⟩
    · exact ⟨p, o', hp, upd_same, h3, h4, hb⟩
    · have q := SlOk.mono (hR.slots j s hs) (G' := Z.G) (H' := upd Z.H p o') (ρ' := Z.ρ) (fun _ _ e => e) (List.prefix_refl _) fun b1 q w hb e0 e1 e2 e3 => ⟨by
        have hqp : q ≠ p := fun z => hR.dist j i s (.o b) b1 b p hj hs h hb rfl (z ▸ e0) hp
        rw [upd_ne hqp]; exact e1, e2, e3⟩
      cases s <;> exact q
  · have side : ∀ {j : Nat} {s : Sl} {b1 : Ob}, (Z.sl.set i (.o b'))[j]? = some s → s.ob = some b1 → ∃ s0 b0, Z.sl[j]? = some s0 ∧ s0.ob = some b0 := fun {j s b1} q e => by
      rcases get_set q with ⟨rfl, _, rfl⟩ | ⟨_, q⟩
      · exact ⟨_, _, h, rfl⟩
      · exact ⟨_, _, q, e⟩
    obtain ⟨s0, b0, k1, k2⟩ := side h1 e1
    obtain ⟨t0, c0, k3, k4⟩ := side h2 e2
    exact hR.dist j k s0 t0 b0 c0 a hjk k1 k3 k2 k4 g1 g2
theorem Step.wslot (hR : R K cn Z) {i : Nat} {b b' : Ob} {p : Addr} {o' : HO} (h : Z.sl[i]? = some (.o b)) (hp : Z.σ[i]? = some (some (.ref p))) : Step Z A { Z with H := upd Z.H p o', sl := Z.sl.set i (.o b') } A := by
  obtain ⟨p0, o, h1, h2, h3, h4, h5⟩ := hR.slots i _ h
  rw [hp] at h1; cases h1
  have hi : i < Z.sl.length := (List.getElem?_eq_some_iff.mp h).1
  refine ⟨fun _ _ e => e, List.prefix_refl _, fun a u e g r n m => ⟨?_, g, r, fun z => ?_, m⟩, fun j b1 a u q1 q2 q3 => ⟨⟨u, ?_, .inl rfl⟩, ⟨b1, ?_⟩, q2⟩, fun j b1 a u q1 q2 q3 => ⟨?_, b1, q1⟩⟩
  · show upd Z.H p o' a = _
    rw [upd_ne (fun z => n (by rw [z]; exact Zt.own_of h rfl hp))]; exact e
  · obtain ⟨j, t, c, k1, k2, k3⟩ := Zt.own_iff.mp z
    rcases get_set k1 with ⟨rfl, _, rfl⟩ | ⟨_, k1⟩
    · exact n (Zt.own_of h rfl k3)
    · exact n (Zt.own_of k1 k2 k3)
  · have hj : j ≠ i := fun z => by subst z; rw [h] at q1; cases q1
    have hap : a ≠ p := fun z => hR.dist j i _ _ b1 b p hj q1 h rfl rfl (z ▸ q2) hp
    show upd Z.H p o' a = _
    rw [upd_ne hap]; exact q3
  · have hj : j ≠ i := fun z => by subst z; rw [h] at q1; cases q1
    show (Z.sl.set i _)[j]? = _
    rw [List.getElem?_set_ne (Ne.symm hj)]; exact q1
  · show upd Z.H p o' a = _
    rw [upd_ne (fun z => h4 (by rw [← z]; exact List.mem_of_getElem? q2))]; exact q3
theorem nodup_ix : ∀ {l : List Addr} {i j : Nat} {a : Addr}, l.Nodup → l[i]? = some a → l[j]? = some a → i = j
  | [], i, j, a, _, h, _ => by simp at h
  | x :: l, 0, 0, a, _, _, _ => rfl
  | x :: l, 0, j + 1, a, hn, h1, h2 => by
    simp at h1 h2
    subst h1
    exact ((List.nodup_cons.mp hn).1 (List.mem_of_getElem? h2)).elim
  | x :: l, i + 1, 0, a, hn, h1, h2 => by
    simp at h1 h2
    subst h2
    exact ((List.nodup_cons.mp hn).1 (List.mem_of_getElem? h1)).elim
  | x :: l, i + 1, j + 1, a, hn, h1, h2 => by
    simp at h1 h2
    rw [nodup_ix (List.nodup_cons.mp hn).2 h1 h2]
theorem R.wcell (hR : R K cn Z) {i : Nat} {b b' : Ob} {p : Addr} {o' : HO} (h : Z.st[i]? = some (.c b)) (hp : Z.ρ[i]? = some p) (hb : ObOk K cn Z.G Z.ρ b' o') : R K cn { Z with H := upd Z.H p o', st := Z.st.set i (.c b') } := by
  obtain ⟨o, h2, h3, h5⟩ := hR.cells i _ p h hp
  have h4 : p ∈ Z.ρ := List.mem_of_getElem? hp
  have hi : i < Z.st.length := (List.getElem?_eq_some_iff.mp h).1
  refine ⟨ex_mut hR.ex h3, by simpa using hR.len, fun j c a q1 q2 => ?_, hR.inj, hR.slen, fun j s hs => ?_, hR.dist⟩
  · rcases get_set q1 with ⟨rfl, _, rfl⟩ | ⟨hj, q1⟩
    · have q2 : Z.ρ[j]? = some a := q2
      rw [hp] at q2; cases q2
      exact ⟨o', upd_same, h3, hb⟩
    · obtain ⟨w, e1, e2, e3⟩ := hR.cells j c a q1 q2
      have hap : a ≠ p := fun z => by subst z; exact hj (nodup_ix hR.inj q2 hp)
      exact ⟨w, by show upd Z.H p o' a = _; rw [upd_ne hap]; exact e1, e2, e3⟩
  · have q := SlOk.mono (hR.slots j s hs) (G' := Z.G) (H' := upd Z.H p o') (ρ' := Z.ρ) (fun _ _ e => e) (List.prefix_refl _) fun b1 q w hb e0 e1 e2 e3 => ⟨by
      have hqp : q ≠ p := fun z => e3 (z ▸ h4)
      rw [upd_ne hqp]; exact e1, e2, e3⟩
    cases s <;> exact q
theorem Step.wcell (hR : R K cn Z) {i : Nat} {b b' : Ob} {p : Addr} {o' : HO} (h : Z.st[i]? = some (.c b)) (hp : Z.ρ[i]? = some p) : Step Z A { Z with H := upd Z.H p o', st := Z.st.set i (.c b') } A := by
  obtain ⟨o, h2, h3, h5⟩ := hR.cells i _ p h hp
  have h4 : p ∈ Z.ρ := List.mem_of_getElem? hp
  refine ⟨fun _ _ e => e, List.prefix_refl _, fun a u e g r n m => ⟨?_, g, r, n, m⟩, fun j b1 a u q1 q2 q3 => ⟨⟨u, ?_, .inl rfl⟩, ⟨b1, q1⟩, q2⟩, fun j b1 a u q1 q2 q3 => ⟨?_, b1, ?_⟩⟩
  · show upd Z.H p o' a = _
    rw [upd_ne (fun z => r (by rw [z]; exact h4))]; exact e
  · obtain ⟨p0, o0, k1, k2, k3, k4, k5⟩ := hR.slots j _ q1
    rw [q2] at k1; cases k1
    show upd Z.H p o' a = _
    rw [upd_ne (fun z => k4 (by rw [z]; exact h4))]; exact q3
  · have hj : j ≠ i := fun z => by subst z; rw [h] at q1; cases q1
    show upd Z.H p o' a = _
    rw [upd_ne (fun z => by subst z; exact hj (nodup_ix hR.inj q2 hp))]; exact q3
  · have hj : j ≠ i := fun z => by subst z; rw [h] at q1; cases q1
    show (Z.st.set i _)[j]? = _
    rw [List.getElem?_set_ne (Ne.symm hj)]; exact q1
end
/-- the object that may change -/
def obOf (sl : Sls) (st : Sto) : RV → Option Ob
  | .sl i => match sl[i]? with
    | some (.o b) => some b
    | _ => none
  | .d (.cell j) => match st[j]? with
    | some (.c b) => some b
    | _ => none
  | _ => none
def setOb (r : RV) (b : Ob) (sl : Sls) (st : Sto) : Sls × Sto := match r with
  | .sl i => (sl.set i (.o b), st)
  | .d (.cell j) => (sl, st.set j (.c b))
  | _ => (sl, st)
def mMut (g : Ob → List D → Option (Ob × D)) : List RV → Mn RV
  | r :: rs => bnd (escs rs) fun xs sl st => match obOf sl st r with
    | some b => match g b xs with
      | some (b', x) => .ok (.d x) (setOb r b' sl st).1 (setOb r b' sl st).2
      | none => .no
    | none => .no
  | [] => non
section
variable {K : PySem.W.Frag} {cn : String → Addr} {W : WX} {X : Cx} {Z : Zt} {A : Addr → Prop}
theorem ob_write (hR : R K cn Z) {r : RV} {v : V} {b : Ob} (hv : RepRV K cn Z r v) (e : obOf Z.sl Z.st r = some b) :
    ∃ p o, v = .ref p ∧ Z.H p = some o ∧ ObOk K cn Z.G Z.ρ b o ∧ ∀ b' o', ObOk K cn Z.G Z.ρ b' o' → R K cn { Z with H := upd Z.H p o', sl := (setOb r b' Z.sl Z.st).1, st := (setOb r b' Z.sl Z.st).2 } ∧ ∀ A, Step Z A { Z with H := upd Z.H p o', sl := (setOb r b' Z.sl Z.st).1, st := (setOb r b' Z.sl Z.st).2 } A := by
  cases r with
  | f b => cases e
  | sl i =>
    have hv : Z.σ[i]? = some (some v) := hv
    unfold obOf at e
    dsimp only at e
    cases q : Z.sl[i]? with
    | none => rw [q] at e; cases e
    | some s =>
      rw [q] at e
      cases s with
      | o b0 =>
        cases e
        obtain ⟨p, o, h1, h2, h3, h4, h5⟩ := hR.slots i _ q
        rw [hv] at h1; cases h1
        exact ⟨p, o, rfl, h2, h5, fun b' o' hb => ⟨hR.wslot q hv hb, fun A => Step.wslot hR q hv⟩⟩
      | u => cases e
      | d x => cases e
      | lk b => cases e
  | d x =>
    cases x with
    | cell i =>
      have hv : Rep K cn Z.G Z.ρ (.cell i) v := hv
      cases hv with
      | cell hp =>
        unfold obOf at e
        dsimp only at e
        cases q : Z.st[i]? with
        | none => rw [q] at e; cases e
        | some s =>
          rw [q] at e
          cases s with
          | c b0 =>
            cases e
            obtain ⟨o, h2, h3, h5⟩ := hR.cells i _ _ q hp
            exact ⟨_, o, rfl, h2, h5, fun b' o' hb => ⟨hR.wcell q hp hb, fun A => Step.wcell hR q hp⟩⟩
          | lk b => cases e
    | _ => cases e
/-- what a changing method does, on the objects -/
def MutOk (K : PySem.W.Frag) (cn : String → Addr) (r : V → List V → Hp → VK → Prop) (g : Ob → List D → Option (Ob × D)) : Prop :=
  ∀ (G H : Hp) (ρ : List Addr) (p : Addr) (o : HO) (b b' : Ob) (xs : List D) (x : D) (vs : List V) (Q : VK), Ex G H → ObOk K cn G ρ b o → Reps K cn G ρ xs vs → H p = some o → g b xs = some (b', x) → (∀ o' v, ObOk K cn G ρ b' o' → Rep K cn G ρ x v → Q v (upd H p o')) → r (.ref p) vs H Q
theorem escs_ex : ∀ {rs : List RV} {sl sl' : Sls} {st st' : Sto} {C : String} {ys : List (Str × MP.D)}, escs rs sl st ≠ .exc C ys sl' st'
  | [], sl, sl', st, st', C, ys => fun z => by cases z
  | r :: rs, sl, sl', st, st', C, ys => fun z => by
    unfold escs bnd at z
    cases e : esc r sl st with
    | no => rw [e] at z; cases z
    | exc C ys s1 t1 => exact esc_ex e
    | ok x s2 t2 =>
      rw [e] at z
      dsimp only at z
      cases e3 : escs rs s2 t2 with
      | no => rw [e3] at z; cases z
      | exc C1 ys1 s3 t3 => exact escs_ex e3
      | ok ys1 s3 t3 => rw [e3] at z; cases z
theorem mut_op {r : V → List V → Hp → VK → Prop} {g : Ob → List D → Option (Ob × D)} (h : MutOk K cn r g) : OpOk K cn W (rMt r) (mMut g) := by
  intro Z rs vs Q hR hv hq
  cases hv with
  | nil => exact hq.elim
  | @cons r0 v0 rs vs hv0 ht hd =>
    unfold mMut bnd at hq
    dsimp only at hq
    cases e : escs rs Z.sl Z.st with
    | no => rw [e] at hq; exact hq.elim
    | exc C ys s1 t1 => exact (escs_ex e).elim
    | ok xs sl st =>
      rw [e] at hq
      obtain ⟨rfl, G, hR1, hxs, hS⟩ := escs_ok hR ht e
      dsimp only at hq
      cases e2 : obOf sl Z.st r0 with
      | none => rw [e2] at hq; exact hq.elim
      | some b =>
        rw [e2] at hq
        dsimp only at hq
        cases e3 : g b xs with
        | none => rw [e3] at hq; exact hq.elim
        | some w =>
          obtain ⟨b', x⟩ := w
          rw [e3] at hq
          dsimp only at hq
          have hv1 : RepRV K cn ⟨G, Z.H, Z.ρ, Z.σ, sl, Z.st⟩ r0 v0 := by
            cases r0 with
            | f b => cases e2
            | sl i => exact hv0
            | d y => exact Rep.mono hS.g hS.r hv0
          obtain ⟨p, o, rfl, h1, h2, h3⟩ := ob_write hR1 hv1 e2
          refine ⟨_, _, rfl, h G Z.H Z.ρ p o b b' xs x vs Q hR1.ex h2 hxs h1 e3 fun o' v ho hx => ?_⟩
          obtain ⟨k1, k2⟩ := h3 b' o' ho
          refine hq G (upd Z.H p o') Z.ρ v k1 hx ?_
          have s1 := hS.with (rvA r0 (.ref p))
          have s2 := s1.trans (k2 _)
          exact s2.end0.less fun a z => (show rvA r0 (.ref p) a ∨ rvsA rs vs a from by rcases z with z | z; exact .inr z; exact .inl z)
end
/-! ### the list methods -/
def gAppend : Ob → List D → Option (Ob × D)
  | .lst xs, [y] => if xs.length < 1000000 then some (.lst (xs ++ [y]), .non) else none
  | _, _ => none
def gClear : Ob → List D → Option (Ob × D)
  | .lst xs, [] => some (.lst [], .non)
  | _, _ => none
def gPop : Ob → List D → Option (Ob × D)
  | .lst xs, [] => match xs[xs.length - 1]? with
    | some y => some (.lst xs.dropLast, y)
    | none => none
  | _, _ => none
def gPopAt : Ob → List D → Option (Ob × D)
  | .lst xs, [.int i] => match ixN xs.length i with
    | some k => match xs[k]? with
      | some y => if -(2 ^ 63) ≤ i ∧ i < 2 ^ 63 then some (.lst (xs.eraseIdx k), y) else none
      | none => none
    | none => none
  | _, _ => none
section
variable {K : PySem.W.Frag} {cn : String → Addr} {W : WX} {X : Cx} {Z : Zt} {A : Addr → Prop}
theorem ObOk.lstI {G : Hp} {ρ : List Addr} {xs : List D} {o : HO} (h : ObOk K cn G ρ (.lst xs) o) : ∃ vs, o = .lst vs ∧ Reps K cn G ρ xs vs := by
  cases h with
  | lst r => exact ⟨_, rfl, r⟩
theorem Reps.one {G : Hp} {ρ : List Addr} {x : D} {vs : List V} (h : Reps K cn G ρ [x] vs) : ∃ v, vs = [v] ∧ Rep K cn G ρ x v := by
  cases h with
  | cons a t => cases t; exact ⟨_, rfl, a⟩
theorem Reps.eraseIdx {G : Hp} {ρ : List Addr} : ∀ {xs : List D} {vs : List V} (i : Nat), Reps K cn G ρ xs vs → Reps K cn G ρ (xs.eraseIdx i) (vs.eraseIdx i)
  | _, _, _, .nil => .nil
  | _, _, 0, .cons h r => r
  | _, _, i + 1, .cons h r => .cons h (Reps.eraseIdx i r)
theorem Reps.dropLast {G : Hp} {ρ : List Addr} : ∀ {xs : List D} {vs : List V}, Reps K cn G ρ xs vs → Reps K cn G ρ xs.dropLast vs.dropLast
  | _, _, .nil => .nil
  | _, _, .cons h .nil => .nil
  | _, _, .cons h (.cons h1 r) => .cons h (Reps.dropLast (.cons h1 r))
theorem mu_append : MutOk K cn rAppend gAppend := by
  intro G H ρ p o b b' xs x vs Q hE hb hx hp hg hq
  unfold gAppend at hg
  split at hg
  · obtain ⟨us, rfl, r⟩ := hb.lstI
    obtain ⟨v, rfl, h1⟩ := hx.one
    split at hg
    · rename_i hl
      cases hg
      refine ⟨p, us, v, rfl, rfl, hp, ?_, hq _ _ (.lst (r.append (.cons h1 .nil))) .non⟩
      rw [← r.length]
      exact Nat.lt_of_lt_of_le hl (by decide)
    · cases hg
  · cases hg
theorem mu_clear : MutOk K cn rClear gClear := by
  intro G H ρ p o b b' xs x vs Q hE hb hx hp hg hq
  unfold gClear at hg
  split at hg
  · obtain ⟨us, rfl, r⟩ := hb.lstI
    cases hx
    cases hg
    exact ⟨p, us, rfl, rfl, hp, hq _ _ (.lst .nil) .non⟩
  · cases hg
theorem mu_pop : MutOk K cn rPop gPop := by
  intro G H ρ p o b b' xs x vs Q hE hb hx hp hg hq
  unfold gPop at hg
  split at hg
  · obtain ⟨us, rfl, r⟩ := hb.lstI
    cases hx
    split at hg
    · rename_i y hy
      cases hg
      rw [r.length] at hy
      obtain ⟨w, h1, h2⟩ := r.get hy
      exact ⟨p, us, w, rfl, rfl, hp, h1, hq _ _ (.lst r.dropLast) h2⟩
    · cases hg
  · cases hg
theorem mu_popAt : MutOk K cn rPopAt gPopAt := by
  intro G H ρ p o b b' xs x vs Q hE hb hx hp hg hq
  unfold gPopAt at hg
  split at hg
  · obtain ⟨us, rfl, r⟩ := hb.lstI
    obtain ⟨v, rfl, h1⟩ := hx.one
    cases h1
    split at hg
    · rename_i k hk
      split at hg
      · rename_i y hy
        split at hg
        · rename_i hi
          cases hg
          obtain ⟨w, k1, k2⟩ := r.get hy
          refine ⟨p, us, _, k, w, rfl, rfl, hp, hi.1, hi.2, ?_, k1, hq _ _ (.lst (r.eraseIdx k)) k2⟩
          rw [← r.length]
          exact (ixN_seq hk).1
        · cases hg
      · cases hg
    · cases hg
  · cases hg
end
end MP

set_option Elab.async false
set_option linter.all false
set_option maxRecDepth 100000
set_option maxHeartbeats 4000000
/-! MP11: items set, several names at once, chains. -/
namespace MP
open PySem PySem.Spec PyProof.Rows L2
open Evl (Ex)
/-- o[i] = x on a list that may change -/
def setIx (mo mi : Mn RV) (x : D) : Mn Fl := bnd mo fun r => bnd mi fun q sl st => match view sl st q with
  | some (.int i) => match obOf sl st r with
    | some (.lst xs) => match ixN xs.length i with
      | some j => .ok .nx (setOb r (.lst (xs.set j x)) sl st).1 (setOb r (.lst (xs.set j x)) sl st).2
      | none => .no
    | _ => .no
  | _ => .no
section
variable {K : PySem.W.Frag} {cn : String → Addr} {W : WX} {X : Cx} {Z : Zt} {A : Addr → Prop}
theorem gok_ix {mo mi : Mn RV} : GOk K cn W (gSub (TM K cn W mo) (TM K cn W mi) rSetL) (.ot (setIx mo mi)) := by
  intro Z x v D hR hv h
  have h : PostS K cn W Z NoA (setIx mo mi x Z.sl Z.st) D := h
  unfold setIx bnd at h
  refine ⟨Z.G, Z.ρ, Z.sl, Z.st, hR, ?_⟩
  show PostE K cn W Z NoA (mo Z.sl Z.st) _
  cases e : mo Z.sl Z.st with
  | no => rw [e] at h; exact h
  | exc C xs s t => rw [e] at h; exact fun G H ρ d us a1 a2 => h G H ρ Z.σ d us a1 a2
  | ok r sl1 st1 =>
    rw [e] at h
    dsimp only at h
    intro G1 H1 ρ1 v1 hR1 hv1 hS1
    refine ⟨G1, ρ1, sl1, st1, hR1, ?_⟩
    cases e2 : mi sl1 st1 with
    | no => rw [e2] at h; exact h
    | exc C xs s t => rw [e2] at h; exact fun G H ρ d us a1 a2 => h G H ρ Z.σ d us a1 (hS1.end0.trans a2)
    | ok q sl2 st2 =>
      rw [e2] at h
      dsimp only at h
      intro G2 H2 ρ2 v2 hR2 hv2 hS2
      obtain ⟨k1, k2⟩ := hv1.step hS2 rfl fun _ _ z => z
      cases e3 : view sl2 st2 q with
      | none => rw [e3] at h; exact h.elim
      | some y =>
        rw [e3] at h
        have hy := view_ok hR2 hv2 e3
        cases y with
        | int i =>
          cases hy.int
          dsimp only at h
          cases e4 : obOf sl2 st2 r with
          | none => rw [e4] at h; exact h.elim
          | some b =>
            rw [e4] at h
            cases b with
            | lst xs =>
              dsimp only at h
              cases e5 : ixN xs.length i with
              | none => rw [e5] at h; exact h.elim
              | some j =>
                rw [e5] at h
                dsimp only at h
                obtain ⟨p, o, rfl, w1, w2, w3⟩ := ob_write hR2 k1 e4
                obtain ⟨us, rfl, r1⟩ := w2.lstI
                have hx : Rep K cn G2 ρ2 x v := (hv.mono hS1.g hS1.r).mono hS2.g hS2.r
                obtain ⟨y1, y2⟩ := w3 (.lst (xs.set j x)) (.lst (us.set j v)) (.lst (r1.set hx j))
                refine ⟨p, us, i, j, rfl, rfl, w1, by rw [← r1.length]; exact e5, ?_⟩
                exact h G2 _ ρ2 Z.σ y1 (((hS1.end0.trans hS2).end0.trans (y2 _)))
            | _ => exact h.elim
        | _ => exact h.elim
end
/-! ### names at once -/
def noSl : RV → Mn RV
  | .sl j => bnd (esc (.sl j)) fun x => unit (.d x)
  | r => unit r
def noSls : List RV → Mn (List RV)
  | [] => unit []
  | r :: rs => bnd (noSl r) fun q => bnd (noSls rs) fun qs => unit (q :: qs)
def putAll : List Nat → List RV → Mn Fl
  | [], [] => unit .nx
  | i :: is, r :: rs => match r with
    | .sl _ => non
    | r => bnd (assign i r) fun _ => putAll is rs
  | _, _ => non
def mPar (is : List Nat) (m : Mn (List RV)) : Mn Fl := bnd m fun rs => bnd (noSls rs) (putAll is)
def setsσ : L2.St → List Nat → List V → L2.St
  | σ, i :: is, v :: vs => setsσ (σ.set i (some v)) is vs
  | σ, _, _ => σ
section
variable {K : PySem.W.Frag} {cn : String → Addr} {W : WX} {X : Cx} {Z : Zt} {A : Addr → Prop}
theorem assign_step (hR : R K cn Z) {i : Nat} {r : RV} {v : V} (hv : RepRV K cn Z r v) {f : Fl} {sl : Sls} {st : Sto} (h : assign i r Z.sl Z.st = .ok f sl st) :
    f = .nx ∧ ∃ G ρ, R K cn ⟨G, Z.H, ρ, Z.σ.set i (some v), sl, st⟩ ∧ Step Z (rvA r v) ⟨G, Z.H, ρ, Z.σ.set i (some v), sl, st⟩ NoA := by
  have hf : f = .nx := by
    unfold assign at h
    split at h
    · cases h
    · cases h
    · cases r with
      | d x => cases h; rfl
      | f b => cases h; rfl
      | sl j =>
        unfold putIn at h
        dsimp only at h
        split at h
        · cases h; rfl
        · cases h; rfl
        · cases h
  subst hf
  refine ⟨rfl, ?_⟩
  have := assign_ok (W := WF) (D := ⟨fun σ H => ∃ G ρ, R K cn ⟨G, H, ρ, σ, sl, st⟩ ∧ Step Z (rvA r v) ⟨G, H, ρ, σ, sl, st⟩ NoA, fun _ _ => False, fun _ _ => False, fun _ _ => False⟩) hR hv (by
    rw [h]
    exact fun G H ρ σ a b => ⟨G, ρ, a, b⟩)
  exact this
theorem noSl_ok (hR : R K cn Z) {r q : RV} {v : V} {sl : Sls} {st : Sto} (hv : RepRV K cn Z r v) (h : noSl r Z.sl Z.st = .ok q sl st) :
    ∃ G, st = Z.st ∧ (∀ j, q ≠ .sl j) ∧ R K cn ⟨G, Z.H, Z.ρ, Z.σ, sl, st⟩ ∧ RepRV K cn ⟨G, Z.H, Z.ρ, Z.σ, sl, st⟩ q v ∧ Step Z (rvA r v) ⟨G, Z.H, Z.ρ, Z.σ, sl, st⟩ (rvA q v) := by
  cases r with
  | d x => cases h; exact ⟨Z.G, rfl, fun j z => (nomatch z), hR, hv, Step.refl⟩
  | f b => cases h; exact ⟨Z.G, rfl, fun j z => (nomatch z), hR, hv, Step.refl⟩
  | sl j =>
    unfold noSl bnd at h
    dsimp only at h
    cases e : esc (.sl j) Z.sl Z.st with
    | no => rw [e] at h; cases h
    | exc C xs s t => exact (esc_ex e).elim
    | ok x s t =>
      rw [e] at h
      cases h
      obtain ⟨rfl, G, h1, h2, h3⟩ := esc_ok hR hv e
      exact ⟨G, rfl, fun j z => (nomatch z), h1, h2, h3.drop fun _ z => z⟩
theorem noSl_ex {r : RV} {sl sl' : Sls} {st st' : Sto} {C : String} {xs : List (Str × MP.D)} : noSl r sl st ≠ .exc C xs sl' st' := by
  cases r with
  | d x => exact fun z => nomatch z
  | f b => exact fun z => nomatch z
  | sl j =>
    intro z
    unfold noSl bnd at z
    dsimp only at z
    cases e : esc (.sl j) sl st with
    | no => rw [e] at z; cases z
    | exc C xs s t => exact (esc_ex e).elim
    | ok x s t => rw [e] at z; cases z
theorem RepRV.stepσ {Z' : Zt} {A' : Addr → Prop} {r : RV} {v : V} (h : RepRV K cn Z r v) (s : Step Z A Z' A') (hr : ∀ j, r ≠ .sl j) (hA : ∀ a, rvA r v a → ¬ A a) : RepRV K cn Z' r v ∧ ∀ a, rvA r v a → ¬ A' a := by
  cases r with
  | d x => exact ⟨Rep.mono s.g s.r h, fun _ z => z.elim⟩
  | f b =>
    obtain ⟨p, o, rfl, h1, h2, h3, h4, h5⟩ := h
    obtain ⟨q1, q2, q3, q4, q5⟩ := s.keep p o h1 h2 h3 h4 (hA p rfl)
    exact ⟨⟨p, o, rfl, q1, q2, q3, q4, h5.mono s.g s.r⟩, fun a z => by cases z; exact q5⟩
  | sl i => exact (hr i rfl).elim
theorem RepRVs.stepσ {Z' : Zt} {A' : Addr → Prop} : ∀ {rs : List RV} {vs : List V}, RepRVs K cn Z rs vs → Step Z A Z' A' → (∀ r ∈ rs, ∀ j, r ≠ .sl j) → (∀ a, rvsA rs vs a → ¬ A a) → RepRVs K cn Z' rs vs ∧ ∀ a, rvsA rs vs a → ¬ A' a
  | _, _, .nil, _, _, _ => ⟨.nil, fun _ z => z.elim⟩
  | r :: rs, v :: vs, .cons h t d, s, hσ, hA => by
    obtain ⟨h1, h2⟩ := h.stepσ s (hσ r List.mem_cons_self) fun a z => hA a (.inl z)
    obtain ⟨h3, h4⟩ := RepRVs.stepσ t s (fun r hr => hσ r (List.mem_cons_of_mem _ hr)) fun a z => hA a (.inr z)
    exact ⟨.cons h1 h3 d, fun a z => (show rvA r v a ∨ rvsA rs vs a from z).elim (h2 a) (h4 a)⟩
theorem noSls_ok : ∀ {rs qs : List RV} {vs : List V} {Z : Zt} {sl : Sls} {st : Sto}, R K cn Z → RepRVs K cn Z rs vs → noSls rs Z.sl Z.st = .ok qs sl st →
    ∃ G, st = Z.st ∧ (∀ q ∈ qs, ∀ j, q ≠ .sl j) ∧ R K cn ⟨G, Z.H, Z.ρ, Z.σ, sl, st⟩ ∧ RepRVs K cn ⟨G, Z.H, Z.ρ, Z.σ, sl, st⟩ qs vs ∧ Step Z (rvsA rs vs) ⟨G, Z.H, Z.ρ, Z.σ, sl, st⟩ (rvsA qs vs)
  | [], qs, _, Z, sl, st, hR, .nil, h => by
    cases h
    exact ⟨Z.G, rfl, by simp, hR, .nil, Step.refl⟩
  | r :: rs, qs, v :: vs, Z, sl, st, hR, .cons hv t d, h => by
    unfold noSls bnd at h
    cases e : noSl r Z.sl Z.st with
    | no => rw [e] at h; cases h
    | exc C ys s1 t1 => exact (noSl_ex e).elim
    | ok x sl1 st1 =>
      rw [e] at h
      dsimp only at h
      obtain ⟨G1, rfl, hx, hR1, hv1, hS1⟩ := noSl_ok hR hv e
      cases e2 : noSls rs sl1 Z.st with
      | no => rw [e2] at h; cases h
      | exc C ys s1 t1 => rw [e2] at h; cases h
      | ok ys sl2 st2 =>
        rw [e2] at h
        cases h
        obtain ⟨t1, t2⟩ := RepRVs.step t hS1 rfl fun a z q => d a q z
        obtain ⟨G2, h1, hys, hR2, hv2, hS2⟩ := noSls_ok (Z := ⟨G1, Z.H, Z.ρ, Z.σ, sl1, Z.st⟩) hR1 t1 e2
        have h1 : st = Z.st := h1
        subst h1
        obtain ⟨k1, k2⟩ := hv1.step hS2 rfl fun a z1 z2 => t2 a z2 z1
        refine ⟨G2, rfl, fun q hq j => ?_, hR2, .cons k1 hv2 k2, ?_⟩
        · rcases List.mem_cons.mp hq with rfl | hq
          · exact hx j
          · exact hys q hq j
        · have s1 := hS1.with (rvsA rs vs)
          have s2 := hS2.with (rvA x v)
          have s3 : Step ⟨G1, Z.H, Z.ρ, Z.σ, sl1, Z.st⟩ (fun a => rvA x v a ∨ rvsA rs vs a) ⟨G2, Z.H, Z.ρ, Z.σ, sl, Z.st⟩ (fun a => rvsA ys vs a ∨ rvA x v a) := s2.less fun a z => z.elim .inr .inl
          exact ((s1.trans s3).less fun a z => z).drop fun a z => (show rvA x v a ∨ rvsA ys vs a from z).elim .inr .inl
theorem noSls_ex : ∀ {rs : List RV} {sl sl' : Sls} {st st' : Sto} {C : String} {xs : List (Str × MP.D)}, noSls rs sl st ≠ .exc C xs sl' st'
  | [], _, _, _, _, _, _ => fun z => nomatch z
  | r :: rs, sl, sl', st, st', C, xs => fun z => by
    unfold noSls bnd at z
    cases e : noSl r sl st with
    | no => rw [e] at z; cases z
    | exc C ys s1 t1 => exact noSl_ex e
    | ok x sl1 st1 =>
      rw [e] at z
      dsimp only at z
      cases e2 : noSls rs sl1 st1 with
      | no => rw [e2] at z; cases z
      | exc C ys s1 t1 => exact noSls_ex e2
      | ok ys s t => rw [e2] at z; cases z
theorem assign_ex {i : Nat} {r : RV} {sl sl' : Sls} {st st' : Sto} {C : String} {xs : List (Str × MP.D)} : assign i r sl st ≠ .exc C xs sl' st' := by
  intro h
  unfold assign at h
  split at h
  · cases h
  · cases h
  · cases r with
    | d x => cases h
    | f b => cases h
    | sl j =>
      unfold putIn at h
      dsimp only at h
      split at h <;> cases h
theorem putAll_ok {D : Ends} : ∀ {is : List Nat} {rs : List RV} {vs : List V} {Z : Zt}, R K cn Z → RepRVs K cn Z rs vs → PostS K cn W Z (rvsA rs vs) (putAll is rs Z.sl Z.st) D → is.length = vs.length ∧ D.nx (setsσ Z.σ is vs) Z.H
  | [], [], _, Z, hR, .nil, h => ⟨rfl, h Z.G Z.H Z.ρ Z.σ hR Step.refl.end0⟩
  | [], r :: rs, _, Z, hR, hv, h => h.elim
  | i :: is, [], _, Z, hR, hv, h => h.elim
  | i :: is, r :: rs, v :: vs, Z, hR, .cons hv t d, h => by
    have key : (∀ j, r ≠ .sl j) → PostS K cn W Z (rvsA (r :: rs) (v :: vs)) ((bnd (assign i r) fun _ => putAll is rs) Z.sl Z.st) D → (i :: is).length = (v :: vs).length ∧ D.nx (setsσ Z.σ (i :: is) (v :: vs)) Z.H := by
      intro hr h
      unfold bnd at h
      cases e : assign i r Z.sl Z.st with
      | no => rw [e] at h; exact h.elim
      | exc C xs s t => exact (assign_ex e).elim
      | ok f sl st =>
        rw [e] at h
        dsimp only at h
        obtain ⟨rfl, G, ρ, hR1, hS1⟩ := assign_step hR hv e
        have nsl : ∀ q ∈ rs, ∀ j, q ≠ RV.sl j := by
          have : ∀ (is : List Nat) (rs : List RV) sl st, putAll is rs sl st ≠ .no → ∀ q ∈ rs, ∀ j, q ≠ RV.sl j := by
            intro is
            induction is with
            | nil =>
              intro rs sl st z q hq j
              cases rs with
              | nil => simp at hq
              | cons r rs => exact (z rfl).elim
            | cons i is ih =>
              intro rs sl st z q hq j
              cases rs with
              | nil => simp at hq
              | cons r rs =>
                rcases List.mem_cons.mp hq with rfl | hq
                · intro e; subst e; exact z rfl
                · have : putAll (i :: is) (r :: rs) sl st = (bnd (assign i r) fun _ => putAll is rs) sl st ∨ ∃ j, r = .sl j := by
                    cases r with
                    | sl j => exact .inr ⟨j, rfl⟩
                    | d x => exact .inl rfl
                    | f x => exact .inl rfl
                  rcases this with e | ⟨j, rfl⟩
                  · rw [e] at z
                    unfold bnd at z
                    cases e2 : assign i r sl st with
                    | no => rw [e2] at z; exact (z rfl).elim
                    | exc C xs s t => exact (assign_ex e2).elim
                    | ok f s t =>
                      rw [e2] at z
                      exact ih rs _ _ z q hq j
                  · exact (z rfl).elim
          refine this is rs sl st fun z => ?_
          rw [z] at h
          exact h
        obtain ⟨t1, t2⟩ := RepRVs.stepσ t hS1 nsl fun a z q => d a q z
        have hS2 : Step Z (rvsA (r :: rs) (v :: vs)) ⟨G, Z.H, ρ, Z.σ.set i (some v), sl, st⟩ (rvsA rs vs) := ((hS1.with (rvsA rs vs)).less fun a z => z).drop fun a z => .inr z
        obtain ⟨k1, k2⟩ := putAll_ok (Z := ⟨G, Z.H, ρ, Z.σ.set i (some v), sl, st⟩) hR1 t1 (PostS.trans hS2 h)
        exact ⟨by simp [k1], k2⟩
    cases r with
    | sl j => exact h.elim
    | d x => exact key (fun j z => (nomatch z)) h
    | f b => exact key (fun j z => (nomatch z)) h
theorem tms_par {is : List Nat} {m : Mn (List RV)} {D : Ends} {σ : L2.St} {H : Hp} (h : TMs K cn W (mPar is m) D σ H) : TMa K cn W m σ H fun vs H1 => is.length = vs.length ∧ D.nx (setsσ σ is vs) H1 := by
  obtain ⟨G, ρ, sl, st, hR, h⟩ := h
  refine ⟨G, ρ, sl, st, hR, ?_⟩
  unfold mPar bnd at h
  cases e : m sl st with
  | no => rw [e] at h; exact h
  | exc C xs s t => rw [e] at h; exact fun G H ρ d us a b => h G H ρ σ d us a b
  | ok rs sl1 st1 =>
    rw [e] at h
    dsimp only at h
    intro G1 H1 ρ1 vs hR1 hv1 hS1
    cases e2 : noSls rs sl1 st1 with
    | no => rw [e2] at h; exact h.elim
    | exc C xs s t => exact (noSls_ex e2).elim
    | ok qs sl2 st2 =>
      rw [e2] at h
      dsimp only at h
      obtain ⟨G2, e3, hq, hR2, hv2, hS2⟩ := noSls_ok (Z := ⟨G1, H1, ρ1, σ, sl1, st1⟩) hR1 hv1 e2
      exact putAll_ok hR2 hv2 (PostS.trans (hS1.trans hS2) h)
theorem ms_par {i j : Nat} {x y : Str} {a b : Expr} {m : Mn (List RV)} {px py pt pos : Pos} {kt k2 pt2} (hc : X.calm = true) (hN : X.N.Nodup) (hi : X.N[i]? = some x) (hj : X.N[j]? = some y) (hij : i ≠ j)
    (hx : X.env.scope.names.lookup x = some .local) (hy : X.env.scope.names.lookup y = some .local) (ha : PA X [a, b] (TMa K cn W m))
    (hw : swappedStores [.Tuple [.Name x px, .Name y py] kt pt] (.Tuple [a, b] k2 pt2) X.env = pure (some [x, y]))
    (hs : swapsWithSole [.Tuple [.Name x px, .Name y py] kt pt] (.Tuple [a, b] k2 pt2) pos.line X.env = pure false := by rfl) :
    PS X (.Assign [.Tuple [.Name x px, .Name y py] kt pt] (.Tuple [a, b] k2 pt2) pos) (TMs K cn W (mPar [i, j] m)) :=
  PS.imp (ps_par hc hN hi hj hij hx hy ha hw hs) fun D σ H q => (tms_par q).mono fun vs H1 h => by
    obtain ⟨h1, h2⟩ := h
    match vs, h1, h2 with
    | [v, w], _, h2 => exact ⟨v, w, rfl, h2⟩
theorem ms_par3 {i j l : Nat} {x y z : Str} {a b c : Expr} {m : Mn (List RV)} {px py pz pt pos : Pos} {kt k2 pt2} (hc : X.calm = true) (hN : X.N.Nodup) (hi : X.N[i]? = some x) (hj : X.N[j]? = some y) (hl : X.N[l]? = some z) (hij : i ≠ j) (hil : i ≠ l) (hjl : j ≠ l)
    (hx : X.env.scope.names.lookup x = some .local) (hy : X.env.scope.names.lookup y = some .local) (hz : X.env.scope.names.lookup z = some .local) (ha : PA X [a, b, c] (TMa K cn W m))
    (hw : swappedStores [.Tuple [.Name x px, .Name y py, .Name z pz] kt pt] (.Tuple [a, b, c] k2 pt2) X.env = pure (some [x, y, z]))
    (hs : swapsWithSole [.Tuple [.Name x px, .Name y py, .Name z pz] kt pt] (.Tuple [a, b, c] k2 pt2) pos.line X.env = pure false := by rfl) :
    PS X (.Assign [.Tuple [.Name x px, .Name y py, .Name z pz] kt pt] (.Tuple [a, b, c] k2 pt2) pos) (TMs K cn W (mPar [i, j, l] m)) :=
  PS.imp (ps_par3 hc hN hi hj hl hij hil hjl hx hy hz ha hw hs) fun D σ H q => (tms_par q).mono fun vs H1 h => by
    obtain ⟨h1, h2⟩ := h
    match vs, h1, h2 with
    | [v, w, u], _, h2 => exact ⟨v, w, u, rfl, h2⟩
theorem ms_aug {i : Nat} {x : Str} {e : Expr} {m : Mn RV} {f : List RV → Mn RV} {op : Operator} {ti : TIp} {pos pos' : Pos} (hN : X.N.Nodup) (hi : X.N[i]? = some x) (hx : Loc X.env.scope x) (he : PE X e (TM K cn W m)) (ho : PIp X op ti) (hf : OpOk K cn W (r2l ti) f)
    (hd : X.fn x = true ∨ X.env.scope.names.lookup x = some .local := by first | exact .inl rfl | exact .inr rfl | assumption) :
    PS X (.AugAssign (.Name x pos') op e pos) (TMs K cn W (mSet i (mOp f (mCons (mVar i) (mCons m mNil))))) :=
  PS.imp (ps_aug hN hi hx he ho hd) fun D σ H q => by
    have q1 := tm_s (P := fun v σ H => D.nx (σ.set i (some v)) H) q fun G H ρ sl st r v hR hv h => assign_ok (Z := ⟨G, H, ρ, σ, sl, st⟩) hR hv h
    exact tm_var σ H _ (tm_two σ H (tm_op hf σ H _ q1))
theorem ok_iadd : POk K cn (r2l (ipI fun i j => i + j)) (gII fun i j => .d (.int (i + j))) := gII_ok fun Z i j Q hR h => ⟨i, j, rfl, rfl, h _ .int⟩
end
end MP

set_option Elab.async false
set_option linter.all false
set_option maxRecDepth 100000
set_option maxHeartbeats 4000000
/-! MP12: list comprehensions. -/
namespace MP
open PySem PySem.Spec PyProof.Rows L2
open Evl (Ex)
/-- a target that stores in its own slots alone -/
def GIn (vs : List Nat) (g : TG) : Prop := ∀ v (σ : L2.St) H (Q Q' : L2.St → Hp → Prop), (∀ σ2 H2, L2.wipe σ2 vs = L2.wipe σ vs → Q σ2 H2 → Q' σ2 H2) → g v σ H Q → g v σ H Q'
def GsIn (vs : List Nat) (g : TGs) : Prop := ∀ v (σ : L2.St) H (Q Q' : L2.St → Hp → Prop), (∀ σ2 H2, L2.wipe σ2 vs = L2.wipe σ vs → Q σ2 H2 → Q' σ2 H2) → g v σ H Q → g v σ H Q'
section
variable {K : PySem.W.Frag} {cn : String → Addr} {W : WX} {X : Cx} {Z : Zt} {A : Addr → Prop}
theorem wipe_set {σ : L2.St} {i : Nat} {u : Option V} : ∀ {vs : List Nat}, i ∈ vs → L2.wipe (σ.set i u) vs = L2.wipe σ vs
  | v :: vs, h => by
    show (L2.wipe (σ.set i u) vs).set v none = (L2.wipe σ vs).set v none
    by_cases c : i ∈ vs
    · rw [wipe_set c]
    · have e : i = v := (List.mem_cons.mp h).resolve_right c
      subst e
      have : ∀ (σ : L2.St) (vs : List Nat) , i ∉ vs → L2.wipe (σ.set i u) vs = (L2.wipe σ vs).set i u := by
        intro σ vs
        induction vs with
        | nil => intro _; rfl
        | cons w vs ih =>
          intro hn
          show (L2.wipe (σ.set i u) vs).set w none = ((L2.wipe σ vs).set w none).set i u
          rw [ih fun z => hn (List.mem_cons_of_mem _ z), List.set_comm _ _ (fun z => hn (by rw [z]; exact List.mem_cons_self))]
      rw [this σ vs c, List.set_set]
theorem gin_nm {vs : List Nat} {i : Nat} (h : i ∈ vs) : GIn vs (gName i) := fun v σ H Q Q' k q => k _ _ (wipe_set h) q
theorem gsin_nil {vs : List Nat} : GsIn vs gNil := fun v σ H Q Q' k q => ⟨q.1, k _ _ rfl q.2⟩
theorem gsin_cons {vs : List Nat} {g : TG} {gs : TGs} (h1 : GIn vs g) (h2 : GsIn vs gs) : GsIn vs (gCons g gs) := fun v σ H Q Q' k q => by
  obtain ⟨x, xs, e, q⟩ := q
  exact ⟨x, xs, e, h1 x σ H _ _ (fun σ2 H2 e2 q2 => h2 xs σ2 H2 _ _ (fun σ3 H3 e3 q3 => k _ _ (e3.trans e2) q3) q2) q⟩
theorem gin_tp {vs : List Nat} {gs : TGs} {n : Nat} (h : GsIn vs gs) : GIn vs (gTup K n gs) := fun v σ H Q Q' k q => by
  obtain ⟨a, xs, e, h1, h2, q⟩ := q
  exact ⟨a, xs, e, h1, h2, h xs σ H _ _ k q⟩

/-- the new list that is in hand -/
def Hand (p : Addr) (us : List V) (Z : Zt) : Prop := Z.H p = some (.lst us) ∧ Z.G p = none ∧ p ∉ Z.ρ ∧ ¬ Z.own p
theorem Hand.step {p : Addr} {us : List V} {Z Z' : Zt} {A A' : Addr → Prop} (h : Hand p us Z) (s : Step Z A Z' A') (n : ¬ A p) : Hand p us Z' ∧ ¬ A' p := by
  obtain ⟨a, b, c, d, e⟩ := s.keep p _ h.1 h.2.1 h.2.2.1 h.2.2.2 n
  exact ⟨⟨a, b, c, d⟩, e⟩
theorem wipe_u {Z : Zt} {vs : List Nat} : ∀ j ∈ vs, ∀ s, (Z.wipe vs).sl[j]? = some s → s = Sl.u := wipeS_u Z.sl vs
def WI (K : PySem.W.Frag) (cn : String → Addr) (t : Tgt) (tt : Mn Bool) (te : Mn RV) (vs : List Nat) (xs : List MP.D) (P : Zt → Prop) (p : Addr) (ZW : Zt) (σ : L2.St) (q : Res (List MP.D)) (i m : Nat) (H : Hp) : Prop :=
  m + i = xs.length ∧ ∃ G ρ sl st acc us, R K cn ⟨G, H, ρ, L2.wipe σ vs, sl, st⟩ ∧ P ⟨G, H, ρ, L2.wipe σ vs, sl, st⟩ ∧ Step ZW NoA ⟨G, H, ρ, L2.wipe σ vs, sl, st⟩ (· = p) ∧ Hand p us ⟨G, H, ρ, L2.wipe σ vs, sl, st⟩ ∧ Reps K cn G ρ acc us ∧ (∀ j ∈ vs, ∀ s, sl[j]? = some s → s = Sl.u) ∧ compL t tt te vs (xs.drop i) acc sl st = q
theorem wi_turn {t : Tgt} {tt : Mn Bool} {te : Mn RV} {vs : List Nat} {xs : List MP.D} {B : Addr → Prop} {P : Zt → Prop} {J : It} {p : Addr} {ZW : Zt} {σ : L2.St} {ys : List MP.D} {slf : Sls} {stf : Sto} {g : TG} (hk : GOk K cn WF g t) (hin : GIn vs g) (hW : Walks K cn J xs B P) (hB : ¬ B p)
    {i m : Nat} {H : Hp} (ci : i < xs.length) (h : WI K cn t tt te vs xs P p ZW σ (.ok ys slf stf) i m H) :
    J.go i H ∧ ∃ Nx : Hp → Prop, (∀ H', Nx H' → ∃ m', m' < m ∧ WI K cn t tt te vs xs P p ZW σ (.ok ys slf stf) (i + 1) m' H') ∧ ∀ x H', J.yld i H x H' → g x (L2.wipe σ vs) H' fun σ2 H2 => L2.wipe σ2 vs = L2.wipe σ vs ∧ TMt K cn WF tt σ2 H2 fun b H3 =>
    if b = true then TM K cn WF te σ2 H3 fun y H4 => ∃ acc, H4 p = some (.lst acc) ∧ acc.length < sizeLine ∧ Nx (upd H4 p (.lst (acc ++ [y]))) else Nx H3 := by
  obtain ⟨hm, G', ρ', sl', st', acc, us, hR', hP', hS', hD', hacc, hu, hc⟩ := h
  obtain ⟨hgo, hy⟩ := hW.go hR' hP' (List.getElem?_eq_getElem ci)
  refine ⟨hgo, fun H2 => WI K cn t tt te vs xs P p ZW σ (.ok ys slf stf) (i + 1) (m - 1) H2, fun H2 z => ⟨m - 1, by omega, z⟩, fun v H2 hyl => ?_⟩
  obtain ⟨G2, hR2, hv, hS2⟩ := hy v H2 hyl
  have hP2 := hW.keep hP' hS2
  obtain ⟨hD2, _⟩ := hD'.step hS2 fun z => z
  have ww : L2.wipe (L2.wipe σ vs) vs = L2.wipe σ vs := wipe_wipe (σ2 := σ) rfl
  rw [List.drop_eq_getElem_cons ci] at hc
  unfold compL at hc
  refine hin v (L2.wipe σ vs) H2 (fun σ3 H3 => L2.wipe σ3 vs = L2.wipe σ vs → TMt K cn WF tt σ3 H3 fun b H3 =>
    if b = true then TM K cn WF te σ3 H3 fun y H4 => ∃ acc, H4 p = some (.lst acc) ∧ acc.length < sizeLine ∧ WI K cn t tt te vs xs P p ZW σ (.ok ys slf stf) (i + 1) (m - 1) (upd H4 p (.lst (acc ++ [y]))) else WI K cn t tt te vs xs P p ZW σ (.ok ys slf stf) (i + 1) (m - 1) H3) _ (fun σ3 H3 ew q => ⟨ew.trans ww, q (ew.trans ww)⟩) ?_
  refine hk ⟨G2, H2, ρ', L2.wipe σ vs, sl', st'⟩ xs[i] v ⟨_, fun _ _ => False, fun _ _ => False, fun _ _ => False⟩ hR2 hv ?_
  cases et : mTgt t xs[i] sl' st' with
  | no => rw [et] at hc; cases hc
  | exc C zs s3 t3 => rw [et] at hc; cases hc
  | ok f s3 t3 =>
    rw [et] at hc
    cases f with
    | bk => cases hc
    | ct => cases hc
    | rt r => cases hc
    | nx =>
      intro G3 H3 ρ3 σ3 hR3 hS3 ew
      dsimp only at hc
      have hP3 := hW.keep hP2 hS3
      obtain ⟨hD3, _⟩ := hD2.step hS3 fun z => z
      refine ⟨G3, ρ3, s3, t3, hR3, ?_⟩
      cases ett : tt s3 t3 with
      | no => rw [ett] at hc; cases hc
      | exc C zs s4 t4 => rw [ett] at hc; cases hc
      | ok b s4 t4 =>
        rw [ett] at hc
        intro G4 H4 ρ4 hR4 hS4
        have hP4 := hW.keep hP3 hS4
        obtain ⟨hD4, _⟩ := hD3.step hS4 fun z => z
        have hS24 : Step ⟨G', H, ρ', L2.wipe σ vs, sl', st'⟩ NoA ⟨G4, H4, ρ4, σ3, s4, t4⟩ NoA := (hS2.trans hS3).trans hS4
        cases b with
        | false =>
          dsimp only at hc
          by_cases cl : noLk s4 vs = true
          · rw [if_pos cl] at hc
            rw [if_neg (by decide)]
            have hw : Step ⟨G4, H4, ρ4, σ3, s4, t4⟩ (· = p) ⟨G4, H4, ρ4, L2.wipe σ vs, wipeS s4 vs, t4⟩ (· = p) := by
              have := Step.wipe (Z := ⟨G4, H4, ρ4, σ3, s4, t4⟩) (A := (· = p)) (vs := vs) cl
              unfold Zt.wipe at this
              dsimp only at this
              rw [ew] at this
              exact this
            have hw0 : Step ⟨G4, H4, ρ4, σ3, s4, t4⟩ NoA ⟨G4, H4, ρ4, L2.wipe σ vs, wipeS s4 vs, t4⟩ NoA := by
              have := Step.wipe (Z := ⟨G4, H4, ρ4, σ3, s4, t4⟩) (A := NoA) (vs := vs) cl
              unfold Zt.wipe at this
              dsimp only at this
              rw [ew] at this
              exact this
            have hRw : R K cn ⟨G4, H4, ρ4, L2.wipe σ vs, wipeS s4 vs, t4⟩ := by
              have := hR4.wipe vs
              unfold Zt.wipe at this
              dsimp only at this
              rw [ew] at this
              exact this
            refine ⟨by omega, G4, ρ4, wipeS s4 vs, t4, acc, us, hRw, hW.keep hP4 hw0, ?_, (hD4.step hw0 fun z => z).1, hacc.mono hS24.g hS24.r, wipeS_u s4 vs, hc⟩
            have s1 := (hS24.with (· = p)).less (B := (· = p)) (fun a z => z.elim False.elim id)
            exact (hS'.trans (s1.drop fun a z => .inr z)).trans hw
          · rw [if_neg cl] at hc; cases hc
        | true =>
          dsimp only at hc
          rw [if_pos rfl]
          refine ⟨G4, ρ4, s4, t4, hR4, ?_⟩
          cases etx : te s4 t4 with
          | no => rw [etx] at hc; cases hc
          | exc C zs s5 t5 => rw [etx] at hc; cases hc
          | ok r s5 t5 =>
            rw [etx] at hc
            dsimp only at hc
            intro G5 H5 ρ5 y hR5 hy5 hS5
            cases ee : esc r s5 t5 with
            | no => rw [ee] at hc; cases hc
            | exc C zs s6 t6 => rw [ee] at hc; cases hc
            | ok yd s6 t6 =>
              rw [ee] at hc
              dsimp only at hc
              obtain ⟨rfl, G6, hR6, hy6, hS6⟩ := esc_ok (Z := ⟨G5, H5, ρ5, σ3, s5, t5⟩) hR5 hy5 ee
              obtain ⟨hD5, n5⟩ := hD4.step hS5 fun z => z
              obtain ⟨hD6, _⟩ := hD5.step hS6 n5
              have hS26 : Step ⟨G', H, ρ', L2.wipe σ vs, sl', st'⟩ NoA ⟨G6, H5, ρ5, σ3, s6, t6⟩ NoA := (hS24.trans hS5).trans hS6
              have hP6 := hW.keep hP' hS26
              by_cases cl : acc.length < 100000 ∧ noLk s6 vs = true
              · rw [if_pos cl] at hc
                refine ⟨us, hD6.1, by rw [← hacc.length]; exact Nat.lt_trans cl.1 (by decide), ?_⟩
                have hRh := R.hand hR6 (u := .lst (us ++ [y])) hD6.1 hD6.2.1 hD6.2.2.1 hD6.2.2.2
                have hSh := Step.hand hR6 (u := .lst (us ++ [y])) hD6.2.2.1 hD6.2.2.2
                have hw : ∀ A, Step ⟨G6, upd H5 p (.lst (us ++ [y])), ρ5, σ3, s6, t6⟩ A ⟨G6, upd H5 p (.lst (us ++ [y])), ρ5, L2.wipe σ vs, wipeS s6 vs, t6⟩ A := fun A => by
                  have := Step.wipe (Z := ⟨G6, upd H5 p (.lst (us ++ [y])), ρ5, σ3, s6, t6⟩) (A := A) (vs := vs) cl.2
                  unfold Zt.wipe at this
                  dsimp only at this
                  rw [ew] at this
                  exact this
                have hRw : R K cn ⟨G6, upd H5 p (.lst (us ++ [y])), ρ5, L2.wipe σ vs, wipeS s6 vs, t6⟩ := by
                  have := hRh.wipe vs
                  unfold Zt.wipe at this
                  dsimp only at this
                  rw [ew] at this
                  exact this
                have hDh : Hand p (us ++ [y]) ⟨G6, upd H5 p (.lst (us ++ [y])), ρ5, σ3, s6, t6⟩ := ⟨upd_same, hD6.2.1, hD6.2.2.1, hD6.2.2.2⟩
                refine ⟨by omega, G6, ρ5, wipeS s6 vs, t6, acc ++ [yd], us ++ [y], hRw, ?_, ?_, (hDh.step (hw NoA) fun z => z).1, (hacc.mono hS26.g hS26.r).append (.cons hy6 .nil), wipeS_u s6 vs, hc⟩
                · refine hW.keep (hW.keepA hP6 hSh fun a z => ?_) (hw NoA)
                  subst z; exact hB
                · have s1 := (hS26.with (· = p)).less (B := (· = p)) (fun a z => z.elim False.elim id)
                  exact ((hS'.trans (s1.drop fun a z => .inr z)).trans hSh).trans (hw _)
              · rw [if_neg cl] at hc; cases hc
theorem tm_comp {vs : List Nat} {mi : Mn (List MP.D × Hd)} {t : Tgt} {tt : Mn Bool} {te : Mn RV} {g : TG} (hk : GOk K cn WF g t) (hin : GIn vs g) : ∀ σ H Q, TM K cn W (mComp vs mi t tt te) σ H Q → tLc (TMi K cn W mi) g (TMt K cn WF tt) (TM K cn WF te) vs σ H Q := by
  rintro σ H Q ⟨G, ρ, sl, st, hR, h⟩
  refine ⟨G, ρ, sl, st, hR, ?_⟩
  unfold mComp bnd at h
  cases e : mi sl st with
  | no => rw [e] at h; exact h
  | exc C xs s t => rw [e] at h; exact h
  | ok w sl1 st1 =>
    obtain ⟨xs, hd⟩ := w
    rw [e] at h
    dsimp only at h
    intro G1 H1 ρ1 A' J B P hR1 hS hB hW hP p hp
    by_cases c : noLk (lockS hd sl1) vs = true
    · rw [if_pos c] at h
      cases ec : compL t tt te vs xs [] (wipeS (lockS hd sl1) vs) (lockC hd st1) with
      | no => rw [ec] at h; exact h.elim
      | exc C xs s t => rw [ec] at h; exact h.elim
      | ok ys slf stf =>
        rw [ec] at h
        dsimp only at h
        have hRL := hR1.lock hd
        have hRW := hRL.wipe vs
        have hpW : (Zt.wipe (Zt.lock ⟨G1, H1, ρ1, σ, sl1, st1⟩ hd) vs).H p = none := hp
        have hB' : ¬ B p := fun z => hB p z hp
        refine ⟨WI K cn t tt te vs xs P p (Zt.wipe (Zt.lock ⟨G1, H1, ρ1, σ, sl1, st1⟩ hd) vs) σ (.ok ys slf stf), ⟨xs.length, ?_⟩, ?_⟩
        · have hl := hRW.laid (.lst []) hpW
          have sl0 : ∀ A, Step (Zt.wipe (Zt.lock ⟨G1, H1, ρ1, σ, sl1, st1⟩ hd) vs) A _ (fun a => A a ∨ a = p) := fun A => Step.laid hRW (.lst []) hpW
          have sw : Step (Zt.lock ⟨G1, H1, ρ1, σ, sl1, st1⟩ hd) NoA (Zt.wipe (Zt.lock ⟨G1, H1, ρ1, σ, sl1, st1⟩ hd) vs) NoA := Step.wipe c
          refine ⟨by omega, G1, ρ1, _, _, [], [], hl, hW.keep (hW.keep hP sw) (sl0 NoA), (sl0 NoA).drop fun a z => .inr z, ⟨upd_same, hRW.gnone hpW, hRW.rnew hpW, hRW.onew hpW⟩, .nil, wipe_u, ?_⟩
          rw [List.drop_zero]; exact ec
        · intro i m H' hwi
          by_cases ci : i < xs.length
          · exact .inr (wi_turn hk hin hW hB' ci hwi)
          · left
            obtain ⟨hm, G', ρ', sl', st', acc, us, hR', hP', hS', hD', hacc, hu, hc⟩ := hwi
            have ei : i = xs.length := by omega
            subst ei
            refine ⟨hW.stop hR' hP', ?_⟩
            rw [List.drop_length] at hc
            cases hc
            obtain ⟨b1, b2, b3⟩ := hRL.back hR' hS' hu
            have sm := unl_same hd sl1 (backS (lockS hd sl1) slf vs) st1 stf
            refine h G' H' ρ' (.ref p) (b1.same sm) ?_ (hS.end0.trans ?_)
            · refine RepRV.same (Z := ⟨G', H', ρ', σ, backS (lockS hd sl1) slf vs, stf⟩) sm ?_
              exact ⟨p, .lst us, rfl, hD'.1, hD'.2.1, hD'.2.2.1, b3 p rfl hD'.2.2.2, .lst hacc⟩
            · exact (Step.unlock (Z := ⟨G1, H1, ρ1, σ, sl1, st1⟩) (Z1 := ⟨G', H', ρ', σ, backS (lockS hd sl1) slf vs, stf⟩) b2).drop fun a z => by cases z; rfl
    · rw [if_neg c] at h; exact h.elim
end
end MP

set_option Elab.async false
set_option linter.all false
set_option maxRecDepth 100000
set_option maxHeartbeats 4000000
/-! MP13: instances: defaults, methods, properties, fields, making. -/
namespace MP
open PySem PySem.Spec PyProof.Rows L2
open Evl (Ex)
section
variable {X : Cx} {CX : CXT} {k : Nat} {f C : Addr} {fd : FuncData} {ps : List Str} {sp : Sp} {E : L2.St → XK} {x m : Str} {p pos apos : Pos} {e o : Expr} {es : List Expr} {ta : TE} {t : TA} {ds : List Value} {dvs : List V}
theorem run_fnD {pins : List (Addr × Obj)} {σ : L2.St} {H : Hp} {s : Shared} {Q : VK} {us : List Value} {vs : List V} (F : FnOk X.prog X.w X.K X.mg X.base CX k f fd ps sp) (hr : Room k X.A) (hb : Binds X.K fd ps ds) (hd : Vals dvs ds) (hx : PassesAt CX X σ (E σ))
    (I : Inv X pins σ H s) (r : Vals vs us) (h : sp (vs ++ dvs) H Q (E σ)) : wpAny (model X.prog X.w) X.A (call (.ref f) us) (EP X pins σ Q) X.xe s := by
  have r2 : Vals (vs ++ dvs) (us ++ ds) := r.append hd
  have hl : (us ++ ds).length = ps.length := by rw [← r2.length]; exact F.len _ _ _ _ h
  refine wpAny_call (codeAny_mono (F.run X.A X.stack s H ⟨us, []⟩ (us ++ ds) (vs ++ dvs) Q (E σ) hr I.env0 (hb s us I.kIn hl) r2 h) fun r s' hq => ?_)
  cases r with
  | error e => exact hx pins H s e s' I hq
  | ok fl =>
    cases fl with
    | ret u => exact I.after hq
    | next => exact False.elim hq
    | brk => exact False.elim hq
    | cont => exact False.elim hq
theorem pe_callD (F : FnOk X.prog X.w X.K X.mg X.base CX k f fd ps sp) (hr : Room k X.A) (hg : Gl X x) (hm : X.mg x = some (.ref f)) (hk : PySem.W.keepIn X.K (.ref f) = true) (hb : Binds X.K fd ps ds) (hd : Vals dvs ds) (hx : ∀ σ, PassesAt CX X σ (E σ))
    (ha : PA X (e :: es) t) (hdb : (x == ("__debug__" : Str)) = false := by decide) (he : starEach (e :: es) X.env = (false, eval e X.env) :: starEach es X.env := by rfl) (hpl : (backTo pos (starEach es X.env)).any (·.1) = false := by rfl) :
    PE X (.Call (.Name x p) (e :: es) [] pos) (fun σ H Q => t σ H fun vs H1 => sp (vs ++ dvs) H1 Q (E σ)) := by
  refine ⟨fun pins s σ H Q I h => ?_⟩
  refine wpAny_Call_Name_kw (ld_glob I hg hm ?_ hdb)
  refine PySem.W.callWith_K (h₀ := X.base) I.ok.mod.kin hk (thn (ha.run pos pins s σ H _ I h) fun us s1 ⟨vs, H1, I1, r, q⟩ => ⟨I1.kIn, ?_⟩) he hpl
  exact run_fnD F hr hb hd (hx σ) I1 r q
theorem pe_callD0 (F : FnOk X.prog X.w X.K X.mg X.base CX k f fd ps sp) (hr : Room k X.A) (hg : Gl X x) (hm : X.mg x = some (.ref f)) (hk : PySem.W.keepIn X.K (.ref f) = true) (hb : Binds X.K fd ps ds) (hd : Vals dvs ds) (hx : ∀ σ, PassesAt CX X σ (E σ))
    (hdb : (x == ("__debug__" : Str)) = false := by decide) : PE X (.Call (.Name x p) [] [] pos) (fun σ H Q => sp ([] ++ dvs) H Q (E σ)) := by
  refine ⟨fun pins s σ H Q I h => ?_⟩
  refine wpAny_Call_Name_kw (ld_glob I hg hm ?_ hdb)
  exact PySem.W.callWith_K0 I.kIn hk (run_fnD (us := []) F hr hb hd (hx σ) I .nil h)
theorem run_makeD {pins : List (Addr × Obj)} {σ : L2.St} {H : Hp} {s : Shared} {Q : VK} {us : List Value} {vs : List V} (M : Mk X.K C f) (F : FnOk X.prog X.w X.K X.mg X.base CX k f fd ps sp) (hr : Room (k + 1) X.A) (hb : Binds X.K fd ps ds) (hd : Vals dvs ds)
    (hx : PassesAt CX X σ (E σ)) (I : Inv X pins σ H s) (r : Vals vs us)
    (h : ∀ x dx, H x = none → H dx = none → dx ≠ x → sp (.ref x :: (vs ++ dvs)) (upd (upd H dx (.own x)) x (.ins C dx [])) (fun v H2 => v = .non ∧ Q (.ref x) H2) (E σ)) :
    wpAny (model X.prog X.w) X.A (call (.ref C) us) (EP X pins σ Q) X.xe s := by
  have hq := h (s.heap.objs.size + 1) s.heap.objs.size (I.hok.fresh (Nat.le_succ _)) (I.hok.fresh (Nat.le_refl _)) (Nat.ne_of_lt (Nat.lt_succ_self _))
  have I2 := Inv.made (C := C) I
  have r2 : Vals (V.ref (s.heap.objs.size + 1) :: (vs ++ dvs)) (Value.ref (s.heap.objs.size + 1) :: (us ++ ds)) := .cons rfl (r.append hd)
  have hl : (Value.ref (s.heap.objs.size + 1) :: us ++ ds).length = ps.length := by
    have e := r2.length
    rw [F.len _ _ _ _ hq] at e
    exact e.symm
  refine wpAny_call (make_map (f := f) I.kIn M.makes M.init (beq_iff_eq.mp M.fn) (codeAny_mono (F.run _ X.stack _ _ ⟨Value.ref (s.heap.objs.size + 1) :: us, []⟩ (Value.ref (s.heap.objs.size + 1) :: (us ++ ds)) _ _ (E σ) (hr.make C us [])
    (I2.env0.make C us []) (hb _ (Value.ref (s.heap.objs.size + 1) :: us) I2.kIn hl) r2 hq) fun r s' hq' => ?_))
  cases r with
  | error e => exact hx pins _ _ e s' I2 hq'
  | ok fl =>
    cases fl with
    | ret u =>
      obtain ⟨v, H', I3, rv, ev, q3⟩ := I2.after hq'
      subst ev
      exact ⟨rv, ⟨V.ref (s.heap.objs.size + 1), H', I3, rfl, q3⟩⟩
    | next => exact False.elim hq'
    | brk => exact False.elim hq'
    | cont => exact False.elim hq'
def tMakeS (C : Addr) (sp : Sp) (dvs : List V) (E : L2.St → XK) (t : TA) : TE := fun σ H Q => t σ H fun vs H1 => ∀ x dx, H1 x = none → H1 dx = none → dx ≠ x →
  sp (.ref x :: (vs ++ dvs)) (upd (upd H1 dx (.own x)) x (.ins C dx [])) (fun v H2 => v = .non ∧ Q (.ref x) H2) (E σ)
theorem pe_makeS (M : Mk X.K C f) (F : FnOk X.prog X.w X.K X.mg X.base CX k f fd ps sp) (hr : Room (k + 1) X.A) (hg : Gl X x) (hm : X.mg x = some (.ref C)) (hb : Binds X.K fd ps ds) (hd : Vals dvs ds) (hx : ∀ σ, PassesAt CX X σ (E σ))
    (ha : PA X (e :: es) t) (hdb : (x == ("__debug__" : Str)) = false := by decide) (he : starEach (e :: es) X.env = (false, eval e X.env) :: starEach es X.env := by rfl) (hpl : (backTo pos (starEach es X.env)).any (·.1) = false := by rfl) :
    PE X (.Call (.Name x p) (e :: es) [] pos) (tMakeS C sp dvs E t) := by
  refine ⟨fun pins s σ H Q I h => ?_⟩
  refine wpAny_Call_Name_kw (ld_glob I hg hm ?_ hdb)
  refine PySem.W.callWith_K (h₀ := X.base) I.ok.mod.kin M.kp (thn (ha.run pos pins s σ H _ I h) fun us s1 ⟨vs, H1, I1, r, q⟩ => ⟨I1.kIn, ?_⟩) he hpl
  exact run_makeD M F hr hb hd (hx σ) I1 r q
def tMethS' (C : Addr) (m : Str) (sp : Sp) (dvs : List V) (E : L2.St → XK) (ta : TE) (t : TA) : TE := fun σ H Q => ta σ H fun x H1 => ∃ a dx fs, x = .ref a ∧ H1 a = some (.ins C dx fs) ∧ fs.lookup m = none ∧
  t σ H1 fun vs H2 => sp (x :: (vs ++ dvs)) H2 Q (E σ)
theorem pe_methD {pl : Sem Bool} (he : PE X o ta) (c : Cls X.K C) (hm : Meth X.K C m f) (F : FnOk X.prog X.w X.K X.mg X.base CX k f fd ps sp) (hr : Room k X.A) (hb : Binds X.K fd ps ds) (hd : Vals dvs ds) (hx : ∀ σ, PassesAt CX X σ (E σ)) (ha : PA X (e :: es) t)
    (hst : starEach (e :: es) X.env = (false, eval e X.env) :: starEach es X.env := by rfl) (hpl : (backTo pos (starEach es X.env)).any (·.1) = false := by rfl)
    (ht : eval (.Call (.Attribute o m apos) (e :: es) [] pos) X.env = (do
      let ov ← eval o X.env
      standAt apos.atName
      let (f, first) ← holding [ov] (getMethod ov m pl)
      callWith pos f first (backTo pos (starEach (e :: es) X.env)) (backToKw pos (keywordEach [] X.env))) := by rfl) :
    PE X (.Call (.Attribute o m apos) (e :: es) [] pos) (tMethS' C m sp dvs E ta t) := by
  refine ⟨fun pins s σ H Q I h => ?_⟩
  refine PySem.W.methodCall_KW (pl := pl) (thn (he.run pins s σ H _ I h) fun u s1 ⟨x, H1, I1, rx, a, dx, fs, ex, ea, l, q⟩ => ?_) ht
  subst ex
  obtain rfl : u = Value.ref a := rx
  refine getmeth_ok I1 ea c hm l ?_
  refine PySem.W.callWith_K (first := [.ref a]) (h₀ := X.base) I.ok.mod.kin hm.kp (thn (ha.run pos pins s1 σ H1 _ I1 q) fun us s2 ⟨vs, H2, I2, r, q2⟩ => ⟨I2.kIn, ?_⟩) hst hpl
  exact run_fnD (us := .ref a :: us) (vs := .ref a :: vs) F hr hb hd (hx σ) I2 (.cons rfl r) q2
theorem pe_methD0 {pl : Sem Bool} (he : PE X o ta) (c : Cls X.K C) (hm : Meth X.K C m f) (F : FnOk X.prog X.w X.K X.mg X.base CX k f fd ps sp) (hr : Room k X.A) (hb : Binds X.K fd ps ds) (hd : Vals dvs ds) (hx : ∀ σ, PassesAt CX X σ (E σ))
    (ht : eval (.Call (.Attribute o m apos) [] [] pos) X.env = (do
      let ov ← eval o X.env
      standAt apos.atName
      let (f, first) ← holding [ov] (getMethod ov m pl)
      callWith pos f first (backTo pos (starEach [] X.env)) (backToKw pos (keywordEach [] X.env))) := by rfl) :
    PE X (.Call (.Attribute o m apos) [] [] pos) (tMethS' C m sp dvs E ta tNil) := by
  refine ⟨fun pins s σ H Q I h => ?_⟩
  refine PySem.W.methodCall_KW (pl := pl) (thn (he.run pins s σ H _ I h) fun u s1 ⟨x, H1, I1, rx, a, dx, fs, ex, ea, l, q⟩ => ?_) ht
  subst ex
  obtain rfl : u = Value.ref a := rx
  refine getmeth_ok I1 ea c hm l ?_
  exact PySem.W.callWith_K0 (first := [.ref a]) I1.kIn hm.kp (run_fnD (us := [.ref a]) (vs := [.ref a]) F hr hb hd (hx σ) I1 (.cons rfl .nil) q)
end
/-! ### calls with defaults -/
def callD (φ : Fn) (n : Nat) (dd : List D) (rs : List RV) : Mn RV := bnd (escs rs) fun ds sl st => if (ds ++ dd).length = n then ofC sl (φ (ds ++ dd) st) else .no
/-- closed data: what it stands for -/
def Cld (K : PySem.W.Frag) (cn : String → Addr) (dd : List D) (dvs : List V) : Prop := ∀ G ρ, Reps K cn G ρ dd dvs
section
variable {K : PySem.W.Frag} {cn : String → Addr} {W : WX} {X : Cx} {Z : Zt} {A : Addr → Prop}
theorem cld_nil : Cld K cn [] [] := fun _ _ => .nil
theorem cld_cons {x : D} {v : V} {xs : List D} {vs : List V} (h : ∀ G ρ, Rep K cn G ρ x v) (t : Cld K cn xs vs) : Cld K cn (x :: xs) (v :: vs) := fun G ρ => .cons (h G ρ) (t G ρ)
theorem callD_ok {φ : Fn} {n : Nat} {dd : List D} {dvs : List V} (hd : Cld K cn dd dvs) : OpOkS K cn W (fun σ vs H Q => spM K cn φ n (vs ++ dvs) H Q (fun cls d H => W cls d σ H)) (callD φ n dd) := op_escsS fun Z xs vs Q hR hx h => by
  by_cases c : (xs ++ dd).length = n
  · rw [if_pos c] at h
    have r := hx.append (hd Z.G Z.ρ)
    exact ⟨by rw [← r.length]; exact c, Z.G, Z.ρ, Z.st, _, hR.bare, r, postC_of hR h⟩
  · rw [if_neg c] at h
    exact h.elim
theorem me_callD {k n : Nat} {f : Addr} {fd : FuncData} {ps : List Str} {φ : Fn} {x : Str} {e : Expr} {es : List Expr} {p pos : Pos} {m : Mn (List RV)} {ds : List Value} {dvs : List V} {dd : List MP.D} (F : FnOk X.prog X.w X.K X.mg X.base (L2.CX X.prog X.w) k f fd ps (spM K cn φ n)) (tk : Takes X W) (hr : Room k X.A) (hg : Gl X x) (hm : X.mg x = some (.ref f)) (hk : PySem.W.keepIn X.K (.ref f) = true) (hb : Binds X.K fd ps ds) (hd : Vals dvs ds) (hc : Cld K cn dd dvs)
    (ha : PA X (e :: es) (TMa K cn W m)) (hdb : (x == ("__debug__" : Str)) = false := by decide) (he : starEach (e :: es) X.env = (false, eval e X.env) :: starEach es X.env := by rfl) (hpl : (backTo pos (starEach es X.env)).any (·.1) = false := by rfl) :
    PE X (.Call (.Name x p) (e :: es) [] pos) (TM K cn W (mOp (callD φ n dd) m)) :=
  PE.imp (pe_callD (E := WE W) F hr hg hm hk hb hd (fun σ => passAt tk σ) ha hdb he hpl) fun σ H Q q => tm_opS (callD_ok hc) σ H Q q
theorem me_callD0 {k n : Nat} {f : Addr} {fd : FuncData} {ps : List Str} {φ : Fn} {x : Str} {p pos : Pos} {ds : List Value} {dvs : List V} {dd : List MP.D} (F : FnOk X.prog X.w X.K X.mg X.base (L2.CX X.prog X.w) k f fd ps (spM K cn φ n)) (tk : Takes X W) (hr : Room k X.A) (hg : Gl X x) (hm : X.mg x = some (.ref f)) (hk : PySem.W.keepIn X.K (.ref f) = true) (hb : Binds X.K fd ps ds) (hd : Vals dvs ds) (hc : Cld K cn dd dvs)
    (hdb : (x == ("__debug__" : Str)) = false := by decide) :
    PE X (.Call (.Name x p) [] [] pos) (TM K cn W (mOp (callD φ n dd) mNil)) :=
  PE.imp (pe_callD0 (E := WE W) F hr hg hm hk hb hd (fun σ => passAt tk σ) hdb) fun σ H Q q => tma_nil σ H _ (tm_opS (callD_ok hc) σ H Q q)
end
/-! ### methods -/
/-- an instance of the class C without a field m -/
def mIns (C : String) (m : Str) (mo : Mn RV) : Mn RV := bnd mo fun r sl st => match view sl st r with
  | some (.obj C' fs) => if C' = C ∧ fs.lookup m = none then .ok r sl st else .no
  | _ => .no
section
variable {K : PySem.W.Frag} {cn : String → Addr} {W : WX} {X : Cx} {Z : Zt} {A : Addr → Prop}
theorem tm_ins {mo : Mn RV} {C : String} {m : Str} {σ : L2.St} {H : Hp} {P : VK} (h : TM K cn W (mIns C m mo) σ H P) : TM K cn W mo σ H fun x H1 => (∃ a dx fs, x = .ref a ∧ H1 a = some (.ins (cn C) dx fs) ∧ fs.lookup m = none) ∧ P x H1 := by
  obtain ⟨G, ρ, sl, st, hR, q⟩ := h
  refine ⟨G, ρ, sl, st, hR, ?_⟩
  unfold mIns bnd at q
  cases e : mo sl st with
  | no => rw [e] at q; exact q
  | exc C xs s t => rw [e] at q; exact q
  | ok r s t =>
    rw [e] at q
    dsimp only at q
    intro G1 H1 ρ1 v hR1 hv1 hS
    cases e2 : view s t r with
    | none => rw [e2] at q; exact q.elim
    | some x =>
      rw [e2] at q
      have hx := view_ok hR1 hv1 e2
      cases x with
      | obj C' fs =>
        dsimp only at q
        by_cases c : C' = C ∧ fs.lookup m = none
        · rw [if_pos c] at q
          obtain ⟨a, dx, us, rfl, h1, h2⟩ := hx
          exact ⟨⟨a, dx, us, rfl, by rw [← c.1]; exact h1, h2.lookup_none c.2⟩, q G1 H1 ρ1 _ hR1 hv1 hS⟩
        · rw [if_neg c] at q; exact q.elim
      | _ => exact q.elim
theorem tm_omethS {C : String} {m : Str} {φ : Fn} {n : Nat} {dd : List MP.D} {dvs : List V} {mo : Mn RV} {ma : Mn (List RV)} (hc : Cld K cn dd dvs) : ∀ σ H Q, TM K cn W (mOp (callD φ n dd) (mCons (mIns C m mo) ma)) σ H Q → tMethS' (cn C) m (spM K cn φ n) dvs (WE W) (TM K cn W mo) (TMa K cn W ma) σ H Q := by
  intro σ H Q h
  have h1 := tma_cons σ H _ (tm_opS (callD_ok hc) σ H Q h)
  refine (tm_ins h1).mono fun x H1 q => ?_
  obtain ⟨⟨a, dx, fs, rfl, e1, e2⟩, q2⟩ := q
  exact ⟨a, dx, fs, rfl, e1, e2, q2.mono fun vs H2 k => k⟩
theorem me_ometh {k n : Nat} {f : Addr} {fd : FuncData} {ps : List Str} {φ : Fn} {C : String} {m : Str} {o e : Expr} {es : List Expr} {apos pos : Pos} {mo : Mn RV} {ma : Mn (List RV)} {ds : List Value} {dvs : List V} {dd : List MP.D} {pl : Sem Bool} (c : Cls X.K (cn C)) (hm : Meth X.K (cn C) m f) (F : FnOk X.prog X.w X.K X.mg X.base (L2.CX X.prog X.w) k f fd ps (spM K cn φ n)) (tk : Takes X W) (hr : Room k X.A) (hb : Binds X.K fd ps ds) (hd : Vals dvs ds) (hc : Cld K cn dd dvs) (ho : PE X o (TM K cn W mo)) (ha : PA X (e :: es) (TMa K cn W ma))
    (hst : starEach (e :: es) X.env = (false, eval e X.env) :: starEach es X.env := by rfl) (hpl : (backTo pos (starEach es X.env)).any (·.1) = false := by rfl)
    (ht : eval (.Call (.Attribute o m apos) (e :: es) [] pos) X.env = (do
      let ov ← eval o X.env
      standAt apos.atName
      let (f, first) ← holding [ov] (getMethod ov m pl)
      callWith pos f first (backTo pos (starEach (e :: es) X.env)) (backToKw pos (keywordEach [] X.env))) := by rfl) :
    PE X (.Call (.Attribute o m apos) (e :: es) [] pos) (TM K cn W (mOp (callD φ n dd) (mCons (mIns C m mo) ma))) :=
  PE.imp (pe_methD (E := WE W) ho c hm F hr hb hd (fun σ => passAt tk σ) ha hst hpl ht) (tm_omethS hc)
theorem me_ometh0 {k n : Nat} {f : Addr} {fd : FuncData} {ps : List Str} {φ : Fn} {C : String} {m : Str} {o : Expr} {apos pos : Pos} {mo : Mn RV} {ds : List Value} {dvs : List V} {dd : List MP.D} {pl : Sem Bool} (c : Cls X.K (cn C)) (hm : Meth X.K (cn C) m f) (F : FnOk X.prog X.w X.K X.mg X.base (L2.CX X.prog X.w) k f fd ps (spM K cn φ n)) (tk : Takes X W) (hr : Room k X.A) (hb : Binds X.K fd ps ds) (hd : Vals dvs ds) (hc : Cld K cn dd dvs) (ho : PE X o (TM K cn W mo))
    (ht : eval (.Call (.Attribute o m apos) [] [] pos) X.env = (do
      let ov ← eval o X.env
      standAt apos.atName
      let (f, first) ← holding [ov] (getMethod ov m pl)
      callWith pos f first (backTo pos (starEach [] X.env)) (backToKw pos (keywordEach [] X.env))) := by rfl) :
    PE X (.Call (.Attribute o m apos) [] [] pos) (TM K cn W (mOp (callD φ n dd) (mCons (mIns C m mo) mNil))) :=
  PE.imp (pe_methD0 (E := WE W) ho c hm F hr hb hd (fun σ => passAt tk σ) ht) fun σ H Q q => by
    obtain h := tm_omethS (ma := mNil) hc σ H Q q
    refine TM.mono h fun x H1 q => ?_
    obtain ⟨a, dx, fs, e1, e2, e3, q⟩ := q
    exact ⟨a, dx, fs, e1, e2, e3, tma_nil σ H1 _ q⟩
/-- e.f, a property -/
def noEx : CRes → CRes
  | .exc _ _ _ => .no
  | q => q
theorem me_prop {k : Nat} {p g : Addr} {fd : FuncData} {ps : List Str} {φ : Fn} {C : String} {f : Str} {o : Expr} {pos : Pos} {mo : Mn RV} (c : Cls X.K (cn C)) (hp : PropOf X.K (cn C) f p g) (F : FnOk X.prog X.w X.K X.mg X.base (L2.CX X.prog X.w) k g fd ps (spM K cn φ 1)) (hr : Room (k + 1) X.A) (hb : Binds X.K fd ps []) (hx : Passes (L2.CX X.prog X.w) X.nox (fun _ _ _ => False)) (ho : PE X o (TM K cn W mo))
    (hab : attributeBase o f X.env (eval o X.env) = eval o X.env := by rfl) : PE X (.Attribute o f pos) (TM K cn W (mOp (callF (fun ds st => noEx (φ ds st)) 1) (mCons (mIns C Str.empty mo) mNil))) := by
  refine PE.imp (pe_prop (E := fun _ _ _ => False) ho c hp F hr hb .nil hx hab) fun σ H Q q => ?_
  have h1 := tma_cons σ H _ (tm_opS callF_ok σ H Q q)
  refine (tm_ins h1).mono fun x H1 q => ?_
  obtain ⟨⟨a, dx, fs, rfl, e1, _⟩, q2⟩ := q
  refine ⟨a, dx, fs, rfl, e1, ?_⟩
  obtain ⟨hl, G, ρ, st, dl, k1, k2, k3⟩ := tma_nil σ H1 _ q2
  refine ⟨hl, G, ρ, st, dl, k1, k2, ?_⟩
  dsimp only at k3
  cases e : φ dl st with
  | no => rw [e] at k3; exact k3
  | exc C xs st' => rw [e] at k3; exact k3.elim
  | ok r st' => rw [e] at k3; exact k3
end
/-! ### fields -/
def gFld (Cs : List String) (f : Str) : List D → PR
  | [.obj C fs] => if C ∈ Cs then match fs.lookup f with
    | some x => .d x
    | none => .no else .no
  | _ => .no
def putD (f : Str) (v : D) : List (Str × D) → List (Str × D)
  | [] => [(f, v)]
  | (g, x) :: r => if g = f then (g, v) :: r else (g, x) :: putD f v r
/-- the object that is being made -/
def selfOf (sl : Sls) : RV → Option (Nat × String × List (Str × D))
  | .sl i => match sl[i]? with
    | some (.lk (.ins C fs)) => some (i, C, fs)
    | _ => none
  | _ => none
/-- o.f = x -/
def setFld (Cs : List String) (f : Str) (mo : Mn RV) (x : D) : Mn Fl := bnd mo fun r sl st => match obOf sl st r with
  | some (.ins C fs) => if C ∈ Cs ∧ fs.length < 1000 then .ok .nx (setOb r (.ins C (putD f x fs)) sl st).1 (setOb r (.ins C (putD f x fs)) sl st).2 else .no
  | _ => match selfOf sl r with
    | some (i, C, fs) => if C ∈ Cs ∧ fs.length < 1000 then .ok .nx (sl.set i (.lk (.ins C (putD f x fs)))) st else .no
    | none => .no
def mSetFld (Cs : List String) (f : Str) (mo mv : Mn RV) : Mn Fl := bnd mv fun r => bnd (esc r) fun x => setFld Cs f mo x
section
variable {K : PySem.W.Frag} {cn : String → Addr} {W : WX} {X : Cx} {Z : Zt} {A : Addr → Prop}
def rFld (K : PySem.W.Frag) (f : Str) : V → Hp → VK → Prop := fun x H1 Q => ∃ a C dx fs v, x = .ref a ∧ H1 a = some (.ins C dx fs) ∧ Cls K C ∧ NoAttr K C f ∧ fs.lookup f = some v ∧ Q v H1
theorem ok_fld {Cs : List String} {f : Str} (h : ∀ C ∈ Cs, Cls K (cn C) ∧ NoAttr K (cn C) f) : POk K cn (r1l (rFld K f)) (gFld Cs f) := by
  intro Z xs vs Q hR hv hq
  unfold gFld at hq
  split at hq
  · obtain ⟨v, rfl, ⟨a, dx, us, rfl, h1, h2⟩⟩ := hv.one
    split at hq
    · rename_i hC
      split at hq
      · rename_i x hx
        obtain ⟨u, k1, k2⟩ := h2.lookup hx
        obtain ⟨c1, c2⟩ := h _ hC
        exact ⟨_, rfl, a, _, dx, us, u, rfl, h1, c1, c2, k1, hq _ k2⟩
      · exact hq.elim
    · exact hq.elim
  · exact hq.elim
theorem me_fld {Cs : List String} {f : Str} {o : Expr} {pos : Pos} {mo : Mn RV} (h : ∀ C ∈ Cs, Cls X.K (cn C) ∧ NoAttr X.K (cn C) f) (ho : PE X o (TM X.K cn W mo)) (hab : attributeBase o f X.env (eval o X.env) = eval o X.env := by rfl) :
    PE X (.Attribute o f pos) (TM X.K cn W (mOp (mPure (gFld Cs f)) (mCons mo mNil))) :=
  PE.imp (pe_fld ho hab) fun σ H Q q => tm_one σ H (tm_op (ok_fld h).op σ H Q q)
theorem RepF.put {G : Hp} {ρ : List Addr} {f : Str} {x : D} {v : V} (h : Rep K cn G ρ x v) : ∀ {fs : List (Str × D)} {us : List (Str × V)}, RepF K cn G ρ fs us → RepF K cn G ρ (putD f x fs) (putF f v us)
  | _, _, .nil => .cons h .nil
  | _, _, .cons (k := g) q r => by
    unfold putD putF
    by_cases c : g = f
    · rw [if_pos c, if_pos c]; exact .cons h r
    · rw [if_neg c, if_neg c]; exact .cons q (RepF.put h r)
theorem ObOk.insI {G : Hp} {ρ : List Addr} {C : String} {fs : List (Str × D)} {o : HO} (h : ObOk K cn G ρ (.ins C fs) o) : ∃ dx us, o = .ins (cn C) dx us ∧ RepF K cn G ρ fs us := by
  cases h with
  | ins r => exact ⟨_, _, rfl, r⟩
theorem R.wself (hR : R K cn Z) {i : Nat} {C : String} {fs fs' : List (Str × D)} {p dx : Addr} {us us' : List (Str × V)} (h : Z.sl[i]? = some (.lk (.ins C fs))) (hp : Z.σ[i]? = some (some (.ref p))) (ho : Z.H p = some (.ins (cn C) dx us)) (hb : RepF K cn Z.G Z.ρ fs' us') :
    R K cn { Z with H := upd Z.H p (.ins (cn C) dx us'), sl := Z.sl.set i (.lk (.ins C fs')) } ∧ ∀ A, Step Z A { Z with H := upd Z.H p (.ins (cn C) dx us'), sl := Z.sl.set i (.lk (.ins C fs')) } A := by
  obtain ⟨p0, o, h1, h2, h3, h4, h5⟩ := hR.slots i _ h
  rw [hp] at h1; cases h1
  have hi : i < Z.sl.length := (List.getElem?_eq_some_iff.mp h).1
  have side : ∀ {j : Nat} {s : Sl} {b1 : Ob}, (Z.sl.set i (.lk (.ins C fs')))[j]? = some s → s.ob = some b1 → ∃ s0 b0, Z.sl[j]? = some s0 ∧ s0.ob = some b0 := fun {j s b1} q e => by
    rcases get_set q with ⟨rfl, _, rfl⟩ | ⟨_, q⟩
    · exact ⟨_, _, h, rfl⟩
    · exact ⟨_, _, q, e⟩
  refine ⟨⟨ex_mut hR.ex h3, hR.len, fun j c a h1 h2 => ?_, hR.inj, by simpa using hR.slen, fun j s hs => ?_, fun j k s t b1 c a hjk h1 h2 e1 e2 g1 g2 => ?_⟩, fun A => ⟨fun _ _ e => e, List.prefix_refl _, fun a u e g r n m => ⟨?_, g, r, fun z => ?_, m⟩, fun j b1 a u q1 q2 q3 => ?_, fun j b1 a u q1 q2 q3 => ⟨?_, b1, q1⟩⟩⟩
  · obtain ⟨w, e1, e2, e3⟩ := hR.cells j c a h1 h2
    have hap : a ≠ p := fun z => h4 (z ▸ List.mem_of_getElem? h2)
    exact ⟨w, by show upd Z.H p _ a = _; rw [upd_ne hap]; exact e1, e2, e3⟩
  · rcases get_set hs with ⟨rfl, _, rfl⟩ | ⟨hj, hs⟩
    · exact ⟨p, _, hp, upd_same, h3, h4, .ins hb⟩
    · have q := SlOk.mono (hR.slots j s hs) (G' := Z.G) (H' := upd Z.H p (.ins (cn C) dx us')) (ρ' := Z.ρ) (fun _ _ e => e) (List.prefix_refl _) fun b1 q w hb e0 e1 e2 e3 => ⟨by
        have hqp : q ≠ p := fun z => hR.dist j i s (.lk (.ins C fs)) b1 (.ins C fs) p hj hs h hb rfl (z ▸ e0) hp
        rw [upd_ne hqp]; exact e1, e2, e3⟩
      cases s <;> exact q
  · obtain ⟨s0, b0, k1, k2⟩ := side h1 e1
    obtain ⟨t0, c0, k3, k4⟩ := side h2 e2
    exact hR.dist j k s0 t0 b0 c0 a hjk k1 k3 k2 k4 g1 g2
  · show upd Z.H p _ a = _
    rw [upd_ne (fun z => n (by rw [z]; exact Zt.own_of h rfl hp))]; exact e
  · obtain ⟨j, t, c, k1, k2, k3⟩ := Zt.own_iff.mp z
    obtain ⟨s0, b0, k4, k5⟩ := side k1 k2
    exact n (Zt.own_of k4 k5 k3)
  · by_cases hj : j = i
    · subst hj
      rw [hp] at q2; cases q2
      rw [ho] at q3; cases q3
      exact ⟨⟨_, upd_same, .inr ⟨_, _, _, _, rfl, rfl⟩⟩, ⟨_, List.getElem?_set_self hi⟩, hp⟩
    · have hap : a ≠ p := fun z => hR.dist j i _ _ b1 (.ins C fs) p hj q1 h rfl rfl (z ▸ q2) hp
      refine ⟨⟨u, ?_, .inl rfl⟩, ⟨b1, ?_⟩, q2⟩
      · show upd Z.H p _ a = _
        rw [upd_ne hap]; exact q3
      · show (Z.sl.set i _)[j]? = _
        rw [List.getElem?_set_ne (Ne.symm hj)]; exact q1
  · show upd Z.H p _ a = _
    rw [upd_ne (fun z => h4 (by rw [← z]; exact List.mem_of_getElem? q2))]; exact q3
theorem self_write (hR : R K cn Z) {r : RV} {v : V} {i : Nat} {C : String} {fs : List (Str × D)} (hv : RepRV K cn Z r v) (e : selfOf Z.sl r = some (i, C, fs)) :
    ∃ p dx us, v = .ref p ∧ Z.H p = some (.ins (cn C) dx us) ∧ RepF K cn Z.G Z.ρ fs us ∧ ∀ fs' us', RepF K cn Z.G Z.ρ fs' us' → R K cn { Z with H := upd Z.H p (.ins (cn C) dx us'), sl := Z.sl.set i (.lk (.ins C fs')) } ∧ ∀ A, Step Z A { Z with H := upd Z.H p (.ins (cn C) dx us'), sl := Z.sl.set i (.lk (.ins C fs')) } A := by
  cases r with
  | f b => cases e
  | d x => cases e
  | sl j =>
    have hv : Z.σ[j]? = some (some v) := hv
    unfold selfOf at e
    dsimp only at e
    split at e
    · rename_i C' fs' h
      cases e
      obtain ⟨p0, o, h1, h2, h3, h4, h5⟩ := hR.slots i _ h
      rw [hv] at h1; cases h1
      obtain ⟨dx, us, rfl, r1⟩ := h5.insI
      exact ⟨p0, dx, us, rfl, h2, r1, fun fs' us' hb => hR.wself h hv h2 hb⟩
    · cases e
theorem ms_fld {Cs : List String} {f : Str} {o value : Expr} {pos pos' : Pos} {mo mv : Mn RV} (h : ∀ C ∈ Cs, Cls X.K (cn C) ∧ NoAttr X.K (cn C) f) (ho : PE X o (TM X.K cn W mo)) (hv : PE X value (TM X.K cn W mv)) (hs : swapsWith value (some (.Attribute o f pos')) pos.line X.env = pure false := by rfl) :
    PS X (.Assign [.Attribute o f pos'] value pos) (TMs X.K cn W (mSetFld Cs f mo mv)) :=
  PS.imp (ps_fld ho hv hs) fun D σ H q => by
    refine tm_s (P := fun v σ H => TM X.K cn W mo σ H fun x H2 => ∃ a C dx fs, x = .ref a ∧ H2 a = some (.ins C dx fs) ∧ Cls X.K C ∧ NoAttr X.K C f ∧ fs.length < 1000 ∧ D.nx σ (upd H2 a (.ins C dx (putF f v fs)))) q fun G H ρ sl st r v hR hv h1 => ?_
    unfold bnd at h1
    cases e : esc r sl st with
    | no => rw [e] at h1; exact h1.elim
    | exc C xs sl1 st1 => exact (esc_ex e).elim
    | ok x sl1 st1 =>
      rw [e] at h1
      dsimp only at h1
      obtain ⟨rfl, G1, hR1, hx, hS⟩ := esc_ok (Z := ⟨G, H, ρ, σ, sl, st⟩) hR hv e
      have h2 : PostS X.K cn W ⟨G1, H, ρ, σ, sl1, st1⟩ NoA (setFld Cs f mo x sl1 st1) D := PostS.trans hS h1
      refine ⟨G1, ρ, sl1, st1, hR1, ?_⟩
      unfold setFld bnd at h2
      cases e2 : mo sl1 st1 with
      | no => rw [e2] at h2; exact h2
      | exc C xs s t => rw [e2] at h2; exact fun G H ρ d us a1 a2 => h2 G H ρ σ d us a1 a2
      | ok q sl2 st2 =>
        rw [e2] at h2
        dsimp only at h2
        intro G2 H2 ρ2 v2 hR2 hv2 hS2
        have hx2 : Rep X.K cn G2 ρ2 x v := hx.mono hS2.g hS2.r
        split at h2
        · rename_i C fs e3
          by_cases c : C ∈ Cs ∧ fs.length < 1000
          · rw [if_pos c] at h2
            obtain ⟨p, o, rfl, w1, w2, w3⟩ := ob_write hR2 hv2 e3
            obtain ⟨dx, us, rfl, r1⟩ := w2.insI
            obtain ⟨y1, y2⟩ := w3 (.ins C (putD f x fs)) (.ins (cn C) dx (putF f v us)) (.ins (r1.put hx2))
            obtain ⟨c1, c2⟩ := h C c.1
            refine ⟨p, cn C, dx, us, rfl, w1, c1, c2, by rw [← r1.length]; exact c.2, ?_⟩
            exact h2 G2 _ ρ2 σ y1 (hS2.end0.trans (y2 _))
          · rw [if_neg c] at h2; exact h2.elim
        · split at h2
          · rename_i i C fs e3
            by_cases c : C ∈ Cs ∧ fs.length < 1000
            · rw [if_pos c] at h2
              obtain ⟨p, dx, us, rfl, w1, r1, w3⟩ := self_write (Z := ⟨G2, H2, ρ2, σ, sl2, st2⟩) hR2 hv2 e3
              obtain ⟨y1, y2⟩ := w3 (putD f x fs) (putF f v us) (r1.put hx2)
              obtain ⟨c1, c2⟩ := h C c.1
              refine ⟨p, cn C, dx, us, rfl, w1, c1, c2, by rw [← r1.length]; exact c.2, ?_⟩
              exact h2 G2 _ ρ2 σ y1 (hS2.end0.trans (y2 _))
            · rw [if_neg c] at h2; exact h2.elim
          · exact h2.elim
end
/-! ### making -/
/-- an __init__'s end: the object in hand as it is left -/
def PostN (K : PySem.W.Frag) (cn : String → Addr) (p : Addr) (Z : Zt) (q : CRes) (Q : VK) (E : XK) : Prop := match q with
  | .ok (.f b) st => ∀ G H ρ o, R K cn ⟨G, H, ρ, [], [], st⟩ → Step Z (· = p) ⟨G, H, ρ, [], [], st⟩ (· = p) → H p = some o → G p = none → p ∉ ρ → ObOk K cn G ρ b o → Q .non H
  | .exc C xs st => ∀ G H ρ d us, R K cn ⟨G, H, ρ, [], [], st⟩ → Step Z (· = p) ⟨G, H, ρ, [], [], st⟩ (· = d) → H d = some (.xd us) → G d = none → d ∉ ρ → RepF K cn G ρ xs us → E (.ref (cn C)) (some d) H
  | _ => False
def spI (K : PySem.W.Frag) (cn : String → Addr) (C : String) (φ : Fn) (n : Nat) : Sp := fun vs H Q E => ∃ p us dx, vs = .ref p :: us ∧ vs.length = n ∧ H p = some (.ins (cn C) dx []) ∧ ∃ G ρ st ds, R K cn ⟨G, H, ρ, [], [], st⟩ ∧ G p = none ∧ p ∉ ρ ∧ Reps K cn G ρ ds us ∧ PostN K cn p ⟨G, H, ρ, [], [], st⟩ (φ ds st) Q E
def runI (C : String) (m : Mn Fl) (n : Nat) : Fn := fun ds st => match m (Sl.lk (.ins C []) :: (ds.map Sl.d ++ List.replicate (n - (ds.length + 1)) Sl.u)) st with
  | .ok .nx sl' st' => match sl'[0]? with
    | some (Sl.lk b) => CRes.ok (.f b) st'
    | _ => .no
  | .exc C xs _ st' => .exc C xs st'
  | _ => .no
def ofN (sl : Sls) : CRes → Res RV
  | .ok (.f b) st => .ok (.f b) sl st
  | .exc C xs st => .exc C xs sl st
  | _ => .no
def mkF (φ : Fn) (n : Nat) (dd : List D) (rs : List RV) : Mn RV := bnd (escs rs) fun ds sl st => if (ds ++ dd).length + 1 = n then ofN sl (φ (ds ++ dd) st) else .no
section
variable {K : PySem.W.Frag} {cn : String → Addr} {W : WX} {X : Cx} {Z : Zt} {A : Addr → Prop}
theorem mkF_ok {C : String} {φ : Fn} {n : Nat} {dd : List D} {dvs : List V} (hd : Cld K cn dd dvs) : OpOkS K cn W (fun σ vs H Q => ∀ x dx, H x = none → H dx = none → dx ≠ x →
  spI K cn C φ n (.ref x :: (vs ++ dvs)) (upd (upd H dx (.own x)) x (.ins (cn C) dx [])) (fun v H2 => v = .non ∧ Q (.ref x) H2) (fun cls d H => W cls d σ H)) (mkF φ n dd) := op_escsS fun Z xs vs Q hR hx h => by
  intro x dx hxn hdn hne
  by_cases c : (xs ++ dd).length + 1 = n
  · rw [if_pos c] at h
    have r := hx.append (hd Z.G Z.ρ)
    have e1 := hR.laid (.own x) hdn
    have s1 := Step.laid (A := NoA) hR (.own x) hdn
    have hx2 : upd Z.H dx (.own x) x = none := by rw [upd_ne (Ne.symm hne)]; exact hxn
    have e2 := R.laid (Z := { Z with H := upd Z.H dx (.own x) }) e1 (.ins (cn C) dx []) hx2
    have s2 := Step.laid (A := NoA) (Z := { Z with H := upd Z.H dx (.own x) }) e1 (.ins (cn C) dx []) hx2
    have s12 : Step Z NoA { Z with H := upd (upd Z.H dx (.own x)) x (.ins (cn C) dx []) } (· = x) := s1.end0.trans (s2.drop fun a z => .inr z)
    have hGx : Z.G x = none := hR.gnone hxn
    have hρx : x ∉ Z.ρ := hR.rnew hxn
    have hox : ¬ Zt.own { Z with H := upd (upd Z.H dx (.own x)) x (.ins (cn C) dx []) } x := fun z => hR.onew hxn z
    refine ⟨x, vs ++ dvs, dx, rfl, ?_, upd_same, Z.G, Z.ρ, Z.st, _, e2.bare, hGx, hρx, r, ?_⟩
    · rw [List.length_cons, ← r.length]; exact c
    · have hA : ∀ a, a = x → ¬ Zt.own { Z with H := upd (upd Z.H dx (.own x)) x (.ins (cn C) dx []) } a := fun a z => by subst z; exact hox
      cases eq : φ (xs ++ dd) Z.st with
      | no => rw [eq] at h; exact h
      | exc C' ys st =>
        rw [eq] at h
        intro G H ρ d us hR1 hS hd1 hg hr hf
        obtain ⟨k1, k2, k3⟩ := R.framedA (Z := { Z with H := upd (upd Z.H dx (.own x)) x (.ins (cn C) dx []) }) e2 hR1 hS hA
        exact h G H ρ d us k1 (s12.trans k2) hd1 hg hr hf
      | ok w st =>
        rw [eq] at h
        cases w with
        | d y => exact h.elim
        | sl i => exact h.elim
        | f b =>
          intro G H ρ o hR1 hS ho hg hr hb
          obtain ⟨k1, k2, k3⟩ := R.framedA (Z := { Z with H := upd (upd Z.H dx (.own x)) x (.ins (cn C) dx []) }) e2 hR1 hS hA
          exact ⟨rfl, h G H ρ (.ref x) k1 ⟨x, o, rfl, ho, hg, hr, k3 x rfl, hb⟩ ((s12.trans k2).drop fun a z => by cases z; rfl)⟩
  · rw [if_neg c] at h
    exact h.elim
theorem me_make {k n : Nat} {f : Addr} {fd : FuncData} {ps : List Str} {φ : Fn} {C : String} {x : Str} {e : Expr} {es : List Expr} {p pos : Pos} {m : Mn (List RV)} {ds : List Value} {dvs : List V} {dd : List MP.D} (M : Mk X.K (cn C) f) (F : FnOk X.prog X.w X.K X.mg X.base (L2.CX X.prog X.w) k f fd ps (spI K cn C φ n)) (tk : Takes X W) (hr : Room (k + 1) X.A) (hg : Gl X x) (hm : X.mg x = some (.ref (cn C))) (hb : Binds X.K fd ps ds) (hd : Vals dvs ds) (hc : Cld K cn dd dvs)
    (ha : PA X (e :: es) (TMa K cn W m)) (hdb : (x == ("__debug__" : Str)) = false := by decide) (he : starEach (e :: es) X.env = (false, eval e X.env) :: starEach es X.env := by rfl) (hpl : (backTo pos (starEach es X.env)).any (·.1) = false := by rfl) :
    PE X (.Call (.Name x p) (e :: es) [] pos) (TM K cn W (mOp (mkF φ n dd) m)) :=
  PE.imp (pe_makeS (E := WE W) M F hr hg hm hb hd (fun σ => passAt tk σ) ha hdb he hpl) fun σ H Q q => tm_opS (mkF_ok hc) σ H Q q
theorem start_cons {N : List Str} {p : V} {vs : List V} : L2.start N (p :: vs) = some p :: (vs.map some ++ List.replicate (N.length - (vs.length + 1)) none) := by
  unfold L2.start
  simp
theorem R.enterI {G H : Hp} {ρ : List Addr} {st : Sto} {ds : List D} {us : List V} {N : List Str} {C : String} {p dx : Addr} (h : R K cn ⟨G, H, ρ, [], [], st⟩) (hv : Reps K cn G ρ ds us) (hp : H p = some (.ins (cn C) dx [])) (hg : G p = none) (hr : p ∉ ρ) :
    R K cn ⟨G, H, ρ, L2.start N (.ref p :: us), Sl.lk (.ins C []) :: (ds.map Sl.d ++ List.replicate (N.length - (ds.length + 1)) Sl.u), st⟩ := by
  rw [start_cons]
  have shape : ∀ (i : Nat) (s : Sl), (Sl.lk (.ins C []) :: (ds.map Sl.d ++ List.replicate (N.length - (ds.length + 1)) Sl.u))[i]? = some s → (i = 0 ∧ s = Sl.lk (.ins C [])) ∨ (∃ j x, i = j + 1 ∧ ds[j]? = some x ∧ s = .d x) ∨ s = .u := fun i s e => by
    cases i with
    | zero => simp at e; exact .inl ⟨rfl, e.symm⟩
    | succ j =>
      right
      have e : (ds.map Sl.d ++ List.replicate (N.length - (ds.length + 1)) Sl.u)[j]? = some s := by simpa using e
      by_cases c : j < ds.length
      · rw [List.getElem?_append_left (by simpa using c), List.getElem?_map] at e
        rw [List.getElem?_eq_getElem c] at e
        exact .inl ⟨j, _, rfl, List.getElem?_eq_getElem c, (Option.some.inj e).symm⟩
      · rw [List.getElem?_append_right (by simpa using Nat.le_of_not_lt c), List.getElem?_replicate] at e
        split at e
        · exact .inr (Option.some.inj e).symm
        · cases e
  refine ⟨h.ex, h.len, h.cells, h.inj, ?_, fun i s e => ?_, fun i j s t b c a hij e1 e2 e3 e4 => ?_⟩
  · simp [hv.length]
  · rcases shape i s e with ⟨rfl, rfl⟩ | ⟨j, x, rfl, hx, rfl⟩ | rfl
    · exact ⟨p, _, rfl, hp, hg, hr, .ins .nil⟩
    · obtain ⟨v, h1, h2⟩ := hv.get hx
      refine ⟨v, ?_, h2⟩
      show (us.map some ++ _)[j]? = _
      have hl := (List.getElem?_eq_some_iff.mp h1).1
      rw [List.getElem?_append_left (by simpa using hl), List.getElem?_map, h1]
      rfl
    · trivial
  · rcases shape i s e1 with ⟨rfl, rfl⟩ | ⟨_, x, _, hx, rfl⟩ | rfl
    · rcases shape j t e2 with ⟨rfl, rfl⟩ | ⟨_, x, _, hx, rfl⟩ | rfl
      · exact (hij rfl).elim
      · cases e4
      · cases e4
    · cases e3
    · cases e3
theorem R.leaveI {σ' : L2.St} {sl' : Sls} {G H G' H' : Hp} {ρ ρ' : List Addr} {st st' : Sto} {ds : List D} {us : List V} {N : List Str} {C : String} {p dx : Addr} {A' : Addr → Prop} (hp : H p = some (.ins (cn C) dx [])) (hR : R K cn ⟨G', H', ρ', σ', sl', st'⟩) (s : Step ⟨G, H, ρ, L2.start N (.ref p :: us), Sl.lk (.ins C []) :: (ds.map Sl.d ++ List.replicate (N.length - (ds.length + 1)) Sl.u), st⟩ NoA ⟨G', H', ρ', σ', sl', st'⟩ A') :
    Step ⟨G, H, ρ, [], [], st⟩ (· = p) ⟨G', H', ρ', [], [], st'⟩ A' ∧ ∃ b o, sl'[0]? = some (Sl.lk b) ∧ H' p = some o ∧ G' p = none ∧ p ∉ ρ' ∧ ObOk K cn G' ρ' b o ∧ Step ⟨G, H, ρ, [], [], st⟩ (· = p) ⟨G', H', ρ', [], [], st'⟩ (· = p) := by
  have h0 : (L2.start N (.ref p :: us))[0]? = some (some (.ref p)) := by rw [start_cons]; rfl
  obtain ⟨_, ⟨b', k2⟩, k3⟩ := s.lkS 0 (.ins C []) p _ rfl h0 hp
  obtain ⟨q, o, e1, e2, e3, e4, e5⟩ := hR.slots 0 _ k2
  have k3 : σ'[0]? = some (some (V.ref p)) := k3
  have e1 : σ'[0]? = some (some (V.ref q)) := e1
  rw [k3] at e1; cases e1
  have nown : ∀ a, a ≠ p → ¬ Zt.own ⟨G, H, ρ, L2.start N (.ref p :: us), Sl.lk (.ins C []) :: (ds.map Sl.d ++ List.replicate (N.length - (ds.length + 1)) Sl.u), st⟩ a := fun a m ⟨i, b, q, hq⟩ => by
    have hq : (L2.start N (.ref p :: us))[i]? = some (some (V.ref a)) := hq
    cases i with
    | zero =>
      rw [h0] at hq
      cases hq
      exact m rfl
    | succ j =>
      have q : (ds.map Sl.d ++ List.replicate (N.length - (ds.length + 1)) Sl.u)[j]? = some (Sl.o b) ∨ (ds.map Sl.d ++ List.replicate (N.length - (ds.length + 1)) Sl.u)[j]? = some (Sl.lk b) := by simpa using q
      exact q.elim (entry_free j b).1 (entry_free j b).2
  have kp : ∀ a o, H a = some o → G a = none → a ∉ ρ → a ≠ p → H' a = some o ∧ G' a = none ∧ a ∉ ρ' ∧ ¬ Zt.own ⟨G', H', ρ', σ', sl', st'⟩ a ∧ ¬ A' a := fun a o h g r m => s.keep a o h g r (nown a m) fun z => z
  refine ⟨⟨s.g, s.r, fun a o h g r _ m => ?_, fun i b a o h1 => by simp at h1, fun i b a o h1 h2 h3 => s.lkC i b a o h1 h2 h3⟩, b', o, k2, e2, e3, e4, e5, ⟨s.g, s.r, fun a o h g r _ m => ?_, fun i b a o h1 => by simp at h1, fun i b a o h1 h2 h3 => s.lkC i b a o h1 h2 h3⟩⟩
  · obtain ⟨k1, k2, k3, _, k5⟩ := kp a o h g r m
    exact ⟨k1, k2, k3, bare_own, k5⟩
  · obtain ⟨k1, k2, k3, k4, k5⟩ := kp a o h g r m
    exact ⟨k1, k2, k3, bare_own, m⟩
theorem postI_of {N : List Str} {G H : Hp} {ρ : List Addr} {st : Sto} {ds : List D} {us : List V} {m : Mn Fl} {Q : VK} {E : XK} {C : String} {p dx : Addr} (hR : R K cn ⟨G, H, ρ, [], [], st⟩) (hv : Reps K cn G ρ ds us) (hp : H p = some (.ins (cn C) dx [])) (hg : G p = none) (hr : p ∉ ρ) (h : PostN K cn p ⟨G, H, ρ, [], [], st⟩ (runI C m N.length ds st) Q E) :
    TMs K cn (fun cls d _ H => E cls d H) m { nx := fun _ H' => Q .non H', rt := Q } (L2.start N (.ref p :: us)) H := by
  refine ⟨G, ρ, _, st, hR.enterI hv hp hg hr, ?_⟩
  unfold runI at h
  cases e : m (Sl.lk (.ins C []) :: (ds.map Sl.d ++ List.replicate (N.length - (ds.length + 1)) Sl.u)) st with
  | no => rw [e] at h; exact h
  | exc C' xs sl' st' =>
    rw [e] at h
    intro G1 H1 ρ1 σ1 d us1 hR1 hS hd hg hr hf
    obtain ⟨w1, _⟩ := hR1.leaveI hp hS
    exact h G1 H1 ρ1 d us1 hR1.bare w1 hd hg hr hf
  | ok f sl' st' =>
    rw [e] at h
    cases f with
    | bk => exact h.elim
    | ct => exact h.elim
    | rt r => exact h.elim
    | nx =>
      intro G1 H1 ρ1 σ1 hR1 hS
      obtain ⟨_, b, o, w0, w1, w2, w3, w4, w5⟩ := hR1.leaveI hp hS
      dsimp only at h
      rw [w0] at h
      exact h G1 H1 ρ1 o hR1.bare w5 w1 w2 w3 w4
end
section
variable {P : Program} {w : World} {K : PySem.W.Frag} {cn : String → Addr} {mg : Str → Option Value} {base : Heap}
theorem init_body {x qual : Str} {st : Stmt} {f : Addr} {fd : FuncData} {N ps : List Str} {k : Nat} {m : Mn Fl} {C : String} (F : Fun K x qual st f fd) (S : FnScope N ps (defScope st))
    (hb : ∀ (cdv : Value) (A : Around) (outer : List Env) (s : Shared) (H : Hp) (E : XK), Good (cxB P w K mg base N qual (defScope st) f cdv A outer s H E) (fun cls d _ H => E cls d H) k →
      PSs (cxB P w K mg base N qual (defScope st) f cdv A outer s H E) (defBody st) (TMs K cn (fun cls d _ H => E cls d H) m)) : FnOk P w K mg base (L2.CX P w) (k + 1) f fd ps (spI K cn C (runI C m N.length) ps.length) := by
  refine F.okX S (fun vs H Q E h => ?_) (fun cdv A outer s H vs Q E hr h => ?_)
  · obtain ⟨p, us, dx, _, hl, _⟩ := h
    exact hl
  · obtain ⟨p, us, dx, rfl, hl, hp, G, ρ, st', ds, hR, hg, hρ, hv, hq⟩ := h
    exact ⟨_, hb cdv A outer s H E ⟨takes_of rfl rfl rfl rfl, rfl, passes_of rfl, hr, S.nd⟩, postI_of hR hv hp hg hρ hq⟩
end
end MP

set_option Elab.async false
set_option linter.all false
set_option maxRecDepth 100000
set_option maxHeartbeats 4000000
/-! MP14: and, or, not as values, chains, slices, f-strings. -/
namespace MP
open PySem PySem.Spec PyProof.Rows L2
open Evl (Ex)
def mAndV (a b : Mn RV) : Mn RV := bnd (mTB a) fun c => if c = true then b else unit (.d (.bl false))
def mOrV (a b : Mn RV) : Mn RV := bnd (mTB a) fun c => if c = true then unit (.d (.bl true)) else b
def mNotV (a : Mn RV) : Mn RV := bnd (mTB a) fun c => unit (.d (.bl (!c)))
section
variable {K : PySem.W.Frag} {cn : String → Addr} {W : WX} {X : Cx} {Z : Zt} {A : Addr → Prop}
theorem PostE.d {x : D} {v : V} {Q : VK} (hR : R K cn Z) (h : PostE K cn W Z A (.ok (.d x) Z.sl Z.st) Q) (hv : Rep K cn Z.G Z.ρ x v) : Q v Z.H := fin_d hR h hv
theorem tm_ts {m : Mn RV} {k : Bool → Mn RV} {P : V → Hp → Prop} {Q : VK} {σ : L2.St} {H : Hp} (h : TM K cn W (bnd (mTB m) k) σ H Q)
    (hk : ∀ G H ρ sl st b, R K cn ⟨G, H, ρ, σ, sl, st⟩ → PostE K cn W ⟨G, H, ρ, σ, sl, st⟩ NoA (k b sl st) Q → P (.bl b) H) : TM K cn W m σ H P :=
  TM.mono (tb_of σ H _ (tm_tv (P := fun b H => P (.bl b) H) h hk)) fun v H1 q => by
    obtain ⟨b, rfl, q⟩ := q
    exact q
theorem me_one {op : BoolOp} {a : Expr} {pos : Pos} {m : Mn RV} (h : PE X a (TM K cn W m)) : PE X (.BoolOp op [a] pos) (TM K cn W m) := pe_one h
theorem me_and {a b : Expr} {rest : List Expr} {pos : Pos} {m n : Mn RV} (ha : PE X a (TM K cn W m)) (hb : PE X (.BoolOp .And (b :: rest) pos) (TM K cn W n)) : PE X (.BoolOp .And (a :: b :: rest) pos) (TM K cn W (mAndV m n)) :=
  PE.imp (pe_and ha hb) fun σ H Q q => tm_ts q fun G H ρ sl st c hR h => by
    refine ⟨c, rfl, ?_⟩
    cases c with
    | true => exact iteT ⟨G, ρ, sl, st, hR, h⟩
    | false => exact iteF (PostE.d (x := .bl false) hR h .bl)
theorem me_or {a b : Expr} {rest : List Expr} {pos : Pos} {m n : Mn RV} (ha : PE X a (TM K cn W m)) (hb : PE X (.BoolOp .Or (b :: rest) pos) (TM K cn W n)) : PE X (.BoolOp .Or (a :: b :: rest) pos) (TM K cn W (mOrV m n)) :=
  PE.imp (pe_or ha hb) fun σ H Q q => tm_ts q fun G H ρ sl st c hR h => by
    refine ⟨c, rfl, ?_⟩
    cases c with
    | true => exact iteT (PostE.d (x := .bl true) hR h .bl)
    | false => exact iteF ⟨G, ρ, sl, st, hR, h⟩
theorem me_not {a : Expr} {pos : Pos} {m : Mn RV} (ha : PE X a (TM K cn W m)) : PE X (.UnaryOp .Not a pos) (TM K cn W (mNotV m)) :=
  PE.imp (pe_not ha) fun σ H Q q => tm_ts q fun G H ρ sl st c hR h => ⟨c, rfl, PostE.d (x := .bl (!c)) hR h .bl⟩
end
/-! ### a < b < c -/
def mChain (g g' : List D → PR) (ma mb mc : Mn RV) : Mn RV := bnd ma fun a => bnd mb fun b sl st => match views sl st [a, b] with
  | some xs => match g xs with
    | .d (.bl true) => bnd mc (fun c => mPure g' [b, c]) sl st
    | .d (.bl false) => .ok (.d (.bl false)) sl st
    | _ => .no
  | none => .no
section
variable {K : PySem.W.Frag} {cn : String → Addr} {W : WX} {X : Cx} {Z : Zt} {A : Addr → Prop}
theorem tm_chain {r r' : R2} {g g' : List D → PR} {ma mb mc : Mn RV} (hg : POk K cn (r2l r) g) (hg' : POk K cn (r2l r') g') : ∀ σ H Q, TM K cn W (mChain g g' ma mb mc) σ H Q → tChain r r' (TM K cn W ma) (TM K cn W mb) (TM K cn W mc) σ H Q := by
  rintro σ H Q ⟨G, ρ, sl, st, hR, h⟩
  refine ⟨G, ρ, sl, st, hR, ?_⟩
  unfold mChain bnd at h
  cases e : ma sl st with
  | no => rw [e] at h; exact h
  | exc C xs s t => rw [e] at h; exact h
  | ok a sl1 st1 =>
    rw [e] at h
    dsimp only at h
    intro G1 H1 ρ1 v1 hR1 hv1 hS1
    refine ⟨G1, ρ1, sl1, st1, hR1, ?_⟩
    cases e2 : mb sl1 st1 with
    | no => rw [e2] at h; exact h
    | exc C xs s t => rw [e2] at h; exact fun G H ρ d us a1 a2 => h G H ρ d us a1 (hS1.end0.trans a2)
    | ok b sl2 st2 =>
      rw [e2] at h
      dsimp only at h
      intro G2 H2 ρ2 v2 hR2 hv2 hS2
      obtain ⟨k1, k2⟩ := hv1.step hS2 rfl fun _ _ z => z
      have hrs : RepRVs K cn ⟨G2, H2, ρ2, σ, sl2, st2⟩ [a, b] [v1, v2] := .cons k1 (.cons hv2 .nil fun _ _ z => z) fun x z1 z2 => k2 x z1 ((show rvA b v2 x ∨ False from z2).resolve_right id)
      cases ev : views sl2 st2 [a, b] with
      | none => rw [ev] at h; exact h.elim
      | some xs =>
        rw [ev] at h
        dsimp only at h
        have hS12 : Step ⟨G, H, ρ, σ, sl, st⟩ NoA ⟨G2, H2, ρ2, σ, sl2, st2⟩ (rvA b v2) := hS1.end0.trans hS2
        obtain ⟨x, y, exy, hr⟩ := hg ⟨G2, H2, ρ2, σ, sl2, st2⟩ xs [v1, v2] (fun z H3 => ∃ k, z = .bl k ∧ if k = true then TM K cn W mc σ H3 fun w' H4 => r' v2 w' H4 Q else Q (.bl false) H3) hR2 (views_ok hR2 hrs ev) (by
          cases eg : g xs with
          | no => rw [eg] at h; exact h.elim
          | f b => rw [eg] at h; exact h.elim
          | t b => rw [eg] at h; exact h.elim
          | d z =>
            rw [eg] at h
            cases z with
            | bl k =>
              intro v hv
              cases hv
              refine ⟨k, rfl, ?_⟩
              cases k with
              | false =>
                refine iteF ?_
                exact h G2 H2 ρ2 (.bl false) hR2 .bl hS12.end0
              | true =>
                refine iteT ?_
                dsimp only at h
                refine ⟨G2, ρ2, sl2, st2, hR2, ?_⟩
                cases e3 : mc sl2 st2 with
                | no => rw [e3] at h; exact h
                | exc C xs s t => rw [e3] at h; exact fun G H ρ d us a1 a2 => h G H ρ d us a1 (hS12.end0.trans a2)
                | ok c sl3 st3 =>
                  rw [e3] at h
                  dsimp only at h
                  intro G3 H3 ρ3 v3 hR3 hv3 hS3
                  obtain ⟨j1, j2⟩ := hv2.step hS3 rfl fun _ _ z => z
                  have hrs3 : RepRVs K cn ⟨G3, H3, ρ3, σ, sl3, st3⟩ [b, c] [v2, v3] := .cons j1 (.cons hv3 .nil fun _ _ z => z) fun x z1 z2 => j2 x z1 ((show rvA c v3 x ∨ False from z2).resolve_right id)
                  obtain ⟨x', y', exy', hr'⟩ := hg'.op (W := W) ⟨G3, H3, ρ3, σ, sl3, st3⟩ [b, c] [v2, v3] Q hR3 hrs3 (PostE.trans ((hS12.trans ((hS3.with (rvA b v2)).less fun a z => z.elim False.elim id)).drop fun a (z : rvA b v2 a ∨ (rvA c v3 a ∨ False)) => z.elim .inr fun z => z.elim .inl False.elim) rfl h)
                  cases exy'
                  exact hr'
            | _ => exact h.elim)
        cases exy
        exact hr
theorem me_chain {op op' : CmpOp} {r r' : R2} {g g' : List D → PR} {a b c : Expr} {pos : Pos} {ma mb mc : Mn RV} (ho : OpR X (compareOp op) r) (ho' : OpR X (compareOp op') r') (hg : POk K cn (r2l r) g) (hg' : POk K cn (r2l r') g') (ha : PE X a (TM K cn W ma)) (hb : PE X b (TM K cn W mb)) (hc : PE X c (TM K cn W mc))
    (hm : lastMarks [op, op'] [b, c] = false := by with_unfolding_all rfl) : PE X (.Compare a [op, op'] [b, c] pos) (TM K cn W (mChain g g' ma mb mc)) := PE.imp (pe_chain ho ho' ha hb hc hm) (tm_chain hg hg')
theorem mt_chain {op op' : CmpOp} {r r' : R2} {g g' : List D → PR} {a b c : Expr} {pos : Pos} {ma mb mc : Mn RV} (ho : OpR X (compareOp op) r) (ho' : OpR X (compareOp op') r') (hg : POk K cn (r2l r) g) (hg' : POk K cn (r2l r') g') (ha : PE X a (TM K cn W ma)) (hb : PE X b (TM K cn W mb)) (hc : PE X c (TM K cn W mc))
    (hm : lastMarks [op, op'] [b, c] = false := by with_unfolding_all rfl) : PT X (.Compare a [op, op'] [b, c] pos) (TMt K cn W (mTB (mChain g g' ma mb mc))) := PT.imp (pt_chain ho ho' ha hb hc hm) fun σ H Q q => tm_chain hg hg' σ H _ (tb_of σ H Q q)
end
/-! ### slices -/
def mPart (m : Mn RV) : Mn RV := bnd m fun r sl st => match view sl st r with
  | some (.int i) => .ok (.d (.int i)) sl st
  | _ => .no
/-- an end of a slice, as a value -/
def IsP : V → Option Int → Prop
  | .non, o => o = none
  | .int i, o => o = some i
  | _, _ => False
def POkS (K : PySem.W.Frag) (cn : String → Addr) (r : V → Option Int → Option Int → Hp → VK → Prop) (g : List D → PR) : Prop := POk K cn (fun vs H Q => ∃ x y z lo hi, vs = [x, y, z] ∧ IsP y lo ∧ IsP z hi ∧ r x lo hi H Q) g
def endD : D → Option (Option Int)
  | .non => some none
  | .int i => some (some i)
  | _ => none
def cutD {α : Type} (xs : List α) (lo hi : Option Int) : List α := (xs.drop (HT.sIx xs.length 0 lo)).take (HT.sIx xs.length xs.length hi - HT.sIx xs.length 0 lo)
def gSl : List D → PR
  | [.lst xs, a, b] => match endD a, endD b with
    | some lo, some hi => .f (.lst (cutD xs lo hi))
    | _, _ => .no
  | [.tup xs, a, b] => match endD a, endD b with
    | some lo, some hi => .t (cutD xs lo hi)
    | _, _ => .no
  | [.str z, a, b] => match endD a, endD b with
    | some lo, some hi => if z.length ≤ sizeLine then .d (.str (cutS z lo hi)) else .no
    | _, _ => .no
  | _ => .no
section
variable {K : PySem.W.Frag} {cn : String → Addr} {W : WX} {X : Cx} {Z : Zt} {A : Addr → Prop}
structure PartOk (K : PySem.W.Frag) (cn : String → Addr) (W : WX) (t : TO) (m : Mn RV) : Prop where
  at_ : ∀ σ H (P : Option Int → Hp → Prop), TM K cn W m σ H (fun v H1 => ∀ o, IsP v o → P o H1) → t σ H P
theorem part_none : PartOk K cn W tNoPart (mC .non) := ⟨fun σ H P h => (tm_c (v := .non) (fun _ _ => Rep.non) σ H _ h : _) none rfl⟩
theorem part_some {m : Mn RV} : PartOk K cn W (tPart (TM K cn W m)) (mPart m) := ⟨fun σ H P h => by
  obtain ⟨G, ρ, sl, st, hR, q⟩ := h
  refine ⟨G, ρ, sl, st, hR, ?_⟩
  unfold mPart bnd at q
  cases e : m sl st with
  | no => rw [e] at q; exact q
  | exc C xs s t => rw [e] at q; exact q
  | ok r s t =>
    rw [e] at q
    dsimp only at q
    intro G1 H1 ρ1 v hR1 hv1 hS
    cases e2 : view s t r with
    | none => rw [e2] at q; exact q.elim
    | some x =>
      rw [e2] at q
      have hx := view_ok hR1 hv1 e2
      cases x with
      | int i =>
        cases hx.int
        exact ⟨i, rfl, q G1 H1 ρ1 (.int i) hR1 .int hS.end0 (some i) rfl⟩
      | _ => exact q.elim⟩
theorem endD_is {d : D} {v : V} {o : Option Int} (h : RepH K cn Z d v) (e : endD d = some o) : IsP v o := by
  cases d with
  | non => cases h.non; cases e; rfl
  | int i => cases h.int; cases e; rfl
  | _ => cases e
theorem RepHs.three {x y z : D} {vs : List V} (h : RepHs K cn Z [x, y, z] vs) : ∃ u v w, vs = [u, v, w] ∧ RepH K cn Z x u ∧ RepH K cn Z y v ∧ RepH K cn Z z w := by
  cases h with
  | cons a t => cases t with
    | cons b u => cases u with
      | cons c v => cases v; exact ⟨_, _, _, rfl, a, b, c⟩
theorem Reps.cut {G : Hp} {ρ : List Addr} {xs : List D} {vs : List V} (h : Reps K cn G ρ xs vs) (lo hi : Option Int) : Reps K cn G ρ (cutD xs lo hi) (cutV vs lo hi) := by
  unfold cutD cutV
  rw [h.length]
  exact (h.drop _).take _
def rSlU (K : PySem.W.Frag) : V → Option Int → Option Int → Hp → VK → Prop := fun x lo hi H Q => rSlL K x lo hi H Q ∨ rSlA K x lo hi H Q ∨ rSlS x lo hi H Q
theorem sl_U : SlR X (rSlU X.K) := SlR.or sl_list (SlR.or sl_tupA sl_str)
theorem ok_sl : POkS K cn (rSlU K) gSl := by
  intro Z xs vs Q hR hv hq
  unfold gSl at hq
  split at hq
  · obtain ⟨u, v, w, rfl, ⟨a, us, rfl, q1, r1⟩, h2, h3⟩ := hv.three
    split at hq
    · rename_i lo hi e1 e2
      exact ⟨_, _, _, lo, hi, rfl, endD_is h2 e1, endD_is h3 e2, .inl ⟨a, us, rfl, q1, fun p hp => hq p _ hp (.lst (r1.cut lo hi))⟩⟩
    · exact hq.elim
  · obtain ⟨u, v, w, rfl, h1, h2, h3⟩ := hv.three
    obtain ⟨a, us, rfl, q1, r1, k1⟩ := h1.tup hR
    split at hq
    · rename_i lo hi e1 e2
      refine ⟨_, _, _, lo, hi, rfl, endD_is h2 e1, endD_is h3 e2, .inr (.inl ⟨a, us, rfl, q1, fun z => ?_, fun _ p hp => hq.2 p _ hp (r1.cut lo hi)⟩)⟩
      have : ∀ ys : List D, Reps K cn Z.G Z.ρ ys us → cutD ys lo hi = ys := fun ys r1 => by
        unfold cutD
        rw [r1.length, z.1, z.2, List.drop_zero, Nat.sub_zero, ← r1.length, List.take_length]
      rw [this _ r1] at hq
      exact hq.1 _ k1
    · exact hq.elim
  · obtain ⟨u, v, w, rfl, h1, h2, h3⟩ := hv.three
    cases h1.str
    split at hq
    · rename_i lo hi e1 e2
      split at hq
      · rename_i hz
        exact ⟨_, _, _, lo, hi, rfl, endD_is h2 e1, endD_is h3 e2, .inr (.inr ⟨_, rfl, hz, hq _ .str⟩)⟩
      · exact hq.elim
    · exact hq.elim
  · exact hq.elim
theorem IsP.eq {v : V} {o o' : Option Int} (h : IsP v o) (k : IsP v o') : o = o' := by
  cases v <;> first | exact (h : _ = _).trans (k : _ = _).symm | exact h.elim
theorem tm_sl {r : V → Option Int → Option Int → Hp → VK → Prop} {g : List D → PR} {tl th : TO} {ma ml mh : Mn RV} (hg : POkS K cn r g) (hl : PartOk K cn W tl ml) (hh : PartOk K cn W th mh) : ∀ σ H Q, TM K cn W (mOp (mPure g) (mCons ma (mCons ml (mCons mh mNil)))) σ H Q → tSl r (TM K cn W ma) tl th σ H Q := by
  intro σ H Q h
  have h1 := tma_cons σ H _ (tm_op hg.op σ H Q h)
  refine h1.mono fun x H1 q1 => hl.at_ σ H1 _ ?_
  refine (tma_cons σ H1 _ q1).mono fun y H2 q2 lo e1 => hh.at_ σ H2 _ ?_
  refine (tma_cons σ H2 _ q2).mono fun z H3 q3 hi e2 => ?_
  obtain ⟨x', y', z', lo', hi', e, i1, i2, k⟩ := tma_nil σ H3 _ q3
  cases e
  rw [e1.eq i1, e2.eq i2]
  exact k
theorem me_sl {e : Expr} {lo hi : Option Expr} {tl th : TO} {ma ml mh : Mn RV} {p2 pos : Pos} (he : PE X e (TM X.K cn W ma)) (hl : PO X lo tl) (hu : PO X hi th) (pl : PartOk X.K cn W tl ml) (ph : PartOk X.K cn W th mh) :
    PE X (.Subscript e (.Slice lo hi none p2) pos) (TM X.K cn W (mOp (mPure gSl) (mCons ma (mCons ml (mCons mh mNil))))) := PE.imp (pe_slice sl_U he hl hu) (tm_sl ok_sl pl ph)
end
/-! ### f-strings -/
def gFmt : List D → PR
  | [.str y] => if y.length ≤ sizeLine then .d (.str y) else .no
  | [.int i] => if i.natAbs.log2 < 1920 then .d (.str (Str.ofString (toString i))) else .no
  | _ => .no
def mJs : List (Mn RV) → Str → Mn RV
  | [], acc => unit (.d (.str acc))
  | m :: ms, acc => bnd m fun r sl st => match view sl st r with
    | some (.str y) => if (acc ++ y).length ≤ sizeLine then mJs ms (acc ++ y) sl st else .no
    | _ => .no
section
variable {K : PySem.W.Frag} {cn : String → Addr} {W : WX} {X : Cx} {Z : Zt} {A : Addr → Prop}
def rFmt : V → Hp → VK → Prop := fun x H1 Q => (∃ y : Str, x = .str y ∧ y.length ≤ sizeLine ∧ Q (.str y) H1) ∨ ∃ i : Int, x = .int i ∧ i.natAbs.log2 < 1920 ∧ Q (.str (toString i)) H1
theorem ok_fmt : POk K cn (r1l rFmt) gFmt := by
  intro Z xs vs Q hR hv hq
  unfold gFmt at hq
  split at hq
  · obtain ⟨v, rfl, h⟩ := hv.one
    cases h.str
    split at hq
    · rename_i hz
      exact ⟨_, rfl, .inl ⟨_, rfl, hz, hq _ .str⟩⟩
    · exact hq.elim
  · obtain ⟨v, rfl, h⟩ := hv.one
    cases h.int
    split at hq
    · rename_i hz
      exact ⟨_, rfl, .inr ⟨_, rfl, hz, hq _ .str⟩⟩
    · exact hq.elim
  · exact hq.elim
theorem me_fmt {e : Expr} {m : Mn RV} {pos : Pos} (he : PE X e (TM K cn W m)) : PE X (.FormattedValue e (-1) none pos) (TM K cn W (mOp (mPure gFmt) (mCons m mNil))) := PE.imp (pe_fmt he) fun σ H Q q => tm_one σ H (tm_op (r := r1l rFmt) ok_fmt.op σ H Q q)
theorem tm_js : ∀ {ms : List (Mn RV)} {acc : Str} {σ : L2.St} {H : Hp} {Q : VK}, TM K cn W (mJs ms acc) σ H Q → tJs (ms.map (TM K cn W)) acc σ H fun out H1 => Q (.str out) H1
  | [], acc, σ, H, Q, h => tm_c (v := .str acc) (fun _ _ => Rep.str) σ H _ h
  | m :: ms, acc, σ, H, Q, h => by
    obtain ⟨G, ρ, sl, st, hR, q⟩ := h
    refine ⟨G, ρ, sl, st, hR, ?_⟩
    unfold mJs bnd at q
    cases e : m sl st with
    | no => rw [e] at q; exact q
    | exc C xs s t => rw [e] at q; exact q
    | ok r s t =>
      rw [e] at q
      dsimp only at q
      intro G1 H1 ρ1 v hR1 hv1 hS
      cases e2 : view s t r with
      | none => rw [e2] at q; exact q.elim
      | some x =>
        rw [e2] at q
        have hx := view_ok hR1 hv1 e2
        cases x with
        | str y =>
          cases hx.str
          dsimp only at q
          by_cases c : (acc ++ y).length ≤ sizeLine
          · rw [if_pos c] at q
            exact ⟨y, rfl, c, tm_js ⟨G1, ρ1, s, t, hR1, PostE.trans hS.end0 rfl q⟩⟩
          · rw [if_neg c] at q; exact q.elim
        | _ => exact q.elim
inductive MJ (X : Cx) (K : PySem.W.Frag) (cn : String → Addr) (W : WX) : List Expr → List (Mn RV) → Prop where
  | nil : MJ X K cn W [] []
  | cons {e : Expr} {m : Mn RV} {es : List Expr} {ms : List (Mn RV)} (h : PE X e (TM K cn W m)) (r : MJ X K cn W es ms) : MJ X K cn W (e :: es) (m :: ms)
theorem MJ.pj {es : List Expr} {ms : List (Mn RV)} (h : MJ X K cn W es ms) : PJ X es (ms.map (TM K cn W)) := by
  induction h with
  | nil => exact .nil
  | cons h r ih => exact .cons h ih
theorem me_joined {v1 v2 : Expr} {rest : List Expr} {ms : List (Mn RV)} {pos : Pos} (h : MJ X K cn W (v1 :: v2 :: rest) ms) : PE X (.JoinedStr (v1 :: v2 :: rest) pos) (TM K cn W (mJs ms Str.empty)) := PE.imp (pe_joined h.pj) fun σ H Q q => tm_js q
end
/-! ### operators joined -/
section
variable {X : Cx}
theorem op_addU : OpR X (binaryOp .Add) (fun x y H Q => rI0 (fun i j => .int (i + j)) x y H Q ∨ (∃ i j : Str, x = .str i ∧ y = .str j ∧ i.length + j.length ≤ sizeLine ∧ Q (.str (i ++ j)) H) ∨ rCatS X.K x y H Q ∨ rCatA X.K x y H Q) := op_add.or (op_add_str.or (op_catS.or op_catA))
theorem op_inU (hu : X.A.units + 64 < cLine) : OpR X (compareOp .In) (rInU X.K false) := (op_din hu).or op_in_str
theorem op_notInU (hu : X.A.units + 64 < cLine) : OpR X (compareOp .NotIn) (rInU X.K true) := (op_dnin hu).or op_notIn_str
theorem op_isN' : OpR X (compareOp .Is) (rIsN' false) := op_isN
theorem op_notN' : OpR X (compareOp .IsNot) (rIsN' true) := op_notN
theorem cr_lenU : CallR X (.builtin "len") (rLenU X.K) := call_len.or call_lenD
theorem cr_maxU (hc : X.calm = true) : CallR X (.builtin "max") (rMaxU X.K) := (call_max2 hc).or (cr_max hc)
theorem cr_minU (hc : X.calm = true) : CallR X (.builtin "min") (rMinU X.K) := (call_min2 hc).or (cr_min hc)
theorem cr_strU : CallR X (.type "str") rStrU := call_str_int.or SkE.call_str_str
end
end MP

set_option Elab.async false
set_option linter.all false
set_option maxRecDepth 100000
set_option maxHeartbeats 4000000
/-! MP15: own errors whose __init__ hands a text to its base's and keeps one field. -/
namespace MP
open PySem PySem.W PySem.Calls PyProof.Rows PySem.HandSPX
def erA (par : Str) (p1 p2 : Pos) : Arguments := { posonlyargs := [], args := [{ arg := "self", annotation := none, pos := p1 }, { arg := par, annotation := none, pos := p2 }], vararg := none, kwonlyargs := [], kw_defaults := [], kwarg := none, defaults := [] }
def erB (par fld msg : Str) (k : Nat) (p0 p1 p2 p3 p4 p5 q1 q2 q3 q4 : Pos) : List Stmt :=
  [.Expr (.Call (.Attribute (.Call (.Name "super" p0) [] [] p1) "__init__" p2) [.Constant (.str msg) k p3] [] p4) p5, .Assign [.Attribute (.Name "self" q1) fld q2] (.Name par q3) q4]
def erS (par : Str) : Scope := { kind := .function, names := [(PySem.Str.ofString "self", .local), (par, .local), (PySem.Str.ofString "__class__", .free), (PySem.Str.ofString "super", .globalImplicit)], isGenerator := false, isCoroutine := false, more := [] }
/-- what the written part says of the error's class, at C, and of its __init__, at fI -/
structure ErrTxt (prog : Program) (K : Frag) (mg : Str → Option Value) (nX fld par : Str) (C fI : Addr) : Prop where
  gC : mg nX = some (.ref C)
  cls : ∃ nm q N bs bm sn sub ab col dd k0 k1 k2 k3 k5, K.lookup C = some (excClassObj nm q C N bs bm true sn sub ab col dd k0 k1 k2 k3 k5 "ValueError.__new__") ∧ refsVE bm = true
  sa : findIn K (.ref C) "__setattr__" = some (some (.builtin "object.__setattr__"))
  ga : findIn K (.ref C) "__getattribute__" = some (some (.builtin "BaseException.__getattribute__"))
  gg : findIn K (.ref C) "__getattr__" = some none
  noN : findIn K (.ref C) fld = some none
  iC : findIn K (.ref C) "__init__" = some (some (.ref fI))
  tC : typeIn K (.ref fI) = some (.type "function")
  kC : keepIn K (.ref C) = true
  exC : subIn K (.ref C) (.type "BaseException") = some true
  tyC : typeIn K (.ref C) = some (.type "type")
  hdC : hasDictIn K C = true
  sup : ks_superIn K C C "__init__" = some (some (.builtin "ValueError.__init__"))
  sub : mroIn K C (.ref C) = some true
  ve : subIn K (.ref C) (.type "ValueError") = some true
  ns : mg "super" = none
  op : nsIn K cStatics "thirdparty.any" = some none
  tp : (prog.main.scope.names.lookup ("super" : Str)).isSome = false
  pars : (par == ("self" : Str)) = false ∧ (par == ("__debug__" : Str)) = false ∧ (erS par).names.lookup par = some .local ∧ (erS par).names.lookup ("self" : Str) = some .local ∧ (erS par).names.lookup ("super" : Str) = some .globalImplicit ∧ (erS par).names.lookup ("__class__" : Str) = some .free
  fn : ∃ (qual msg : Str) (k : Nat) (oc : Value) (od : Option Addr) (doc pm : Value) (an : Option Addr) (cda cc : Addr) (ct : Value) (osl : Array (Option Value)) (p1 p2 a0 a1 a2 a3 a4 a5 q1 q2 q3 q4 : Pos) (ccl cl : Value) (cdd cld : Option Addr) (vs : Array Value) (ccs csl : Array (Option Value)) (file : Str) (tf : Tok),
    K.lookup fI = some ⟨oc, od, .func (ksFn "__init__" qual (erA par p1 p2) (erB par fld msg k a0 a1 a2 a3 a4 a5 q1 q2 q3 q4) (erS par) .none .none doc pm an (.ref cda) ct cc), osl⟩ ∧ codeIn K (.ref cda) qual = true ∧
      K.lookup cda = some ⟨ccl, cdd, .fields vs, ccs⟩ ∧ vs[2]? = some (.str file tf) ∧ ((prog.main.file : Str) == file) = true ∧ K.lookup cc = some ⟨cl, cld, .cell (some (.ref C)), csl⟩ ∧
      (∀ (s : Shared) (x v : Value), BindsTo s (ksFn "__init__" qual (erA par p1 p2) (erB par fld msg k a0 a1 a2 a3 a4 a5 q1 q2 q3 q4) (erS par) .none .none doc pm an (.ref cda) ct cc) ⟨[x, v], []⟩ [(("self" : Str), x), (par, v)]) ∧
      ∀ L : Addr, ∃ pl : Sem Bool, eval (.Call (.Attribute (.Call (.Name "super" a0) [] [] a1) "__init__" a2) [.Constant (.str msg) k a3] [] a4) (ksEnv qual (erS par) L fI (.ref cda) cc) = (do
        let ov ← attributeBase (.Call (.Name "super" a0) [] [] a1) "__init__" (ksEnv qual (erS par) L fI (.ref cda) cc) (eval (.Call (.Name "super" a0) [] [] a1) (ksEnv qual (erS par) L fI (.ref cda) cc))
        standAt a2.atName
        let (f, first) ← holding [ov] (getMethod ov "__init__" pl)
        callWith a4 f first (backTo a4 (starEach [.Constant (.str msg) k a3] (ksEnv qual (erS par) L fI (.ref cda) cc))) [])
/-- what __init__ leaves of a fresh error at x -/
structure ErEnd (h h' : Heap) (x C dx : Addr) (fld : Str) (v : Value) : Prop where
  keep : ∀ b o, b ≠ x → h.get? b = some o → h'.get? b = some o
  obj : ∃ t1 : Addr, h'.get? x = some { cls := .ref C, dict := some dx, data := .fields #[.ref t1, .none, .none, .none, .bool false, .none] }
  dbig : h.objs.size ≤ dx
  dne : dx ≠ x
  ns : h'.Ns1 dx (fun y => if y = fld then some v else none)
section
variable {prog : Program} {w : World} {A : Around} {E : Value → Shared → Prop} {R : Result → Shared → Prop} {s : Shared} {K : Frag} {mg mb : Str → Option Value} {nX fld par : Str} {C fI : Addr}
theorem lk_self {par : Str} {x : Addr} {v : Value} (h : (par == ("self" : Str)) = false) : List.lookup ("self" : Str) ([(("self" : Str), Value.ref x), (par, v)] : List (Str × Value)).reverse = some (.ref x) := by
  have h' : (("self" : Str) == par) = false := by
    rw [beq_eq_false_iff_ne] at h ⊢
    exact fun z => h z.symm
  show List.lookup ("self" : Str) ([(par, v), (("self" : Str), Value.ref x)] : List (Str × Value)) = _
  simp [List.lookup, h']
theorem lk_par {par : Str} {x : Addr} {v : Value} : List.lookup par ([(("self" : Str), Value.ref x), (par, v)] : List (Str × Value)).reverse = some v := by
  show List.lookup par ([(par, v), (("self" : Str), Value.ref x)] : List (Str × Value)) = _
  simp [List.lookup]
theorem er_super_call {hh : Heap} {g : Array GenState} {d : Drawn} {tk : Nat} {os : OsState} {u x C t : Addr} {rest : List Value} {Q : Value → Shared → Prop} {nm q : Str} {N : Addr} {bs bm : List Value} {hdct : Bool} {sn : List Str} {sub : List Value} {ab : Bool} {col : Option Bool} {dd : Option Addr} {k0 k1 k2 k3 k5 : Option Value}
    (hu : hh.get? u = some (kxs_mw "ValueError.__init__" x)) (hC : hh.get? C = some (excClassObj nm q C N bs bm hdct sn sub ab col dd k0 k1 k2 k3 k5 "ValueError.__new__")) (he : hh.get? x = some (excO C t)) (hz : rest.length ≤ sizeLine)
    (fin : ∀ h', (∀ b o, b ≠ x → hh.get? b = some o → h'.get? b = some o) → h'.get? x = some (excO C hh.objs.size) → Q .none ⟨h', g, d, tk, os⟩) : wpAny (model prog w) A (call (.ref u) rest) Q E ⟨hh, g, d, tk, os⟩ := by
  have FB := F.excBase_ValueError
  refine wpAny_call (codeAny_of_tree ?_)
  show wpAny _ A.in1 (callAny (.ref u) ⟨rest, []⟩) _ _ _
  simp only [callAny]
  refine wpAny_bind (wpAny_load hu ?_)
  simp only [kxs_mw, show (Value.type "method-wrapper" == Value.type "method" || Value.type "method-wrapper" == Value.type "builtin_function_or_method" || Value.type "method-wrapper" == Value.type "method-wrapper") = true by decide, if_true]
  refine KFB.if_so (by decide) ?_
  refine wpAny_bind (check_bound_init FB.toExcCallFacts hC he rfl ?_)
  refine wpAny_bind (wpAny_pure (wpAny_pure ?_))
  refine ⟨plainId_quiet FB.init.plain _, codeAny_builtin FB.initEntry ?_⟩
  exact exc_init_tree (cls := .ref C) (t0 := t) (dv := none) (c2 := .none) (c3 := .none) (b4 := .bool false) he hz fun h' k e1 e2 => fin h' k e1
theorem err_init (T : ErrTxt prog K mg nX fld par C fI) {x t0 : Addr} {v : Value} (X : K.In s.heap) (hg : s.heap.Ns mainGlobals mg) (hb : s.heap.Ns builtinsNs mb) (hbs : mb "super" = some (.type "super")) (hlim : s.heap.NoLimit) (hx : s.heap.get? x = some (excO C t0)) (hnx : K.lookup x = none) (hroom : A.depth < recursionLimit)
    (hq : ∀ h' tk dx, ErEnd s.heap h' x C dx fld v → R (.ok (.ret .none)) { s with heap := h', toks := tk }) :
    codeAny (model prog w) A (.call (.ref fI) ⟨[.ref x, v], []⟩) R s := by
  obtain ⟨qual, msg, k, oc, od, doc, pm, an, cda, cc, ct, osl, p1, p2, a0, a1, a2, a3, a4, a5, q1, q2, q3, q4, ccl, cl, cdd, cld, vs, ccs, csl, file, tf, ho, hcd, hcda, hvs, hfile, hcc, hbd, hev⟩ := T.fn
  obtain ⟨nm, q, N, bs, bm, sn, sub, ab, col, dd, k0, k1, k2, k3, k5, hC, hbm⟩ := T.cls
  have hcl : clsIn K C = some { name := nm, bases := bs, mro := .ref C :: bm, ns := N, qualname := q, hasDict := true, slotNames := sn, subclasses := sub, abstract := ab, collection := col, hasDel := false } := by unfold clsIn; rw [hC] <;> rfl
  obtain ⟨hp1, hp2, hp3, hp4, hp5, hp6⟩ := T.pars
  refine ks_codeAny_call_defAt (binds := [("self", .ref x), (par, v)]) hroom (X _ _ ho) rfl hlim (codeRec_of X hcd) rfl (hbd _ _ _) ?_ ?_ (fun h₁ hns hk₁ => ?_)
  · intro y hy
    simp only [erS, List.mem_cons, List.not_mem_nil, or_false] at hy
    rcases hy with rfl | rfl | rfl | rfl <;> exact fun z => nomatch z
  · intro y hy
    simp only [List.mem_cons, List.not_mem_nil, or_false] at hy
    rcases hy with rfl | rfl
    · exact hp4
    · exact hp3
  · have X₁ : K.In h₁ := X.keeps hk₁
    have hx₁ := hk₁ _ _ hx
    have hxs : s.heap.objs.size ≠ x := Nat.ne_of_gt (Heap.lt_size hx)
    have hxC : x ≠ C := fun z => by subst z; rw [hnx] at hC; cases hC
    obtain ⟨oD, hD1, hD2⟩ : ∃ oD, K.lookup C = some oD ∧ oD.data = .cls _ := ⟨_, hC, rfl⟩
    show _root_.PySem.wpAt (model prog w) (A.deeper (ksEnv qual (erS par) s.heap.objs.size fI (.ref cda) cc)) (.func (erB par fld msg k a0 a1 a2 a3 a4 a5 q1 q2 q3 q4) (ksEnv qual (erS par) s.heap.objs.size fI (.ref cda) cc)) (execs (erB par fld msg k a0 a1 a2 a3 a4 a5 q1 q2 q3 q4) (ksEnv qual (erS par) s.heap.objs.size fI (.ref cda) cc)) _ _ _
    obtain ⟨pl, hev⟩ := hev s.heap.objs.size
    refine ks_wpAt_execs_cons (ks_wpAt_Expr_any (ks_wpAt_MethodCall (pl := pl) ?_ hev) rfl rfl)
    refine ks_wpAt_super_base hp5 hp6 (by decide) rfl (X₁ _ _ ho) rfl (ar := { arg := "self", annotation := none, pos := p1 }) rfl rfl (X₁ _ _ hcda) rfl hvs hfile T.tp ?_
    refine ks_loadName_global rfl hp5 (Calls.loadGlobal_builtin (hg.keeps hk₁) T.ns (hb.keeps hk₁) hbs ⟨rfl, ?_⟩)
    refine wpAny_loadName_free rfl hp6 rfl ⟨_, X₁ _ _ hcc, rfl⟩ ?_
    refine wpAny_loadName_local rfl hp4 hns (lk_self hp1) ?_
    refine ks_wpAny_isType_cls (X₁ _ _ hC) rfl ⟨rfl, ?_⟩
    refine ks_wpAny_call_super (X₁ _ _ hC) rfl hx₁ rfl (fun c z => nomatch z) (looks_mroIn X₁ T.sub) (fun h₂ hso k₂ => ?_)
    have X₂ : K.In h₂ := X₁.keeps k₂
    have hx₂ := k₂ _ _ hx₁
    have I2 : InstAt h₂ x (excO C t0) C none := ⟨hx₂, rfl, rfl, trivial⟩
    have hal : alongIn K "__init__" ((({ name := nm, bases := bs, mro := .ref C :: bm, ns := N, qualname := q, hasDict := true, slotNames := sn, subclasses := sub, abstract := ab, collection := col, hasDel := false } : ClassData).mro.dropWhile (· != .ref C)).drop 1) = some (some (.builtin "ValueError.__init__")) := by
      have := T.sup
      unfold ks_superIn at this
      rw [hcl] at this
      exact this
    refine kxs_getMethod kxs_ValueError (K := K) (l₀ := .ref C :: bm) hso (looks_opaque X₂ T.op) (fun A Q E s k q => wpAny_bind ((looks_clsIn X₂ hcl) A _ E s k (wpAny_pure q))) rfl X₂ hal (I2.type.andThen (looks_subIn X₂ T.ve)) hxC (by decide) ?_
    refine kxs_callWith (i := "ValueError.__init__") (x := x) (by rfl) ?_
    refine Calls.evalArgs_plain (Calls.spliced_cons (Calls.Constant_str (pos := a3) (k := k) (Calls.spliced_nil ⟨?_, ?_⟩)))
    · show (h₂.push _).get? _ = _
      exact Heap.get?_push_at rfl rfl
    · have X₃ : K.In (h₂.push (kxs_mw "ValueError.__init__" x)) := X₂.keeps fun b o e => Heap.get?_push_of_some _ e
      refine er_super_call (t := t0) (Heap.get?_push_at rfl rfl) (X₃ _ _ hC) (Heap.get?_push_of_some _ hx₂) (by show 1 ≤ sizeLine; decide) fun h₄ k₄ hx₄ => ?_
      have k14 : ∀ b o, b ≠ x → h₁.get? b = some o → h₄.get? b = some o := fun b o hb e => k₄ b o hb (Heap.get?_push_of_some _ (k₂ _ _ e))
      have kall : ∀ b o, b ≠ x → s.heap.get? b = some o → h₄.get? b = some o := fun b o hb e => k14 b o hb (hk₁ _ _ e)
      have X₄ : K.In h₄ := fun a o e => k₄ a o (fun z => by rw [z, hnx] at e; cases e) (X₃ a o e)
      have hns₄ : h₄.Ns s.heap.objs.size (fun x_1 => List.lookup x_1 ([("self", Value.ref x), (par, v)] : List (Str × Value)).reverse) := by
        obtain ⟨oL, es, ep, hL, r⟩ := hns
        exact ⟨oL, es, ep, k14 _ _ hxs hL, r⟩
      refine _root_.PySem.wpAt_of_wpAny ?_
      refine wpAny_execs_cons (plainObj_wpAny_Assign_Attribute ?_)
      refine wpAny_Name (wpAny_loadName_local rfl hp3 hns₄ lk_par ?_) hp2
      refine wpAny_Name (wpAny_loadName_local rfl hp4 hns₄ (lk_self hp1) ?_)
      refine set_plain X₄ (ox := excO C _) (od := none) ⟨hx₄, rfl, rfl, trivial⟩ T.sa ?_
      refine exc_osa X₄ hx₄ hcl (show refsVE (.ref C :: bm) = true from hbm) rfl T.noN (fun h₅ tk₅ dx k₅ dn dne hx₅ hn₅ => ?_)
      refine wpAny_execs_nil ?_
      have z1 : s.heap.objs.size ≤ h₄.objs.size := by
        obtain ⟨oL, es, ep, hL, r⟩ := hns₄
        exact Nat.le_of_lt (Heap.lt_size hL)
      exact hq h₅ tk₅ dx ⟨fun b o hb e => k₅ b o hb (kall b o hb e), ⟨_, hx₅⟩, Nat.le_trans z1 dn, dne, hn₅⟩
/-- a made error -/
structure ErMade (h h' : Heap) (e C d : Addr) (fld : Str) (v : Value) : Prop where
  keep : ∀ b o, h.get? b = some o → h'.get? b = some o
  new : h.objs.size ≤ e
  obj : ∃ oe vs, h'.get? e = some oe ∧ oe.cls = .ref C ∧ oe.dict = some d ∧ oe.data = .fields vs ∧ vs[1]? = some .none
  dbig : h.objs.size ≤ d
  dne : d ≠ e
  ns : h'.Ns1 d (fun y => if y = fld then some v else none)
theorem err_made (T : ErrTxt prog K mg nX fld par C fI) {v : Value} (X : K.In s.heap) (hg : s.heap.Ns mainGlobals mg) (hb : s.heap.Ns builtinsNs mb) (hbs : mb "super" = some (.type "super")) (hlim : s.heap.NoLimit) (hroom : A.depth + 1 < recursionLimit)
    (hq : ∀ h' tk e d, ErMade s.heap h' e C d fld v → R (.ok (.ret (.ref e))) { s with heap := h', toks := tk }) :
    codeAny (model prog w) A (.call (.ref C) ⟨[v], []⟩) R s := by
  obtain ⟨nm, q, N, bs, bm, sn, sub, ab, col, dd, k0, k1, k2, k3, k5, hC, hbm⟩ := T.cls
  obtain ⟨hp, g, dr, tk, os⟩ := s
  have k : ∀ b o, hp.get? b = some o → ((hp.push (kdv_tup [v])).push (excO C hp.objs.size)).get? b = some o := fun b o e => Heap.get?_push_of_some _ (Heap.get?_push_of_some _ e)
  have hget : ((hp.push (kdv_tup [v])).push (excO C hp.objs.size)).get? (hp.objs.size + 1) = some (excO C hp.objs.size) := by heap_get
  have hnx : K.lookup (hp.objs.size + 1) = none := by
    cases e : K.lookup (hp.objs.size + 1) with
    | none => rfl
    | some o =>
      have z : hp.get? (hp.objs.size + 1) = some o := X _ _ e
      exact absurd (Nat.lt_of_succ_lt (Heap.lt_size z)) (Nat.lt_irrefl _)
  refine call_own F.excBase_ValueError (fun X => refsVE_contains X bm hbm) (X _ _ hC) (looks_findIn X T.iC) (fun self => bind_fn X self T.tC) (by show 1 ≤ sizeLine; decide) ?_
  refine err_init (s := ⟨(hp.push (kdv_tup [v])).push (excO C hp.objs.size), g, dr, tk, os⟩) T (X.keeps k) (hg.keeps k) (hb.keeps k) hbs (hlim.keeps k) hget hnx ?_ fun h' tk' dx ⟨k', ⟨t1, hx⟩, dn, dne, hns⟩ => ?_
  · show A.depth + 1 < recursionLimit
    exact hroom
  · have old : ∀ b o, hp.get? b = some o → h'.get? b = some o := fun b o e => k' b o (Nat.ne_of_lt (Nat.lt_succ_of_lt (Heap.lt_size e))) (k b o e)
    have z : hp.objs.size + 1 + 1 ≤ dx := by
      first
        | (simpa only [Heap.size_push] using dn)
        | exact dn
        | (have q := dn; rw [Heap.size_push, Heap.size_push] at q; exact q)
    exact ⟨rfl, hq h' tk' (hp.objs.size + 1) dx ⟨old, Nat.le_succ _, ⟨_, _, hx, rfl, rfl, rfl, rfl⟩, Nat.le_trans (Nat.le_trans (Nat.le_succ _) (Nat.le_succ _)) z, dne, hns⟩⟩
end
end MP
namespace MP
open PySem PySem.Spec PyProof.Rows L2
theorem relO_er {v : V} {v' : Value} {fld : Str} (r : RelV v v') (f : Str) : RelO (List.lookup f [(fld, v)]) (if f = fld then some v' else none) := by
  by_cases hw : f = fld
  · subst hw
    rw [if_pos rfl]
    have q : List.lookup f [(f, v)] = some v := by simp [List.lookup]
    rw [q]
    exact r
  · rw [if_neg hw]
    have qw : (f == fld) = false := by simpa using hw
    have q2 : List.lookup f [(fld, v)] = none := by simp [List.lookup, qw]
    rw [q2]
    trivial
section
variable {X : Cx} {C fI : Addr} {nX fld par : Str}
def tMkEr (C : Addr) (fld : Str) (ta : TA) : L2.St → Hp → XK → Prop := fun σ H Q => ta σ H fun vs H1 => ∃ v, vs = [v] ∧ ∀ d, H1 d = none → Q (.ref C) (some d) (upd H1 d (.xd [(fld, v)]))
theorem pmk_er {a : Expr} {ta : TA} {p pos : Pos} {k : Nat} (T : ErrTxt X.prog X.K X.mg nX fld par C fI) (hr : Room k X.A) (ha : PA X [a] ta) (hg : Gl X nX) (hdb : (nX == ("__debug__" : Str)) = false)
    (he : starEach (a :: []) X.env = (false, eval a X.env) :: starEach [] X.env := by rfl) (hpl : (backTo pos (starEach [] X.env)).any (·.1) = false := by rfl) :
    PMk X (.Call (.Name nX p) [a] [] pos) (tMkEr C fld ta) := by
  intro pins s σ H Q I h
  refine wpAny_Call_Name_kw (ld_glob I hg T.gC ?_ hdb)
  refine PySem.W.callWith_K (h₀ := X.base) I.ok.mod.kin T.kC (thn (ha.run pos pins s σ H _ I h) fun us s1 hh => ?_) he hpl
  obtain ⟨vs, H1, I1, r1, v, ev, q1⟩ := hh
  subst ev
  refine ⟨I1.kIn, ?_⟩
  cases r1 with
  | cons rv rn =>
    rename_i v' us'
    cases rn
    show wpAny _ _ (call (.ref C) [v']) _ _ _
    have hlim := I1.nolimit
    obtain ⟨mb, hb1, hb2⟩ := I1.mod.blt
    have hgl := I1.mod.glob.keeps I1.bk
    have hbl := hb1.keeps I1.bk
    have hbs : mb "super" = some (.type "super") := (hb2 "super" (by decide)).trans (by rfl)
    obtain ⟨hp, g, dr, tk, os⟩ := s1
    refine wpAny_call (err_made T I1.kIn hgl hbl hbs hlim (by have := hr.dp; omega) fun h' tk' e d M => ?_)
    show MkP X pins σ Q (.ref e) ⟨h', g, dr, tk', os⟩
    obtain ⟨oe, fv, hoe, hc, hd, hdat, h1⟩ := M.obj
    have hns := M.ns
    obtain ⟨G', g1, g2⟩ := restrict h' fun b => decide (b ≠ e)
    have gk : ∀ b, b ≠ e → G'.get? b = h'.get? b := fun b hb => g1 b (decide_eq_true hb)
    have ge : G'.get? e = none := g2 e (by simp)
    have old : ∀ b o, hp.get? b = some o → G'.get? b = some o := fun b o q => (gk b (Nat.ne_of_lt (Nat.lt_of_lt_of_le (Heap.lt_size q) M.new))).trans (M.keep b o q)
    have ob : ObjOk X.prog X.w (upd H1 d (.xd [(fld, v)])) G' d (.xd [(fld, v)]) :=
      ⟨_, hns.at (fun o q => (gk d M.dne).trans q), fun f => relO_er rv f⟩
    have J : Inv X pins σ (upd H1 d (.xd [(fld, v)])) ⟨G', g, dr, tk', os⟩ := I1.laid (t' := tk') old M.dbig ob
    refine ⟨e, oe, fv, ⟨G', g, dr, tk', os⟩, _, .ref C, some d, rfl, J, fun b o q => ?_, ge, hoe, ⟨hc, hd⟩, hdat, h1, ?_, rfl, I1.bare, raises_own T.exC T.tyC, q1 d (I1.hok.fresh M.dbig)⟩
    · by_cases hb : b = e
      · have q' : G'.get? b = some o := q
        rw [hb, ge] at q'; cases q'
      · exact (gk b hb).symm.trans q
    · rw [upd_ne (Ne.symm M.dne)]
      exact I1.hok.fresh M.new
end
def mRaise (C : String) (fld : Str) (m : Mn RV) : Mn Fl := bnd m fun r => bnd (esc r) fun x sl st => .exc C [(fld, x)] sl st
section
variable {K : PySem.W.Frag} {cn : String → Addr} {W : WX} {X : Cx} {Z : Zt} {A : Addr → Prop}
theorem ms_raise {C : String} {fI : Addr} {nX fld par : Str} {a : Expr} {m : Mn RV} {p pos pos2 : Pos} {k : Nat} (hc : X.calm = true) (T : ErrTxt X.prog X.K X.mg nX fld par (cn C) fI) (hr : Room k X.A) (tk : Takes X W) (ha : PE X a (TM K cn W m)) (hg : Gl X nX := by rfl) (hdb : (nX == ("__debug__" : Str)) = false := by decide)
    (hs : starEach [a] X.env = [(false, eval a X.env)] := by rfl) (hpl : (backTo pos (starEach [] X.env)).any (·.1) = false := by rfl) :
    PS X (.Raise (some (.Call (.Name nX p) [a] [] pos)) none pos2) (TMs K cn W (mRaise C fld m)) :=
  PS.imp (ps_raise hc tk (pmk_er T hr (ma_cons ha ma_nil hs) hg hdb hs hpl)) fun D σ H q => by
    have key : TM K cn W m σ H fun v H1 => ∀ d, H1 d = none → W (.ref (cn C)) (some d) σ (upd H1 d (.xd [(fld, v)])) := by
      refine tm_s (P := fun v σ H1 => ∀ d, H1 d = none → W (.ref (cn C)) (some d) σ (upd H1 d (.xd [(fld, v)]))) q fun G H ρ sl st r v hR hv h1 => ?_
      intro d hd
      unfold bnd at h1
      cases e : esc r sl st with
      | no => rw [e] at h1; exact h1.elim
      | exc C xs sl1 st1 => exact (esc_ex e).elim
      | ok x sl1 st1 =>
        rw [e] at h1
        dsimp only at h1
        obtain ⟨rfl, G1, hR1, hx, hS⟩ := esc_ok (Z := ⟨G, H, ρ, σ, sl, st⟩) hR hv e
        exact h1 G1 (upd H d _) ρ σ d _ (R.laid (Z := ⟨G1, H, ρ, σ, sl1, st1⟩) hR1 (.xd [(fld, v)]) hd) (hS.trans ((Step.laid (Z := ⟨G1, H, ρ, σ, sl1, st1⟩) (A := NoA) hR1 (.xd [(fld, v)]) hd).drop fun a z => .inr z)) upd_same (hR1.gnone hd) (hR1.rnew hd) (.cons hx .nil)
    have k2 : TMa K cn W (mCons m mNil) σ H fun vs H1 => ∃ v, vs = [v] ∧ ∀ d, H1 d = none → W (.ref (cn C)) (some d) σ (upd H1 d (.xd [(fld, v)])) := by
      obtain ⟨G, ρ, sl, st, hR, h⟩ := key
      refine ⟨G, ρ, sl, st, hR, ?_⟩
      unfold mCons mNil bnd unit
      cases e : m sl st with
      | no => rw [e] at h; exact h
      | exc C xs s t => rw [e] at h; exact h
      | ok r s t =>
        rw [e] at h
        intro G1 H1 ρ1 vs hR1 hvs hS1
        cases hvs with
        | cons hv ht hd =>
          cases ht
          exact ⟨_, rfl, h G1 H1 ρ1 _ hR1 hv (hS1.drop fun a z => .inl z)⟩
    exact k2
end
end MP

set_option Elab.async false
set_option linter.all false
set_option maxRecDepth 100000
set_option maxHeartbeats 4000000
/-! MP16: try: .. except X as e: .. -/
namespace MP
open PySem PySem.Spec PyProof.Rows L2
open Evl (Ex)
/-- e.f, e the error that the suite holds -/
def mErr (a0 d0 : Addr) (f : Str) (m : Mn RV) : Mn RV := bnd m fun r sl st => match r with
  | .d (.exn a dd xs) => if a = a0 ∧ dd = d0 then match xs with
    | [(g, x)] => if g = f then .ok (.d x) sl st else .no
    | _ => .no else .no
  | _ => .no
/-- a name's slot is empty behind the suite -/
def wipe1 (i : Nat) : Res Fl → Res Fl
  | .ok f sl st => match sl[i]? with
    | some (.d _) => match f with
      | .rt (.sl _) => .no
      | f => .ok f (sl.set i .u) st
    | _ => .no
  | _ => .no
open Classical in
noncomputable def mTryAs (mb : Mn Fl) (exm : String → Option Bool) (i : Nat) (ms : Addr → Addr → Mn Fl) : Mn Fl := fun sl st => match mb sl st with
  | .exc C xs sl1 st1 => match exm C with
    | some true => match sl1[i]? with
      | some (.lk _) => .no
      | none => .no
      | some _ => if ∀ a dd, wipe1 i (ms a dd (sl1.set i (.d (.exn a dd xs))) st1) = wipe1 i (ms 0 0 (sl1.set i (.d (.exn 0 0 xs))) st1) then wipe1 i (ms 0 0 (sl1.set i (.d (.exn 0 0 xs))) st1) else .no
    | some false => .exc C xs sl1 st1
    | none => .no
  | q => q
section
variable {K : PySem.W.Frag} {cn : String → Addr} {W : WX} {X : Cx} {Z : Zt} {A : Addr → Prop}
theorem R.clear (hR : R K cn Z) {i : Nat} {x : D} (h : Z.sl[i]? = some (.d x)) : R K cn { Z with σ := Z.σ.set i none, sl := Z.sl.set i .u } ∧ ∀ A, Step Z A { Z with σ := Z.σ.set i none, sl := Z.sl.set i .u } A := by
  have hil : i < Z.sl.length := (List.getElem?_eq_some_iff.mp h).1
  have side : ∀ {j : Nat} {t : Sl} {b : Ob}, (Z.sl.set i Sl.u)[j]? = some t → t.ob = some b → j ≠ i ∧ Z.sl[j]? = some t ∧ (Z.σ.set i none)[j]? = Z.σ[j]? := fun {j t b} h e => by
    rcases get_set h with ⟨rfl, _, rfl⟩ | ⟨hj, h⟩
    · cases e
    · exact ⟨hj, h, List.getElem?_set_ne (Ne.symm hj)⟩
  refine ⟨⟨hR.ex, hR.len, hR.cells, hR.inj, by simpa using hR.slen, fun j t h => ?_, fun j k t u b c a hjk h1 h2 e1 e2 g1 g2 => ?_⟩, fun A => Step.mk' (fun _ _ h => h) (List.prefix_refl _) (fun a o h1 g r n m => ⟨h1, g, r, fun q => ?_, m⟩) (fun j b h1 => ?_) (fun _ _ h => h) (fun _ _ h => h)⟩
  · rcases get_set h with ⟨rfl, _, rfl⟩ | ⟨hj, h⟩
    · trivial
    · have q := hR.slots j t h
      have e : (Z.σ.set i none)[j]? = Z.σ[j]? := List.getElem?_set_ne (Ne.symm hj)
      cases t with
      | u => trivial
      | d x =>
        obtain ⟨w, h1, h2⟩ := q
        exact ⟨w, e.trans h1, h2⟩
      | o b =>
        obtain ⟨p, o, h1, h2⟩ := q
        exact ⟨p, o, e.trans h1, h2⟩
      | lk b =>
        obtain ⟨p, o, h1, h2⟩ := q
        exact ⟨p, o, e.trans h1, h2⟩
  · obtain ⟨_, k1, k2⟩ := side h1 e1
    obtain ⟨_, k3, k4⟩ := side h2 e2
    exact hR.dist j k t u b c a hjk k1 k3 e1 e2 (k2.symm.trans g1) (k4.symm.trans g2)
  · obtain ⟨j, t, b, h1, h2, h3⟩ := Zt.own_iff.mp q
    obtain ⟨_, k1, k2⟩ := side h1 h2
    exact n (Zt.own_of k1 h2 (k2.symm.trans h3))
  · have c : j ≠ i := fun z => by subst z; rw [h] at h1; cases h1
    exact ⟨by show (Z.sl.set i _)[j]? = _; rw [List.getElem?_set_ne (Ne.symm c)]; exact h1, List.getElem?_set_ne (Ne.symm c)⟩
theorem R.hide (hR : R K cn Z) {i : Nat} {x : D} (h : Z.sl[i]? = some (.d x)) : R K cn { Z with sl := Z.sl.set i .u } ∧ ∀ A, Step Z A { Z with sl := Z.sl.set i .u } A := by
  have side : ∀ {j : Nat} {t : Sl} {b : Ob}, (Z.sl.set i Sl.u)[j]? = some t → t.ob = some b → j ≠ i ∧ Z.sl[j]? = some t := fun {j t b} h e => by
    rcases get_set h with ⟨rfl, _, rfl⟩ | ⟨hj, h⟩
    · cases e
    · exact ⟨hj, h⟩
  refine ⟨⟨hR.ex, hR.len, hR.cells, hR.inj, by simpa using hR.slen, fun j t h => ?_, fun j k t u b c a hjk h1 h2 e1 e2 g1 g2 => ?_⟩, fun A => Step.mk' (fun _ _ h => h) (List.prefix_refl _) (fun a o h1 g r n m => ⟨h1, g, r, fun q => ?_, m⟩) (fun j b h1 => ?_) (fun _ _ h => h) (fun _ _ h => h)⟩
  · rcases get_set h with ⟨rfl, _, rfl⟩ | ⟨hj, h⟩
    · trivial
    · have q := hR.slots j t h
      cases t <;> exact q
  · obtain ⟨_, k1⟩ := side h1 e1
    obtain ⟨_, k3⟩ := side h2 e2
    exact hR.dist j k t u b c a hjk k1 k3 e1 e2 g1 g2
  · obtain ⟨j, t, b, h1, h2, h3⟩ := Zt.own_iff.mp q
    obtain ⟨_, k1⟩ := side h1 h2
    exact n (Zt.own_of k1 h2 h3)
  · have c : j ≠ i := fun z => by subst z; rw [h] at h1; cases h1
    exact ⟨by show (Z.sl.set i _)[j]? = _; rw [List.getElem?_set_ne (Ne.symm c)]; exact h1, rfl⟩
theorem own_obj (hR : R K cn Z) {a : Addr} (h : Z.own a) : ∃ o b, Z.H a = some o ∧ ObOk K cn Z.G Z.ρ b o := by
  obtain ⟨j, t, b, h1, h2, h3⟩ := Zt.own_iff.mp h
  have q := hR.slots j t h1
  cases t with
  | u => cases h2
  | d x => cases h2
  | o c =>
    obtain ⟨p, o, e1, e2, _, _, e5⟩ := q
    rw [h3] at e1; cases e1
    exact ⟨o, c, e2, e5⟩
  | lk c =>
    obtain ⟨p, o, e1, e2, _, _, e5⟩ := q
    rw [h3] at e1; cases e1
    exact ⟨o, c, e2, e5⟩
/-- the suite's end as the statement's -/
theorem suite_post {i : Nat} {q q0 : Res Fl} {D : Ends} (h : PostS K cn W Z A (wipe1 i q) D) : PostS K cn WF Z A q { nx := fun σ' H' => D.nx (σ'.set i none) H', rt := D.rt, bk := fun σ' H' => D.bk (σ'.set i none) H', ct := fun σ' H' => D.ct (σ'.set i none) H' } := by
  cases q with
  | no => exact h
  | exc C xs sl st => exact h.elim
  | ok f sl st =>
    unfold wipe1 at h
    dsimp only at h
    cases e : sl[i]? with
    | none => rw [e] at h; exact h.elim
    | some s =>
      rw [e] at h
      cases s with
      | u => exact h.elim
      | o b => exact h.elim
      | lk b => exact h.elim
      | d x =>
        cases f with
        | nx =>
          intro G H ρ σ hR hS
          obtain ⟨k1, k2⟩ := hR.clear e
          exact h G H ρ _ k1 (hS.trans (k2 _))
        | bk =>
          intro G H ρ σ hR hS
          obtain ⟨k1, k2⟩ := hR.clear e
          exact h G H ρ _ k1 (hS.trans (k2 _))
        | ct =>
          intro G H ρ σ hR hS
          obtain ⟨k1, k2⟩ := hR.clear e
          exact h G H ρ _ k1 (hS.trans (k2 _))
        | rt r =>
          cases r with
          | sl j => exact h.elim
          | d y =>
            intro G H ρ σ v hR hv hS
            obtain ⟨k1, k2⟩ := hR.hide e
            exact h G H ρ _ v k1 hv (hS.trans (k2 _))
          | f b =>
            intro G H ρ σ v hR hv hS
            obtain ⟨k1, k2⟩ := hR.hide e
            obtain ⟨p, o, rfl, h1, h2, h3, h4, h5⟩ := hv
            obtain ⟨_, _, _, j4, _⟩ := (k2 NoA).keep p o h1 h2 h3 h4 fun z => z
            exact h G H ρ _ _ k1 ⟨p, o, rfl, h1, h2, h3, j4, h5⟩ (hS.trans (k2 _))
open Classical in
theorem tm_try {mb : Mn Fl} {exm : String → Option Bool} {i : Nat} {ms : Addr → Addr → Mn Fl} {c : Value} (hx : ∀ C b, exm C = some b → PySem.W.exmOne K (.ref (cn C)) c = some b) : ∀ (D : Ends) σ H, TMs K cn W (mTryAs mb exm i ms) D σ H →
    TMs K cn (wAs K c i (fun a cls d => fun D σ H => ∃ d0 C, d = some d0 ∧ cls = .ref (cn C) ∧ exm C = some true ∧ TMs K cn WF (ms a d0) D σ H) W D) mb D σ H := by
  rintro D σ H ⟨G, ρ, sl, st, hR, h⟩
  refine ⟨G, ρ, sl, st, hR, ?_⟩
  unfold mTryAs at h
  cases e : mb sl st with
  | no => rw [e] at h; exact h
  | ok f sl1 st1 =>
    rw [e] at h
    cases f with
    | nx => exact h
    | bk => exact h
    | ct => exact h
    | rt r => exact h
  | exc C xs sl1 st1 =>
    rw [e] at h
    dsimp only at h
    intro G1 H1 ρ1 σ1 d us hR1 hS hd hg hr hf
    cases ex : exm C with
    | none => rw [ex] at h; exact h.elim
    | some b =>
      rw [ex] at h
      refine ⟨b, hx C b ex, fun hb => ?_, fun hb => ?_⟩
      · subst hb
        dsimp only at h
        intro a ha
        refine ⟨d, C, rfl, rfl, ex, ?_⟩
        cases es : sl1[i]? with
        | none => rw [es] at h; exact h.elim
        | some s0 =>
          rw [es] at h
          have hnl : ∀ b, s0 ≠ .lk b := fun b z => by subst z; exact h.elim
          have h' : PostS K cn W ⟨G, H, ρ, σ, sl, st⟩ NoA (if ∀ a dd, wipe1 i (ms a dd (sl1.set i (.d (.exn a dd xs))) st1) = wipe1 i (ms 0 0 (sl1.set i (.d (.exn 0 0 xs))) st1) then wipe1 i (ms 0 0 (sl1.set i (.d (.exn 0 0 xs))) st1) else .no) D := by
            cases s0 with
            | lk b => exact (hnl b rfl).elim
            | u => exact h
            | d x => exact h
            | o b => exact h
          by_cases hc : ∀ a dd, wipe1 i (ms a dd (sl1.set i (.d (.exn a dd xs))) st1) = wipe1 i (ms 0 0 (sl1.set i (.d (.exn 0 0 xs))) st1)
          · rw [if_pos hc, ← hc a d] at h'
            have hn : ¬ Zt.own ⟨G1, H1, ρ1, σ1, sl1, st1⟩ d := fun z => by
              obtain ⟨o, b, k1, k2⟩ := own_obj hR1 z
              have k1 : H1 d = some o := k1
              rw [hd] at k1; cases k1
              cases k2
            have hR2 := hR1.settle hd hg hr hn
            have hS2 : Step ⟨G1, H1, ρ1, σ1, sl1, st1⟩ (· = d) ⟨upd G1 d (.xd us), H1, ρ1, σ1, sl1, st1⟩ NoA := Step.settle hR1 hg rfl
            have hgm : Ex G1 (upd G1 d (.xd us)) := hS2.g
            have hil : i < sl1.length := (List.getElem?_eq_some_iff.mp es).1
            have hsl : sl1.length = σ1.length := hR1.slen
            have hR3 := R.put (Z := ⟨upd G1 d (.xd us), H1, ρ1, σ1, sl1, st1⟩) (i := i) (v := .ref a) (s := .d (.exn a d xs)) hR2 ⟨s0, es, hnl⟩ ⟨.ref a, List.getElem?_set_self (by show i < σ1.length; rw [← hsl]; exact hil), .exn upd_same (hf.mono hgm (List.prefix_refl _))⟩ (fun b _ z => nomatch z)
            have hS3 : Step ⟨upd G1 d (.xd us), H1, ρ1, σ1, sl1, st1⟩ NoA _ NoA := Step.put (i := i) (v := .ref a) (s := .d (.exn a d xs)) ⟨s0, es, hnl⟩ (fun b _ z => nomatch z)
            refine ⟨upd G1 d (.xd us), ρ1, _, st1, hR3, ?_⟩
            exact suite_post (q0 := .no) (PostS.trans ((hS.trans hS2).trans hS3) h')
          · rw [if_neg hc] at h'; exact h'.elim
      · subst hb
        exact h G1 H1 ρ1 σ1 d us hR1 hS hd hg hr hf
theorem ms_try {x n : Str} {c : Value} {i : Nat} {body suite : List Stmt} {b₀ : Stmt} {np pos pos' : Pos} {mb : Mn Fl} {exm : String → Option Bool} {ms : Addr → Addr → Mn Fl} (hx : ∀ C b, exm C = some b → PySem.W.exmOne X.K (.ref (cn C)) c = some b) (hs : X.stack = X.env :: X.outer) (hf : X.env.frame = some X.env.locals) (hN : X.N.Nodup) (hi : X.N[i]? = some n) (hln : X.env.kindOf n = some .local) (hc : Names X x c) (tk : Takes X W)
    (hb : ∀ (W : WX) (pn : List (Addr × Obj)) (xe : Value → Shared → Prop), Takes (X.tr pn xe) W → PassesOwn (model X.prog X.w) X.A X.env xe → PSs (X.tr pn xe) body (TMs X.K cn W mb))
    (hsu : ∀ (a : Addr) (oe : Obj) (C : String) (d0 : Addr) (pn : List (Addr × Obj)), exm C = some true → Zc (.ref (cn C)) (some d0) oe → (∃ vs, oe.data = .fields vs) → PSs (X.suite a ((a, oe) :: pn)) (b₀ :: suite) (TMs X.K cn WF (ms a d0))) :
    PS X (.Try body [.ExceptHandler (some (.Name x np)) (some n) (b₀ :: suite) pos'] [] [] pos) (TMs X.K cn W (mTryAs mb exm i ms)) :=
  PS.imp (ps_try_as (tb := fun W => TMs X.K cn W mb) (ts := fun a cls d => fun D σ H => ∃ d0 C, d = some d0 ∧ cls = .ref (cn C) ∧ exm C = some true ∧ TMs X.K cn WF (ms a d0) D σ H) hs hf hN hi hln hc tk hb (fun a oe cls d pn hz hfv => by
    refine ⟨fun pins s σ H D I q => ?_⟩
    obtain ⟨d0, C, rfl, rfl, hC, q⟩ := q
    exact (hsu a oe C d0 pn hC hz hfv).run pins s σ H D I q)) (tm_try hx)
end
section
variable {X : Cx}
/-- the facts that reading a field of an error wants -/
structure ErFld (K : PySem.W.Frag) (C : Addr) (f : Str) : Prop where
  ga : PySem.W.findIn K (.ref C) "__getattribute__" = some (some (.builtin "BaseException.__getattribute__"))
  gg : PySem.W.findIn K (.ref C) "__getattr__" = some none
  noN : PySem.W.findIn K (.ref C) f = some none
  exC : PySem.W.subIn K (.ref C) (.type "BaseException") = some true
  hdC : PySem.W.hasDictIn K C = true
def tByEr (a : Addr) (C d0 : Addr) (f : Str) (te : TE) : TE := fun σ H Q => te σ H fun x H1 => x = .ref a ∧ ∃ (v : V), H1 d0 = some (.xd [(f, v)]) ∧ Q v H1
theorem pe_byEr {a : Addr} {oe : Obj} {C d0 : Addr} {f : Str} {pn : List (Addr × Obj)} {e : Expr} {te : TE} {pos : Pos} (T : ErFld X.K C f) (hz : Zc (.ref C) (some d0) oe) (hf : ∃ vs, oe.data = .fields vs) (he : PE (X.suite a ((a, oe) :: pn)) e te)
    (hb : attributeBase e f X.env (eval e X.env) = eval e X.env := by rfl) :
    PE (X.suite a ((a, oe) :: pn)) (.Attribute e f pos) (tByEr a C d0 f te) := by
  refine ⟨fun pins s σ H Q I h => ?_⟩
  refine attr_of hb (thn (he.run pins s σ H _ I h) fun u s1 hh => ?_)
  obtain ⟨x, H1, I1, rx, ex, v, ea, q⟩ := hh
  subst ex
  obtain rfl : u = Value.ref a := rx
  obtain ⟨ha, _⟩ := I1.pin (a, oe) (List.mem_append_left _ List.mem_cons_self)
  obtain ⟨vs, hd⟩ := hf
  have hx : ObjOk X.prog X.w H1 s1.heap d0 (.xd [(f, v)]) := I1.hok d0 _ ea
  obtain ⟨mA, hns, hr⟩ := hx
  obtain ⟨od, ho, hl⟩ := lookIn_ns hns
  have l : List.lookup f [(f, v)] = some v := by simp [List.lookup]
  obtain ⟨u, hu, ru⟩ := RelO.some_of (v := v) (o := mA f) (by rw [← l]; exact hr f)
  have J : PySem.W.InstAt s1.heap a oe C (some od) := ⟨ha, hz.1, by unfold PySem.W.notCls; rw [hd] <;> rfl, by rw [hz.2]; exact ho⟩
  exact HandSPX.exc_get I1.kIn J T.ga T.gg T.exC (PySem.W.findObj_own T.hdC T.noN rfl (by rw [hl, hu])) (handed_of ru) ⟨v, H1, I1.tok _, ru, q⟩
theorem me_err {K : PySem.W.Frag} {cn : String → Addr} {a d0 : Addr} {oe : Obj} {C : String} {f : Str} {pn : List (Addr × Obj)} {e : Expr} {m : Mn RV} {pos : Pos} {W : WX} (T : ErFld X.K (cn C) f) (hz : Zc (.ref (cn C)) (some d0) oe) (hf : ∃ vs, oe.data = .fields vs) (he : PE (X.suite a ((a, oe) :: pn)) e (TM K cn W m))
    (hb : attributeBase e f X.env (eval e X.env) = eval e X.env := by rfl) :
    PE (X.suite a ((a, oe) :: pn)) (.Attribute e f pos) (TM K cn W (mErr a d0 f m)) := PE.imp (pe_byEr T hz hf he hb) fun σ H Q q => by
  obtain ⟨G, ρ, sl, st, hR, h⟩ := q
  refine ⟨G, ρ, sl, st, hR, ?_⟩
  unfold mErr bnd at h
  cases e1 : m sl st with
  | no => rw [e1] at h; exact h
  | exc C xs s t => rw [e1] at h; exact h
  | ok r s t =>
    rw [e1] at h
    dsimp only at h
    intro G1 H1 ρ1 v hR1 hv1 hS
    cases r with
    | f b => exact h.elim
    | sl i => exact h.elim
    | d x =>
      cases x with
      | exn a1 dd xs =>
        dsimp only at h
        by_cases c : a1 = a ∧ dd = d0
        · rw [if_pos c] at h
          obtain ⟨rfl, rfl⟩ := c
          cases hv1 with
          | exn k1 k2 =>
            cases k2 with
            | nil => exact h.elim
            | @cons g y u ys us hy ht =>
              cases ht with
              | cons => exact h.elim
              | nil =>
                dsimp only at h
                by_cases cg : g = f
                · rw [if_pos cg] at h
                  subst cg
                  exact ⟨rfl, u, hR1.ex _ _ k1, h G1 H1 ρ1 u hR1 hy hS.end0⟩
                · rw [if_neg cg] at h; exact h.elim
        · rw [if_neg c] at h; exact h.elim
      | _ => exact h.elim
end
end MP

set_option Elab.async false
set_option linter.all false
set_option maxRecDepth 100000
set_option maxHeartbeats 4000000
/-! MP17: own operators, own texts, isinstance. -/
namespace MP
open PySem PySem.Spec PyProof.Rows L2
open Evl (Ex)
section
variable {X : Cx} {CX : CXT} {k : Nat} {f C a b dx dy : Addr} {fs gs : List (Str × V)} {fd : FuncData} {ps : List Str} {sp : Sp} {E : L2.St → XK} {pins : List (Addr × Obj)} {σ : L2.St} {H : Hp} {s : Shared} {Q : VK}
theorem inst_at (I : Inv X pins σ H s) (ea : H a = some (.ins C dx fs)) : ∃ ox od, PySem.W.InstAt s.heap a ox C (some od) := by
  obtain ⟨mA, O, _, _, _, _⟩ := ins_get I.hok ea
  obtain ⟨od, J, _⟩ := O.look
  exact ⟨_, od, J⟩
theorem back_cmp {v : Value} {s' : Shared} (h : EP X pins σ Q v s') : PySem.W.CmpBack (EP X pins σ Q) v s' := by
  obtain ⟨x, H', I', r, q⟩ := id h
  cases x with
  | non => cases (show v = Value.none from r); exact h
  | bl y => cases (show v = Value.bool y from r); exact h
  | int i => obtain ⟨t, rfl⟩ := (show ∃ t, v = Value.int i t from r); exact h
  | str y => obtain ⟨t, rfl⟩ := (show ∃ t, v = Value.str y t from r); exact h
  | byt y => obtain ⟨t, rfl⟩ := (show ∃ t, v = Value.bytes y t from r); exact h
  | flt y => obtain ⟨t, rfl⟩ := (show ∃ t, v = Value.float y t from r); exact h
  | ref y => cases (show v = Value.ref y from r); exact h
  | ty y => cases (show v = Value.type y from r); exact h
/-- a + b and the like, both of one own class -/
theorem ow_bin {op : Operator} (I : Inv X pins σ H s) (ea : H a = some (.ins C dx fs)) (eb : H b = some (.ins C dy gs)) (F : FnOk X.prog X.w X.K X.mg X.base CX k f fd ps sp) (hr : Room k X.A) (hb : Binds X.K fd ps []) (hx : PassesAt CX X σ (E σ))
    (sf : PySem.W.selfFirst X.K C = true) (hs : PySem.W.findIn X.K (.ref C) (PySem.dunder op.info.2) = some (some (.ref f))) (hf : PySem.W.isFn X.K (.ref f) = true) (h : sp [.ref a, .ref b] H Q (E σ)) :
    wpAny (model X.prog X.w) X.A (binaryOp op (.ref a) (.ref b)) (EP X pins σ Q) X.xe s := by
  obtain ⟨m, hF⟩ := I.fr
  obtain ⟨ox, od, J⟩ := inst_at I ea
  obtain ⟨oy, oe, J'⟩ := inst_at I eb
  exact PySem.W.binop_K hF I.ok.mod.kin J J'.type sf hs hf (wpAny_mono (run_fnD (us := [.ref a, .ref b]) (vs := [.ref a, .ref b]) (dvs := []) F hr hb .nil hx I (.cons rfl (.cons rfl .nil)) h) (fun v s' q => back_cmp q) fun _ _ z => z)
/-- the type of a plain value -/
inductive Pty : V → Value → String → Prop
  | int {i : Int} {t : Tok} : Pty (.int i) (.int i t) "int"
theorem Pty.of {y : V} {u : Value} {T : String} {i : Int} (e : y = .int i) (r : RelV y u) : ∃ t, u = .int i t := by
  subst e; exact r
/-- a + n and the like -/
theorem ow_binT {op : Operator} {n : Int} {t : Tok} {fo ro rc : Option Value} (I : Inv X pins σ H s) (ea : H a = some (.ins C dx fs)) (F : FnOk X.prog X.w X.K X.mg X.base CX k f fd ps sp) (hr : Room k X.A) (hb : Binds X.K fd ps []) (hx : PassesAt CX X σ (E σ))
    (sf : PySem.W.selfFirst X.K C = true) (hs : PySem.W.findIn X.K (.ref C) (PySem.dunder op.info.2) = some (some (.ref f))) (hf : PySem.W.isFn X.K (.ref f) = true)
    (h0 : PySem.W.findIn X.K (.ref C) (dunderR op.info.2) = some rc) (hp : rc = none ∨ ∃ g : Addr, rc = some (.ref g)) (h1 : PySem.W.findIn X.K (.type "int") (PySem.dunder op.info.2) = some fo) (h2 : PySem.W.findIn X.K (.type "int") (dunderR op.info.2) = some ro) (hsub : PySem.W.subIn X.K (.type "int") (.ref C) = some false)
    (h : sp [.ref a, .int n] H Q (E σ)) :
    wpAny (model X.prog X.w) X.A (binaryOp op (.ref a) (.int n t)) (EP X pins σ Q) X.xe s := by
  obtain ⟨m, hF⟩ := I.fr
  obtain ⟨ox, od, J⟩ := inst_at I ea
  exact PySem.W.ksp_binT (T := "int") hF I.ok.mod.kin J rfl sf hs hf h0 hp h1 h2 hsub (wpAny_mono (run_fnD (us := [.ref a, .int n t]) (vs := [.ref a, .int n]) (dvs := []) F hr hb .nil hx I (.cons rfl (.cons ⟨t, rfl⟩ .nil)) h) (fun v s' q => back_cmp q) fun _ _ z => z)
/-- -a -/
theorem ow_neg (I : Inv X pins σ H s) (ea : H a = some (.ins C dx fs)) (F : FnOk X.prog X.w X.K X.mg X.base CX k f fd ps sp) (hr : Room k X.A) (hb : Binds X.K fd ps []) (hx : PassesAt CX X σ (E σ))
    (hs : PySem.W.findIn X.K (.ref C) "__neg__" = some (some (.ref f))) (hf : PySem.W.isFn X.K (.ref f) = true) (h : sp [.ref a] H Q (E σ)) :
    wpAny (model X.prog X.w) X.A (unaryOp .USub (.ref a)) (EP X pins σ Q) X.xe s := by
  obtain ⟨m, hF⟩ := I.fr
  obtain ⟨ox, od, J⟩ := inst_at I ea
  exact PySem.W.ksp_neg hF I.ok.mod.kin J hs hf (run_fnD (us := [.ref a]) (vs := [.ref a]) (dvs := []) F hr hb .nil hx I (.cons rfl .nil) h)
/-- a == b -/
theorem ow_eq {tb : Value} {y : V} {u : Value} (I : Inv X pins σ H s) (ea : H a = some (.ins C dx fs)) (ry : RelV y u) (hty : PySem.W.Looks (model X.prog X.w) s.heap (typeOf u) tb) (hn : PySem.W.notFirst X.K C tb = true) (F : FnOk X.prog X.w X.K X.mg X.base CX k f fd ps sp) (hr : Room k X.A) (hb : Binds X.K fd ps []) (hx : PassesAt CX X σ (E σ))
    (hs : PySem.W.findIn X.K (.ref C) "__eq__" = some (some (.ref f))) (hf : PySem.W.isFn X.K (.ref f) = true) (h : sp [.ref a, y] H Q (E σ)) :
    wpAny (model X.prog X.w) X.A (compareOp .Eq (.ref a) u) (EP X pins σ Q) X.xe s := by
  obtain ⟨m, hF⟩ := I.fr
  obtain ⟨ox, od, J⟩ := inst_at I ea
  exact PySem.W.cmp_K (op := .Eq) hr.units0 hF I.ok.mod.kin J hty hn hs hf (wpAny_mono (run_fnD (us := [.ref a, u]) (vs := [.ref a, y]) (dvs := []) F hr hb .nil hx I (.cons rfl (.cons ry .nil)) h) (fun v s' q => back_cmp q) fun _ _ z => z)
end
section
open PySem.W
variable {prog : Program} {w : World} {A : Around} {E : Value → Shared → Prop} {s : Shared} {K : Frag} {x C f : Addr} {ox : Obj} {od : Option Obj} {b tb : Value}
theorem ne_call {Q : Value → Shared → Prop} (hu : A.in1.units < cLine) (X : K.In s.heap) (I : InstAt s.heap x ox C od) (hs : findIn K (.ref C) "__eq__" = some (some (.ref f))) (hf : isFn K (.ref f) = true) (hob : mroIn K C (.type "object") = some true)
    (h : wpAny (model prog w) A.in1 (call (.ref f) [.ref x, b]) (fun v s' => ∃ k, v = .bool k ∧ Q (.bool (!k)) s') E s) : wpAny (model prog w) A (call (.builtin "object.__ne__") [.ref x, b]) Q E s := by
  refine wpAny_call (codeAny_call_builtin PySem.F.cmp_object.ne.plain PySem.F.cmpEntry_ne (check_slot PySem.F.cmpKind_ne PySem.F.cmpSplit_ne (I.type.andThen (looks_mroIn X hob)) (PySem.F.cmpArgs_ne _ _) ?_))
  unfold Builtin.«object.__ne__»
  repeat (first
    | with_reducible refine wpAny_cRoomFor hu ?_
    | (refine wpAny_bind (m := callSpecialIfBound? (.ref x) (Str.ofString "__eq__") [b]) (ifBound_K X I hs hf (wpAny_mono h (fun r s' hr => by
          obtain ⟨k, rfl, hq⟩ := hr
          repeat (first | exact hq | exact wpAny_pure hq | exact wpAny_truthy_bool hq | (refine wpAny_bind (m := truthy (.bool _)) (wpAny_truthy_bool ?_)) | wp_step)) fun _ _ e => e)))
    | wp_step)
theorem ne_K {Q : Value → Shared → Prop} (hu0 : A.units < cLine) (hu : A.in1.units < cLine) (X : K.In s.heap) (I : InstAt s.heap x ox C od) (hb : Looks (model prog w) s.heap (typeOf b) tb) (hn : notFirst K C tb = true) (hne : findIn K (.ref C) "__ne__" = some (some (.builtin "object.__ne__"))) (hs : findIn K (.ref C) "__eq__" = some (some (.ref f))) (hf : isFn K (.ref f) = true) (hob : mroIn K C (.type "object") = some true)
    (h : wpAny (model prog w) A.in1 (call (.ref f) [.ref x, b]) (fun v s' => ∃ k, v = .bool k ∧ Q (.bool (!k)) s') E s) : wpAny (model prog w) A (richCompare .NotEq (.ref x) b) Q E s := by
  have fin : wpAny (model prog w) A (call (.builtin "object.__ne__") ([.ref x] ++ [b])) (fun v s' => ∃ k, v = .bool k ∧ Q v s') E s := ne_call hu X I hs hf hob (wpAny_mono h (fun v s' hv => by obtain ⟨k, rfl, q⟩ := hv; exact ⟨k, rfl, _, rfl, q⟩) fun _ _ e => e)
  have one : wpAny (model prog w) A (tryCompare (.ref x) "__ne__" b) (fun r s' => ∃ v, r = some v ∧ Q v s') E s := by
    unfold tryCompare
    refine wpAny_bind (wpAny_mono (Q := fun r s' => ∃ k, r = some (.bool k) ∧ Q (.bool k) s') ?_ (fun r s' hr => ?_) fun _ _ e => e)
    · simp only [callSpecialIfBound?, bindSpecialIfBound?]
      refine wpAny_holding (wpAny_bind (wpAny_bind (wpAny_bind (I.type.here ((looks_findIn X hne).here ?_)))))
      have fin2 : wpAny (model prog w) A (call (.builtin "object.__ne__") ([.ref x] ++ [b]) >>= fun v => pure (some v)) (fun r s' => ∃ k, r = some (.bool k) ∧ Q (.bool k) s') E s := wpAny_bind (wpAny_mono fin (fun v s' h' => by obtain ⟨k, rfl, q⟩ := h'; exact wpAny_pure ⟨k, rfl, q⟩) fun _ _ h' => h')
      refine wpAny_bind (wpAny_askSetting (wpAny_ite ?_))
      split
      · exact wpAny_bind (wpAny_of_eq (PySem.F.cmp_object.ne.bind _) (wpAny_pure (by exact fin2)))
      · exact wpAny_tryCatch (wpAny_bind (wpAny_of_eq (PySem.F.cmp_object.ne.bind _) (wpAny_pure (by exact fin2))))
    · obtain ⟨k, rfl, q⟩ := hr
      exact wpAny_pure ⟨_, rfl, q⟩
  unfold richCompare
  simp only [oneThing_ref]
  refine wpAny_holding (wpAny_bind (wpAny_cRoomFor hu0 ?_))
  rw [cmpInfo_NotEq]
  dsimp only
  refine wpAny_bind (I.type.here (wpAny_bind (hb.here ?_)))
  split
  · rename_i q
    have e : subIn K tb (.ref C) = some false := by
      rcases Bool.or_eq_true_iff.mp hn with e | e
      · rw [beq_iff_eq.mp e] at q; simp at q
      · exact beq_iff_eq.mp e
    refine wpAny_bind ((looks_subIn X e).here ?_)
    simp only [Bool.false_eq_true, if_false]
    refine wpAny_bind (wpAny_mono one (fun r s' z => ?_) fun _ _ e => e)
    obtain ⟨v, rfl, hq⟩ := z
    exact wpAny_pure hq
  · refine wpAny_bind (wpAny_pure ?_)
    simp only [Bool.false_eq_true, if_false]
    refine wpAny_bind (wpAny_mono one (fun r s' z => ?_) fun _ _ e => e)
    obtain ⟨v, rfl, hq⟩ := z
    exact wpAny_pure hq
end
end MP

set_option Elab.async false
set_option linter.all false
set_option maxRecDepth 100000
set_option maxHeartbeats 4000000
/-! MP18: own operators, texts: the walks joined with the machine. -/
namespace MP
open PySem PySem.Spec PyProof.Rows L2
open Evl (Ex)
section
variable {X : Cx} {CX : CXT} {k : Nat} {f C a b dx dy : Addr} {fs gs : List (Str × V)} {fd : FuncData} {ps : List Str} {sp : Sp} {E : L2.St → XK} {pins : List (Addr × Obj)} {σ : L2.St} {H : Hp} {s : Shared} {Q : VK}
/-- a call one deeper, that raises nothing -/
theorem run_in1 {us : List Value} {vs : List V} {E' : Value → Shared → Prop} {E0 : XK} (F : FnOk X.prog X.w X.K X.mg X.base CX k f fd ps sp) (hr : Room (k + 1) X.A) (hb : Binds X.K fd ps []) (hx : Passes CX X.nox E0)
    (I : Inv X pins σ H s) (r : Vals vs us) (h : sp vs H Q E0) : wpAny (model X.prog X.w) X.A.in1 (call (.ref f) us) (EP X pins σ Q) E' s := by
  have hl : us.length = ps.length := by rw [← r.length]; exact F.len _ _ _ _ h
  have b := hb s us I.kIn (by rw [List.append_nil]; exact hl)
  rw [List.append_nil] at b
  refine wpAny_call (codeAny_mono (F.run X.A.in1 X.stack s H ⟨us, []⟩ us vs Q E0 hr.in1 I.env0.in1 b r h) fun r s' hq => ?_)
  cases r with
  | error er => exact False.elim (hx pins σ H s er s' (I.wish _) hq)
  | ok fl =>
    cases fl with
    | ret u => exact I.after hq
    | next => exact False.elim hq
    | brk => exact False.elim hq
    | cont => exact False.elim hq
theorem run_in2 {us : List Value} {vs : List V} {E' : Value → Shared → Prop} {E0 : XK} (F : FnOk X.prog X.w X.K X.mg X.base CX k f fd ps sp) (hr : Room (k + 2) X.A) (hb : Binds X.K fd ps []) (hx : Passes CX X.nox E0)
    (I : Inv X pins σ H s) (r : Vals vs us) (h : sp vs H Q E0) : wpAny (model X.prog X.w) X.A.in1.in1 (call (.ref f) us) (EP X pins σ Q) E' s := by
  have hl : us.length = ps.length := by rw [← r.length]; exact F.len _ _ _ _ h
  have b := hb s us I.kIn (by rw [List.append_nil]; exact hl)
  rw [List.append_nil] at b
  refine wpAny_call (codeAny_mono (F.run X.A.in1.in1 X.stack s H ⟨us, []⟩ us vs Q E0 hr.in1.in1 I.env0.in1.in1 b r h) fun r s' hq => ?_)
  cases r with
  | error er => exact False.elim (hx pins σ H s er s' (I.wish _) hq)
  | ok fl =>
    cases fl with
    | ret u => exact I.after hq
    | next => exact False.elim hq
    | brk => exact False.elim hq
    | cont => exact False.elim hq
def NoX (X : Cx) : Prop := Passes (L2.CX X.prog X.w) X.nox (fun _ _ _ => False)
/-- a != b -/
theorem ow_ne {tb : Value} {y : V} {u : Value} {E0 : XK} (I : Inv X pins σ H s) (ea : H a = some (.ins C dx fs)) (ry : RelV y u) (hty : PySem.W.Looks (model X.prog X.w) s.heap (typeOf u) tb) (hn : PySem.W.notFirst X.K C tb = true) (F : FnOk X.prog X.w X.K X.mg X.base CX k f fd ps sp) (hr : Room (k + 1) X.A) (hb : Binds X.K fd ps []) (hx : Passes CX X.nox E0)
    (hne : PySem.W.findIn X.K (.ref C) "__ne__" = some (some (.builtin "object.__ne__"))) (hs : PySem.W.findIn X.K (.ref C) "__eq__" = some (some (.ref f))) (hf : PySem.W.isFn X.K (.ref f) = true) (hob : PySem.W.mroIn X.K C (.type "object") = some true)
    (h : sp [.ref a, y] H (fun v H' => ∃ c, v = .bl c ∧ Q (.bl (!c)) H') E0) :
    wpAny (model X.prog X.w) X.A (compareOp .NotEq (.ref a) u) (EP X pins σ Q) X.xe s := by
  obtain ⟨ox, od, J⟩ := inst_at I ea
  unfold compareOp
  refine ne_K hr.units0 (by have := hr.un; show X.A.units + 1 < cLine; omega) I.kIn J hty hn hne hs hf hob (wpAny_mono (run_in1 (us := [.ref a, u]) (vs := [.ref a, y]) F hr hb hx I (.cons rfl (.cons ry .nil)) h) (fun v s' q => ?_) fun _ _ z => z)
  obtain ⟨x, H', I', r, c, rfl, q⟩ := q
  cases (show v = Value.bool c from r)
  exact ⟨c, rfl, .bl (!c), H', I', rfl, q⟩
/-- str(a) -/
theorem ow_str {E0 : XK} (I : Inv X pins σ H s) (ea : H a = some (.ins C dx fs)) (F : FnOk X.prog X.w X.K X.mg X.base CX k f fd ps sp) (hr : Room (k + 2) X.A) (hb : Binds X.K fd ps []) (hx : Passes CX X.nox E0)
    (hs : PySem.W.findIn X.K (.ref C) "__str__" = some (some (.ref f))) (hf : PySem.W.isFn X.K (.ref f) = true)
    (h : sp [.ref a] H (fun v H' => ∃ c, v = .str c ∧ Q (.str c) H') E0) :
    wpAny (model X.prog X.w) X.A (call (.type "str") [.ref a]) (EP X pins σ Q) X.xe s := by
  obtain ⟨ox, od, J⟩ := inst_at I ea
  refine PySem.W.kso_call (by have := hr.un; show X.A.units + 1 + 1 < cLine; omega) I.kIn J hs hf (wpAny_mono (run_in2 (us := [.ref a]) (vs := [.ref a]) F hr hb hx I (.cons rfl .nil) h) (fun v s' q => ?_) fun _ _ z => z)
  obtain ⟨x, H', I', r, c, rfl, q⟩ := q
  obtain ⟨t, rfl⟩ := (show ∃ t, v = Value.str c t from r)
  exact ⟨.str c, H', I', ⟨t, rfl⟩, q⟩
/-- repr(a) -/
theorem ow_repr {E0 : XK} (I : Inv X pins σ H s) (ea : H a = some (.ins C dx fs)) (F : FnOk X.prog X.w X.K X.mg X.base CX k f fd ps sp) (hr : Room (k + 1) X.A) (hb : Binds X.K fd ps []) (hx : Passes CX X.nox E0)
    (hs : PySem.W.findIn X.K (.ref C) "__repr__" = some (some (.ref f))) (hf : PySem.W.isFn X.K (.ref f) = true)
    (h : sp [.ref a] H (fun v H' => ∃ c, v = .str c ∧ Q (.str c) H') E0) :
    wpAny (model X.prog X.w) X.A (call (.builtin "repr") [.ref a]) (EP X pins σ Q) X.xe s := by
  obtain ⟨m, hF⟩ := I.fr
  obtain ⟨ox, od, J⟩ := inst_at I ea
  refine PySem.W.repr_K (by have := hr.un; show X.A.units + 1 < cLine; omega) hF I.ok.mod.kin J hs hf (wpAny_mono (run_in1 (us := [.ref a]) (vs := [.ref a]) F hr hb hx I (.cons rfl .nil) h) (fun v s' q => ?_) fun _ _ z => z)
  obtain ⟨x, H', I', r, c, rfl, q⟩ := q
  obtain ⟨t, rfl⟩ := (show ∃ t, v = Value.str c t from r)
  exact ⟨.str c, H', I', ⟨t, rfl⟩, q⟩
end
section
open PySem.W
variable {prog : Program} {w : World} {M : Model} {A : Around} {E : Value → Shared → Prop} {s : Shared} {K : Frag} {x C f g : Addr} {ox : Obj} {od : Option Obj}
theorem add_declines {n : Int} {t : Tok} {Q : Value → Shared → Prop} (I : InstAt s.heap x ox C od) (hpl : ox.data = .plain) (hq : Q .notImplemented s) : wpAny (model prog w) A (call (.builtin "int.__add__") [.int n t, .ref x]) Q E s := by
  refine wpAny_call_entry PySem.F.slot_int_add (typeIs_int s n t) PySem.F.entry_int_add ?_ (PySem.F.args_int_add_2 _ _)
  have hx := I.at_
  obtain ⟨hp, gg, d, tk, os⟩ := s
  obtain ⟨oc, odd, oda, osl⟩ := ox
  dsimp only at hpl
  subst hpl
  wp_walk using wpAny_loadPart' hx
  exact ⟨_, rfl, hq⟩
theorem radd_K {n : Int} {t : Tok} {Q : Value → Shared → Prop} (X : K.In s.heap) (I : InstAt s.heap x ox C od) (hpl : ox.data = .plain) (hc : selfFirst K C = true) (ha : findIn K (.ref C) (PySem.dunder "add") = some (some (.ref g))) (hs : findIn K (.ref C) (dunderR "add") = some (some (.ref f))) (hf : isFn K (.ref f) = true) (hsub : subIn K (.ref C) (.type "int") = some false)
    (h : wpAny (model prog w) A (call (.ref f) [.ref x, .int n t]) (PySem.W.CmpBack Q) E s) : wpAny (model prog w) A (binaryOp .Add (.int n t) (.ref x)) Q E s := by
  obtain ⟨cd, rest, hcd, hm⟩ := ksp_first hc
  have one := ksp_try (name := dunderR "add") X I hs hf h
  have dec : ∀ {Q : Option Value → Shared → Prop}, Q none s → wpAny (model prog w) A (tryMethod (.int n t) (PySem.dunder "add") (.ref x)) Q E s := fun {Q} q => @PySem.wpAny_tryMethod_declines (model prog w) A E s (.int n t) (.ref x) "int" (PySem.dunder "add") "int.__add__" Q (typeIs_int s n t) PySem.F.slot_int_add (add_declines I hpl ⟨rfl, q⟩)
  have hi : Operator.Add.info = ("+", "add") := rfl
  simp only [binaryOp, hi]
  refine wpAny_holding (wpAny_bind ?_)
  have hne : (Value.type "int" == Value.ref C) = false := Bool.eq_false_iff.mpr fun q => by cases beq_iff_eq.mp q
  have hpy : numberSlotInPython (.type "int") "add" = pure false := rfl
  have hfill := fills_K (M := model prog w) (nm := "add") X hcd hm ha
  simp only [binaryOp1]
  refine wpAny_bind (wpAny_typeOf (typeIs_int s n t) (wpAny_bind (I.type.here (wpAny_bind (wpAny_of_eq PySem.F.fills_int_add ?_)))))
  simp only [hne, Bool.false_eq_true, if_false]
  refine wpAny_bind (hfill.here ?_)
  simp only [Bool.and_self, if_true]
  refine wpAny_bind ((looks_subIn X hsub).here ?_)
  simp only [Bool.false_eq_true, if_false, pure_bind, Bool.not_false, Bool.and_self, if_true, hpy]
  refine wpAny_bind (wpAny_mono (dec (Q := fun r s' => r = none ∧ s' = s) ⟨rfl, rfl⟩) (fun r s' hr => ?_) fun _ _ e => e)
  obtain ⟨rfl, rfl⟩ := hr
  dsimp only
  refine wpAny_bind (wpAny_mono one (fun r s' hr => ?_) fun _ _ e => e)
  obtain ⟨v, rfl, hq⟩ := hr
  exact wpAny_bind (wpAny_rule (wpAny_pure (wpAny_pure hq)))
end
section
variable {X : Cx} {CX : CXT} {k : Nat} {f C a b dx dy g : Addr} {fs gs : List (Str × V)} {fd : FuncData} {ps : List Str} {sp : Sp} {E : L2.St → XK} {pins : List (Addr × Obj)} {σ : L2.St} {H : Hp} {s : Shared} {Q : VK}
/-- n + a -/
theorem ow_radd {n : Int} {t : Tok} (I : Inv X pins σ H s) (ea : H a = some (.ins C dx fs)) (F : FnOk X.prog X.w X.K X.mg X.base CX k f fd ps sp) (hr : Room k X.A) (hb : Binds X.K fd ps []) (hx : PassesAt CX X σ (E σ))
    (sf : PySem.W.selfFirst X.K C = true) (ha : PySem.W.findIn X.K (.ref C) (PySem.dunder "add") = some (some (.ref g))) (hs : PySem.W.findIn X.K (.ref C) (dunderR "add") = some (some (.ref f))) (hf : PySem.W.isFn X.K (.ref f) = true) (hsub : PySem.W.subIn X.K (.ref C) (.type "int") = some false)
    (h : sp [.ref a, .int n] H Q (E σ)) :
    wpAny (model X.prog X.w) X.A (binaryOp .Add (.int n t) (.ref a)) (EP X pins σ Q) X.xe s := by
  obtain ⟨mA, O, _, _, _, _⟩ := ins_get I.hok ea
  obtain ⟨od, J, _⟩ := O.look
  exact radd_K I.kIn J rfl sf ha hs hf hsub (wpAny_mono (run_fnD (us := [.ref a, .int n t]) (vs := [.ref a, .int n]) (dvs := []) F hr hb .nil hx I (.cons rfl (.cons ⟨t, rfl⟩ .nil)) h) (fun v s' q => back_cmp q) fun _ _ z => z)
end
end MP

set_option Elab.async false
set_option linter.all false
set_option maxRecDepth 100000
set_option maxHeartbeats 4000000
/-! MP19: own operators as the machine's. -/
namespace MP
open PySem PySem.Spec PyProof.Rows L2
open Evl (Ex)
abbrev R2S := L2.St → V → V → Hp → VK → Prop
section
variable {X : Cx} {a b : Expr} {ta tb : TE} {pos : Pos}
def OpRS (X : Cx) (f : Value → Value → Sem Value) (r : R2S) : Prop :=
  ∀ (pins : List (Addr × Obj)) (s : Shared) (σ : L2.St) (H : Hp) (x y : V) (v u : Value) (Q : VK), Inv X pins σ H s → RelV x v → RelV y u → r σ x y H Q → wpAny (model X.prog X.w) X.A (f v u) (EP X pins σ Q) X.xe s
theorem OpRS.or {f : Value → Value → Sem Value} {r r' : R2S} (h : OpRS X f r) (h' : OpRS X f r') : OpRS X f (fun σ x y H Q => r σ x y H Q ∨ r' σ x y H Q) := by
  intro pins s σ H x y v u Q I rx ry q
  rcases q with q | q
  · exact h pins s σ H x y v u Q I rx ry q
  · exact h' pins s σ H x y v u Q I rx ry q
theorem OpRS.of {f : Value → Value → Sem Value} {r : R2} (h : OpR X f r) : OpRS X f (fun _ => r) := fun pins s σ H x y v u Q I rx ry q => h pins s σ H x y v u Q I rx ry q
theorem pe_opS {op : Operator} {r : R2S} (ho : OpRS X (binaryOp op) r) (ha : PE X a ta) (hb : PE X b tb) : PE X (.BinOp a op b pos) (fun σ H Q => ta σ H fun x H1 => tb σ H1 fun y H2 => r σ x y H2 Q) :=
  ⟨fun pins s σ H Q I h => wpAny_BinOp (binT (R := fun x y H2 => r σ x y H2 Q) ha hb I h fun v u s2 x y H2 I2 rx ry q => ho pins s2 σ H2 x y v u Q I2 rx ry q)⟩
theorem pe_cmpS {op : CmpOp} {r : R2S} (ho : OpRS X (compareOp op) r) (ha : PE X a ta) (hb : PE X b tb) (hm : behindInMarks op b = false) : PE X (.Compare a [op] [b] pos) (fun σ H Q => ta σ H fun x H1 => tb σ H1 fun y H2 => r σ x y H2 Q) :=
  ⟨fun pins s σ H Q I h => wpAny_Compare1 (binT (R := fun x y H2 => r σ x y H2 Q) ha hb I h fun v u s2 x y H2 I2 rx ry q => ho pins s2 σ H2 x y v u Q I2 rx ry q) hm⟩
theorem pt_cmpS {op : CmpOp} {r : R2S} (ho : OpRS X (compareOp op) r) (ha : PE X a ta) (hb : PE X b tb) (hm : behindInMarks op b = false) : PT X (.Compare a [op] [b] pos) (fun σ H Q => ta σ H fun x H1 => tb σ H1 fun y H2 => r σ x y H2 fun z H' => ∃ k, z = .bl k ∧ Q k H') := by
  refine ⟨fun pins s σ H Q I h => ?_⟩
  refine wpAny_isTrue_Compare1 (thn (ha.run pins s σ H _ I h) fun v s1 ⟨x, H1, I1, r1, q1⟩ => thn (hb.run pins s1 σ H1 _ I1 q1) fun u s2 ⟨y, H2, I2, r2, q2⟩ =>
    thn (ho pins s2 σ H2 x y v u _ I2 r1 r2 q2) fun z s3 ⟨w, H3, I3, r3, k, e, q⟩ => ?_) hm
  subst e
  cases (show z = Value.bool k from r3)
  exact wpAny_truthy_bool ⟨H3, I3, q⟩
end
/-- where the shown values are as asked -/
def OpOkC (K : PySem.W.Frag) (cn : String → Addr) (W : WX) (c : List D → Bool) (r : L2.St → List V → Hp → VK → Prop) (f : List RV → Mn RV) : Prop := ∀ (Z : Zt) (rs : List RV) (vs : List V) (xs : List D) (Q : VK), R K cn Z → RepRVs K cn Z rs vs → views Z.sl Z.st rs = some xs → c xs = true → PostE K cn W Z (rvsA rs vs) (f rs Z.sl Z.st) Q → r Z.σ vs Z.H Q
def mAlt (c : List D → Bool) (f g : List RV → Mn RV) : List RV → Mn RV := fun rs sl st => match views sl st rs with
  | some xs => if c xs = true then f rs sl st else g rs sl st
  | none => .no
def r2S (r : R2S) : L2.St → List V → Hp → VK → Prop := fun σ vs H Q => ∃ x y, vs = [x, y] ∧ r σ x y H Q
section
variable {K : PySem.W.Frag} {cn : String → Addr} {W : WX} {X : Cx} {Z : Zt} {A : Addr → Prop}
theorem alt_ok {c : List D → Bool} {f g : List RV → Mn RV} {r r' : R2S} (hf : OpOkC K cn W c (r2S r) f) (hg : OpOkS K cn W (r2S r') g) : OpOkS K cn W (r2S fun σ x y H Q => r σ x y H Q ∨ r' σ x y H Q) (mAlt c f g) := by
  intro Z rs vs Q hR hv hq
  unfold mAlt at hq
  cases e : views Z.sl Z.st rs with
  | none => rw [e] at hq; exact hq.elim
  | some xs =>
    rw [e] at hq
    dsimp only at hq
    by_cases hc : c xs = true
    · rw [if_pos hc] at hq
      obtain ⟨x, y, e1, h⟩ := hf Z rs vs xs Q hR hv e hc hq
      exact ⟨x, y, e1, .inl h⟩
    · rw [if_neg hc] at hq
      obtain ⟨x, y, e1, h⟩ := hg Z rs vs Q hR hv hq
      exact ⟨x, y, e1, .inr h⟩
theorem OpOk.S {r : R2} {g : List RV → Mn RV} (h : OpOk K cn W (r2l r) g) : OpOkS K cn W (r2S fun _ => r) g := fun Z rs vs Q hR hv hq => h Z rs vs Q hR hv hq
theorem tm_twoS {r : R2S} {f : List RV → Mn RV} {ma mb : Mn RV} (hf : OpOkS K cn W (r2S r) f) : ∀ σ H Q, TM K cn W (mOp f (mCons ma (mCons mb mNil))) σ H Q → TM K cn W ma σ H fun x H1 => TM K cn W mb σ H1 fun y H2 => r σ x y H2 Q := fun σ H Q h => tm_two σ H (tm_opS hf σ H Q h)
theorem me_binS {op : Operator} {r : R2S} {a b : Expr} {pos : Pos} {f : List RV → Mn RV} {ma mb : Mn RV} (ho : OpRS X (binaryOp op) r) (hf : OpOkS K cn W (r2S r) f) (ha : PE X a (TM K cn W ma)) (hb : PE X b (TM K cn W mb)) :
    PE X (.BinOp a op b pos) (TM K cn W (mOp f (mCons ma (mCons mb mNil)))) := PE.imp (pe_opS ho ha hb) (tm_twoS hf)
theorem me_cmpS {op : CmpOp} {r : R2S} {a b : Expr} {pos : Pos} {f : List RV → Mn RV} {ma mb : Mn RV} (ho : OpRS X (compareOp op) r) (hf : OpOkS K cn W (r2S r) f) (ha : PE X a (TM K cn W ma)) (hb : PE X b (TM K cn W mb)) (hm : behindInMarks op b = false) :
    PE X (.Compare a [op] [b] pos) (TM K cn W (mOp f (mCons ma (mCons mb mNil)))) := PE.imp (pe_cmpS ho ha hb hm) (tm_twoS hf)
theorem mt_cmpS {op : CmpOp} {r : R2S} {a b : Expr} {pos : Pos} {f : List RV → Mn RV} {ma mb : Mn RV} (ho : OpRS X (compareOp op) r) (hf : OpOkS K cn W (r2S r) f) (ha : PE X a (TM K cn W ma)) (hb : PE X b (TM K cn W mb)) (hm : behindInMarks op b = false) :
    PT X (.Compare a [op] [b] pos) (TMt K cn W (mTB (mOp f (mCons ma (mCons mb mNil))))) := PT.imp (pt_cmpS ho ha hb hm) fun σ H Q q => tm_twoS hf σ H _ (tb_of σ H Q q)
/-! the conditions -/
def cOO (C : String) : List D → Bool
  | [.obj a _, .obj b _] => decide (a = C) && decide (b = C)
  | _ => false
def cOI (C : String) : List D → Bool
  | [.obj a _, .int _] => decide (a = C)
  | _ => false
def cIO (C : String) : List D → Bool
  | [.int _, .obj b _] => decide (b = C)
  | _ => false
def cOS (C : String) : List D → Bool
  | [.obj a _, .str _] => decide (a = C)
  | _ => false
def rOO (K : PySem.W.Frag) (cn : String → Addr) (W : WX) (C : String) (φ : Fn) : R2S := fun σ x y H Q => (∃ a dx fs, x = .ref a ∧ H a = some (.ins (cn C) dx fs)) ∧ (∃ a dx fs, y = .ref a ∧ H a = some (.ins (cn C) dx fs)) ∧ spM K cn φ 2 [x, y] H Q (WE W σ)
def rOI (K : PySem.W.Frag) (cn : String → Addr) (W : WX) (C : String) (φ : Fn) : R2S := fun σ x y H Q => (∃ a dx fs, x = .ref a ∧ H a = some (.ins (cn C) dx fs)) ∧ (∃ n, y = .int n) ∧ spM K cn φ 2 [x, y] H Q (WE W σ)
def rIO (K : PySem.W.Frag) (cn : String → Addr) (W : WX) (C : String) (φ : Fn) : R2S := fun σ x y H Q => (∃ a dx fs, y = .ref a ∧ H a = some (.ins (cn C) dx fs)) ∧ (∃ n, x = .int n) ∧ spM K cn φ 2 [y, x] H Q (WE W σ)
def rOS (K : PySem.W.Frag) (cn : String → Addr) (W : WX) (C : String) (φ : Fn) : R2S := fun σ x y H Q => (∃ a dx fs, x = .ref a ∧ H a = some (.ins (cn C) dx fs)) ∧ (∃ n, y = .str n) ∧ spM K cn φ 2 [x, y] H Q (WE W σ)
theorem views_two {sl : Sls} {st : Sto} {rs : List RV} {x y : D} (h : views sl st rs = some [x, y]) : ∃ r q, rs = [r, q] := by
  cases rs with
  | nil => cases h
  | cons r rs =>
    cases rs with
    | nil =>
      unfold views at h
      cases e : view sl st r with
      | none => rw [e] at h; cases h
      | some x => rw [e] at h; cases h
    | cons q rs =>
      cases rs with
      | nil => exact ⟨r, q, rfl⟩
      | cons p rs =>
        exfalso
        unfold views at h
        cases e : view sl st r with
        | none => rw [e] at h; cases h
        | some x =>
          rw [e] at h
          unfold views at h
          cases e2 : view sl st q with
          | none => rw [e2] at h; cases h
          | some y =>
            rw [e2] at h
            unfold views at h
            cases e3 : view sl st p with
            | none => rw [e3] at h; cases h
            | some z =>
              rw [e3] at h
              cases e4 : views sl st rs with
              | none => rw [e4] at h; cases h
              | some l => rw [e4] at h; cases h
theorem call2 {φ : Fn} {vs : List V} {σ : L2.St} {H : Hp} {Q : VK} {x y : V} (h : spM K cn φ 2 ([x, y] ++ []) H Q (fun cls d H => W cls d σ H)) : spM K cn φ 2 [x, y] H Q (WE W σ) := h
theorem oo_ok {C : String} {φ : Fn} : OpOkC K cn W (cOO C) (r2S (rOO K cn W C φ)) (callD φ 2 []) := by
  intro Z rs vs xs Q hR hv hx hc hq
  have h := callD_ok (φ := φ) (n := 2) cld_nil Z rs vs Q hR hv hq
  have hh := views_ok hR hv hx
  unfold cOO at hc
  split at hc
  · rename_i a fs b gs
    rw [Bool.and_eq_true] at hc
    obtain ⟨v, w, rfl, ⟨p, dx, us, rfl, h1, _⟩, ⟨p2, dx2, us2, rfl, h2, _⟩⟩ := hh.two
    rw [of_decide_eq_true hc.1] at h1
    rw [of_decide_eq_true hc.2] at h2
    exact ⟨_, _, rfl, ⟨p, dx, us, rfl, h1⟩, ⟨p2, dx2, us2, rfl, h2⟩, h⟩
  · cases hc
theorem oi_ok {C : String} {φ : Fn} : OpOkC K cn W (cOI C) (r2S (rOI K cn W C φ)) (callD φ 2 []) := by
  intro Z rs vs xs Q hR hv hx hc hq
  have h := callD_ok (φ := φ) (n := 2) cld_nil Z rs vs Q hR hv hq
  have hh := views_ok hR hv hx
  unfold cOI at hc
  split at hc
  · obtain ⟨v, w, rfl, ⟨p, dx, us, rfl, h1, _⟩, h2⟩ := hh.two
    cases h2.int
    rw [of_decide_eq_true hc] at h1
    exact ⟨_, _, rfl, ⟨p, dx, us, rfl, h1⟩, ⟨_, rfl⟩, h⟩
  · cases hc
theorem os_ok {C : String} {φ : Fn} : OpOkC K cn W (cOS C) (r2S (rOS K cn W C φ)) (callD φ 2 []) := by
  intro Z rs vs xs Q hR hv hx hc hq
  have h := callD_ok (φ := φ) (n := 2) cld_nil Z rs vs Q hR hv hq
  have hh := views_ok hR hv hx
  unfold cOS at hc
  split at hc
  · obtain ⟨v, w, rfl, ⟨p, dx, us, rfl, h1, _⟩, h2⟩ := hh.two
    cases h2.str
    rw [of_decide_eq_true hc] at h1
    exact ⟨_, _, rfl, ⟨p, dx, us, rfl, h1⟩, ⟨_, rfl⟩, h⟩
  · cases hc
def swap2 : List RV → List RV
  | [a, b] => [b, a]
  | rs => rs
theorem io_ok {C : String} {φ : Fn} : OpOkC K cn W (cIO C) (r2S (rIO K cn W C φ)) (fun rs => callD φ 2 [] (swap2 rs)) := by
  intro Z rs vs xs Q hR hv hx hc hq
  have hh := views_ok hR hv hx
  unfold cIO at hc
  split at hc
  · obtain ⟨v, w, rfl, h2, ⟨p, dx, us, rfl, h1, _⟩⟩ := hh.two
    cases h2.int
    rw [of_decide_eq_true hc] at h1
    cases hv with
    | @cons r _ rs' _ hr ht hd =>
      cases ht with
      | @cons q _ rs'' _ hq' ht' hd' =>
        cases ht'
        have hv' : RepRVs K cn Z [q, r] [.ref p, .int _] := .cons hq' (.cons hr .nil fun _ _ z => z) fun a z1 z2 => hd a ((show rvA r (.int _) a ∨ False from z2).resolve_right id) (.inl z1)
        have h := callD_ok (φ := φ) (n := 2) (W := W) cld_nil Z [q, r] [.ref p, .int _] Q hR hv' (PostE.trans (Step.refl.drop fun a z => z.elim (fun z => .inr (.inl z)) fun z => z.elim .inl False.elim) rfl hq)
        exact ⟨_, _, rfl, ⟨p, dx, us, rfl, h1⟩, ⟨_, rfl⟩, h⟩
  · cases hc
end
end MP

set_option Elab.async false
set_option linter.all false
set_option maxRecDepth 100000
set_option maxHeartbeats 4000000
/-! MP20: own operators, texts and kinds by their defs. -/
namespace MP
open PySem PySem.Spec PyProof.Rows L2
open Evl (Ex)
theorem noX {X : Cx} : Passes (L2.CX X.prog X.w) X.nox (fun _ _ _ => False) := fun pins σ H s e s' I c => passAt (X := X.nox) (W := fun _ _ _ _ => False) takes0 σ pins H s e s' I c
def strEx : CRes → CRes
  | .ok (.d (.str c)) st => .ok (.d (.str c)) st
  | _ => .no
def negEx : CRes → CRes
  | .ok (.d (.bl c)) st => .ok (.d (.bl (!c))) st
  | _ => .no
section
variable {K : PySem.W.Frag} {cn : String → Addr} {W : WX} {X : Cx} {Z : Zt} {A : Addr → Prop}
theorem sp_str {φ : Fn} {n : Nat} {vs : List V} {H : Hp} {Q : VK} {E E' : XK} (h : spM K cn (fun ds st => strEx (φ ds st)) n vs H Q E) : spM K cn φ n vs H (fun v H' => ∃ c, v = .str c ∧ Q (.str c) H') E' := by
  obtain ⟨hl, G, ρ, st, dl, k1, k2, k3⟩ := h
  refine ⟨hl, G, ρ, st, dl, k1, k2, ?_⟩
  dsimp only at k3
  cases e : φ dl st with
  | no => rw [e] at k3; exact k3
  | exc C xs st' => rw [e] at k3; exact k3.elim
  | ok r st' =>
    rw [e] at k3
    cases r with
    | f b => exact k3.elim
    | sl i => exact k3.elim
    | d x =>
      cases x with
      | str c =>
        intro G1 H1 ρ1 v hR hv hS
        cases (show Rep K cn G1 ρ1 (.str c) v from hv)
        exact ⟨c, rfl, k3 G1 H1 ρ1 _ hR hv hS⟩
      | _ => exact k3.elim
theorem sp_neg {φ : Fn} {n : Nat} {vs : List V} {H : Hp} {Q : VK} {E E' : XK} (h : spM K cn (fun ds st => negEx (φ ds st)) n vs H Q E) : spM K cn φ n vs H (fun v H' => ∃ c, v = .bl c ∧ Q (.bl (!c)) H') E' := by
  obtain ⟨hl, G, ρ, st, dl, k1, k2, k3⟩ := h
  refine ⟨hl, G, ρ, st, dl, k1, k2, ?_⟩
  dsimp only at k3
  cases e : φ dl st with
  | no => rw [e] at k3; exact k3
  | exc C xs st' => rw [e] at k3; exact k3.elim
  | ok r st' =>
    rw [e] at k3
    cases r with
    | f b => exact k3.elim
    | sl i => exact k3.elim
    | d x =>
      cases x with
      | bl c =>
        intro G1 H1 ρ1 v hR hv hS
        cases (show Rep K cn G1 ρ1 (.bl c) v from hv)
        exact ⟨c, rfl, k3 G1 H1 ρ1 _ hR .bl (hS.drop fun _ z => z)⟩
      | _ => exact k3.elim
variable {k : Nat} {f g : Addr} {fd : FuncData} {ps : List Str} {φ : Fn} {C : String}
theorem ops_oo {op : Operator} (F : FnOk X.prog X.w X.K X.mg X.base (L2.CX X.prog X.w) k f fd ps (spM X.K cn φ 2)) (tk : Takes X W) (hr : Room k X.A) (hb : Binds X.K fd ps []) (sf : PySem.W.selfFirst X.K (cn C) = true) (hs : PySem.W.findIn X.K (.ref (cn C)) (PySem.dunder op.info.2) = some (some (.ref f))) (hf : PySem.W.isFn X.K (.ref f) = true) : OpRS X (binaryOp op) (rOO X.K cn W C φ) := by
  intro pins s σ H x y v u Q I rx ry h
  obtain ⟨⟨a, dx, fs, rfl, ea⟩, ⟨b, dy, gs, rfl, eb⟩, h⟩ := h
  cases rx
  cases ry
  exact ow_bin (E := WE W) I ea eb F hr hb (passAt tk σ) sf hs hf h
theorem ops_oi {op : Operator} {fo ro rc : Option Value} (F : FnOk X.prog X.w X.K X.mg X.base (L2.CX X.prog X.w) k f fd ps (spM X.K cn φ 2)) (tk : Takes X W) (hr : Room k X.A) (hb : Binds X.K fd ps []) (sf : PySem.W.selfFirst X.K (cn C) = true) (hs : PySem.W.findIn X.K (.ref (cn C)) (PySem.dunder op.info.2) = some (some (.ref f))) (hf : PySem.W.isFn X.K (.ref f) = true)
    (h0 : PySem.W.findIn X.K (.ref (cn C)) (dunderR op.info.2) = some rc) (hp : rc = none ∨ ∃ g : Addr, rc = some (.ref g)) (h1 : PySem.W.findIn X.K (.type "int") (PySem.dunder op.info.2) = some fo) (h2 : PySem.W.findIn X.K (.type "int") (dunderR op.info.2) = some ro) (hsub : PySem.W.subIn X.K (.type "int") (.ref (cn C)) = some false) : OpRS X (binaryOp op) (rOI X.K cn W C φ) := by
  intro pins s σ H x y v u Q I rx ry h
  obtain ⟨⟨a, dx, fs, rfl, ea⟩, ⟨n, rfl⟩, h⟩ := h
  cases rx
  obtain ⟨t, rfl⟩ := ry
  exact ow_binT (E := WE W) I ea F hr hb (passAt tk σ) sf hs hf h0 hp h1 h2 hsub h
theorem ops_io (F : FnOk X.prog X.w X.K X.mg X.base (L2.CX X.prog X.w) k f fd ps (spM X.K cn φ 2)) (tk : Takes X W) (hr : Room k X.A) (hb : Binds X.K fd ps []) (sf : PySem.W.selfFirst X.K (cn C) = true) (ha : PySem.W.findIn X.K (.ref (cn C)) (PySem.dunder "add") = some (some (.ref g))) (hs : PySem.W.findIn X.K (.ref (cn C)) (dunderR "add") = some (some (.ref f))) (hf : PySem.W.isFn X.K (.ref f) = true) (hsub : PySem.W.subIn X.K (.ref (cn C)) (.type "int") = some false) : OpRS X (binaryOp .Add) (rIO X.K cn W C φ) := by
  intro pins s σ H x y v u Q I rx ry h
  obtain ⟨⟨a, dx, fs, rfl, ea⟩, ⟨n, rfl⟩, h⟩ := h
  cases ry
  obtain ⟨t, rfl⟩ := rx
  exact ow_radd (E := WE W) I ea F hr hb (passAt tk σ) sf ha hs hf hsub h
theorem eqs_oo (F : FnOk X.prog X.w X.K X.mg X.base (L2.CX X.prog X.w) k f fd ps (spM X.K cn φ 2)) (tk : Takes X W) (hr : Room k X.A) (hb : Binds X.K fd ps []) (hs : PySem.W.findIn X.K (.ref (cn C)) "__eq__" = some (some (.ref f))) (hf : PySem.W.isFn X.K (.ref f) = true) : OpRS X (compareOp .Eq) (rOO X.K cn W C φ) := by
  intro pins s σ H x y v u Q I rx ry h
  obtain ⟨⟨a, dx, fs, rfl, ea⟩, ⟨b, dy, gs, rfl, eb⟩, h⟩ := h
  cases rx
  cases ry
  obtain ⟨oy, oe, J'⟩ := inst_at I eb
  exact ow_eq (E := WE W) (tb := .ref (cn C)) (y := .ref b) I ea rfl J'.type (by simp [PySem.W.notFirst]) F hr hb (passAt tk σ) hs hf h
theorem eqs_oi (F : FnOk X.prog X.w X.K X.mg X.base (L2.CX X.prog X.w) k f fd ps (spM X.K cn φ 2)) (tk : Takes X W) (hr : Room k X.A) (hb : Binds X.K fd ps []) (hs : PySem.W.findIn X.K (.ref (cn C)) "__eq__" = some (some (.ref f))) (hf : PySem.W.isFn X.K (.ref f) = true) (hn : PySem.W.notFirst X.K (cn C) (.type "int") = true) : OpRS X (compareOp .Eq) (rOI X.K cn W C φ) := by
  intro pins s σ H x y v u Q I rx ry h
  obtain ⟨⟨a, dx, fs, rfl, ea⟩, ⟨n, rfl⟩, h⟩ := h
  cases rx
  obtain ⟨t, rfl⟩ := ry
  exact ow_eq (E := WE W) (tb := .type "int") (y := .int n) I ea ⟨t, rfl⟩ (.of_pure rfl) hn F hr hb (passAt tk σ) hs hf h
theorem nes_oo (F : FnOk X.prog X.w X.K X.mg X.base (L2.CX X.prog X.w) k f fd ps (spM X.K cn φ 2)) (hr : Room (k + 1) X.A) (hb : Binds X.K fd ps []) (hne : PySem.W.findIn X.K (.ref (cn C)) "__ne__" = some (some (.builtin "object.__ne__"))) (hs : PySem.W.findIn X.K (.ref (cn C)) "__eq__" = some (some (.ref f))) (hf : PySem.W.isFn X.K (.ref f) = true) (hob : PySem.W.mroIn X.K (cn C) (.type "object") = some true) : OpRS X (compareOp .NotEq) (rOO X.K cn W C (fun ds st => negEx (φ ds st))) := by
  intro pins s σ H x y v u Q I rx ry h
  obtain ⟨⟨a, dx, fs, rfl, ea⟩, ⟨b, dy, gs, rfl, eb⟩, h⟩ := h
  cases rx
  cases ry
  obtain ⟨oy, oe, J'⟩ := inst_at I eb
  exact ow_ne (tb := .ref (cn C)) (y := .ref b) I ea rfl J'.type (by simp [PySem.W.notFirst]) F hr hb noX hne hs hf hob (sp_neg h)
theorem nes_os (F : FnOk X.prog X.w X.K X.mg X.base (L2.CX X.prog X.w) k f fd ps (spM X.K cn φ 2)) (hr : Room (k + 1) X.A) (hb : Binds X.K fd ps []) (hne : PySem.W.findIn X.K (.ref (cn C)) "__ne__" = some (some (.builtin "object.__ne__"))) (hs : PySem.W.findIn X.K (.ref (cn C)) "__eq__" = some (some (.ref f))) (hf : PySem.W.isFn X.K (.ref f) = true) (hob : PySem.W.mroIn X.K (cn C) (.type "object") = some true) (hn : PySem.W.notFirst X.K (cn C) (.type "str") = true) : OpRS X (compareOp .NotEq) (rOS X.K cn W C (fun ds st => negEx (φ ds st))) := by
  intro pins s σ H x y v u Q I rx ry h
  obtain ⟨⟨a, dx, fs, rfl, ea⟩, ⟨n, rfl⟩, h⟩ := h
  cases rx
  obtain ⟨t, rfl⟩ := ry
  exact ow_ne (tb := .type "str") (y := .str n) I ea ⟨t, rfl⟩ (.of_pure rfl) hn F hr hb noX hne hs hf hob (sp_neg h)
/-- str(a), repr(a) -/
def gObj (C : String) : List D → Bool
  | [.obj a _] => decide (a = C)
  | _ => false
def mGuard (c : List D → Bool) (f : List RV → Mn RV) : List RV → Mn RV := fun rs sl st => match views sl st rs with
  | some xs => if c xs = true then f rs sl st else .no
  | none => .no
def rOStr (K : PySem.W.Frag) (cn : String → Addr) (C : String) (φ : Fn) : List V → Hp → VK → Prop := fun vs H Q => ∃ a dx fs, vs = [.ref a] ∧ H a = some (.ins (cn C) dx fs) ∧ spM K cn φ 1 [.ref a] H (fun v H' => ∃ c, v = .str c ∧ Q (.str c) H') (fun _ _ _ => False)
theorem ostr_ok : OpOk K cn W (rOStr K cn C φ) (mGuard (gObj C) (callF (fun ds st => strEx (φ ds st)) 1)) := by
  intro Z rs vs Q hR hv hq
  unfold mGuard at hq
  cases e : views Z.sl Z.st rs with
  | none => rw [e] at hq; exact hq.elim
  | some xs =>
    rw [e] at hq
    dsimp only at hq
    by_cases c : gObj C xs = true
    · rw [if_pos c] at hq
      have h := callF_ok (W := W) Z rs vs Q hR hv hq
      have hh := views_ok hR hv e
      unfold gObj at c
      split at c
      · obtain ⟨v, rfl, ⟨p, dx, us, rfl, h1, _⟩⟩ := hh.one
        rw [of_decide_eq_true c] at h1
        exact ⟨p, dx, us, rfl, h1, sp_str h⟩
      · cases c
    · rw [if_neg c] at hq; exact hq.elim
theorem cr_ostr (F : FnOk X.prog X.w X.K X.mg X.base (L2.CX X.prog X.w) k f fd ps (spM X.K cn φ 1)) (hr : Room (k + 2) X.A) (hb : Binds X.K fd ps []) (hs : PySem.W.findIn X.K (.ref (cn C)) "__str__" = some (some (.ref f))) (hf : PySem.W.isFn X.K (.ref f) = true) : CallR X (.type "str") (rOStr X.K cn C φ) := by
  intro pins s σ H xs us Q I r h
  obtain ⟨a, dx, fs, rfl, ea, h⟩ := h
  obtain ⟨u, rfl, ru⟩ := r.one
  obtain rfl : u = Value.ref a := ru
  exact ow_str I ea F hr hb noX hs hf h
theorem cr_orepr (F : FnOk X.prog X.w X.K X.mg X.base (L2.CX X.prog X.w) k f fd ps (spM X.K cn φ 1)) (hr : Room (k + 1) X.A) (hb : Binds X.K fd ps []) (hs : PySem.W.findIn X.K (.ref (cn C)) "__repr__" = some (some (.ref f))) (hf : PySem.W.isFn X.K (.ref f) = true) : CallR X (.builtin "repr") (rOStr X.K cn C φ) := by
  intro pins s σ H xs us Q I r h
  obtain ⟨a, dx, fs, rfl, ea, h⟩ := h
  obtain ⟨u, rfl, ru⟩ := r.one
  obtain rfl : u = Value.ref a := ru
  exact ow_repr I ea F hr hb noX hs hf h
/-- -a -/
def rONeg (K : PySem.W.Frag) (cn : String → Addr) (W : WX) (C : String) (φ : Fn) : L2.St → List V → Hp → VK → Prop := fun σ vs H Q => ∃ x, vs = [x] ∧ (∃ a dx fs, x = .ref a ∧ H a = some (.ins (cn C) dx fs)) ∧ spM K cn φ 1 [x] H Q (WE W σ)
theorem oneg_ok : OpOkS K cn W (rONeg K cn W C φ) (mGuard (gObj C) (callF φ 1)) := by
  intro Z rs vs Q hR hv hq
  unfold mGuard at hq
  cases e : views Z.sl Z.st rs with
  | none => rw [e] at hq; exact hq.elim
  | some xs =>
    rw [e] at hq
    dsimp only at hq
    by_cases c : gObj C xs = true
    · rw [if_pos c] at hq
      have h := callF_ok (W := W) Z rs vs Q hR hv hq
      have hh := views_ok hR hv e
      unfold gObj at c
      split at c
      · obtain ⟨v, rfl, ⟨p, dx, us, rfl, h1, _⟩⟩ := hh.one
        rw [of_decide_eq_true c] at h1
        exact ⟨_, rfl, ⟨p, dx, us, rfl, h1⟩, h⟩
      · cases c
    · rw [if_neg c] at hq; exact hq.elim
theorem me_oneg {a : Expr} {pos : Pos} {ma : Mn RV} (F : FnOk X.prog X.w X.K X.mg X.base (L2.CX X.prog X.w) k f fd ps (spM X.K cn φ 1)) (tk : Takes X W) (hr : Room k X.A) (hb : Binds X.K fd ps []) (hs : PySem.W.findIn X.K (.ref (cn C)) "__neg__" = some (some (.ref f))) (hf : PySem.W.isFn X.K (.ref f) = true) (ha : PE X a (TM X.K cn W ma)) :
    PE X (.UnaryOp .USub a pos) (TM X.K cn W (mOp (mGuard (gObj C) (callF φ 1)) (mCons ma mNil))) := by
  refine ⟨fun pins s σ H Q I h => ?_⟩
  have h1 := tm_one (P := fun x H1 => (∃ a dx fs, x = .ref a ∧ H1 a = some (.ins (cn C) dx fs)) ∧ spM X.K cn φ 1 [x] H1 Q (WE W σ)) σ H (tm_opS oneg_ok σ H Q h)
  refine wpAny_UnaryOp (thn (ha.run pins s σ H _ I h1) fun v s1 ⟨x, H1, I1, r1, ⟨a, dx, fs, e, ea⟩, q1⟩ => ?_)
  subst e
  obtain rfl : v = Value.ref a := r1
  exact ow_neg (E := WE W) I1 ea F hr hb (passAt tk σ) hs hf q1
end
end MP

set_option Elab.async false
set_option linter.all false
set_option maxRecDepth 100000
set_option maxHeartbeats 4000000
/-! MP21: isinstance, comprehensions as expressions, range(a, b), enumerate. -/
namespace MP
open PySem PySem.Spec PyProof.Rows L2
open Evl (Ex)
def tyK : D → Option String
  | .non => some "NoneType"
  | .bl _ => some "bool"
  | .int _ => some "int"
  | .str _ => some "str"
  | .lst _ => some "list"
  | .tup _ => some "tuple"
  | .dct _ => some "dict"
  | .obj C _ => some C
  | _ => none
def clK : D → Option String
  | .ty n => some n
  | .gl n => some n
  | _ => none
def gIsi (isa : String → String → Option Bool) : List D → PR
  | [x, c] => match tyK x, clK c with
    | some a, some b => match isa a b with
      | some r => .d (.bl r)
      | none => .no
    | _, _ => .no
  | _ => .no
section
variable (K : PySem.W.Frag) (cn : String → Addr)
structure InsTy (C : Addr) : Prop where
  cl : Cls K C
  ha : PySem.W.findIn K (.ref C) "__class__" = some (some (.builtin "object.__class__"))
  hn : PySem.W.specialIn K (.builtin "object.__class__") "__get__" = some (some (.builtin "getset_descriptor.__get__"))
  htk : PySem.W.takesIn K (.builtin "object.__class__") = some true
  hm : PySem.W.mroIn K C (.type "object") = some true
/-- Cs: the own classes; the table tells true -/
structure IsaOk (Cs : List String) (isa : String → String → Option Bool) : Prop where
  ins : ∀ C ∈ Cs, InsTy K (cn C)
  bb : ∀ a b r, a ∉ Cs → b ∉ Cs → isa a b = some r → PySem.W.kitOne K (.type a) (.type b) = some r
  bo : ∀ a b r, a ∉ Cs → b ∈ Cs → isa a b = some r → PySem.W.kitOne K (.type a) (.ref (cn b)) = some r
  ob : ∀ a b r, a ∈ Cs → b ∉ Cs → isa a b = some r → PySem.W.kitOne K (.ref (cn a)) (.type b) = some r
  oo : ∀ a b r, a ∈ Cs → b ∈ Cs → isa a b = some r → PySem.W.kitOne K (.ref (cn a)) (.ref (cn b)) = some r
  nm : ∀ n ∈ ["NoneType", "bool", "int", "str", "list", "tuple", "dict"], n ∉ Cs
end
def gIsiC (Cs : List String) (isa : String → String → Option Bool) : List D → PR
  | [x, c] => match x, c with
    | .obj C _, .ty n => if C ∈ Cs ∧ n ∉ Cs then gIsi isa [x, c] else .no
    | .obj C _, .gl n => if C ∈ Cs ∧ n ∈ Cs then gIsi isa [x, c] else .no
    | _, .ty n => if n ∉ Cs then gIsi isa [x, c] else .no
    | _, .gl n => if n ∈ Cs then gIsi isa [x, c] else .no
    | _, _ => .no
  | _ => .no
section
variable {K : PySem.W.Frag} {cn : String → Addr} {W : WX} {X : Cx} {Z : Zt} {A : Addr → Prop}
theorem SqL.tyX {H : Hp} {a : Addr} {xs : List V} (h : SqL K H a xs) : TyX K H (.ref a) (.type "list") := by
  rcases h with (h | ⟨o, h⟩) | ⟨o, its, n, h1, h2, _⟩
  · exact .base (.lst h)
  · exact .base (.frz h)
  · exact .kList h1 h2
theorem SqT.tyX {H : Hp} {a : Addr} {xs : List V} (h : SqT K H a xs) : TyX K H (.ref a) (.type "tuple") := by
  rcases h with (h | ⟨o, h⟩) | ⟨o, its, n, h1, h2, _⟩
  · exact .base (.tup h)
  · exact .fTuple h
  · exact .kTuple h1 h2
theorem RepH.tyB {Cs : List String} {isa : String → String → Option Bool} (hI : IsaOk K cn Cs isa) (hR : R K cn Z) {x : D} {v : V} {a : String} (h : RepH K cn Z x v) (e : tyK x = some a) (hn : ∀ C fs, x ≠ .obj C fs) : a ∉ Cs ∧ TyX K Z.H v (.type a) := by
  cases x with
  | non => cases e; cases h.non; exact ⟨hI.nm _ (by simp), .base .non⟩
  | bl b => cases e; cases h.bl; exact ⟨hI.nm _ (by simp), .base (.bl b)⟩
  | int b => cases e; cases h.int; exact ⟨hI.nm _ (by simp), .base (.int b)⟩
  | str b => cases e; cases h.str; exact ⟨hI.nm _ (by simp), .base (.str b)⟩
  | lst xs =>
    cases e
    obtain ⟨a, us, rfl, q, _⟩ := h
    exact ⟨hI.nm _ (by simp), SqL.tyX q⟩
  | tup xs =>
    cases e
    obtain ⟨a, us, rfl, q, _, _⟩ := h.tup hR
    exact ⟨hI.nm _ (by simp), SqT.tyX q⟩
  | dct xs =>
    cases e
    obtain ⟨a, us, rfl, q, _⟩ := h
    exact ⟨hI.nm _ (by simp), .base (.dK q)⟩
  | obj C fs => exact (hn C fs rfl).elim
  | _ => cases e
theorem RepH.gl {n : String} {v : V} (h : RepH K cn Z (.gl n) v) : v = .ref (cn n) := by
  have h : Rep K cn Z.G Z.ρ (.gl n) v := h
  cases h; rfl
theorem RepH.tyv {n : String} {v : V} (h : RepH K cn Z (.ty n) v) : v = .ty n := by
  have h : Rep K cn Z.G Z.ρ (.ty n) v := h
  cases h; rfl
theorem ok_isi {Cs : List String} {isa : String → String → Option Bool} (hI : IsaOk K cn Cs isa) : POk K cn (rIsi K) (gIsiC Cs isa) := by
  intro Z xs vs Q hR hv hq
  unfold gIsiC at hq
  split at hq
  · rename_i x c
    obtain ⟨v, w, rfl, h1, h2⟩ := hv.two
    split at hq
    · rename_i C fs n
      split at hq
      · rename_i hc
        obtain ⟨a, dx, us, rfl, e1, e2⟩ := h1
        cases h2.tyv
        unfold gIsi tyK clK at hq
        dsimp only at hq
        split at hq
        · rename_i r er
          obtain ⟨i1, i2, i3, i4, i5⟩ := hI.ins C hc.1
          exact ⟨_, _, _, _, r, rfl, .ty _, .base (.ins e1 i1 i2 i3 i4 i5), hI.ob _ _ _ hc.1 hc.2 er, hq _ .bl⟩
        · exact hq.elim
      · exact hq.elim
    · rename_i C fs n
      split at hq
      · rename_i hc
        obtain ⟨a, dx, us, rfl, e1, e2⟩ := h1
        cases h2.gl
        unfold gIsi tyK clK at hq
        dsimp only at hq
        split at hq
        · rename_i r er
          obtain ⟨i1, i2, i3, i4, i5⟩ := hI.ins C hc.1
          exact ⟨_, _, _, _, r, rfl, .own _, .base (.ins e1 i1 i2 i3 i4 i5), hI.oo _ _ _ hc.1 hc.2 er, hq _ .bl⟩
        · exact hq.elim
      · exact hq.elim
    · rename_i n hx
      split at hq
      · rename_i hc
        cases h2.tyv
        unfold gIsi at hq
        dsimp only [clK] at hq
        cases ea : tyK x with
        | none => rw [ea] at hq; exact hq.elim
        | some a =>
          rw [ea] at hq
          dsimp only at hq
          cases er : isa a n with
          | none => rw [er] at hq; exact hq.elim
          | some r =>
            rw [er] at hq
            obtain ⟨k1, k2⟩ := RepH.tyB hI hR h1 ea (fun C fs z => hx C fs z)
            exact ⟨_, _, _, _, r, rfl, .ty _, k2, hI.bb _ _ _ k1 hc er, hq _ .bl⟩
      · exact hq.elim
    · rename_i n hx
      split at hq
      · rename_i hc
        cases h2.gl
        unfold gIsi at hq
        dsimp only [clK] at hq
        cases ea : tyK x with
        | none => rw [ea] at hq; exact hq.elim
        | some a =>
          rw [ea] at hq
          dsimp only at hq
          cases er : isa a n with
          | none => rw [er] at hq; exact hq.elim
          | some r =>
            rw [er] at hq
            obtain ⟨k1, k2⟩ := RepH.tyB hI hR h1 ea (fun C fs z => hx C fs z)
            exact ⟨_, _, _, _, r, rfl, .own _, k2, hI.bo _ _ _ k1 hc er, hq _ .bl⟩
      · exact hq.elim
    · exact hq.elim
  · exact hq.elim
theorem me_ty {n : String} {x : Str} {pos : Pos} (hg : Gl X x) (hm : X.mg x = none) (hv : bootBuiltins x = some (.type n)) (hn : x ≠ "__name__" := by decide) (hd : (x == ("__debug__" : Str)) = false := by decide) : PE X (.Name x pos) (TM K cn W (mC (.ty n))) :=
  PE.imp (pe_bltn hg hm hv (v := .ty n) rfl hn hd) (tm_c fun _ _ => .ty)
theorem me_gl {n : String} {x : Str} {pos : Pos} (hg : Gl X x) (hm : X.mg x = some (.ref (cn n))) (hd : (x == ("__debug__" : Str)) = false := by decide) : PE X (.Name x pos) (TM K cn W (mC (.gl n))) :=
  PE.imp (pe_glob hg hm (v := .ref (cn n)) rfl hd) (tm_c fun _ _ => .gl)
/-! ### comprehensions -/
theorem me_comp {elt tg iter : Expr} {ifs : List Expr} {scope : Scope} {own : List (Str × Nat)} {pos : Pos} {g : TG} {mi : Mn (List MP.D × Hd)} {t : Tgt} {tt : Mn Bool} {te : Mn RV} (hc : X.calm = true) (hN : X.N.Nodup) (hi : PI X tg iter (TMi K cn W mi)) (ok : BlkOk X.N X.env.scope scope own)
    (hg : ∀ (s : Shared) (H : Hp) (C : Addr) (cl : List (Str × Addr)) (fp : List Addr), PG (X.blk s H scope (compEnvC scope cl C X.env) fp) tg g) (ht : ∀ (s : Shared) (H : Hp) (C : Addr) (cl : List (Str × Addr)) (fp : List Addr), PTs (X.blk s H scope (compEnvC scope cl C X.env) fp) ifs (TMt K cn WF tt))
    (he : ∀ (s : Shared) (H : Hp) (C : Addr) (cl : List (Str × Addr)) (fp : List Addr), PE (X.blk s H scope (compEnvC scope cl C X.env) fp) elt (TM K cn WF te)) (hk : GOk K cn WF g t) (hin : GIn (own.map (·.2)) g) (hs : ∀ x, foldedSetIterable iter X.env x = pure x := by intro _; rfl) :
    PE X (.ListComp elt [⟨tg, iter, ifs, 0⟩] scope pos) (TM K cn W (mComp (own.map (·.2)) mi t tt te)) := PE.imp (pe_lc hc hN hi ok hg ht he hs) (tm_comp hk hin)
theorem mp_yes : PTs X [] (TMt K cn W (unit true)) := ⟨fun pins s σ H Q I q => pts_nil.run pins s σ H Q I (by
  obtain ⟨G, ρ, sl, st, hR, h⟩ := q
  exact h G H ρ hR Step.refl.end0)⟩
theorem mp_one {c : Expr} {t : Mn Bool} (h : PT X c (TMt K cn W t)) : PTs X [c] (TMt K cn W t) := pts_one h
/-- name = [..], the name a local, on one line -/
theorem ms_setLc {i : Nat} {y : Str} {py : Pos} {elt tg iter : Expr} {ifs : List Expr} {scope : Scope} {own : List (Str × Nat)} {pos spos : Pos} {g : TG} {mi : Mn (List MP.D × Hd)} {t : Tgt} {tt : Mn Bool} {te : Mn RV} (hc : X.calm = true) (hN : X.N.Nodup) (hy : X.N[i]? = some y) (hyl : X.env.scope.names.lookup y = some .local)
    (hsw : swapsWith (.ListComp elt [⟨tg, iter, ifs, 0⟩] scope pos) (some (.Name y py)) spos.line X.env = pure true) (hi : PI X tg iter (TMi K cn W mi)) (ok : BlkOk X.N X.env.scope scope own)
    (hg : ∀ (s : Shared) (H : Hp) (C : Addr) (cl : List (Str × Addr)) (fp : List Addr), PG (X.blk s H scope (compEnvC scope cl C X.env) fp) tg g) (ht : ∀ (s : Shared) (H : Hp) (C : Addr) (cl : List (Str × Addr)) (fp : List Addr), PTs (X.blk s H scope (compEnvC scope cl C X.env) fp) ifs (TMt K cn WF tt))
    (he : ∀ (s : Shared) (H : Hp) (C : Addr) (cl : List (Str × Addr)) (fp : List Addr), PE (X.blk s H scope (compEnvC scope cl C X.env) fp) elt (TM K cn WF te)) (hk : GOk K cn WF g t) (hin : GIn (own.map (·.2)) g) (hs : ∀ x, foldedSetIterable iter X.env x = pure x := by intro _; rfl) :
    PS X (.Assign [.Name y py] (.ListComp elt [⟨tg, iter, ifs, 0⟩] scope pos) spos) (TMs K cn W (mSet i (mComp (own.map (·.2)) mi t tt te))) :=
  PS.imp (ps_setLc hc hN hy hyl hsw hi ok hg ht he hs) fun D σ H q => tm_comp hk hin σ H _ (tm_s (P := fun v σ H => D.nx (σ.set i (some v)) H) q fun G H ρ sl st r v hR hv h => assign_ok (Z := ⟨G, H, ρ, σ, sl, st⟩) hR hv h)
end
end MP

set_option Elab.async false
set_option linter.all false
set_option maxRecDepth 100000
set_option maxHeartbeats 4000000
/-! MP22: odds and ends for the printed walks. -/
namespace MP
open PySem PySem.Spec PyProof.Rows L2
open Evl (Ex)
abbrev gLt : List D → PR := gII fun i j => .d (.bl (decide (i < j)))
abbrev gLe : List D → PR := gII fun i j => .d (.bl (decide (i ≤ j)))
abbrev gGt : List D → PR := gII fun i j => .d (.bl (decide (j < i)))
abbrev gGe : List D → PR := gII fun i j => .d (.bl (decide (j ≤ i)))
abbrev gSub : List D → PR := gII fun i j => .d (.int (i - j))
abbrev gIAdd : List D → PR := gII fun i j => .d (.int (i + j))
abbrev gMul : List D → PR := gII fun i j => if mulOk i j = true then .d (.int (i * j)) else .no
abbrev gDiv : List D → PR := gII fun i j => if divOk j = true then .d (.int (i / j)) else .no
abbrev gMod : List D → PR := gII fun i j => if 0 < j then .d (.int (i % j)) else .no
abbrev gPow : List D → PR := gII fun i j => if (0 ≤ j ∧ j ≤ 1000000 ∧ i.natAbs < 2 ^ 64) then .d (.int (i ^ j.toNat)) else .no
abbrev gNeg : List D → PR := fun xs => match xs with | [.int i] => .d (.int (-i)) | _ => .no
def mNo {α : Type} : Mn α := fun _ _ => .no
theorem hu64 {k : Nat} {A : Around} (r : Room k A) : A.units + 64 < cLine := by have := r.un; omega
section
variable {K : PySem.W.Frag} {cn : String → Addr} {W : WX} {X : Cx} {Z : Zt} {A : Addr → Prop}
theorem ms_never {st : Stmt} : PS X st (TMs K cn W mNo) := ⟨fun pins s σ H D I q => by
  obtain ⟨G, ρ, sl, st', hR, h⟩ := q
  exact h.elim⟩
theorem mss_never {st : List Stmt} : PSs X st (TMs K cn W mNo) := ⟨fun pins s σ H D I q => by
  obtain ⟨G, ρ, sl, st', hR, h⟩ := q
  exact h.elim⟩
theorem guard_ok {c : List D → Bool} {f : List RV → Mn RV} {r : R2S} (hf : OpOkC K cn W c (r2S r) f) : OpOkS K cn W (r2S r) (mGuard c f) := by
  intro Z rs vs Q hR hv hq
  unfold mGuard at hq
  cases e : views Z.sl Z.st rs with
  | none => rw [e] at hq; exact hq.elim
  | some xs =>
    rw [e] at hq
    dsimp only at hq
    by_cases hc : c xs = true
    · rw [if_pos hc] at hq
      exact hf Z rs vs xs Q hR hv e hc hq
    · rw [if_neg hc] at hq; exact hq.elim
theorem mi_range2 {tg a b : Expr} {ma mb : Mn RV} {p pos : Pos} (hg : Gl X "range") (hm : X.mg "range" = none) (ha : PE X a (TM K cn W ma)) (hb : PE X b (TM K cn W mb)) (hs : starEach [a, b] X.env = [(false, eval a X.env), (false, eval b X.env)] := by rfl) (hs2 : starEach [b] X.env = [(false, eval b X.env)] := by rfl) : PI X tg (.Call (.Name "range" p) [a, b] [] pos) (TMi K cn W (mRng (mCons ma (mCons mb mNil)))) :=
  PI.imp (pi_range2 hg hm (ma_cons ha (ma_cons hb ma_nil (by rw [hs2]; rfl)) (by rw [hs, hs2])) hs hs2) fun σ H T q => (show TMa K cn W (mCons ma (mCons mb mNil)) σ H _ from by
    have h := rng_core q
    obtain ⟨G, ρ, sl, st, hR, h⟩ := h
    refine ⟨G, ρ, sl, st, hR, ?_⟩
    have two : ∀ rs s t, mCons ma (mCons mb mNil) sl st = .ok rs s t → ∃ r q, rs = [r, q] := by
      intro rs s t e
      unfold mCons mNil bnd unit at e
      cases e1 : ma sl st with
      | no => rw [e1] at e; cases e
      | exc C xs s t => rw [e1] at e; cases e
      | ok r s1 t1 =>
        rw [e1] at e
        dsimp only at e
        cases e2 : mb s1 t1 with
        | no => rw [e2] at e; cases e
        | exc C xs s t => rw [e2] at e; cases e
        | ok q s2 t2 => rw [e2] at e; cases e; exact ⟨_, _, rfl⟩
    cases e : mCons ma (mCons mb mNil) sl st with
    | no => rw [e] at h; exact h
    | exc C xs s t => rw [e] at h; exact h
    | ok rs s t =>
      rw [e] at h
      obtain ⟨r, q, rfl⟩ := two rs s t e
      intro G1 H1 ρ1 vs hR1 hvs hS
      rcases h G1 H1 ρ1 vs hR1 hvs hS with ⟨j, e, h⟩ | h
      · subst e
        cases hvs with
        | cons _ t _ => cases t
      · exact h)
theorem mt_ifE {c a b : Expr} {pos : Pos} {t m n : Mn Bool} (hc : PT X c (TMt K cn W t)) (ha : PT X a (TMt K cn W m)) (hb : PT X b (TMt K cn W n)) : PT X (.IfExp c a b pos) (TMt K cn W (bnd t fun k => if k = true then m else n)) := by
  refine ⟨fun pins s σ H Q I q => ?_⟩
  have h1 : TMt K cn W t σ H fun k H1 => if k = true then TMt K cn W m σ H1 Q else TMt K cn W n σ H1 Q := by
    refine tm_tt q fun G H ρ sl st k hR h => ?_
    cases k with
    | true => exact iteT ⟨G, ρ, sl, st, hR, h⟩
    | false => exact iteF ⟨G, ρ, sl, st, hR, h⟩
  refine PyProof.Rows.isTrue_IfExp (wpAny_mono (hc.run pins s σ H _ I h1) (fun k s1 hk => ?_) fun _ _ x => x)
  obtain ⟨H1, I1, q1⟩ := hk
  cases k with
  | true => exact ha.run pins s1 σ H1 Q I1 q1
  | false => exact hb.run pins s1 σ H1 Q I1 q1
end
end MP

set_option Elab.async false
set_option linter.all false
set_option maxRecDepth 100000
set_option maxHeartbeats 4000000
/-! MP23: bodies with defaults, the facts that the head tells. -/
namespace MP
open PySem PySem.Spec PyProof.Rows L2
open Evl (Ex)
section
variable {P : Program} {w : World} {K : PySem.W.Frag} {cn : String → Addr} {mg : Str → Option Value} {base : Heap}
theorem fn_bodyD {x qual : Str} {st : Stmt} {f : Addr} {fd : FuncData} {N ps : List Str} {k : Nat} {m : Mn Fl} {dvs : List V} {kws : List (Str × V)} (F : FunD K x qual (defArgs st) (defBody st) (defScope st) dvs kws f fd) (S : FnScope N ps (defScope st))
    (hb : ∀ (cdv : Value) (A : Around) (outer : List Env) (s : Shared) (H : Hp) (E : XK), Good (cxB P w K mg base N qual (defScope st) f cdv A outer s H E) (fun cls d _ H => E cls d H) k →
      PSs (cxB P w K mg base N qual (defScope st) f cdv A outer s H E) (defBody st) (TMs K cn (fun cls d _ H => E cls d H) m)) : FnOk P w K mg base (L2.CX P w) (k + 1) f fd ps (spM K cn (runB m N.length) ps.length) := by
  refine F.ok S (fun vs H Q E h => h.1) (fun cdv A outer s H vs Q E hr h => ?_)
  obtain ⟨hl, G, ρ, st', ds, hR, hv, hp⟩ := h
  exact ⟨_, hb cdv A outer s H E ⟨takes_of rfl rfl rfl rfl, rfl, passes_of rfl, hr, S.nd⟩, postS_of hR hv hp⟩
theorem init_bodyD {x qual : Str} {st : Stmt} {f : Addr} {fd : FuncData} {N ps : List Str} {k : Nat} {m : Mn Fl} {C : String} {dvs : List V} {kws : List (Str × V)} (F : FunD K x qual (defArgs st) (defBody st) (defScope st) dvs kws f fd) (S : FnScope N ps (defScope st))
    (hb : ∀ (cdv : Value) (A : Around) (outer : List Env) (s : Shared) (H : Hp) (E : XK), Good (cxB P w K mg base N qual (defScope st) f cdv A outer s H E) (fun cls d _ H => E cls d H) k →
      PSs (cxB P w K mg base N qual (defScope st) f cdv A outer s H E) (defBody st) (TMs K cn (fun cls d _ H => E cls d H) m)) : FnOk P w K mg base (L2.CX P w) (k + 1) f fd ps (spI K cn C (runI C m N.length) ps.length) := by
  refine F.ok S (fun vs H Q E h => ?_) (fun cdv A outer s H vs Q E hr h => ?_)
  · obtain ⟨p, us, dx, _, hl, _⟩ := h
    exact hl
  · obtain ⟨p, us, dx, rfl, hl, hp, G, ρ, st', ds, hR, hg, hρ, hv, hq⟩ := h
    exact ⟨_, hb cdv A outer s H E ⟨takes_of rfl rfl rfl rfl, rfl, passes_of rfl, hr, S.nd⟩, postI_of hR hv hp hg hρ hq⟩
end
/-! ### the law's own promise -/
def okLaw (φ : Fn) : Prop := ∀ ns : List Int, ns.length ≤ 63 → ∃ st, φ [.lst (ns.map MP.D.int)] [] = .ok (.d (.bl true)) st
theorem law_sp {K : PySem.W.Frag} {cn : String → Addr} {φ : Fn} (h : okLaw φ) {H : Hp} {a : Addr} {ns : List Int} (hl : ns.length ≤ 63) (hS : SqL K H a (ns.map V.int)) : spM K cn φ 1 [.ref a] H (fun v _ => v = .bl true) fun _ _ _ => False := by
  have hR : R K cn ⟨H, H, [], [], [], []⟩ := ⟨fun _ _ e => e, rfl, fun i c a h => by simp at h, by simp, rfl, fun i s h => by simp at h, fun i j s t b c a _ h => by simp at h⟩
  have hv : Reps K cn H [] (ns.map MP.D.int) (ns.map V.int) := by
    clear hS hl
    induction ns with
    | nil => exact .nil
    | cons n ns ih => exact .cons .int ih
  refine ⟨rfl, H, [], [], [.lst (ns.map MP.D.int)], hR, .cons (.lst hS hv) .nil, ?_⟩
  obtain ⟨st, e⟩ := h ns hl
  rw [e]
  intro G H1 ρ v hR1 hv1 _
  cases (show Rep K cn G ρ (.bl true) v from hv1)
  rfl
/-! ### a hook that tells function objects and answers questions -/
open He
/-- a function with one free name -/
abbrev FnC : Type := Option (Str × Str × Arguments × FuncBody × Scope × Addr × List Str × Value × Value × Addr)
def fnC (K : PySem.W.Frag) (p : Str × Option Str) : FnC := match K.lookup (fAd K p) with
  | some ⟨_, _, .func fd, _⟩ => some (fd.name, fd.qualname, fd.params, fd.body, fd.scope, fd.globals, fd.closure.map (·.1), fd.defaults, fd.kwdefaults, fd.builtins)
  | _ => none
abbrev AlM : Type := Bool × Bool × List FnW × List FnC
def obsM (fa : List Fa) (ck : List (PySem.W.Frag → Bool)) (fn : List He5.DefA) (fc : List ((Str × Option Str) × FnC)) (K : PySem.W.Frag) : AlM :=
  ((fa.all fun f => f.ok K) && fn.all fun d => d.ok K, ck.all fun c => c K, fn.map fun d => He5.fnA K (d.at_ K), fc.map fun d => fnC K d.1)
def valM (fn : List He5.DefA) (fc : List ((Str × Option Str) × FnC)) : AlM := (true, true, fn.map He5.DefA.val, fc.map (·.2))
def SaysM (fa : List Fa) (ck : List (PySem.W.Frag → Bool)) (fn : List He5.DefA) (fc : List ((Str × Option Str) × FnC)) (K : PySem.W.Frag) : Prop := obsM fa ck fn fc K = valM fn fc
def obsMG (n : Nat) (fa : List Fa) (ck : List (PySem.W.Frag → Bool)) (fn : List He5.DefA) (fc : List ((Str × Option Str) × FnC)) (g : Addr → Option Obj) : AlM := obsM fa ck fn fc (frG g (He5.asA g n))
def hookM (n : Nat) (fa : List Fa) (ck : List (PySem.W.Frag → Bool)) (fn : List He5.DefA) (fc : List ((Str × Option Str) × FnC)) : PySem.W.Hook where
  α := AlM
  obs := fun s => obsMG n fa ck fn fc s.heap.get?
  val := fun _ => valM fn fc
  says := fun _ h => ∃ K : PySem.W.Frag, K.In h ∧ SaysM fa ck fn fc K
  of := fun _ _ e => ⟨_, frG_in, e⟩
  keeps := fun _ _ _ ⟨K, hK, c⟩ k => ⟨K, PySem.W.Frag.In.keeps hK k, c⟩
theorem obsMG_eq {n : Nat} {fa : List Fa} {ck : List (PySem.W.Frag → Bool)} {fn : List He5.DefA} {fc : List ((Str × Option Str) × FnC)} {g : Addr → Option Obj} {s : Shared} (h : ∀ a, g a = s.heap.get? a) : obsMG n fa ck fn fc g = (hookM n fa ck fn fc).obs s := by
  have e : g = s.heap.get? := funext h
  rw [e] <;> rfl
section
variable {fa : List Fa} {ck : List (PySem.W.Frag → Bool)} {fn : List He5.DefA} {fc : List ((Str × Option Str) × FnC)} {K : PySem.W.Frag}
theorem SaysM.fact (c : SaysM fa ck fn fc K) (i : Nat) {f : Fa} (h : fa[i]? = some f := by rfl) : f.ok K = true := by
  have c1 := (ba (show ((fa.all fun f => f.ok K) && fn.all fun d => d.ok K) = true from congrArg (fun z : AlM => z.1) c)).1
  exact List.all_eq_true.mp c1 f (List.mem_of_getElem? h)
theorem SaysM.ask (c : SaysM fa ck fn fc K) (i : Nat) {f : PySem.W.Frag → Bool} (h : ck[i]? = some f := by rfl) : f K = true := by
  have c1 : (ck.all fun c => c K) = true := congrArg (fun z : AlM => z.2.1) c
  exact List.all_eq_true.mp c1 f (List.mem_of_getElem? h)
theorem SaysM.def_ (c : SaysM fa ck fn fc K) (i : Nat) {d : He5.DefA} (h : fn[i]? = some d := by rfl) : ∃ fd, FunD K d.name d.qual d.params d.body d.scope (d.dvs K) (d.kws K) (d.at_ K) fd := by
  have c2 := (ba (show ((fa.all fun f => f.ok K) && fn.all fun d => d.ok K) = true from congrArg (fun z : AlM => z.1) c)).2
  have e : fn.map (fun d => He5.fnA K (d.at_ K)) = fn.map He5.DefA.val := congrArg (fun z : AlM => z.2.2.1) c
  have e2 : (fn.map fun d => He5.fnA K (d.at_ K))[i]? = (fn.map He5.DefA.val)[i]? := by rw [e]
  rw [List.getElem?_map, List.getElem?_map, h] at e2
  exact He5.DefA.funD (Option.some.inj e2) (List.all_eq_true.mp c2 d (List.mem_of_getElem? h))
theorem SaysM.clo (c : SaysM fa ck fn fc K) (i : Nat) {d : (Str × Option Str) × FnC} (h : fc[i]? = some d := by rfl) : fnC K d.1 = d.2 := by
  have e : fc.map (fun d => fnC K d.1) = fc.map (·.2) := congrArg (fun z : AlM => z.2.2.2) c
  have e2 : (fc.map fun d => fnC K d.1)[i]? = (fc.map (·.2))[i]? := by rw [e]
  rw [List.getElem?_map, List.getElem?_map, h] at e2
  exact Option.some.inj e2
end
/-! ### addresses by names -/
def cnK (K : PySem.W.Frag) : String → Addr := fun n => ga K n
/-- a property's getter -/
def pgA (K : PySem.W.Frag) (C : Addr) (f : Str) : Addr := match PySem.W.recIn K (ma K C f) "property" with
  | some (.ref g :: _) => g
  | _ => 0
def eqB (a b : Option Bool) : Bool := decide (a = b)
theorem eqB_ok {a b : Option Bool} (h : eqB a b = true) : a = b := of_decide_eq_true h
def propB (K : PySem.W.Frag) (C : Addr) (f : Str) : Bool := eqO (PySem.W.findIn K (.ref C) f) (some (some (.ref (ma K C f)))) && (eqO (PySem.W.specialIn K (.ref (ma K C f)) "__get__") (some (some (.builtin "property.__get__"))) && (eqB (PySem.W.takesIn K (.ref (ma K C f))) (some true) && match PySem.W.recIn K (ma K C f) "property" with
  | some (.ref g :: _) => true
  | _ => false))
theorem prop_of {K : PySem.W.Frag} {C : Addr} {f : Str} (h : propB K C f = true) : PropOf K C f (ma K C f) (pgA K C f) := by
  obtain ⟨h1, h2⟩ := ba h
  obtain ⟨h2, h3⟩ := ba h2
  obtain ⟨h3, h4⟩ := ba h3
  refine ⟨eqO_ok h1, eqO_ok h2, eqB_ok h3, ?_⟩
  unfold pgA
  split at h4
  · rename_i g r e
    rw [e]
    exact ⟨r, rfl⟩
  · cases h4
theorem cls_of {K : PySem.W.Frag} {x : Str} (h : (Fa.cls x).ok K = true) : Cls K (ga K x) := by
  obtain ⟨h1, h2⟩ := ba h
  obtain ⟨h2, h3⟩ := ba h2
  obtain ⟨h3, h4⟩ := ba h3
  exact ⟨h1, h2, h3, eqO_ok h4⟩
theorem mk_of {K : PySem.W.Frag} {x : Str} (h : (Fa.mkr x).ok K = true) : Mk K (ga K x) (ma K (ga K x) "__init__") := by
  obtain ⟨h1, h2⟩ := ba h
  obtain ⟨h2, h3⟩ := ba h2
  obtain ⟨h3, h4⟩ := ba h3
  exact ⟨h1, eqO_ok h2, h3, h4⟩
theorem meth_of {K : PySem.W.Frag} {x m : Str} (h : (Fa.meth x m).ok K = true) : Meth K (ga K x) m (ma K (ga K x) m) := by
  obtain ⟨h1, h2⟩ := ba h
  obtain ⟨h2, h3⟩ := ba h2
  exact ⟨eqO_ok h1, h2, h3⟩
def somB (a : Option (Option Value)) : Bool := a.isSome
theorem som_ok {a : Option (Option Value)} (h : somB a = true) : ∃ v, a = some v := by
  cases a with
  | none => cases h
  | some v => exact ⟨v, rfl⟩
def rrB (a : Option (Option Value)) : Bool := match a with
  | some none => true
  | some (some (.ref _)) => true
  | _ => false
theorem rr_ok {a : Option (Option Value)} (h : rrB a = true) : ∃ rc, a = some rc ∧ (rc = none ∨ ∃ g : Addr, rc = some (.ref g)) := by
  unfold rrB at h
  split at h
  · exact ⟨_, rfl, .inl rfl⟩
  · exact ⟨_, rfl, .inr ⟨_, rfl⟩⟩
  · cases h
def insB (K : PySem.W.Frag) (C : Addr) : Bool := eqO (PySem.W.findIn K (.ref C) "__class__") (some (some (.builtin "object.__class__"))) && (eqO (PySem.W.specialIn K (.builtin "object.__class__") "__get__") (some (some (.builtin "getset_descriptor.__get__"))) && (eqB (PySem.W.takesIn K (.builtin "object.__class__")) (some true) && eqB (PySem.W.mroIn K C (.type "object")) (some true)))
theorem ins_of {K : PySem.W.Frag} {C : Addr} (c : Cls K C) (h : insB K C = true) : InsTy K C := by
  obtain ⟨h1, h2⟩ := ba h
  obtain ⟨h2, h3⟩ := ba h2
  obtain ⟨h3, h4⟩ := ba h3
  exact ⟨c, eqO_ok h1, eqO_ok h2, eqB_ok h3, eqB_ok h4⟩
/-- the kinds' table -/
def tvK (K : PySem.W.Frag) (Cs : List String) (n : String) : Value := if n ∈ Cs then .ref (ga K n) else .type n
def isaB (K : PySem.W.Frag) (Cs : List String) (l : List ((String × String) × Bool)) : Bool := l.all fun p => eqB (PySem.W.kitOne K (tvK K Cs p.1.1) (tvK K Cs p.1.2)) (some p.2)
theorem isa_of {K : PySem.W.Frag} {Cs : List String} {l : List ((String × String) × Bool)} (hi : ∀ C ∈ Cs, InsTy K (ga K C)) (h : isaB K Cs l = true) (hn : ∀ n ∈ ["NoneType", "bool", "int", "str", "list", "tuple", "dict"], n ∉ Cs) : IsaOk K (cnK K) Cs (fun a b => List.lookup (a, b) l) := by
  have key : ∀ a b r, List.lookup (a, b) l = some r → PySem.W.kitOne K (tvK K Cs a) (tvK K Cs b) = some r := by
    intro a b r e
    unfold isaB at h
    induction l with
    | nil => cases e
    | cons p l ih =>
      obtain ⟨⟨x, y⟩, q⟩ := p
      rw [List.all_cons] at h
      obtain ⟨h1, h2⟩ := ba h
      by_cases c : (a, b) = (x, y)
      · cases c
        simp [List.lookup] at e
        subst e
        exact eqB_ok h1
      · have c' : ((a, b) == (x, y)) = false := by simpa using c
        unfold List.lookup at e
        rw [c'] at e
        exact ih h2 e
  refine ⟨hi, fun a b r n1 n2 e => ?_, fun a b r n1 n2 e => ?_, fun a b r n1 n2 e => ?_, fun a b r n1 n2 e => ?_, hn⟩
  all_goals
    have q := key a b r e
    unfold tvK at q
    simp only [n1, n2, if_true, if_false] at q
    exact q
end MP

set_option Elab.async false
set_option linter.all false
set_option maxRecDepth 100000
set_option maxHeartbeats 4000000
/-! MP24: the facts of own errors, from questions that the head answers. -/
namespace MP
open PySem PySem.Spec PyProof.Rows L2
open He
def erClsB (K : PySem.W.Frag) (C : Addr) : Bool := match K.lookup C with
  | some ⟨.type "type", _, .cls cd, sl⟩ => (match cd.mro, sl.toList with
    | .ref C' :: bm, [_, _, _, _, some (.builtin n), _] => decide (C' = C) && (decide (n = "ValueError.__new__") && (!cd.hasDel && (cd.hasDict && HandSPX.refsVE bm)))
    | _, _ => false)
  | _ => false
theorem erCls_of {K : PySem.W.Frag} {C : Addr} (h : erClsB K C = true) : ∃ nm q N bs bm sn sub ab col dd k0 k1 k2 k3 k5, K.lookup C = some (excClassObj nm q C N bs bm true sn sub ab col dd k0 k1 k2 k3 k5 "ValueError.__new__") ∧ HandSPX.refsVE bm = true := by
  unfold erClsB at h
  split at h
  · rename_i dd cd sl ho
    split at h
    · rename_i C' bm k0 k1 k2 k3 n k5 hm hs
      obtain ⟨h1, g1⟩ := ba h
      obtain ⟨h2, g2⟩ := ba g1
      obtain ⟨h3, g3⟩ := ba g2
      obtain ⟨h4, h5⟩ := ba g3
      clear g1 g2 g3 h
      have e1 : C' = C := of_decide_eq_true h1
      have e2 : n = "ValueError.__new__" := of_decide_eq_true h2
      subst e1 e2
      obtain ⟨nm, bs, mro, ns, qn, hd, sn, sub, ab, col, del⟩ := cd
      dsimp only at hm h3 h4
      subst hm
      subst h4
      have h3' : del = false := by simpa using h3
      subst h3'
      have hsl : sl = #[k0, k1, k2, k3, some (.builtin "ValueError.__new__"), k5] := by
        obtain ⟨l⟩ := sl
        simp only at hs
        rw [hs]
      subst hsl
      exact ⟨nm, qn, ns, bs, bm, sn, sub, ab, col, dd, k0, k1, k2, k3, k5, ho, h5⟩
    · cases h
  · cases h
def tyB (a : Option Value) (b : Value) : Bool := decide (a = some b)
/-- the error's __init__: its closure's cell holds the class, its code names the file -/
def erFnB (K : PySem.W.Frag) (C : Addr) (file : Str) (qual : Str) : Bool := match K.lookup (ma K C "__init__") with
  | some ⟨_, _, .func fd, _⟩ => (match fd.closure, fd.code with
    | [(_, cc)], .ref cda => PySem.W.codeIn K (.ref cda) qual && ((match K.lookup cc with
      | some ⟨_, _, .cell (some (.ref D)), _⟩ => decide (D = C)
      | _ => false) && match K.lookup cda with
      | some ⟨_, _, .fields vs, _⟩ => (match vs[2]? with
        | some (Value.str f _) => decide (f = file)
        | _ => false)
      | _ => false)
    | _, _ => false)
  | _ => false
def erAskB (K : PySem.W.Frag) (C : Addr) (fld : Str) : Bool := erClsB K C && (eqO (PySem.W.findIn K (.ref C) "__setattr__") (some (some (.builtin "object.__setattr__"))) && (eqO (PySem.W.findIn K (.ref C) "__getattribute__") (some (some (.builtin "BaseException.__getattribute__"))) && (eqO (PySem.W.findIn K (.ref C) "__getattr__") (some none) && (eqO (PySem.W.findIn K (.ref C) fld) (some none) &&
  (eqO (PySem.W.findIn K (.ref C) "__init__") (some (some (.ref (ma K C "__init__")))) && (tyB (PySem.W.typeIn K (.ref (ma K C "__init__"))) (.type "function") && (PySem.W.keepIn K (.ref C) && (eqB (PySem.W.subIn K (.ref C) (.type "BaseException")) (some true) && (tyB (PySem.W.typeIn K (.ref C)) (.type "type") && (PySem.W.hasDictIn K C &&
  (eqO (PySem.W.ks_superIn K C C "__init__") (some (some (.builtin "ValueError.__init__"))) && (eqB (PySem.W.mroIn K C (.ref C)) (some true) && (eqB (PySem.W.subIn K (.ref C) (.type "ValueError")) (some true) && eqO (PySem.W.nsIn K cStatics "thirdparty.any") (some none))))))))))))))
theorem er_fld {K : PySem.W.Frag} {C : Addr} {fld : Str} (h : erAskB K C fld = true) : ErFld K C fld := by
  obtain ⟨h1, h⟩ := ba h
  obtain ⟨h2, h⟩ := ba h
  obtain ⟨h3, h⟩ := ba h
  obtain ⟨h4, h⟩ := ba h
  obtain ⟨h5, h⟩ := ba h
  obtain ⟨h6, h⟩ := ba h
  obtain ⟨h7, h⟩ := ba h
  obtain ⟨h8, h⟩ := ba h
  obtain ⟨h9, h⟩ := ba h
  obtain ⟨h10, h⟩ := ba h
  obtain ⟨h11, h⟩ := ba h
  exact ⟨eqO_ok h3, eqO_ok h4, eqO_ok h5, eqB_ok h9, h11⟩
/-- the closure's view of such an __init__ -/
def erFnC (qual par fld msg : Str) (k : Nat) (p1 p2 a0 a1 a2 a3 a4 a5 q1 q2 q3 q4 : Pos) : FnC :=
  some ("__init__", qual, erA par p1 p2, .stmts (MP.erB par fld msg k a0 a1 a2 a3 a4 a5 q1 q2 q3 q4), erS par, mainGlobals, ["__class__"], .none, .none, builtinsNs)
theorem err_of {prog : Program} {K : PySem.W.Frag} {mg : Str → Option Value} {nX fld par qual msg file : Str} {k : Nat} {p1 p2 a0 a1 a2 a3 a4 a5 q1 q2 q3 q4 : Pos} (gC : mg nX = some (.ref (ga K nX))) (ns : mg "super" = none) (tp : (prog.main.scope.names.lookup ("super" : Str)).isSome = false)
    (pars : (par == ("self" : Str)) = false ∧ (par == ("__debug__" : Str)) = false ∧ (erS par).names.lookup par = some .local ∧ (erS par).names.lookup ("self" : Str) = some .local ∧ (erS par).names.lookup ("super" : Str) = some .globalImplicit ∧ (erS par).names.lookup ("__class__" : Str) = some .free)
    (h : erAskB K (ga K nX) fld = true) (hf : erFnB K (ga K nX) file qual = true) (hc : fnC K (nX, some "__init__") = erFnC qual par fld msg k p1 p2 a0 a1 a2 a3 a4 a5 q1 q2 q3 q4) (hfile : ((prog.main.file : Str) == file) = true)
    (hb : ∀ (doc pm : Value) (an : Option Addr) (cda cc : Addr) (ct : Value) (s : Shared) (x v : Value), BindsTo s (PySem.W.ksFn "__init__" qual (erA par p1 p2) (MP.erB par fld msg k a0 a1 a2 a3 a4 a5 q1 q2 q3 q4) (erS par) .none .none doc pm an (.ref cda) ct cc) ⟨[x, v], []⟩ [(("self" : Str), x), (par, v)])
    (hev : ∀ (fI cda cc L : Addr), ∃ pl : Sem Bool, eval (.Call (.Attribute (.Call (.Name "super" a0) [] [] a1) "__init__" a2) [.Constant (.str msg) k a3] [] a4) (PySem.W.ksEnv qual (erS par) L fI (.ref cda) cc) = (do
        let ov ← attributeBase (.Call (.Name "super" a0) [] [] a1) "__init__" (PySem.W.ksEnv qual (erS par) L fI (.ref cda) cc) (eval (.Call (.Name "super" a0) [] [] a1) (PySem.W.ksEnv qual (erS par) L fI (.ref cda) cc))
        standAt a2.atName
        let (f, first) ← holding [ov] (getMethod ov "__init__" pl)
        callWith a4 f first (backTo a4 (starEach [.Constant (.str msg) k a3] (PySem.W.ksEnv qual (erS par) L fI (.ref cda) cc))) [])) : ErrTxt prog K mg nX fld par (ga K nX) (ma K (ga K nX) "__init__") := by
  obtain ⟨h1, h⟩ := ba h
  obtain ⟨h2, h⟩ := ba h
  obtain ⟨h3, h⟩ := ba h
  obtain ⟨h4, h⟩ := ba h
  obtain ⟨h5, h⟩ := ba h
  obtain ⟨h6, h⟩ := ba h
  obtain ⟨h7, h⟩ := ba h
  obtain ⟨h8, h⟩ := ba h
  obtain ⟨h9, h⟩ := ba h
  obtain ⟨h10, h⟩ := ba h
  obtain ⟨h11, h⟩ := ba h
  obtain ⟨h12, h⟩ := ba h
  obtain ⟨h13, h⟩ := ba h
  obtain ⟨h14, h15⟩ := ba h
  refine ⟨gC, erCls_of h1, eqO_ok h2, eqO_ok h3, eqO_ok h4, eqO_ok h5, eqO_ok h6, of_decide_eq_true h7, h8, eqB_ok h9, of_decide_eq_true h10, h11, eqO_ok h12, eqB_ok h13, eqB_ok h14, ns, eqO_ok h15, tp, pars, ?_⟩
  unfold fnC fAd at hc
  dsimp only at hc
  unfold erFnB at hf
  cases e : K.lookup (ma K (ga K nX) "__init__") with
  | none => rw [e] at hf; cases hf
  | some o =>
    obtain ⟨oc, od, da, osl⟩ := o
    rw [e] at hf hc
    cases da with
    | func fd =>
      obtain ⟨f1, f2, f3, f4, f5, f6, f7, f8, f9, f10, f11, f12, f13, f14, f15⟩ := fd
      dsimp only at hf hc
      unfold erFnC at hc
      simp only [Option.some.injEq, Prod.mk.injEq] at hc
      obtain ⟨c1, c2, c3, c4, c5, c6, c7, c8, c9, c10⟩ := hc
      split at hf
      · rename_i z cc cda
        obtain ⟨g1, g2⟩ := ba hf
        obtain ⟨g2, g3⟩ := ba g2
        have hz : z = "__class__" := by simpa using c7
        cases e2 : K.lookup cc with
        | none => rw [e2] at g2; cases g2
        | some oc2 =>
          rw [e2] at g2
          obtain ⟨x1, x2, x3, x4⟩ := oc2
          cases x3 with
          | cell v =>
            cases v with
            | none => cases g2
            | some v =>
              cases v with
              | ref D =>
                have hD : D = ga K nX := of_decide_eq_true g2
                cases e3 : K.lookup cda with
                | none => rw [e3] at g3; cases g3
                | some oc3 =>
                  rw [e3] at g3
                  obtain ⟨y1, y2, y3, y4⟩ := oc3
                  cases y3 with
                  | fields vs =>
                    dsimp only at g3
                    split at g3
                    · rename_i ff tf hvs
                      have hff : ff = file := of_decide_eq_true g3
                      subst hff
                      refine ⟨qual, msg, k, oc, od, f10, f11, f12, cda, cc, f14, osl, p1, p2, a0, a1, a2, a3, a4, a5, q1, q2, q3, q4, y1, x1, y2, x2, vs, y4, x4, ff, tf, ?_, g1, e3, hvs, hfile, ?_, fun s x v => hb _ _ _ _ _ _ s x v, fun L => hev _ _ _ L⟩
                      · subst c1 c2 c3 c4 c5 c6 c8 c9 c10 hz
                        rfl
                      · subst hD
                        exact e2
                    · cases g3
                  | _ => cases g3
              | _ => cases g2
          | _ => cases g2
      · cases hf
    | _ => cases hf
end MP

set_option Elab.async false
set_option linter.all false
set_option maxRecDepth 100000
set_option maxHeartbeats 4000000
/-! MP25: a def's function data by its address. -/
namespace MP
open PySem PySem.Spec PyProof.Rows L2
open He
def noFd : FuncData := PySem.W.fnOf "" "" (defArgs (.Pass ⟨0, 0, 0, 0⟩)) [] (defScope (.Pass ⟨0, 0, 0, 0⟩)) .none .none .none .none none .none .none
noncomputable def fdA (K : PySem.W.Frag) (a : Addr) : FuncData := match K.lookup a with
  | some ⟨_, _, .func fd, _⟩ => fd
  | _ => noFd
theorem fun_fdA {K : PySem.W.Frag} {x qual : Str} {params : Arguments} {body : List Stmt} {scope : Scope} {dvs : List V} {kws : List (Str × V)} {f : Addr} {fd : FuncData} (F : FunD K x qual params body scope dvs kws f fd) : FunD K x qual params body scope dvs kws f (fdA K f) := by
  have e : fdA K f = fd := by
    obtain ⟨oc, od, dV, kV, doc, pm, an, cdv, ct, osl, _, lk, _⟩ := F.ex
    unfold fdA
    rw [lk]
  rw [e]
  exact F
end MP

set_option Elab.async false
set_option linter.all false
set_option maxRecDepth 100000
set_option maxHeartbeats 4000000
/-! MP26: the law's walk behind the head, where calls may let own errors out. -/
namespace MP
open PySem PySem.Spec PyProof.Rows L2
open He
theorem walkCX {l : PySem.W.OpenLaw} {m k : Nat} {qv : Program} {other : List Str} {XQ : (Str → Option Value) → Heap → Prop} {YQ : World → Heap → Prop} {dr : DefRec} {par : Str}
    (hm : l.most = some m) (hm2 : m ≤ sizeLine) (hnd : dr.params.defaults = []) (hroom : Room k callerA)
    (HF : ∀ (w : World) (mg : Str → Option Value) (at0 : Addr) (h : Heap), YQ w h → h.Ns mainGlobals mg → mg dr.name = some (.ref at0) →
      ∃ (K : PySem.W.Frag) (fd : FuncData) (sp : Sp), K.In h ∧ (∀ (s : Shared) (u : Value), BindsTo s fd ⟨[u], []⟩ [(par, u)]) ∧
        (∀ (H : Hp) (a : Addr) (ns : List Int), ns.length ≤ m → SqL K H a (ns.map V.int) → sp [.ref a] H (fun v _ => v = .bl true) fun _ _ _ => False) ∧
        ∀ base : Heap, K.In base → base.Ns mainGlobals mg → FnOk l.prog w K mg base (L2.CX l.prog w) k at0 fd [par] sp) :
    PySem.W.WalkO qv other XQ YQ l.row.toRowW dr [] (fun f vs => PySem.call f vs) := by
  refine Att.attach_call hm hnd fun w s0 s1 mg mb at0 o pm cd doc a vs ns Gd Yd a1 a2 a3 amg aobj ahints alen ag => ?_
  obtain ⟨K, fd, sp, KX, hbind, hprom, hfn⟩ := HF w mg at0 _ Yd Gd.T.g amg
  refine law_call KX Gd.T.g Gd.T.b Gd.T.builtins Gd.T.nolimit ag aobj ahints (Nat.le_trans alen hm2) hroom hfn hbind (fun H _ hS => hprom H a ns alen hS) ?_
  intro H e s2 hx
  obtain ⟨_, _, _, _, _, _, _, _, _, _, _, _, hE⟩ := hx
  exact hE
end MP

set_option Elab.async false
set_option linter.all false
set_option maxRecDepth 100000
set_option maxHeartbeats 4000000
/-! MP27: enumerate and zip as what is walked. -/
namespace MP
open PySem PySem.Spec PyProof.Rows L2
open Evl (Ex)
/-- the items at a as they stand at each turn, in pairs with their numbers from k on -/
def ItE (sq : Hp → Addr → List V → Prop) (k : Int) (a : Addr) : It :=
  ⟨fun i H => ∃ (xs : List V) (x : V), sq H a xs ∧ xs[i]? = some x, fun i H v H' => ∃ T x, v = .ref T ∧ H T = none ∧ H' = upd H T (.tup [.int (k + (i : Nat)), x]) ∧ ∀ xs, sq H a xs → xs[i]? = some x, fun i H => ∃ xs : List V, sq H a xs ∧ xs.length ≤ i⟩

theorem turn_enumL {P : Program} {w : World} {K : PySem.W.Frag} {elts : List Expr} {kk : Nat} {tpos : Pos} (k : Int) (a e it : Addr) :
    Turn P w K (.Tuple elts kk tpos) (ItE (SqL K) k a) [e, it] e (fun i h => (∃ old, IsEnum h e it (k + ((i : Nat) : Int)) old) ∧ h.IsListIter it a i ∧ e ≠ it) where
  mem := by simp
  obj := fun i h st b hb => by
    obtain ⟨⟨old, he⟩, ⟨o, ho, hc, hd⟩, _⟩ := st
    have e' : b = e ∨ b = it := by simpa using hb
    rcases e' with z | z
    · rw [z]; exact ⟨_, he, fun v q => nomatch q⟩
    · rw [z]; exact ⟨o, ho, fun v q => by rw [hd] at q; cases q⟩
  keep := fun i h h' st k => let ⟨⟨old, he⟩, hi, hne⟩ := st; ⟨⟨old, k e (by simp) _ he⟩, hi.at fun o q => k it (by simp) o q, hne⟩
  item := by
    intro X hP hw hK hc i pins s σ H E I hf st hg
    subst hP hw hK
    obtain ⟨⟨old, he⟩, hit, hne⟩ := st
    obtain ⟨xs, x, hq, hx⟩ := hg
    obtain ⟨its, rv, p, hz⟩ := I.list hq
    obtain ⟨u, hu, ru⟩ := rv.get hx
    have pl : s.heap.IsList a its.toArray := p.isList
    have hel : e < s.heap.objs.size := Heap.lt_size he
    have hil : it < s.heap.objs.size := by obtain ⟨_, q, _⟩ := hit; exact Heap.lt_size q
    have hai : a ≠ it := fun z => by
      subst z
      obtain ⟨o1, q1, q2, _⟩ := hit
      obtain ⟨o2, q3, q4, _⟩ := pl
      rw [q1] at q3; cases q3
      rw [q2] at q4; exact absurd q4 (by simp)
    have hea : e ≠ a := fun z => by
      subst z
      obtain ⟨o2, q3, q4, _⟩ := pl
      have he' : s.heap.get? e = _ := he
      rw [he'] at q3; cases q3
      exact absurd q4 (by simp)
    have hil2 : i < its.toArray.size := by
      have := rv.length
      have hx2 := (List.getElem?_eq_some_iff.mp hx).1
      simp; omega
    refine wpAny_pyNext_enum_itemC (Draws.list (A := X.A.in1) (I.ok.hd hc) it a hai its.toArray) he ⟨hit, pl⟩ hil2 hne (by simp [hne, hea]) fun x' h' tk hx' ho hit' hT hsz hk => ?_
    have exx : x' = u := by
      have hx' : its.toArray[i]? = some x' := hx'
      rw [List.getElem?_toArray, hu] at hx'
      exact (Option.some.inj hx').symm
    subst exx
    refine ⟨_, rfl, wpAny_letOwnedTupleGo_enum (s := { s with heap := h', toks := tk + 1 }) ho fun h'' he' sb => ?_⟩
    have hT2 : h''.get? s.heap.objs.size = some { cls := .type "tuple", data := .seq #[.int (k + (i : Int)) tk, x'] } := (sb.2 _ (Nat.ne_of_gt hel)).trans hT
    have new : ObjOk X.prog X.w (upd H s.heap.objs.size (.tup [.int (k + (i : Nat)), x])) h'' s.heap.objs.size (.tup [.int (k + (i : Nat)), x]) :=
      ⟨by show 2 ≤ sizeLine; decide, [.int (k + (i : Int)) tk, x'], .cons ⟨_, rfl⟩ (.cons ru .nil), ⟨_, hT2, rfl, _, rfl⟩⟩
    have I1 : Inv X pins σ (upd H s.heap.objs.size (.tup [.int (k + (i : Nat)), x])) { s with heap := h'', toks := tk + 1 } :=
      I.turnedNew (ch := [e, it]) (fun b ob hb q => (sb.2 b (fun z => hb (by simp [z]))).trans (hk b ob (fun z => hb (by simp [z])) (fun z => hb (by simp [z])) q)) hf (Nat.le_refl _) new
    refine ⟨.ref s.heap.objs.size, _, I1, rfl, ⟨_, x, rfl, I.hok.fresh (Nat.le_refl _), rfl, fun ys hy => by rw [I.list_inj hy hq]; exact hx⟩, ⟨⟨x', ?_⟩, hit'.1.at fun o q => (sb.2 it (Ne.symm hne)).trans q, hne⟩, fun b hb => ?_⟩
    · have e1 : k + ((i + 1 : Nat) : Int) = k + (i : Int) + 1 := by omega
      rw [e1]; exact he'
    · have hb' : b < s.heap.objs.size := by
        have e' : b = e ∨ b = it := by simpa using hb
        rcases e' with z | z
        · rw [z]; exact hel
        · rw [z]; exact hil
      rw [upd_ne (Nat.ne_of_lt hb')]
      exact (hf b hb).1
  done := by
    intro X hP hw hK hc i pins s σ H E I hf st hg
    subst hP hw hK
    obtain ⟨⟨old, he⟩, hit, hne⟩ := st
    obtain ⟨xs, hq, hx⟩ := hg
    obtain ⟨its, rv, p, hz⟩ := I.list hq
    have pl : s.heap.IsList a its.toArray := p.isList
    have hai : a ≠ it := fun z => by
      subst z
      obtain ⟨o1, q1, q2, _⟩ := hit
      obtain ⟨o2, q3, q4, _⟩ := pl
      rw [q1] at q3; cases q3
      rw [q2] at q4; exact absurd q4 (by simp)
    obtain ⟨f0, f1, f2, f3, f4, f5⟩ := hf it (by simp)
    have hl := rv.length
    have hl2 : its.length ≤ i := by omega
    have D1 : Draws X.prog X.w X.A.in1 it [it, a] i (fun _ _ => False) (fun j h => j = i ∧ h.IsListIter it a i ∧ h.IsList a its.toArray) :=
      ⟨fun _ _ st => let ⟨_, ⟨o, ho, _⟩, _⟩ := st; ⟨o, ho⟩, fun _ _ _ st hk => ⟨st.1, st.2.1.at fun o e => hk it (by simp) o e, st.2.2.at fun o e => hk a (by simp) o e⟩, fun j s Q E hj st _ => absurd st.1 (by omega),
        fun s Q E st hE => wpAny_nextOf_list_end (I.ok.hd hc) st.2.1 st.2.2 (by simp; omega) hE⟩
    refine wpAny_pyNext_enum_endD D1 he ⟨rfl, hit, pl⟩ fun h' eb => ⟨rfl, I.turned (t' := s.toks) (fun b o hb q => eb b o hb q) f0 f1 f3 f4 f5⟩
  self := fun A i s Q E st h => let ⟨⟨_, he⟩, _⟩ := st; wpAny_pyIter_enum he h

theorem turn_enumT {P : Program} {w : World} {K : PySem.W.Frag} {elts : List Expr} {kk : Nat} {tpos : Pos} (k : Int) (a e it : Addr) :
    Turn P w K (.Tuple elts kk tpos) (ItE (SqT K) k a) [e, it] e (fun i h => (∃ old, IsEnum h e it (k + ((i : Nat) : Int)) old) ∧ h.IsTupleIter it a i ∧ e ≠ it) where
  mem := by simp
  obj := fun i h st b hb => by
    obtain ⟨⟨old, he⟩, ⟨o, ho, hc, hd⟩, _⟩ := st
    have e' : b = e ∨ b = it := by simpa using hb
    rcases e' with z | z
    · rw [z]; exact ⟨_, he, fun v q => nomatch q⟩
    · rw [z]; exact ⟨o, ho, fun v q => by rw [hd] at q; cases q⟩
  keep := fun i h h' st k => let ⟨⟨old, he⟩, hi, hne⟩ := st; ⟨⟨old, k e (by simp) _ he⟩, hi.at fun o q => k it (by simp) o q, hne⟩
  item := by
    intro X hP hw hK hc i pins s σ H E I hf st hg
    subst hP hw hK
    obtain ⟨⟨old, he⟩, hit, hne⟩ := st
    obtain ⟨xs, x, hq, hx⟩ := hg
    obtain ⟨its, rv, p, hz⟩ := I.tuple hq
    obtain ⟨u, hu, ru⟩ := rv.get hx
    have pl : s.heap.IsTuple a its.toArray := p
    have hel : e < s.heap.objs.size := Heap.lt_size he
    have hil : it < s.heap.objs.size := by obtain ⟨_, q, _⟩ := hit; exact Heap.lt_size q
    have hai : a ≠ it := fun z => by
      subst z
      obtain ⟨o1, q1, q2, _⟩ := hit
      obtain ⟨o2, q3, q4, _⟩ := pl
      rw [q1] at q3; cases q3
      rw [q2] at q4; exact absurd q4 (by simp)
    have hea : e ≠ a := fun z => by
      subst z
      obtain ⟨o2, q3, q4, _⟩ := pl
      have he' : s.heap.get? e = _ := he
      rw [he'] at q3; cases q3
      exact absurd q4 (by simp)
    have hil2 : i < its.toArray.size := by
      have := rv.length
      have hx2 := (List.getElem?_eq_some_iff.mp hx).1
      simp; omega
    refine wpAny_pyNext_enum_itemC (Draws.tuple (A := X.A.in1) (I.ok.hd hc) it a hai its.toArray) he ⟨hit, pl⟩ hil2 hne (by simp [hne, hea]) fun x' h' tk hx' ho hit' hT hsz hk => ?_
    have exx : x' = u := by
      have hx' : its.toArray[i]? = some x' := hx'
      rw [List.getElem?_toArray, hu] at hx'
      exact (Option.some.inj hx').symm
    subst exx
    refine ⟨_, rfl, wpAny_letOwnedTupleGo_enum (s := { s with heap := h', toks := tk + 1 }) ho fun h'' he' sb => ?_⟩
    have hT2 : h''.get? s.heap.objs.size = some { cls := .type "tuple", data := .seq #[.int (k + (i : Int)) tk, x'] } := (sb.2 _ (Nat.ne_of_gt hel)).trans hT
    have new : ObjOk X.prog X.w (upd H s.heap.objs.size (.tup [.int (k + (i : Nat)), x])) h'' s.heap.objs.size (.tup [.int (k + (i : Nat)), x]) :=
      ⟨by show 2 ≤ sizeLine; decide, [.int (k + (i : Int)) tk, x'], .cons ⟨_, rfl⟩ (.cons ru .nil), ⟨_, hT2, rfl, _, rfl⟩⟩
    have I1 : Inv X pins σ (upd H s.heap.objs.size (.tup [.int (k + (i : Nat)), x])) { s with heap := h'', toks := tk + 1 } :=
      I.turnedNew (ch := [e, it]) (fun b ob hb q => (sb.2 b (fun z => hb (by simp [z]))).trans (hk b ob (fun z => hb (by simp [z])) (fun z => hb (by simp [z])) q)) hf (Nat.le_refl _) new
    refine ⟨.ref s.heap.objs.size, _, I1, rfl, ⟨_, x, rfl, I.hok.fresh (Nat.le_refl _), rfl, fun ys hy => by rw [I.tuple_inj hy hq]; exact hx⟩, ⟨⟨x', ?_⟩, hit'.1.at fun o q => (sb.2 it (Ne.symm hne)).trans q, hne⟩, fun b hb => ?_⟩
    · have e1 : k + ((i + 1 : Nat) : Int) = k + (i : Int) + 1 := by omega
      rw [e1]; exact he'
    · have hb' : b < s.heap.objs.size := by
        have e' : b = e ∨ b = it := by simpa using hb
        rcases e' with z | z
        · rw [z]; exact hel
        · rw [z]; exact hil
      rw [upd_ne (Nat.ne_of_lt hb')]
      exact (hf b hb).1
  done := by
    intro X hP hw hK hc i pins s σ H E I hf st hg
    subst hP hw hK
    obtain ⟨⟨old, he⟩, hit, hne⟩ := st
    obtain ⟨xs, hq, hx⟩ := hg
    obtain ⟨its, rv, p, hz⟩ := I.tuple hq
    have pl : s.heap.IsTuple a its.toArray := p
    have hai : a ≠ it := fun z => by
      subst z
      obtain ⟨o1, q1, q2, _⟩ := hit
      obtain ⟨o2, q3, q4, _⟩ := pl
      rw [q1] at q3; cases q3
      rw [q2] at q4; exact absurd q4 (by simp)
    obtain ⟨f0, f1, f2, f3, f4, f5⟩ := hf it (by simp)
    have hl := rv.length
    have hl2 : its.length ≤ i := by omega
    have D1 : Draws X.prog X.w X.A.in1 it [it, a] i (fun _ _ => False) (fun j h => j = i ∧ h.IsTupleIter it a i ∧ h.IsTuple a its.toArray) :=
      ⟨fun _ _ st => let ⟨_, ⟨o, ho, _⟩, _⟩ := st; ⟨o, ho⟩, fun _ _ _ st hk => ⟨st.1, st.2.1.at fun o e => hk it (by simp) o e, st.2.2.at fun o e => hk a (by simp) o e⟩, fun j s Q E hj st _ => absurd st.1 (by omega),
        fun s Q E st hE => wpAny_nextOf_tuple_end (I.ok.hd hc) st.2.1 st.2.2 (by simp; omega) hE⟩
    refine wpAny_pyNext_enum_endD D1 he ⟨rfl, hit, pl⟩ fun h' eb => ⟨rfl, I.turned (t' := s.toks) (fun b o hb q => eb b o hb q) f0 f1 f3 f4 f5⟩
  self := fun A i s Q E st h => let ⟨⟨_, he⟩, _⟩ := st; wpAny_pyIter_enum he h


/-! ### enumerate(v, start=k) -/
/-- a built-in class called with keywords, none of them starred -/
theorem cw_typeK {M : Model} {A : Around} {E : Value → Shared → Prop} {s : Shared} {env : Env} {pos : Pos} {T : String} {e : Expr} {rest : List Expr} {kws : List Keyword} {Q : Value → Shared → Prop}
    (h : wpAny M A (spliced (backTo pos (starEach (e :: rest) env))) (fun vs s1 => wpAny M A (evalAll ((backToKw pos (keywordEach kws env)).map (·.2))) (fun ks s2 => wpAny M A (call (.type T) vs (((backToKw pos (keywordEach kws env)).filterMap (·.1)).zip ks)) Q E s2) E s1) E s)
    (he : backTo pos (starEach (e :: rest) env) = (false, eval e env) :: backTo pos (starEach rest env)) (hp : (backTo pos (starEach (e :: rest) env)).any (·.1) = false) (hall : (backToKw pos (keywordEach kws env)).all (·.1.isSome) = true) (hn : (backToKw pos (keywordEach kws env)).any (·.1.isNone) = false) :
    wpAny M A (callWith pos (.type T) [] (backTo pos (starEach (e :: rest) env)) (backToKw pos (keywordEach kws env))) Q E s := by
  have h2 : wpAny M A (evalArgs (.type T) true (backTo pos (starEach (e :: rest) env)) (backToKw pos (keywordEach kws env))) (fun a s1 => wpAny M A (call (.type T) ([] ++ a.pos) a.kw) Q E s1) E s := by
    rw [he] at h ⊢
    exact evalArgs_kwB hall h
  unfold callWith
  refine wpAny_bind (wpAny_holding (wpAny_mono h2 (fun a s1 q => wpAny_bind (wpAny_standAt ?_)) fun _ _ z => z))
  simp only [hp, hn, Bool.or_false]
  refine wpAny_bind (wpAny_pure (wpAny_bind (wpAny_mono q (fun r s2 hr => ?_) fun _ _ z => z)))
  exact wpAny_bind (wpAny_holding (wpAny_point (wpAny_pure hr)))
section
variable {X : Cx}
def iEnumS (K : PySem.W.Frag) (ta tk : TA) : TI := fun σ H T => ta σ H fun vs H1 => tk σ H1 fun zs H2 => ∃ a xs k, vs = [V.ref a] ∧ zs = [V.int k] ∧ -(2 ^ 63) ≤ k ∧ k < 2 ^ 63 ∧ ((SqL K H2 a xs ∧ T (ItE (SqL K) k a) H2) ∨ (SqT K H2 a xs ∧ T (ItE (SqT K) k a) H2))
theorem pi_enumS {e : Expr} {ta tk : TA} {kws : List Keyword} {p pos tpos : Pos} {elts : List Expr} {kk : Nat} (hg : Gl X "enumerate") (hm : X.mg "enumerate" = none) (ha : PA X [e] ta) (hk : PK X kws tk)
    (hall : (backToKw pos (keywordEach kws X.env)).all (·.1.isSome) = true := by rfl) (hn : (backToKw pos (keywordEach kws X.env)).any (·.1.isNone) = false := by rfl) (hks : (backToKw pos (keywordEach kws X.env)).filterMap (·.1) = [Str.ofString "start"] := by rfl)
    (he : backTo pos (starEach [e] X.env) = (false, eval e X.env) :: backTo pos (starEach [] X.env) := by rfl) (hpl : (backTo pos (starEach [e] X.env)).any (·.1) = false := by rfl) :
    PI X (.Tuple elts kk tpos) (.Call (.Name "enumerate" p) [e] kws pos) (iEnumS X.K ta tk) := by
  refine ⟨fun pins s σ H T I h => ?_⟩
  refine wpAny_Call_Name_kw (ld_blt I hg hm boot_enumerate ?_)
  refine cw_typeK (thn (ha.run pos pins s σ H _ I h) fun us s1 ⟨vs, H1, I1, r1, q1⟩ => thn (hk.run pos pins s1 σ H1 _ I1 q1) fun ws s2 ⟨zs, H2, I2, r2, q2⟩ => ?_) he hpl hall hn
  rw [hks]
  obtain ⟨a, xs, k, rfl, rfl, k0, k1, q⟩ := q2
  cases r1 with
  | cons r rr =>
    cases rr
    cases r
    cases r2 with
    | cons r' rr' =>
      cases rr'
      obtain ⟨t, rfl⟩ := r'
      have fin : ∀ {sq : Hp → Addr → List V → Prop} {tn : Nat → Heap → Prop} {h' : Heap}, Turn X.prog X.w X.K (.Tuple elts kk tpos) (ItE sq k a) [s2.heap.objs.size + 1, s2.heap.objs.size] (s2.heap.objs.size + 1) tn → tn 0 h' → IsEnum h' (s2.heap.objs.size + 1) s2.heap.objs.size k .none → (∀ b o, s2.heap.get? b = some o → h'.get? b = some o) → T (ItE sq k a) H2 →
          wpAny (model X.prog X.w) X.A (pyIter (.ref (s2.heap.objs.size + 1))) (PIE X pins σ (.Tuple elts kk tpos) T) X.xe { s2 with heap := h' } := fun {sq tn h'} tu h0 he hkp ht => by
        refine wpAny_pyIter_enum he ⟨s2.heap.objs.size + 1, [s2.heap.objs.size + 1, s2.heap.objs.size], _, _, H2, rfl, I2.kept (t' := s2.toks) hkp, tu, h0, fun b hb => ?_, ht⟩
        have hle : s2.heap.objs.size ≤ b := by
          have e' : b = s2.heap.objs.size + 1 ∨ b = s2.heap.objs.size := by simpa using hb
          rcases e' with z | z <;> rw [z]
          · exact Nat.le_add_right _ _
          · exact Nat.le_refl _
        exact I2.fpOk hle (I2.hok.fresh hle)
      rcases q with ⟨hq, q⟩ | ⟨hq, q⟩
      · obtain ⟨its, rv, p', hz⟩ := I2.list hq
        exact enum_begins_start (begins_list a its.toArray) p'.isList k0 k1 fun h' he ho hsz hkp => fin (turn_enumL k a _ _) ⟨⟨.none, by simpa using he⟩, ⟨_, ho, rfl, rfl⟩, Nat.succ_ne_self _⟩ he hkp q
      · obtain ⟨its, rv, p', hz⟩ := I2.tuple hq
        exact enum_begins_start (begins_tuple a its.toArray) p' k0 k1 fun h' he ho hsz hkp => fin (turn_enumT k a _ _) ⟨⟨.none, by simpa using he⟩, ⟨_, ho, rfl, rfl⟩, Nat.succ_ne_self _⟩ he hkp q
end
end MP

set_option Elab.async false
set_option linter.all false
set_option maxRecDepth 100000
set_option maxHeartbeats 4000000
/-! MP28: walks derived from what stands: enumerate, zip. -/
namespace MP
open PySem PySem.Spec PyProof.Rows L2
open Evl (Ex)
section
variable (K : PySem.W.Frag) (cn : String → Addr)
/-- while P stays, the items xs stand at a -/
structure Hold (sq : Hp → Addr → List V → Prop) (a : Addr) (xs : List MP.D) (B : Addr → Prop) (P : Zt → Prop) : Prop where
  keepA : ∀ {Z Z' : Zt} {A A' : Addr → Prop}, P Z → Step Z A Z' A' → (∀ b, A b → ¬ B b) → P Z'
  at_ : ∀ {Z : Zt}, R K cn Z → P Z → ∃ vs, sq Z.H a vs ∧ Reps K cn Z.G Z.ρ xs vs
end
section
variable {K : PySem.W.Frag} {cn : String → Addr} {W : WX} {X : Cx} {Z : Zt} {A : Addr → Prop}
theorem hold_list {a : Addr} {vs : List V} {xs : List MP.D} {G0 : Hp} {ρ0 : List Addr} (hx : Reps K cn G0 ρ0 xs vs) : Hold K cn (SqL K) a xs (· = a) (fun Z => Stay K a vs Z ∧ Ex G0 Z.G ∧ ρ0 <+: Z.ρ) :=
  ⟨fun h s n => ⟨h.1.keep s (fun z => n a z rfl), fun b o e => s.g b o (h.2.1 b o e), h.2.2.trans s.r⟩, fun hR h => ⟨vs, h.1.seq hR, hx.mono h.2.1 h.2.2⟩⟩
theorem hold_lstG {a : Addr} {vs : List V} {xs : List MP.D} {G0 : Hp} {ρ0 : List Addr} (ht : SqL K G0 a vs) (hx : Reps K cn G0 ρ0 xs vs) : Hold K cn (SqL K) a xs NoA (fun Z => Ex G0 Z.G ∧ ρ0 <+: Z.ρ) :=
  ⟨fun h s _ => ⟨fun b o e => s.g b o (h.1 b o e), h.2.trans s.r⟩, fun hR h => ⟨vs, Evl.ex_l hR.ex (Evl.ex_l h.1 ht), hx.mono h.1 h.2⟩⟩
theorem hold_tup {a : Addr} {vs : List V} {xs : List MP.D} {G0 : Hp} {ρ0 : List Addr} (ht : SqT K G0 a vs) (hx : Reps K cn G0 ρ0 xs vs) : Hold K cn (SqT K) a xs NoA (fun Z => Ex G0 Z.G ∧ ρ0 <+: Z.ρ) :=
  ⟨fun h s _ => ⟨fun b o e => s.g b o (h.1 b o e), h.2.trans s.r⟩, fun hR h => ⟨vs, Evl.ex_t hR.ex (Evl.ex_t h.1 ht), hx.mono h.1 h.2⟩⟩
/-- what srcOf gives stands -/
theorem src_hold {r : RV} {v : V} {sl : Sls} {st : Sto} {xs : List MP.D} {h : Hd} (hR : R K cn Z) (hv : RepRV K cn Z r v) (e : srcOf r Z.sl Z.st = .ok (xs, h) sl st) :
    sl = Z.sl ∧ st = Z.st ∧ ∃ a, v = .ref a ∧ ((∃ vs B P, SqL K Z.H a vs ∧ Hold K cn (SqL K) a xs B P ∧ (∀ b, B b → Z.H b ≠ none) ∧ P (Z.lock h)) ∨ ((∃ ys, r = .d (.tup ys)) ∧ ∃ vs B P, SqT K Z.H a vs ∧ Hold K cn (SqT K) a xs B P ∧ (∀ b, B b → Z.H b ≠ none) ∧ P (Z.lock h))) := by
  have ob : ∀ {p : Addr} {o : HO}, Z.H p = some o → ∀ b, b = p → Z.H b ≠ none := fun {p o} q b z y => by subst z; rw [q] at y; cases y
  unfold srcOf at e
  cases r with
  | d x =>
    cases x with
    | lst ys =>
      cases e
      cases hv with
      | @lst _ a vs h1 h2 => exact ⟨rfl, rfl, a, rfl, .inl ⟨vs, _, _, Evl.ex_l hR.ex h1, hold_lstG h1 h2, fun _ z => z.elim, fun _ _ e => e, List.prefix_refl _⟩⟩
    | tup ys =>
      cases e
      cases hv with
      | @tup _ a vs h1 h2 => exact ⟨rfl, rfl, a, rfl, .inr ⟨⟨_, rfl⟩, vs, _, _, Evl.ex_t hR.ex h1, hold_tup h1 h2, fun _ z => z.elim, fun _ _ e => e, List.prefix_refl _⟩⟩
    | cell i =>
      cases hv with
      | @cell _ a h1 =>
        dsimp only at e
        cases ec : Z.st[i]? with
        | none => rw [ec] at e; cases e
        | some c =>
          rw [ec] at e
          obtain ⟨o, q1, q2, q3⟩ := hR.cells i c a ec h1
          cases c with
          | c b =>
            cases b with
            | lst ys =>
              cases e
              obtain ⟨vs, rfl, hr⟩ := q3.lst_inv
              refine ⟨rfl, rfl, a, rfl, .inl ⟨vs, _, _, .inl (.inl q1), hold_list hr, ob q1, .inr ⟨q1, .inr (.inr ⟨i, .lst xs, ?_, h1⟩)⟩, fun _ _ e => e, List.prefix_refl _⟩⟩
              show (lockC (.ce i) Z.st)[i]? = _
              unfold lockC
              dsimp only
              rw [ec]
              exact List.getElem?_set_self (List.getElem?_eq_some_iff.mp ec).1
            | dct _ => cases e
            | ins _ _ => cases e
          | lk b =>
            cases b with
            | lst ys =>
              cases e
              obtain ⟨vs, rfl, hr⟩ := q3.lst_inv
              exact ⟨rfl, rfl, a, rfl, .inl ⟨vs, _, _, .inl (.inl q1), hold_list hr, ob q1, .inr ⟨q1, .inr (.inr ⟨i, .lst xs, ec, h1⟩)⟩, fun _ _ e => e, List.prefix_refl _⟩⟩
            | dct _ => cases e
            | ins _ _ => cases e
    | _ => cases e
  | f b =>
    cases b with
    | lst ys =>
      cases e
      obtain ⟨p, o, rfl, q1, q2, q3, q4, q5⟩ := hv
      obtain ⟨vs, rfl, hr⟩ := q5.lst_inv
      exact ⟨rfl, rfl, p, rfl, .inl ⟨vs, _, _, .inl (.inl q1), hold_list hr, ob q1, .inr ⟨q1, .inl ⟨q2, q3, q4⟩⟩, fun _ _ e => e, List.prefix_refl _⟩⟩
    | dct _ => cases e
    | ins _ _ => cases e
  | sl j =>
    have hv : Z.σ[j]? = some (some v) := hv
    dsimp only at e
    cases ec : Z.sl[j]? with
    | none => rw [ec] at e; cases e
    | some s =>
      rw [ec] at e
      cases s with
      | u => cases e
      | d _ => cases e
      | o b =>
        cases b with
        | lst ys =>
          cases e
          obtain ⟨p, o, q0, q1, q2, q3, q5⟩ := hR.slots j _ ec
          rw [hv] at q0; cases q0
          obtain ⟨vs, rfl, hr⟩ := q5.lst_inv
          refine ⟨rfl, rfl, p, rfl, .inl ⟨vs, _, _, .inl (.inl q1), hold_list hr, ob q1, .inr ⟨q1, .inr (.inl ⟨j, .lst xs, ?_, hv⟩)⟩, fun _ _ e => e, List.prefix_refl _⟩⟩
          show (lockS (.sl j) Z.sl)[j]? = _
          unfold lockS
          dsimp only
          rw [ec]
          exact List.getElem?_set_self (List.getElem?_eq_some_iff.mp ec).1
        | dct _ => cases e
        | ins _ _ => cases e
      | lk b =>
        cases b with
        | lst ys =>
          cases e
          obtain ⟨p, o, q0, q1, q2, q3, q5⟩ := hR.slots j _ ec
          rw [hv] at q0; cases q0
          obtain ⟨vs, rfl, hr⟩ := q5.lst_inv
          exact ⟨rfl, rfl, p, rfl, .inl ⟨vs, _, _, .inl (.inl q1), hold_list hr, ob q1, .inr ⟨q1, .inr (.inl ⟨j, .lst xs, ec, hv⟩)⟩, fun _ _ e => e, List.prefix_refl _⟩⟩
        | dct _ => cases e
        | ins _ _ => cases e
/-! ### enumerate -/
def enumD (k : Int) : List MP.D → List MP.D
  | [] => []
  | x :: xs => .tup [.int k, x] :: enumD (k + 1) xs
theorem enumD_len : ∀ (k : Int) (xs : List MP.D), (enumD k xs).length = xs.length
  | _, [] => rfl
  | k, x :: xs => congrArg (· + 1) (enumD_len (k + 1) xs)
theorem enumD_get : ∀ (k : Int) (xs : List MP.D) (i : Nat), (enumD k xs)[i]? = (xs[i]?).map fun x => .tup [.int (k + i), x]
  | _, [], _ => by simp [enumD]
  | k, x :: xs, 0 => by simp [enumD]
  | k, x :: xs, i + 1 => by
    have e : k + 1 + (i : Int) = k + ((i + 1 : Nat) : Int) := by omega
    simp only [enumD, List.getElem?_cons_succ, enumD_get (k + 1) xs i, e]
theorem walks_enum {sq : Hp → Addr → List V → Prop} {a : Addr} {xs : List MP.D} {B : Addr → Prop} {P : Zt → Prop} {k : Int} (h : Hold K cn sq a xs B P) : Walks K cn (ItE sq k a) (enumD k xs) B P where
  keepA := h.keepA
  go := fun {Z i x} hR hP e => by
    rw [enumD_get] at e
    obtain ⟨y, hy, rfl⟩ := Option.map_eq_some_iff.mp e
    obtain ⟨vs, h1, h2⟩ := h.at_ hR hP
    obtain ⟨v, hv, hr⟩ := h2.get hy
    refine ⟨⟨vs, v, h1, hv⟩, fun w H' z => ?_⟩
    obtain ⟨T, u, rfl, hT, rfl, hu⟩ := z
    have hu := hu vs h1
    rw [hv] at hu; cases hu
    have g : Ex Z.G (upd Z.G T (.tup [.int (k + (i : Nat)), v])) := fun b o q => by rw [upd_ne (ne_of_none q (hR.gnone hT))]; exact q
    refine ⟨upd Z.G T (.tup [.int (k + (i : Nat)), v]), (hR.laid _ hT).settle (p := T) upd_same (hR.gnone hT) (hR.rnew hT) (hR.onew hT), .tup (.inl (.inl upd_same)) (.cons .int (.cons (hr.mono g (List.prefix_refl _)) .nil)), ?_⟩
    exact ((Step.laid hR _ hT).trans (Step.settle (hR.laid _ hT) (hR.gnone hT) (.inr rfl))).end0
  stop := fun {Z} hR hP => by
    obtain ⟨vs, h1, h2⟩ := h.at_ hR hP
    exact ⟨vs, h1, by rw [enumD_len, h2.length]; exact Nat.le_refl _⟩
end
end MP

set_option Elab.async false
set_option linter.all false
set_option maxRecDepth 100000
set_option maxHeartbeats 4000000
/-! MP29: for i, x in enumerate(..), for a, b in zip(..). -/
namespace MP
open PySem PySem.Spec PyProof.Rows L2
open Evl (Ex)
def isTup : RV → Bool
  | .d (.tup _) => true
  | _ => false
def enumOf (tupOk : Bool) (k : Int) (rs : List RV) : Mn (List MP.D × Hd) := fun sl st => match rs with
  | [r] => match srcOf r sl st with
    | .ok (xs, h) s t => if tupOk = true ∨ isTup r = false then .ok (enumD k xs, h) s t else .no
    | _ => .no
  | _ => .no
def mEnum (tupOk : Bool) (k : Int) (m : Mn (List RV)) : Mn (List MP.D × Hd) := bnd m (enumOf tupOk k)
section
variable {K : PySem.W.Frag} {cn : String → Addr} {W : WX} {X : Cx} {Z : Zt} {A : Addr → Prop}
theorem Walks.of {J J' : It} {xs : List MP.D} {B : Addr → Prop} {P : Zt → Prop} (w : Walks K cn J xs B P) (hg : ∀ i H, J.go i H → J'.go i H) (hy : ∀ i H v H', J'.yld i H v H' → J.yld i H v H') (hs : ∀ i H, J.stop i H → J'.stop i H) : Walks K cn J' xs B P where
  keepA := w.keepA
  go := fun hR hP e => let ⟨h1, h2⟩ := w.go hR hP e; ⟨hg _ _ h1, fun v H' y => h2 v H' (hy _ _ _ _ y)⟩
  stop := fun hR hP => hs _ _ (w.stop hR hP)
theorem enum_core {b : Bool} {k : Int} {m : Mn (List RV)} {σ : L2.St} {H : Hp} {T : It → Hp → Prop} (q : TMi K cn W (mEnum b k m) σ H T) : TMa K cn W m σ H fun vs H1 => ∃ a xs, vs = [V.ref a] ∧ ((SqL K H1 a xs ∧ T (ItE (SqL K) k a) H1 ∧ (k = 0 → T (Ite K a) H1)) ∨ (b = true ∧ SqT K H1 a xs ∧ T (ItE (SqT K) k a) H1)) := by
  obtain ⟨G, ρ, sl, st, hR, h⟩ := q
  refine ⟨G, ρ, sl, st, hR, ?_⟩
  unfold mEnum bnd at h
  cases e : m sl st with
  | no => rw [e] at h; exact h
  | exc C xs sl1 st1 => rw [e] at h; exact h
  | ok rs sl1 st1 =>
    rw [e] at h
    intro G1 H1 ρ1 vs hR1 hv hS
    replace h : PostI K cn W ⟨G, H, ρ, σ, sl, st⟩ (enumOf b k rs sl1 st1) T := h
    cases hv with
    | nil => exact h.elim
    | @cons r v rs' vs' h1 t _ =>
      cases t with
      | cons _ _ _ => exact h.elim
      | nil =>
        unfold enumOf at h
        dsimp only at h
        cases es : srcOf r sl1 st1 with
        | no => rw [es] at h; exact h.elim
        | exc => rw [es] at h; exact h.elim
        | ok p s2 t2 =>
          obtain ⟨xs, hd⟩ := p
          rw [es] at h
          dsimp only at h
          obtain ⟨rfl, rfl, a, rfl, ⟨us, B, P, k1, k2, k3, k4⟩ | ⟨⟨ys, rfl⟩, us, B, P, k1, k2, k3, k4⟩⟩ := src_hold (Z := ⟨G1, H1, ρ1, σ, sl1, st1⟩) hR1 h1 es
          · by_cases c : b = true ∨ isTup r = false
            · rw [if_pos c] at h
              have w := walks_enum (k := k) k2
              refine ⟨a, us, rfl, .inl ⟨k1, h G1 H1 ρ1 _ _ _ _ hR1 hS k3 w k4, fun hk => ?_⟩⟩
              subst hk
              refine h G1 H1 ρ1 _ (Ite K a) _ _ hR1 hS k3 (w.of (fun i H z => z) (fun i H v H' z => ?_) (fun i H z => z)) k4
              obtain ⟨T', x, e1, e2, e3, e4⟩ := z
              exact ⟨T', x, e1, e2, by rw [e3, Int.zero_add], e4⟩
            · rw [if_neg c] at h; exact h.elim
          · cases b with
            | false => exact h.elim
            | true => exact ⟨a, us, rfl, .inr ⟨rfl, k1, (show PostI K cn W ⟨G, H, ρ, σ, sl, st⟩ (.ok (enumD k xs, hd) _ _) T from h) G1 H1 ρ1 _ _ _ _ hR1 hS k3 (walks_enum (k := k) k2) k4⟩⟩
theorem mi_enum {e : Expr} {m : Mn RV} {p pos tpos : Pos} {elts : List Expr} {kk : Nat} (hg : Gl X "enumerate") (hm : X.mg "enumerate" = none) (he : PE X e (TM X.K cn W m)) (hs : starEach [e] X.env = [(false, eval e X.env)] := by rfl) :
    PI X (.Tuple elts kk tpos) (.Call (.Name "enumerate" p) [e] [] pos) (TMi X.K cn W (mEnum false 0 (mCons m mNil))) :=
  PI.imp (pi_enum hg hm (ma_cons he ma_nil (by rw [hs]; rfl)) hs) fun σ H T q => TMa.len1 (enum_core q) fun v H1 z => by
    obtain ⟨a, xs, e1, ⟨k1, _, k2⟩ | ⟨k1, _⟩⟩ := z
    · exact ⟨a, xs, e1, k1, k2 rfl⟩
    · cases k1
theorem mi_enumS {e : Expr} {m : Mn RV} {k : Int} {kws : List Keyword} {p pos tpos : Pos} {elts : List Expr} {kk : Nat} (hg : Gl X "enumerate") (hm : X.mg "enumerate" = none) (he : PE X e (TM X.K cn W m)) (hk : PK X kws (tCons (tC (.int k)) tNil)) (k0 : -(2 ^ 63) ≤ k) (k1 : k < 2 ^ 63)
    (hall : (backToKw pos (keywordEach kws X.env)).all (·.1.isSome) = true := by rfl) (hn : (backToKw pos (keywordEach kws X.env)).any (·.1.isNone) = false := by rfl) (hks : (backToKw pos (keywordEach kws X.env)).filterMap (·.1) = [Str.ofString "start"] := by rfl)
    (hee : backTo pos (starEach [e] X.env) = (false, eval e X.env) :: backTo pos (starEach [] X.env) := by rfl) (hpl : (backTo pos (starEach [e] X.env)).any (·.1) = false := by rfl) (hs : starEach [e] X.env = [(false, eval e X.env)] := by rfl) :
    PI X (.Tuple elts kk tpos) (.Call (.Name "enumerate" p) [e] kws pos) (TMi X.K cn W (mEnum true k (mCons m mNil))) :=
  PI.imp (pi_enumS hg hm (ma_cons he ma_nil (by rw [hs]; rfl)) hk hall hn hks hee hpl) fun σ H T q => TMa.len1 (enum_core q) fun v H1 z => by
    obtain ⟨a, xs, e1, z⟩ := z
    refine ⟨a, xs, k, e1, rfl, k0, k1, ?_⟩
    rcases z with ⟨z1, z2, _⟩ | ⟨_, z1, z2⟩
    · exact .inl ⟨z1, z2⟩
    · exact .inr ⟨z1, z2⟩
/-! ### zip -/
def zipD : List MP.D → List MP.D → List MP.D
  | x :: xs, y :: ys => .tup [x, y] :: zipD xs ys
  | _, _ => []
theorem zipD_get : ∀ (xs ys : List MP.D) (i : Nat) (z : MP.D), (zipD xs ys)[i]? = some z → ∃ x y, xs[i]? = some x ∧ ys[i]? = some y ∧ z = .tup [x, y]
  | [], _, _, _, e => by simp [zipD] at e
  | _ :: _, [], _, _, e => by simp [zipD] at e
  | x :: xs, y :: ys, 0, z, e => by simp [zipD] at e; exact ⟨x, y, rfl, rfl, e.symm⟩
  | x :: xs, y :: ys, i + 1, z, e => by
    obtain ⟨u, v, h1, h2, h3⟩ := zipD_get xs ys i z (by simpa [zipD] using e)
    exact ⟨u, v, by simpa using h1, by simpa using h2, h3⟩
theorem zipD_len : ∀ (xs ys : List MP.D), xs.length ≤ (zipD xs ys).length ∨ ys.length ≤ (zipD xs ys).length
  | [], _ => .inl (Nat.le_refl _)
  | _ :: _, [] => .inr (Nat.le_refl _)
  | x :: xs, y :: ys => by
    rcases zipD_len xs ys with h | h
    · exact .inl (Nat.succ_le_succ h)
    · exact .inr (Nat.succ_le_succ h)
def ItZ (sq : Hp → Addr → List V → Prop) (a b : Addr) : It :=
  ⟨fun i H => ∃ (xs ys : List V) (x y : V), sq H a xs ∧ sq H b ys ∧ xs[i]? = some x ∧ ys[i]? = some y, fun i H v H' => ∃ T x y, v = .ref T ∧ H T = none ∧ H' = upd H T (.tup [x, y]) ∧ (∀ xs, sq H a xs → xs[i]? = some x) ∧ ∀ ys, sq H b ys → ys[i]? = some y, fun i H => ∃ xs ys : List V, sq H a xs ∧ sq H b ys ∧ (xs.length ≤ i ∨ ys.length ≤ i)⟩
theorem walks_zip {sq : Hp → Addr → List V → Prop} {a b : Addr} {xs ys : List MP.D} {P : Zt → Prop} (h : Hold K cn sq a xs NoA P) (h' : Hold K cn sq b ys NoA P) : Walks K cn (ItZ sq a b) (zipD xs ys) NoA P where
  keepA := h.keepA
  go := fun {Z i z} hR hP e => by
    obtain ⟨x, y, hx, hy, rfl⟩ := zipD_get _ _ _ _ e
    obtain ⟨vs, h1, h2⟩ := h.at_ hR hP
    obtain ⟨ws, h3, h4⟩ := h'.at_ hR hP
    obtain ⟨v, hv, hr⟩ := h2.get hx
    obtain ⟨w, hw, hs⟩ := h4.get hy
    refine ⟨⟨vs, ws, v, w, h1, h3, hv, hw⟩, fun _ H' z => ?_⟩
    obtain ⟨T, u, u', rfl, hT, rfl, hu, hu'⟩ := z
    have q1 := hu vs h1
    rw [hv] at q1; cases q1
    have q2 := hu' ws h3
    rw [hw] at q2; cases q2
    have g : Ex Z.G (upd Z.G T (.tup [v, w])) := fun b o q => by rw [upd_ne (ne_of_none q (hR.gnone hT))]; exact q
    refine ⟨upd Z.G T (.tup [v, w]), (hR.laid _ hT).settle (p := T) upd_same (hR.gnone hT) (hR.rnew hT) (hR.onew hT), .tup (.inl (.inl upd_same)) (.cons (hr.mono g (List.prefix_refl _)) (.cons (hs.mono g (List.prefix_refl _)) .nil)), ?_⟩
    exact ((Step.laid hR _ hT).trans (Step.settle (hR.laid _ hT) (hR.gnone hT) (.inr rfl))).end0
  stop := fun {Z} hR hP => by
    obtain ⟨vs, h1, h2⟩ := h.at_ hR hP
    obtain ⟨ws, h3, h4⟩ := h'.at_ hR hP
    refine ⟨vs, ws, h1, h3, ?_⟩
    rw [← h2.length, ← h4.length]
    exact zipD_len xs ys
def zipOf (ds : List MP.D) : Mn (List MP.D × Hd) := fun sl st => match ds with
  | [.lst xs, .lst ys] => .ok (zipD xs ys, .none) sl st
  | [.tup xs, .tup ys] => .ok (zipD xs ys, .none) sl st
  | _ => .no
def mZip (m : Mn (List RV)) : Mn (List MP.D × Hd) := bnd m fun rs => bnd (escs rs) zipOf
theorem zip_core {m : Mn (List RV)} {σ : L2.St} {H : Hp} {T : It → Hp → Prop} (q : TMi K cn W (mZip m) σ H T) : TMa K cn W m σ H fun vs H1 => ∃ a b xs ys, vs = [V.ref a, V.ref b] ∧ ((SqL K H1 a xs ∧ SqL K H1 b ys ∧ T (Itz K a b) H1) ∨ (SqT K H1 a xs ∧ SqT K H1 b ys ∧ T (RZ.ItzT K a b) H1)) := by
  obtain ⟨G, ρ, sl, st, hR, h⟩ := q
  refine ⟨G, ρ, sl, st, hR, ?_⟩
  unfold mZip bnd at h
  cases e : m sl st with
  | no => rw [e] at h; exact h
  | exc C xs sl1 st1 => rw [e] at h; exact h
  | ok rs sl1 st1 =>
    rw [e] at h
    intro G1 H1 ρ1 vs hR1 hv hS
    replace h : PostI K cn W ⟨G, H, ρ, σ, sl, st⟩ (bnd (escs rs) zipOf sl1 st1) T := h
    unfold bnd at h
    cases es : escs rs sl1 st1 with
    | no => rw [es] at h; exact h.elim
    | exc C xs s t =>
      exfalso
      exact escs_ex es
    | ok ds s2 t2 =>
      rw [es] at h
      obtain ⟨rfl, G2, hR2, hx, hS2⟩ := escs_ok (Z := ⟨G1, H1, ρ1, σ, sl1, st1⟩) hR1 hv es
      replace h : PostI K cn W ⟨G, H, ρ, σ, sl, st⟩ (zipOf ds s2 t2) T := h
      unfold zipOf at h
      split at h
      · cases hx with
        | cons h1 t1 => cases t1 with
          | cons h2 t2 =>
            cases t2
            cases h1 with
            | @lst _ a us k1 k2 =>
              cases h2 with
              | @lst _ b ws k3 k4 => exact ⟨a, b, us, ws, rfl, .inl ⟨Evl.ex_l hR2.ex k1, Evl.ex_l hR2.ex k3, h G2 H1 ρ1 _ (Itz K a b) _ _ hR2 (hS.trans hS2) (fun _ z => z.elim) ((walks_zip (hold_lstG k1 k2) (hold_lstG k3 k4)).of (fun _ _ z => z) (fun _ _ _ _ z => z) (fun _ _ z => z)) ⟨fun _ _ e => e, List.prefix_refl _⟩⟩⟩
      · cases hx with
        | cons h1 t1 => cases t1 with
          | cons h2 t2 =>
            cases t2
            cases h1 with
            | @tup _ a us k1 k2 =>
              cases h2 with
              | @tup _ b ws k3 k4 => exact ⟨a, b, us, ws, rfl, .inr ⟨Evl.ex_t hR2.ex k1, Evl.ex_t hR2.ex k3, h G2 H1 ρ1 _ (RZ.ItzT K a b) _ _ hR2 (hS.trans hS2) (fun _ z => z.elim) ((walks_zip (hold_tup k1 k2) (hold_tup k3 k4)).of (fun _ _ z => z) (fun _ _ _ _ z => z) (fun _ _ z => z)) ⟨fun _ _ e => e, List.prefix_refl _⟩⟩⟩
      · exact h.elim
theorem mi_zip {e e2 : Expr} {m m2 : Mn RV} {p pos tpos : Pos} {elts : List Expr} {kk : Nat} (hg : Gl X "zip") (hm : X.mg "zip" = none) (he : PE X e (TM X.K cn W m)) (he2 : PE X e2 (TM X.K cn W m2)) (hs : starEach [e, e2] X.env = (false, eval e X.env) :: starEach [e2] X.env := by rfl) (hs2 : starEach [e2] X.env = (false, eval e2 X.env) :: starEach [] X.env := by rfl)
    (hpl : (backTo pos (starEach [e2] X.env)).any (·.1) = false := by rfl) : PI X (.Tuple elts kk tpos) (.Call (.Name "zip" p) [e, e2] [] pos) (TMi X.K cn W (mZip (mCons m (mCons m2 mNil)))) :=
  PI.imp (RZ.pi_zipA hg hm (ma_cons he (ma_cons he2 ma_nil hs2) hs) hs hpl) fun σ H T q => zip_core q
end
end MP

set_option Elab.async false
set_option linter.all false
set_option maxRecDepth 100000
set_option maxHeartbeats 4000000
/-! MP30: sum(xs) where the items are whole numbers first, then instances with their own + and reflected +. -/
namespace MP
open PySem PySem.Spec PyProof.Rows L2
open Evl (Ex)
/-- the same context one unit deeper, where nothing may be raised -/
abbrev cxIn (X : Cx) : Cx := { X with A := X.A.in1, xe := fun _ _ => False }
theorem inv_in {X : Cx} {pins : List (Addr × Obj)} {σ : L2.St} {H : Hp} {s : Shared} (I : L2.Inv X pins σ H s) : L2.Inv (cxIn X) pins σ H s :=
  ⟨⟨I.ok.mod, I.ok.kind, I.ok.glob, I.ok.blt, I.ok.above, I.ok.inj, I.ok.has, I.ok.cab, fun h => I.ok.hd h, I.ok.frames, I.ok.stk, I.ok.exf, I.ok.bs, I.ok.bsz, I.ok.noex, I.ok.exfs, I.ok.funs, I.ok.frf⟩, I.os, I.bare, I.base, I.loc, I.cell, I.free, I.freeC, I.pin, I.hok, I.len⟩
theorem inv_out {X : Cx} {pins : List (Addr × Obj)} {σ : L2.St} {H : Hp} {s : Shared} (ok : X.Ok) (I : L2.Inv (cxIn X) pins σ H s) : L2.Inv X pins σ H s :=
  ⟨ok, I.os, I.bare, I.base, I.loc, I.cell, I.free, I.freeC, I.pin, I.hok, I.len⟩
abbrev fitsL (i : Int) : Prop := -(2 ^ 63) ≤ i ∧ i < 2 ^ 63
/-- the turns of a sum: st: all numbers so far; t: the sum so far -/
def SumC (K : PySem.W.Frag) (add : V → V → Hp → VK → Prop) (a S : Addr) (all : List V) : Bool → V → List V → Hp → VK → Prop
  | _, t, [], H, Q => SqL K H a all ∧ Q t H
  | st, t, x :: xs, H, Q => SqL K H a all ∧ ((st = true ∧ ∃ i j, t = .int i ∧ x = .int j ∧ fitsL j ∧ fitsL (i + j) ∧ SumC K add a S all true (.int (i + j)) xs (upd H S (.lst [.int (i + j)])) Q) ∨
      (((st = true ∧ ∃ i, t = .int i) ∨ (st = false ∧ ∃ p, t = .ref p)) ∧ (∃ p, x = .ref p) ∧ add t x H fun r H1 => (∃ p, r = .ref p) ∧ H1 S = some (.lst [t]) ∧ SumC K add a S all false r xs (upd H1 S (.lst [r])) Q))
abbrev stN (st : Bool) : Int := if st = true then 0 else 2
theorem sum_loop {X : Cx} (hc : X.calm = true) {add : R2S} {σ : L2.St} (hadd : OpRS (cxIn X) (binaryOp .Add) add) {pins : List (Addr × Obj)} {a it S : Addr} {all : List V} {Q : VK} :
    ∀ (xs : List V) (i : Nat) (st : Bool) (t : V) (s : Shared) (H : Hp), all.drop i = xs → L2.Inv X pins σ H s → s.heap.IsListIter it a i → FpOk X pins H it → H S = some (.lst [t]) → SumC X.K (add σ) a S all st t xs H Q → (st = true → ∃ n, t = .int n) → (st = false → ∃ p, t = .ref p) →
      codeAny (model X.prog X.w) X.A (.builtin "sum.loop" ⟨[.ref it, .ref S, rawInt (stN st), rawInt 0], []⟩) (fun r s' => match r with | .ok (.ret v) => EP X pins σ Q v s' | .ok _ => False | .error e => X.xe e s') s := by
  intro xs
  induction xs with
  | nil =>
    intro i st t s H hd I hit hf hS h ht hr
    obtain ⟨hq, hQ⟩ := h
    obtain ⟨z, its, n, rv, hl, e⟩ := I.lstM hS
    cases rv with
    | @cons _ tv _ _ r1 r2 =>
    cases r2
    obtain ⟨its2, rv2, p, _⟩ := I.list hq
    obtain ⟨f0, f1, f2, f3, f4, f5⟩ := hf
    have hlen := rv2.length
    have hi : all.length ≤ i := by
      have := congrArg List.length hd
      simp at this; omega
    refine codeAny_builtin F.entry_sum_loop ?_
    rw [Around.under_plainId F.plain_sum_loop _]
    have fin : ∀ h', Heap.ExtBut it s.heap h' → EP X pins σ Q tv { s with heap := h' } := fun h' eb => ⟨t, H, I.turned (t' := s.toks) (fun b o hb q => eb b o hb q) f0 f1 f3 f4 f5, r1, hQ⟩
    cases st with
    | true =>
      obtain ⟨n, rfl⟩ := ht rfl
      obtain ⟨tk, rfl⟩ := r1
      show wpAny _ X.A.in1 (seqItems? (.ref S) >>= _) _ _ s
      refine wpAny_bind (wpAny_seqItems e rfl ?_)
      show wpAny _ X.A.in1 (tryCatch (pyNext (.ref it)) _ >>= _) _ _ s
      refine wpAny_bind (wpAny_tryCatch (wpAny_pyNext_list_end (I.ok.hd hc) hit p.isList (by simp; omega) fun h' eb => ?_))
      exact wpAny_pure (fin h' eb)
    | false =>
      obtain ⟨n, rfl⟩ := hr rfl
      cases r1
      show wpAny _ X.A.in1 (seqItems? (.ref S) >>= _) _ _ s
      refine wpAny_bind (wpAny_seqItems e rfl ?_)
      show wpAny _ X.A.in1 (tryCatch (pyNext (.ref it)) _ >>= _) _ _ s
      refine wpAny_bind (wpAny_tryCatch (wpAny_pyNext_list_end (I.ok.hd hc) hit p.isList (by simp; omega) fun h' eb => ?_))
      exact wpAny_pure (fin h' eb)
  | cons x xs ih =>
    intro i st t s H hd I hit hf hS h ht hr
    obtain ⟨hq, h⟩ := h
    obtain ⟨z, its, n, rv, hl, e⟩ := I.lstM hS
    cases rv with
    | @cons _ tv _ _ r1 r2 =>
    cases r2
    obtain ⟨its2, rv2, p, _⟩ := I.list hq
    obtain ⟨f0, f1, f2, f3, f4, f5⟩ := id hf
    have hx : all[i]? = some x := by
      have := congrArg (fun l => l[0]?) hd
      simpa using this
    have hd2 : all.drop (i + 1) = xs := by
      have := congrArg (List.drop 1) hd
      simpa [List.drop_drop] using this
    obtain ⟨u, hu, ru⟩ := rv2.get hx
    have hSit : S ≠ it := fun z => by rw [z, f0] at hS; cases hS
    refine codeAny_builtin F.entry_sum_loop ?_
    rw [Around.under_plainId F.plain_sum_loop _]
    -- the iterator, one turn on
    have turn : ∀ {α : Type} (k : Option Value → Sem α) {Q' : α → Shared → Prop} {E' : Value → Shared → Prop} {E2 : Value → Sem (Option Value)}, (∀ h', h'.IsListIter it a (i + 1) → L2.Inv X pins σ H { s with heap := h' } → h'.get? S = some { cls := .type "list", data := .seq [tv].toArray n } → wpAny (model X.prog X.w) X.A.in1 (k (some u)) Q' E' { s with heap := h' }) → wpAny (model X.prog X.w) X.A.in1 (tryCatch (pyNext (.ref it)) E2 >>= k) Q' E' s := fun {α} k {Q' E' E2} hk =>
      wpAny_bind (wpAny_tryCatch (wpAny_pyNext_list_item hit p.isList (x := u) (by simpa using hu) fun h' st' sb => hk h' st' (I.turned (t' := s.toks) (fun b o hb q => (sb.2 b hb).trans q) f0 f1 f3 f4 f5) ((sb.2 S hSit).trans e)))
    -- a sum by the instances' own +
    have plainAdd : ∀ {h' : Heap} {Q' : Except Value Value → Shared → Prop}, h'.IsListIter it a (i + 1) → L2.Inv X pins σ H { s with heap := h' } → (add σ t x H fun r H1 => (∃ p, r = .ref p) ∧ H1 S = some (.lst [t]) ∧ SumC X.K (add σ) a S all false r xs (upd H1 S (.lst [r])) Q) →
        (∀ (q : Addr) (s2 : Shared) (H1 : Hp), L2.Inv X pins σ H1 s2 → s2.heap.IsListIter it a (i + 1) → FpOk X pins H1 it → H1 S = some (.lst [t]) → SumC X.K (add σ) a S all false (.ref q) xs (upd H1 S (.lst [.ref q])) Q → Q' (.ok (.ref q)) s2) →
        wpAny (model X.prog X.w) X.A.in1 (holding [u] (binaryOp .Add tv u)).attempt Q' X.xe { s with heap := h' } := fun {h' Q'} hit' I1 ha hk => by
      obtain ⟨o, e1, e2, e3⟩ := id hit'
      have I2 : L2.Inv (cxIn X) ((it, o) :: pins) σ H { s with heap := h' } := (inv_in I1).pins_of fun q hq => by
        rcases List.mem_cons.mp hq with rfl | hq
        · exact ⟨e1, f0, f1, f2, fun v z => by rw [e3] at z; cases z⟩
        · exact I1.pin q (List.mem_append_right _ hq)
      refine wpAny_attempt (wpAny_holding (wpAny_mono (hadd _ _ σ H t x tv u _ I2 r1 ru ha) (fun r s2 h2 => ?_) fun _ _ z => z.elim))
      obtain ⟨v, H1, I3, rr, ⟨q, rfl⟩, k1, k2⟩ := h2
      cases rr
      have pi := I3.pin (it, o) (List.mem_append_right _ List.mem_cons_self)
      have I4 : L2.Inv X pins σ H1 s2 := (inv_out I.ok I3).pins_of fun q hq => I3.pin q (List.mem_append_right _ (List.mem_cons_of_mem _ hq))
      exact hk q s2 H1 I4 ⟨o, pi.1, e2, e3⟩ ⟨pi.2.1, f1, f2, f3, f4, f5⟩ k1 k2
    -- behind it
    have after : ∀ (q : Addr) (s2 : Shared) (H1 : Hp), L2.Inv X pins σ H1 s2 → s2.heap.IsListIter it a (i + 1) → FpOk X pins H1 it → H1 S = some (.lst [t]) → SumC X.K (add σ) a S all false (.ref q) xs (upd H1 S (.lst [.ref q])) Q →
        ∀ (w1 : List Value), wpAny (model X.prog X.w) X.A.in1 (updateSeq S (fun _ => #[.ref q]) >>= fun _ => letGo w1 >>= fun _ => updateSeq S (fun _ => #[.ref q]) >>= fun _ => again (.builtin "sum.loop" ⟨[.ref it, .ref S, rawInt 2, rawInt 0], []⟩)) (fun fin s' => match fin with
          | .done f => (match (Except.ok f : Result) with | .ok (.ret v) => EP X pins σ Q v s' | .ok _ => False | .error e => X.xe e s')
          | .again c' => c'.quiet = true ∧ codeAny (model X.prog X.w) X.A c' (fun r s' => match r with | .ok (.ret v) => EP X pins σ Q v s' | .ok _ => False | .error e => X.xe e s') s') X.xe s2 := fun q s2 H1 J1 hit1 hf1 hS1 hs w1 => by
      obtain ⟨z2, its3, n2, rv3, hl3, e4⟩ := J1.lstM hS1
      have J2 := J1.lset (f := fun _ => #[.ref q]) (its' := [.ref q]) (ys := [.ref q]) (t' := s2.toks) hS1 e4 rfl (.cons rfl .nil) (by show 1 ≤ sizeLine; decide)
      have e5 := PySem.IsL.update e4 (fun _ => #[Value.ref q])
      have hS2 : (upd H1 S (.lst [.ref q])) S = some (.lst [.ref q]) := upd_same
      have J3 := J2.lset (f := fun _ => #[.ref q]) (its := [.ref q]) (its' := [.ref q]) (ys := [.ref q]) (t' := s2.toks) hS2 e5 rfl (.cons rfl .nil) (by show 1 ≤ sizeLine; decide)
      have eu : upd (upd H1 S (.lst [.ref q])) S (.lst [.ref q]) = upd H1 S (.lst [.ref q]) := by
        funext b
        by_cases c : b = S
        · rw [c, upd_same, upd_same]
        · rw [upd_ne c]
      rw [eu] at J3
      refine wpAny_bind (wpAny_updateSeq e4 rfl (wpAny_bind (wpAny_letGo (wpAny_bind (wpAny_updateSeq e5 rfl (wpAny_pure ⟨plainId_quiet F.plain_sum_loop _, ?_⟩))))))
      refine ih (i + 1) false (.ref q) _ (upd H1 S (.lst [.ref q])) hd2 J3 ?_ ?_ upd_same hs (fun z => by cases z) (fun _ => ⟨q, rfl⟩)
      · exact hit1.at fun o z => (Heap.get?_update_other _ _ hSit).trans ((Heap.get?_update_other _ _ hSit).trans z)
      · exact ⟨by rw [upd_ne (Ne.symm hSit)]; exact hf1.1, hf1.2⟩
    cases st with
    | true =>
      obtain ⟨m, rfl⟩ := ht rfl
      obtain ⟨tk, rfl⟩ := r1
      show wpAny _ X.A.in1 (seqItems? (.ref S) >>= _) _ _ s
      refine wpAny_bind (wpAny_seqItems e rfl ?_)
      show wpAny _ X.A.in1 (tryCatch (pyNext (.ref it)) _ >>= _) _ _ s
      refine turn _ fun h' hit' I1 eS => ?_
      rcases h with ⟨_, i0, j, e0, rfl, fj, fs, h⟩ | ⟨_, ⟨p0, rfl⟩, h⟩
      · cases e0
        obtain ⟨tj, rfl⟩ := ru
        show wpAny _ X.A.in1 (if (_ : Bool) = true then (mkInt (m + j) >>= _) else _) _ _ _
        split
        · refine wpAny_bind (wpAny_mkInt ?_)
          have J2 := I1.lset (f := fun _ => #[.int (m + j) s.toks]) (its' := [.int (m + j) s.toks]) (ys := [.int (m + j)]) (t' := s.toks + 1) hS (its := [.int m tk]) eS rfl (.cons ⟨_, rfl⟩ .nil) (by show 1 ≤ sizeLine; decide)
          refine wpAny_bind (wpAny_updateSeq eS rfl (wpAny_pure ⟨plainId_quiet F.plain_sum_loop _, ?_⟩))
          refine ih (i + 1) true (.int (m + j)) _ (upd H S (.lst [.int (m + j)])) hd2 J2 ?_ ?_ upd_same h (fun _ => ⟨_, rfl⟩) (fun z => by cases z)
          · exact hit'.at fun o z => (Heap.get?_update_other _ _ hSit).trans z
          · exact ⟨by rw [upd_ne (Ne.symm hSit)]; exact f0, f1, f2, f3, f4, f5⟩
        · rename_i hc
          exact (hc (show ((decide (-(2 ^ 63) ≤ j) && decide (j < 2 ^ 63)) && (decide (-(2 ^ 63) ≤ m + j) && decide (m + j < 2 ^ 63))) = true from by
            simp only [Bool.and_eq_true, decide_eq_true_eq]; exact ⟨fj, fs⟩)).elim
      · cases ru
        show wpAny _ X.A.in1 (PySem.rule _ >>= _) _ _ _
        refine wpAny_bind (wpAny_rule ?_)
        show wpAny _ X.A.in1 ((holding [Value.ref p0] (binaryOp .Add (.int m tk) (.ref p0))).attempt >>= _) _ _ _
        exact wpAny_bind (plainAdd hit' I1 h fun q s2 H1 k1 k2 k3 k4 k5 => after q s2 H1 k1 k2 k3 k4 k5 _)
    | false =>
      obtain ⟨m, rfl⟩ := hr rfl
      cases r1
      show wpAny _ X.A.in1 (seqItems? (.ref S) >>= _) _ _ s
      refine wpAny_bind (wpAny_seqItems e rfl ?_)
      show wpAny _ X.A.in1 (tryCatch (pyNext (.ref it)) _ >>= _) _ _ s
      refine turn _ fun h' hit' I1 eS => ?_
      rcases h with ⟨z, _⟩ | ⟨_, ⟨p0, rfl⟩, h⟩
      · cases z
      · cases ru
        show wpAny _ X.A.in1 ((holding [Value.ref p0] (binaryOp .Add (.ref m) (.ref p0))).attempt >>= _) _ _ _
        exact wpAny_bind (plainAdd hit' I1 h fun q s2 H1 k1 k2 k3 k4 k5 => after q s2 H1 k1 k2 k3 k4 k5 _)
/-- sum(xs): a number first, then as its turns say -/
def rSumO (K : PySem.W.Frag) (add : V → V → Hp → VK → Prop) : List V → Hp → VK → Prop := fun vs H Q => ∃ a xs, vs = [V.ref a] ∧ SqL K H a xs ∧ ∀ S, H S = none → SumC K add a S xs true (.int 0) xs (upd H S (.lst [.int 0])) Q
theorem no_start {M : Model} {A : Around} {E : Value → Shared → Prop} {s : Shared} {T : String} {tk : Tok} {α : Type} {k : Bool → Sem α} {Q : α → Shared → Prop} (hs : isSubtype (.type "int") (.type T) = pure false) (h : wpAny M A (k false) Q E s) : wpAny M A (isInstance (.int 0 tk) (.type T) >>= k) Q E s :=
  wpAny_bind (wpAny_isInstance (T := "int") (b := false) (typeIs_int _ _ _) hs h)
theorem cr_sumO {X : Cx} (hc : X.calm = true) {add : V → V → Hp → VK → Prop} (hadd : OpRS (cxIn X) (binaryOp .Add) (fun _ => add)) : CallR X (.builtin "sum") (rSumO X.K add) := by
  intro pins s σ H vs us Q I r h
  obtain ⟨a, xs, rfl, hq, h⟩ := h
  obtain ⟨its, rv, p, _⟩ := I.list hq
  rw [Vals.ref1 r]
  refine call_function_tree F.kind_sum F.plain_sum F.entry_sum (F.args_sum1 _) ?_
  unfold Builtin.«sum»
  simp only [List.length_cons, List.length_nil]
  rw [if_neg (by decide)]
  refine wpAny_bind (wpAny_of_eq (show Builtin.Builtins.bindParams "sum" ["start"] 0 { } = pure [none] from rfl) (wpAny_bind (wpAny_pyIter_list p.isList ?_)))
  refine wpAny_bind (wpAny_mkInt (wpAny_bind (wpAny_pure ?_)))
  simp only [List.forIn_cons, List.forIn_nil]
  refine wpAny_bind (wpAny_bind (no_start PySem.sub_int_str ?_))
  simp only [Bool.false_eq_true, if_false]
  refine wpAny_pure (wpAny_bind (no_start PySem.sub_int_bytes ?_))
  simp only [Bool.false_eq_true, if_false]
  refine wpAny_pure (wpAny_bind (no_start PySem.sub_int_bytearray ?_))
  simp only [Bool.false_eq_true, if_false]
  refine wpAny_pure (wpAny_pure (wpAny_bind (wpAny_newList ?_)))
  have I1 : L2.Inv X pins σ H { s with heap := s.heap.push { cls := .type "list_iterator", data := .fields #[.ref a, .int 0 0] }, toks := s.toks + 1 } := I.kept fun b o e => Heap.get?_push_of_some _ e
  have f1 : FpOk X pins H s.heap.objs.size := I.fpOk (Nat.le_refl _) I.fresh
  have I2 := I1.lnew (its := [.int 0 s.toks]) (ys := [.int 0]) (t' := s.toks + 1) (.cons ⟨_, rfl⟩ .nil) (by show 1 ≤ sizeLine; decide)
  have hS : H (s.heap.push { cls := .type "list_iterator", data := .fields #[.ref a, .int 0 0] }).objs.size = none := I1.fresh
  have hne : s.heap.objs.size ≠ (s.heap.push { cls := .type "list_iterator", data := .fields #[.ref a, .int 0 0] }).objs.size := by
    rw [Heap.size_push]; exact (Nat.succ_ne_self _).symm
  refine wpAny_pure ⟨plainId_quiet F.plain_sum_loop _, ?_⟩
  exact sum_loop hc hadd xs 0 true (.int 0) _ _ rfl I2 ⟨_, Heap.get?_push_of_some _ (Heap.get?_push_size _ rfl), rfl, rfl⟩ ⟨by rw [upd_ne hne]; exact f1.1, f1.2⟩ upd_same (h _ hS) (fun _ => ⟨0, rfl⟩) (fun z => by cases z)
end MP

set_option Elab.async false
set_option linter.all false
set_option maxRecDepth 100000
set_option maxHeartbeats 4000000
/-! MP31: the machine's sum of numbers and instances. -/
namespace MP
open PySem PySem.Spec PyProof.Rows L2
open Evl (Ex)
def obR : RV → Option (String × List (Str × MP.D))
  | .d (.obj C fs) => some (C, fs)
  | .f (.ins C fs) => some (C, fs)
  | _ => none
def sumS (C : String) (q : CRes) (k : MP.D → Sto → Option (MP.D × Sto)) : Option (MP.D × Sto) := match q with
  | .ok r st => match obR r with
    | some (C2, gs) => if C2 = C then k (.obj C2 gs) st else none
    | none => none
  | _ => none
def sumG (C : String) (fa fr : Fn) : Bool → MP.D → List MP.D → Sto → Option (MP.D × Sto)
  | _, t, [], st => some (t, st)
  | true, .int i, .int j :: xs, st => if fitsL j ∧ fitsL (i + j) then sumG C fa fr true (.int (i + j)) xs st else none
  | true, .int i, .obj C' fs :: xs, st => if C' = C then sumS C (fr [.obj C' fs, .int i] st) (fun t st => sumG C fa fr false t xs st) else none
  | false, .obj C' fs, .obj C'' gs :: xs, st => if C' = C ∧ C'' = C then sumS C (fa [.obj C' fs, .obj C'' gs] st) (fun t st => sumG C fa fr false t xs st) else none
  | _, _, _, _ => none
section
variable (K : PySem.W.Frag) (cn : String → Addr)
abbrev addO (C : String) (fa fr : Fn) : V → V → Hp → VK → Prop := fun x y H Q => rIO K cn WF C fr [] x y H Q ∨ rOO K cn WF C fa [] x y H Q
end
section
variable {K : PySem.W.Frag} {cn : String → Addr} {W : WX} {X : Cx} {A : Addr → Prop}
theorem sum_step {C : String} {q : CRes} {k : MP.D → Sto → Option (MP.D × Sto)} {Z : Zt} {S a : Addr} {all : List V} {tv : V} {Q : VK} {add : V → V → Hp → VK → Prop} {ws : List V} (hR : R K cn Z) (hq : SqL K Z.G a all) (hS : Z.H S = some (.lst [tv])) (gS : Z.G S = none) (rS : S ∉ Z.ρ) (oS : ¬ Z.own S)
    (h : match sumS C q k with | some (t', st') => PostE K cn W Z (· = S) (.ok (.d t') Z.sl st') Q | none => False)
    (next : ∀ (gs : List (Str × MP.D)) (st : Sto) (p : Addr) (Z' : Zt), R K cn Z' → Z'.σ = Z.σ → Z'.sl = Z.sl → Z'.st = st → Step Z (· = S) Z' (· = S) → Rep K cn Z'.G Z'.ρ (.obj C gs) (.ref p) → Z'.H S = some (.lst [.ref p]) → Z'.G S = none → S ∉ Z'.ρ → ¬ Z'.own S →
      (match k (.obj C gs) st with | some (t', st') => PostE K cn W Z' (· = S) (.ok (.d t') Z'.sl st') Q | none => False) → SumC K add a S all false (.ref p) ws Z'.H Q) :
    PostC K cn ⟨Z.G, Z.H, Z.ρ, [], [], Z.st⟩ q (fun r H1 => (∃ p, r = .ref p) ∧ H1 S = some (.lst [tv]) ∧ SumC K add a S all false r ws (upd H1 S (.lst [r])) Q) (WE WF []) := by
  cases q with
  | no => exact h
  | exc C xs st => exact h.elim
  | ok r st =>
    intro G H ρ v hR1 hv hS1
    obtain ⟨k1, k2, k3⟩ := hR.framed hR1 hS1
    unfold sumS at h
    dsimp only at h
    have main : ∀ (gs : List (Str × MP.D)) (p : Addr) (G' : Hp), v = .ref p → R K cn ⟨G', H, ρ, Z.σ, Z.sl, st⟩ → Rep K cn G' ρ (.obj C gs) (.ref p) → Step Z (· = S) ⟨G', H, ρ, Z.σ, Z.sl, st⟩ (· = S) → H S = some (.lst [tv]) → G' S = none → S ∉ ρ → ¬ Zt.own ⟨G', H, ρ, Z.σ, Z.sl, st⟩ S →
        (match k (.obj C gs) st with | some (t', st') => PostE K cn W Z (· = S) (.ok (.d t') Z.sl st') Q | none => False) → (∃ p, v = .ref p) ∧ H S = some (.lst [tv]) ∧ SumC K add a S all false v ws (upd H S (.lst [v])) Q := fun gs p G' ev hR2 hr hst s1 s2 s3 s4 hk => by
      subst ev
      refine ⟨⟨p, rfl⟩, s1, ?_⟩
      have hR3 := R.hand (Z := ⟨G', H, ρ, Z.σ, Z.sl, st⟩) (u := .lst [.ref p]) hR2 s1 s2 s3 s4
      have hst3 := hst.trans (Step.hand (Z := ⟨G', H, ρ, Z.σ, Z.sl, st⟩) (u := .lst [.ref p]) hR2 s3 s4)
      refine next gs st p ⟨G', upd H S (.lst [.ref p]), ρ, Z.σ, Z.sl, st⟩ hR3 rfl rfl rfl hst3 hr upd_same s2 s3 s4 ?_
      cases ek : k (.obj C gs) st with
      | none => rw [ek] at hk; exact hk
      | some q =>
        obtain ⟨t', st'⟩ := q
        rw [ek] at hk
        exact PostE.trans hst3 rfl hk
    obtain ⟨q1, q2, q3, q4, q5⟩ := k2.keep S _ hS gS rS oS (fun z => z.elim)
    cases er : obR r with
    | none => rw [er] at h; exact h.elim
    | some p =>
      obtain ⟨C2, gs⟩ := p
      rw [er] at h
      dsimp only at h
      by_cases c : C2 = C
      · subst c
        rw [if_pos rfl] at h
        have base : Step Z (· = S) ⟨G, H, ρ, Z.σ, Z.sl, st⟩ (fun a => rvA r v a ∨ a = S) := (k2.with (· = S)).less fun a z => z.elim False.elim id
        cases r with
        | d x =>
          cases x with
          | obj C' fs =>
            cases er
            cases hv with
            | @obj _ _ p dx vs e1 e2 => exact main gs p G rfl k1 (.obj e1 e2) (base.drop fun a z => .inr z) q1 q2 q3 q4 h
          | _ => cases er
        | f b =>
          cases b with
          | ins C' fs =>
            cases er
            obtain ⟨p, o, rfl, h1, h2, h3, h4, h5⟩ := hv
            have hpS : S ≠ p := fun z => q5 (show rvA (.f (.ins C2 gs)) (.ref p) S from by rw [z]; rfl)
            have np : ¬ Zt.own ⟨G, H, ρ, Z.σ, Z.sl, st⟩ p := k3 p rfl
            have st1 := (Step.settle (Z := ⟨G, H, ρ, Z.σ, Z.sl, st⟩) (A := (· = p)) (p := p) (o := o) k1 h2 rfl).with (· = S)
            refine main gs p (upd G p o) rfl (R.settle (Z := ⟨G, H, ρ, Z.σ, Z.sl, st⟩) k1 h1 h2 h3 np) (h5.rep h2) ((base.trans (st1.less fun a z => ?_)).drop fun a z => .inr z) q1 (by rw [upd_ne hpS]; exact q2) q3 q4 h
            rcases z with z | z
            · exact .inl (show V.ref p = V.ref a by rw [z])
            · exact .inr z
          | _ => cases er
        | sl i => cases er
      · rw [if_neg c] at h; exact h.elim
theorem sum_run {C : String} {fa fr : Fn} {a S : Addr} {all : List V} {Q : VK} : ∀ (xs : List MP.D) (ws : List V) (b : Bool) (t : MP.D) (tv : V) (Z : Zt), R K cn Z → Reps K cn Z.G Z.ρ xs ws → Rep K cn Z.G Z.ρ t tv → SqL K Z.G a all → Z.H S = some (.lst [tv]) → Z.G S = none → S ∉ Z.ρ → ¬ Z.own S →
    (match sumG C fa fr b t xs Z.st with | some (t', st') => PostE K cn W Z (· = S) (.ok (.d t') Z.sl st') Q | none => False) → SumC K (addO K cn C fa fr) a S all b tv ws Z.H Q := by
  intro xs
  induction xs with
  | nil =>
    intro ws b t tv Z hR hx ht hq hS gS rS oS h
    cases hx
    have h : PostE K cn W Z (· = S) (.ok (.d t) Z.sl Z.st) Q := by
      cases b <;> cases t <;> exact h
    exact ⟨Evl.ex_l hR.ex hq, h Z.G Z.H Z.ρ tv hR ht (Step.refl.drop fun _ z => z.elim)⟩
  | cons x xs ih =>
    intro ws b t tv Z hR hx ht hq hS gS rS oS h
    cases hx with
    | @cons _ w _ ws h1 h2 =>
    have own2 : ∀ {x' : MP.D} {C' : String} {fs : List (Str × MP.D)} {v : V}, Rep K cn Z.G Z.ρ (.obj C' fs) v → C' = C → ∃ p dx us, v = .ref p ∧ Z.H p = some (.ins (cn C) dx us) := fun {x' C' fs v} hr hc => by
      cases hr with
      | obj e1 e2 => subst hc; exact ⟨_, _, _, rfl, hR.ex _ _ e1⟩
    have nx : ∀ (gs : List (Str × MP.D)) (st : Sto) (p : Addr) (Z' : Zt), R K cn Z' → Z'.σ = Z.σ → Z'.sl = Z.sl → Z'.st = st → Step Z (· = S) Z' (· = S) → Rep K cn Z'.G Z'.ρ (.obj C gs) (.ref p) → Z'.H S = some (.lst [.ref p]) → Z'.G S = none → S ∉ Z'.ρ → ¬ Z'.own S →
      (match sumG C fa fr false (.obj C gs) xs st with | some (t', st') => PostE K cn W Z' (· = S) (.ok (.d t') Z'.sl st') Q | none => False) → SumC K (addO K cn C fa fr) a S all false (.ref p) ws Z'.H Q := fun gs st p Z' k1 k2 k3 k4 k5 k6 k7 k8 k9 k10 k11 => by
      subst k4
      exact ih ws false (.obj C gs) (.ref p) Z' k1 (h2.mono k5.g k5.r) k6 (Evl.ex_l k5.g hq) k7 k8 k9 k10 k11
    refine ⟨Evl.ex_l hR.ex hq, ?_⟩
    cases b with
    | true =>
      cases t with
      | int i =>
        cases x with
        | int j =>
          have e : sumG C fa fr true (.int i) (.int j :: xs) Z.st = if fitsL j ∧ fitsL (i + j) then sumG C fa fr true (.int (i + j)) xs Z.st else none := rfl
          rw [e] at h
          by_cases c : fitsL j ∧ fitsL (i + j)
          · rw [if_pos c] at h
            cases ht
            cases h1
            refine .inl ⟨rfl, i, j, rfl, rfl, c.1, c.2, ?_⟩
            have hst := Step.hand (Z := Z) (u := .lst [.int (i + j)]) hR rS oS
            refine ih ws true (.int (i + j)) (.int (i + j)) { Z with H := upd Z.H S (.lst [.int (i + j)]) } (R.hand hR hS gS rS oS) h2 .int hq upd_same gS rS oS ?_
            cases eg : sumG C fa fr true (.int (i + j)) xs Z.st with
            | none => rw [eg] at h; exact h.elim
            | some q =>
              obtain ⟨t', st'⟩ := q
              rw [eg] at h
              exact PostE.trans hst rfl h
          · rw [if_neg c] at h; exact h.elim
        | obj C' fs =>
          have e : sumG C fa fr true (.int i) (.obj C' fs :: xs) Z.st = if C' = C then sumS C (fr [.obj C' fs, .int i] Z.st) (fun t st => sumG C fa fr false t xs st) else none := rfl
          rw [e] at h
          by_cases c : C' = C
          · rw [if_pos c] at h
            cases ht
            obtain ⟨p, dx, us, rfl, ep⟩ := own2 (x' := .non) h1 c
            refine .inr ⟨.inl ⟨rfl, i, rfl⟩, ⟨p, rfl⟩, .inl ⟨⟨p, dx, us, rfl, ep⟩, ⟨i, rfl⟩, rfl, Z.G, Z.ρ, Z.st, [.obj C' fs, .int i], hR.bare, .cons h1 (.cons .int .nil), sum_step hR hq hS gS rS oS h nx⟩⟩
          · rw [if_neg c] at h; exact h.elim
        | _ => exact (show False from h).elim
      | _ => cases x <;> exact (show False from h).elim
    | false =>
      cases t with
      | obj C' fs =>
        cases x with
        | obj C'' gs =>
          have e : sumG C fa fr false (.obj C' fs) (.obj C'' gs :: xs) Z.st = if C' = C ∧ C'' = C then sumS C (fa [.obj C' fs, .obj C'' gs] Z.st) (fun t st => sumG C fa fr false t xs st) else none := rfl
          rw [e] at h
          by_cases c : C' = C ∧ C'' = C
          · rw [if_pos c] at h
            obtain ⟨p, dx, us, rfl, ep⟩ := own2 (x' := .non) h1 c.2
            obtain ⟨p', dx', us', rfl, ep'⟩ := own2 (x' := .non) ht c.1
            refine .inr ⟨.inr ⟨rfl, p', rfl⟩, ⟨p, rfl⟩, .inr ⟨⟨p', dx', us', rfl, ep'⟩, ⟨p, dx, us, rfl, ep⟩, rfl, Z.G, Z.ρ, Z.st, [.obj C' fs, .obj C'' gs], hR.bare, .cons ht (.cons h1 .nil), sum_step hR hq hS gS rS oS h nx⟩⟩
          · rw [if_neg c] at h; exact h.elim
        | _ => exact (show False from h).elim
      | _ => cases x <;> exact (show False from h).elim
def mSumO (C : String) (fa fr : Fn) (rs : List RV) : Mn RV := bnd (escs rs) fun ds sl st => match ds with
  | [.lst xs] => match sumG C fa fr true (.int 0) xs st with
    | some (t, st') => .ok (.d t) sl st'
    | none => .no
  | _ => .no
theorem sumO_ok {C : String} {fa fr : Fn} : OpOk K cn W (rSumO K (addO K cn C fa fr)) (mSumO C fa fr) := op_escs fun Z ds vs Q hR hx h => by
  split at h
  · rename_i xs
    cases hx with
    | cons h1 t =>
      cases t
      cases h1 with
      | @lst _ a ws k1 k2 =>
        refine ⟨a, ws, rfl, Evl.ex_l hR.ex k1, fun S hS => ?_⟩
        have hst := Step.laid (A := NoA) hR (.lst [.int 0]) hS
        refine sum_run (W := W) xs ws true (.int 0) (.int 0) { Z with H := upd Z.H S (.lst [.int 0]) } (R.laid hR _ hS) k2 .int k1 upd_same (hR.gnone hS) (hR.rnew hS) (hR.onew hS) ?_
        cases eg : sumG C fa fr true (.int 0) xs Z.st with
        | none => rw [eg] at h; exact h.elim
        | some q =>
          obtain ⟨t', st'⟩ := q
          rw [eg] at h
          exact PostE.trans (hst.drop fun a z => .inr z) rfl h
  · exact h.elim
theorem addO_rs {k k' : Nat} {f f' : Addr} {fd fd' : FuncData} {ps ps' : List Str} {fa fr : Fn} {C : String} (F : FnOk X.prog X.w X.K X.mg X.base (L2.CX X.prog X.w) k f fd ps (spM X.K cn fa 2)) (hr : Room (k + 1) X.A) (hb : Binds X.K fd ps []) (F' : FnOk X.prog X.w X.K X.mg X.base (L2.CX X.prog X.w) k' f' fd' ps' (spM X.K cn fr 2)) (hr' : Room (k' + 1) X.A) (hb' : Binds X.K fd' ps' [])
    (sf : PySem.W.selfFirst X.K (cn C) = true) (hs : PySem.W.findIn X.K (.ref (cn C)) (PySem.dunder "add") = some (some (.ref f))) (hf : PySem.W.isFn X.K (.ref f) = true) (hs' : PySem.W.findIn X.K (.ref (cn C)) (dunderR "add") = some (some (.ref f'))) (hf' : PySem.W.isFn X.K (.ref f') = true) (hsub : PySem.W.subIn X.K (.ref (cn C)) (.type "int") = some false) :
    OpRS (cxIn X) (binaryOp .Add) (fun _ => addO X.K cn C fa fr) :=
  OpRS.or (X := cxIn X) (r := fun _ => rIO X.K cn WF C fr []) (r' := fun _ => rOO X.K cn WF C fa [])
    (fun pins s σ H x y v u Q I rx ry h => ops_io (X := cxIn X) (W := WF) F' takes0 hr'.in1 hb' sf hs hs' hf' hsub pins s σ H x y v u Q I rx ry h)
    (fun pins s σ H x y v u Q I rx ry h => ops_oo (X := cxIn X) (W := WF) (op := .Add) F takes0 hr.in1 hb sf hs hf pins s σ H x y v u Q I rx ry h)
end
end MP

set_option Elab.async false
set_option linter.all false
set_option maxRecDepth 100000
set_option maxHeartbeats 4000000
/-! MP32: xs[::-1], [..] * n, lists of different lengths compared. -/
namespace MP
open PySem PySem.Spec PyProof.Rows L2
open Evl (Ex)
def gRev : List MP.D → PR
  | [.lst xs] => .f (.lst xs.reverse)
  | _ => .no
def gEqL (neg : Bool) : List MP.D → PR
  | [.lst xs, .lst ys] => if xs.length = ys.length then gDEq neg [.lst xs, .lst ys] else .d (.bl neg)
  | ds => gDEq neg ds
section
variable {K : PySem.W.Frag} {cn : String → Addr} {W : WX} {X : Cx} {Z : Zt} {A : Addr → Prop}
theorem Reps.snoc {G : Hp} {ρ : List Addr} {x : MP.D} {v : V} (h : Rep K cn G ρ x v) : ∀ {xs : List MP.D} {vs : List V}, Reps K cn G ρ xs vs → Reps K cn G ρ (xs ++ [x]) (vs ++ [v])
  | _, _, .nil => .cons h .nil
  | _, _, .cons h1 t => .cons h1 (Reps.snoc h t)
theorem Reps.reverse {G : Hp} {ρ : List Addr} : ∀ {xs : List MP.D} {vs : List V}, Reps K cn G ρ xs vs → Reps K cn G ρ xs.reverse vs.reverse
  | _, _, .nil => .nil
  | _, _, .cons h t => by
    rw [List.reverse_cons, List.reverse_cons]
    exact Reps.snoc h (Reps.reverse t)
def rRevL (K : PySem.W.Frag) : V → Hp → VK → Prop := fun x H1 Q => ∃ a xs, x = .ref a ∧ SqL K H1 a xs ∧ ∀ p, H1 p = none → Q (.ref p) (upd H1 p (.lst xs.reverse))
theorem ok_rev : POk K cn (r1l (rRevL K)) gRev := by
  intro Z xs vs Q hR hv hq
  unfold gRev at hq
  split at hq
  · obtain ⟨v, rfl, ⟨a, us, rfl, q1, r1⟩⟩ := hv.one
    exact ⟨_, rfl, a, us, rfl, q1, fun p hp => hq p _ hp (.lst r1.reverse)⟩
  · exact hq.elim
theorem me_rev {e : Expr} {m : Mn RV} {k : Nat} {p1 p2 p3 pos : Pos} (he : PE X e (TM X.K cn W m)) : PE X (.Subscript e (.Slice none none (some (.UnaryOp .USub (.Constant (.int 1) k p1) p2)) p3) pos) (TM X.K cn W (mOp (mPure gRev) (mCons m mNil))) :=
  PE.imp (pe_revL he) fun σ H Q h => tm_one σ H (tm_op ok_rev.op σ H Q h)
/-- [..] * n -/
def mRepL : List RV → Mn RV
  | [.f (.lst xs), .d (.int k)] => fun sl st => if -(2 ^ 63) ≤ k ∧ k < 2 ^ 63 ∧ xs.length * k.toNat ≤ sizeLine then .ok (.f (.lst (List.replicate k.toNat xs).flatten)) sl st else .no
  | _ => non
theorem Reps.rep {G : Hp} {ρ : List Addr} {xs : List MP.D} {vs : List V} (h : Reps K cn G ρ xs vs) : ∀ n : Nat, Reps K cn G ρ (List.replicate n xs).flatten (List.replicate n vs).flatten
  | 0 => .nil
  | n + 1 => by
    rw [List.replicate_succ, List.replicate_succ, List.flatten_cons, List.flatten_cons]
    exact h.append (Reps.rep h n)
theorem repL_ok : OpOk K cn W (r2l rRep) mRepL := by
  intro Z rs vs Q hR hv hq
  unfold mRepL at hq
  split at hq
  · rename_i xs k
    cases hv with
    | cons h1 t d1 =>
      cases t with
      | cons h2 t2 d2 =>
        cases t2
        obtain ⟨p, o, rfl, q1, q2, q3, q4, q5⟩ := h1
        obtain ⟨us, rfl, hr⟩ := q5.lst_inv
        cases (show Rep K cn Z.G Z.ρ (.int k) _ from h2)
        by_cases c : -(2 ^ 63) ≤ k ∧ k < 2 ^ 63 ∧ xs.length * k.toNat ≤ sizeLine
        · rw [if_pos c] at hq
          refine ⟨_, _, rfl, p, k, us, rfl, rfl, q1, c.1, c.2.1, by rw [← hr.length]; exact c.2.2, fun r hp => ?_⟩
          exact (fin_f hR (PostE.trans (A1 := NoA) (Z1 := Z) (Step.refl.end0) rfl hq) (.lst (hr.rep k.toNat)) hp)
        · rw [if_neg c] at hq; exact hq.elim
  · exact hq.elim
/-! lists of different lengths -/
def rEqLen (K : PySem.W.Frag) (neg : Bool) : R2 := fun x y H Q => ∃ a b xs ys, x = .ref a ∧ y = .ref b ∧ SqL K H a xs ∧ SqL K H b ys ∧ xs.length ≠ ys.length ∧ Q (.bl neg) H
theorem op_eqLen (hu : X.A.units < cLine) : OpR X (compareOp .Eq) (rEqLen X.K false) := by
  intro pins s σ H x y v u Q I rx ry h
  obtain ⟨a, b, xs, ys, rfl, rfl, ha, hb, hne, q⟩ := h
  cases rx
  cases ry
  obtain ⟨its, rv, p, _⟩ := I.list ha
  obtain ⟨its2, rv2, p2, _⟩ := I.list hb
  exact PySem.SeqAt.RcAt.lists_lengths p.isList p2.isList (by have := rv.length; have := rv2.length; simp; omega) hu _ _ _ _ ⟨.bl false, H, I, rfl, q⟩
theorem op_neLen (hu : X.A.units < cLine) : OpR X (compareOp .NotEq) (rEqLen X.K true) := by
  intro pins s σ H x y v u Q I rx ry h
  obtain ⟨a, b, xs, ys, rfl, rfl, ha, hb, hne, q⟩ := h
  cases rx
  cases ry
  obtain ⟨its, rv, p, _⟩ := I.list ha
  obtain ⟨its2, rv2, p2, _⟩ := I.list hb
  exact PySem.SeqAt.RcNeAt.lists_lengths p.isList p2.isList (by have := rv.length; have := rv2.length; simp; omega) hu _ _ _ _ ⟨.bl true, H, I, rfl, q⟩
theorem opR_or {f : Value → Value → Sem Value} {r r' : R2} (h : OpR X f r) (h' : OpR X f r') : OpR X f (fun x y H Q => r x y H Q ∨ r' x y H Q) := fun pins s σ H x y v u Q I rx ry q => q.elim (h pins s σ H x y v u Q I rx ry) (h' pins s σ H x y v u Q I rx ry)
theorem ok_eqL {r : R2} {neg : Bool} (h : POk K cn (r2l r) (gDEq neg)) : POk K cn (r2l fun x y H Q => r x y H Q ∨ rEqLen K neg x y H Q) (gEqL neg) := by
  intro Z xs vs Q hR hv hq
  have old : PostP K cn Z (gDEq neg xs) Q → r2l (fun x y H Q => r x y H Q ∨ rEqLen K neg x y H Q) vs Z.H Q := fun z => by
    obtain ⟨x, y, e, k⟩ := h Z xs vs Q hR hv z
    exact ⟨x, y, e, .inl k⟩
  unfold gEqL at hq
  split at hq
  · rename_i xs ys
    split at hq
    · exact old hq
    · rename_i hne
      obtain ⟨v, w, rfl, ⟨a, us, rfl, q1, r1⟩, ⟨b, ws, rfl, q2, r2⟩⟩ := hv.two
      exact ⟨_, _, rfl, .inr ⟨a, b, us, ws, rfl, rfl, q1, q2, by rw [← r1.length, ← r2.length]; exact hne, hq _ .bl⟩⟩
  · exact old hq
theorem op_deqL (hu : X.A.units + 64 < cLine) : OpR X (compareOp .Eq) (fun x y H Q => rDEq X.K false x y H Q ∨ rEqLen X.K false x y H Q) := opR_or (op_deq hu) (op_eqLen (by omega))
theorem op_dneL (hu : X.A.units + 64 < cLine) : OpR X (compareOp .NotEq) (fun x y H Q => rDEq X.K true x y H Q ∨ rEqLen X.K true x y H Q) := opR_or (op_dne hu) (op_neLen (by omega))
end
end MP

set_option Elab.async false
set_option linter.all false
set_option maxRecDepth 100000
set_option maxHeartbeats 4000000
/-! MP33: constants of a module, isinstance(x, (a, b)), list(text), for c in text. -/
namespace MP
open PySem PySem.Spec PyProof.Rows L2
open Evl (Ex)
section
variable {K : PySem.W.Frag} {cn : String → Addr} {W : WX} {X : Cx} {Z : Zt} {A : Addr → Prop}
/-! ### a module's constants -/
theorem me_glI {i : Int} {x : Str} {pos : Pos} (hg : Gl X x) (hm : ∃ t, X.mg x = some (.int i t)) (hd : (x == ("__debug__" : Str)) = false := by decide) : PE X (.Name x pos) (TM K cn W (mC (.int i))) := by
  obtain ⟨t, hm⟩ := hm
  exact PE.imp (pe_glob hg hm (v := .int i) ⟨t, rfl⟩ hd) (tm_c fun _ _ => .int)
theorem me_glS {z x : Str} {pos : Pos} (hg : Gl X x) (hm : ∃ t, X.mg x = some (.str z t)) (hd : (x == ("__debug__" : Str)) = false := by decide) : PE X (.Name x pos) (TM K cn W (mC (.str z))) := by
  obtain ⟨t, hm⟩ := hm
  exact PE.imp (pe_glob hg hm (v := .str z) ⟨t, rfl⟩ hd) (tm_c fun _ _ => .str)
/-! ### isinstance(x, (a, b)) -/
/-- one class of the row -/
def isi1 (Cs : List String) (isa : String → String → Option Bool) (x c : D) : Option Bool := match gIsiC Cs isa [x, c] with
  | .d (.bl b) => some b
  | _ => none
def isiA (Cs : List String) (isa : String → String → Option Bool) (x : D) : List D → Option Bool
  | [] => some false
  | c :: cs => match isi1 Cs isa x c, isiA Cs isa x cs with
    | some a, some b => some (a || b)
    | _, _ => none
def gIsiT (Cs : List String) (isa : String → String → Option Bool) : List D → PR
  | [x, .tup cs] => match cs with
    | [] => .no
    | c :: cs => match isiA Cs isa x (c :: cs) with
      | some b => .d (.bl b)
      | none => .no
  | _ => .no
theorem sqTAt {P : Program} {w : World} {H : Hp} {h : Heap} {a : Addr} {xs : List V} (hok : HOk P w H h) (KX : K.In h) (q : SqT K H a xs) : ∃ (its : List Value) (o : Obj) (n : Nat), Vals xs its ∧ h.get? a = some o ∧ o.cls = .type "tuple" ∧ o.data = .seq its.toArray n := by
  rcases q with q | ⟨o, its, n, e, hc, hd, _, hv⟩
  · obtain ⟨_, its, hv, o, e, hc, n, hd⟩ := (show ObjOk P w H h a (.tup xs) from q.ok hok)
    exact ⟨its, o, n, hv, e, hc, hd⟩
  · exact ⟨its.toList, o, n, hv, KX _ _ e, hc, by simp [hd]⟩
theorem vals_get : ∀ {vs : List V} {us : List Value}, us.length = vs.length → (∀ (j : Nat) (u : Value), us[j]? = some u → ∃ v, vs[j]? = some v ∧ RelV v u) → Vals vs us
  | [], [], _, _ => .nil
  | [], _ :: _, h, _ => by cases h
  | _ :: _, [], h, _ => by cases h
  | v :: vs, u :: us, hl, h => by
    obtain ⟨v', e, r⟩ := h 0 u rfl
    cases e
    exact .cons r (vals_get (by simpa using hl) fun j u e => h (j + 1) u e)
def rIsiU (K : PySem.W.Frag) : List V → Hp → VK → Prop := fun xs H Q => ∃ (x : V) (tp : Addr) (cs : List V) (t : Value) (us : List Value) (b : Bool), xs = [x, .ref tp] ∧ SqT K H tp cs ∧ Paired ClsV cs us ∧ TyX K H x t ∧ PySem.W.kitAny K t us = some b ∧ Q (.bl b) H
theorem call_isiU : CallR X (.builtin "isinstance") (rIsiU X.K) := by
  intro pins s σ H xs us Q I r h
  obtain ⟨x, tp, cs, t, ws, b, rfl, hT, k, ty, e, q⟩ := h
  obtain ⟨u1, u2, rfl, r1, r2⟩ := vals2 r
  cases (show u2 = Value.ref tp from r2)
  obtain ⟨P, Z, p, hx⟩ := kit_of I r1 ty
  obtain ⟨its, o, n, rv, h1, h2, h3⟩ := sqTAt I.hok I.kIn hT
  have e3 := ClsV.all k rv
  subst e3
  obtain ⟨oc, od, dt, sl⟩ := o
  simp only at h2 h3
  subst h2 h3
  exact PySem.W.kia_tup Z I.kIn p h1 e hx fun tk => ⟨.bl b, H, I.tok tk, rfl, q⟩
/-- the class of x is one value whatever c is -/
def tyVal (K : PySem.W.Frag) (cn : String → Addr) (Cs : List String) : D → Option Value
  | .obj C _ => if C ∈ Cs then some (.ref (cn C)) else none
  | x => (tyK x).map Value.type
theorem isi1_ok {Cs : List String} {isa : String → String → Option Bool} (hI : IsaOk K cn Cs isa) (hR : R K cn Z) {x c : D} {v w : V} {b : Bool} (h1 : RepH K cn Z x v) (h2 : RepH K cn Z c w) (h : isi1 Cs isa x c = some b) :
    ∃ t u, tyVal K cn Cs x = some t ∧ ClsV w u ∧ TyX K Z.H v t ∧ PySem.W.kitOne K t u = some b := by
  unfold isi1 at h
  cases x with
  | obj C fs =>
    cases c with
    | ty n =>
      unfold gIsiC at h
      dsimp only at h
      by_cases hc : C ∈ Cs ∧ n ∉ Cs
      · rw [if_pos hc] at h
        unfold gIsi tyK clK at h
        dsimp only at h
        obtain ⟨a, dx, us, rfl, e1, e2⟩ := h1
        cases h2.tyv
        cases er : isa C n with
        | none => rw [er] at h; cases h
        | some r =>
          rw [er] at h
          cases h
          obtain ⟨i1, i2, i3, i4, i5⟩ := hI.ins C hc.1
          exact ⟨_, _, by show (if C ∈ Cs then _ else _) = _; rw [if_pos hc.1], .ty _, .base (.ins e1 i1 i2 i3 i4 i5), hI.ob _ _ _ hc.1 hc.2 er⟩
      · rw [if_neg hc] at h; cases h
    | gl n =>
      unfold gIsiC at h
      dsimp only at h
      by_cases hc : C ∈ Cs ∧ n ∈ Cs
      · rw [if_pos hc] at h
        unfold gIsi tyK clK at h
        dsimp only at h
        obtain ⟨a, dx, us, rfl, e1, e2⟩ := h1
        cases h2.gl
        cases er : isa C n with
        | none => rw [er] at h; cases h
        | some r =>
          rw [er] at h
          cases h
          obtain ⟨i1, i2, i3, i4, i5⟩ := hI.ins C hc.1
          exact ⟨_, _, by show (if C ∈ Cs then _ else _) = _; rw [if_pos hc.1], .own _, .base (.ins e1 i1 i2 i3 i4 i5), hI.oo _ _ _ hc.1 hc.2 er⟩
      · rw [if_neg hc] at h; cases h
    | _ => cases h
  | _ =>
    cases c with
    | ty n =>
      unfold gIsiC at h
      dsimp only at h
      by_cases hc : n ∉ Cs
      · rw [if_pos hc] at h
        unfold gIsi at h
        dsimp only [clK] at h
        first
        | (unfold tyK at h; cases h; done)
        | (cases ea : isa _ n with
          | none => unfold tyK at h; dsimp only at h; rw [ea] at h; cases h
          | some r =>
            unfold tyK at h
            dsimp only at h
            rw [ea] at h
            cases h
            obtain ⟨k1, k2⟩ := RepH.tyB hI hR h1 rfl (fun C fs z => nomatch z)
            cases h2.tyv
            exact ⟨_, _, rfl, .ty _, k2, hI.bb _ _ _ k1 hc ea⟩)
      · rw [if_neg hc] at h; cases h
    | gl n =>
      unfold gIsiC at h
      dsimp only at h
      by_cases hc : n ∈ Cs
      · rw [if_pos hc] at h
        unfold gIsi at h
        dsimp only [clK] at h
        first
        | (unfold tyK at h; cases h; done)
        | (cases ea : isa _ n with
          | none => unfold tyK at h; dsimp only at h; rw [ea] at h; cases h
          | some r =>
            unfold tyK at h
            dsimp only at h
            rw [ea] at h
            cases h
            obtain ⟨k1, k2⟩ := RepH.tyB hI hR h1 rfl (fun C fs z => nomatch z)
            cases h2.gl
            exact ⟨_, _, rfl, .own _, k2, hI.bo _ _ _ k1 hc ea⟩)
      · rw [if_neg hc] at h; cases h
    | _ => cases h
theorem tyX_val {Cs : List String} {isa : String → String → Option Bool} (hI : IsaOk K cn Cs isa) (hR : R K cn Z) {x : D} {v : V} {t : Value} (h : RepH K cn Z x v) (e : tyVal K cn Cs x = some t) : TyX K Z.H v t := by
  cases x with
  | obj C fs =>
    have e : (if C ∈ Cs then some (Value.ref (cn C)) else none) = some t := e
    by_cases hc : C ∈ Cs
    · rw [if_pos hc] at e
      cases e
      obtain ⟨a, dx, us, rfl, e1, e2⟩ := h
      obtain ⟨i1, i2, i3, i4, i5⟩ := hI.ins C hc
      exact .base (.ins e1 i1 i2 i3 i4 i5)
    · rw [if_neg hc] at e; cases e
  | non => cases e; exact (RepH.tyB hI hR h rfl (fun C fs z => nomatch z)).2
  | bl => cases e; exact (RepH.tyB hI hR h rfl (fun C fs z => nomatch z)).2
  | int => cases e; exact (RepH.tyB hI hR h rfl (fun C fs z => nomatch z)).2
  | str => cases e; exact (RepH.tyB hI hR h rfl (fun C fs z => nomatch z)).2
  | lst => cases e; exact (RepH.tyB hI hR h rfl (fun C fs z => nomatch z)).2
  | tup => cases e; exact (RepH.tyB hI hR h rfl (fun C fs z => nomatch z)).2
  | dct => cases e; exact (RepH.tyB hI hR h rfl (fun C fs z => nomatch z)).2
  | _ => cases e
theorem isiA_ok {Cs : List String} {isa : String → String → Option Bool} (hI : IsaOk K cn Cs isa) (hR : R K cn Z) {x : D} {v : V} {t : Value} (h1 : RepH K cn Z x v) (ht : tyVal K cn Cs x = some t) :
    ∀ {cs : List D} {ws : List V} {b : Bool}, Reps K cn Z.G Z.ρ cs ws → isiA Cs isa x cs = some b → ∃ us, Paired ClsV ws us ∧ PySem.W.kitAny K t us = some b
  | [], _, b, .nil, h => by
    cases h
    exact ⟨[], .nil, kitAny_nil⟩
  | c :: cs, _, b, .cons r rr, h => by
    unfold isiA at h
    cases e1 : isi1 Cs isa x c with
    | none => rw [e1] at h; cases h
    | some a =>
      rw [e1] at h
      cases e2 : isiA Cs isa x cs with
      | none => rw [e2] at h; cases h
      | some a2 =>
        rw [e2] at h
        have h : some (a || a2) = some b := h
        obtain ⟨us, p, k⟩ := isiA_ok hI hR h1 ht rr e2
        have nc : ∀ i, c ≠ .cell i := fun i z => by
          subst z
          unfold isi1 at e1
          cases x <;> cases e1
        obtain ⟨t2, u, g1, g2, g3, g4⟩ := isi1_ok hI hR h1 (r.toH hR nc) e1
        rw [ht] at g1
        cases g1
        refine ⟨u :: us, .cons g2 p, ?_⟩
        cases h
        exact kitAny_cons g4 (fun z => by subst z; simpa using k) (fun z => by subst z; rfl)
theorem ok_isiT {Cs : List String} {isa : String → String → Option Bool} (hI : IsaOk K cn Cs isa) : POk K cn (rIsiU K) (gIsiT Cs isa) := by
  intro Z xs vs Q hR hv hq
  unfold gIsiT at hq
  split at hq
  · rename_i x cs0
    split at hq
    · exact hq.elim
    · rename_i c cs
      obtain ⟨v, w, rfl, h1, h2⟩ := hv.two
      cases e : isiA Cs isa x (c :: cs) with
      | none => rw [e] at hq; exact hq.elim
      | some b =>
        rw [e] at hq
        obtain ⟨a, us, rfl, q1, r1, _⟩ := h2.tup hR
        cases r1 with
        | cons r rr =>
          have e0 := e
          unfold isiA at e0
          cases e1 : isi1 Cs isa x c with
          | none => rw [e1] at e0; cases e0
          | some a1 =>
            have nc : ∀ i, c ≠ .cell i := fun i z => by
              subst z
              unfold isi1 at e1
              cases x <;> cases e1
            obtain ⟨t, u, g1, g2, g3, g4⟩ := isi1_ok hI hR h1 (r.toH hR nc) e1
            obtain ⟨ws, p, k⟩ := isiA_ok hI hR h1 g1 (.cons r rr) e
            exact ⟨_, _, _, t, ws, b, rfl, q1, p, g3, k, hq _ .bl⟩
  · exact hq.elim
/-! ### list(text) -/
def chars (x : Str) : List D := x.cps.toList.map fun c => .str ⟨#[c]⟩
theorem call_listStr (hc : X.calm = true) : CallR X (.type "list") (fun xs H Q => ∃ x : Str, xs = [.str x] ∧ x.cps.size ≤ sizeLine ∧ ∀ p, H p = none → Q (.ref p) (upd H p (.lst (x.cps.toList.map fun c => V.str ⟨#[c]⟩)))) := by
  intro pins s σ H xs us Q I r q
  obtain ⟨x, ex, hz, q⟩ := q
  subst ex
  obtain ⟨u, eu, rx⟩ := vals1 r
  subst eu
  obtain ⟨t, rfl⟩ := rx
  refine call_list_str (hn := hz) (I.ok.hd hc) x t fun h' tk acc c' hk hD hacc => ?_
  have hv : Vals (x.cps.toList.map fun c => V.str ⟨#[c]⟩) acc.toList := by
    refine vals_get (by rw [Array.length_toList, hacc.1, List.length_map, Array.length_toList]) fun j u e => ?_
    obtain ⟨c, t2, e1, e2⟩ := hacc.2 j u (by rw [← Array.getElem?_toList]; exact e)
    refine ⟨.str ⟨#[c]⟩, ?_, ⟨t2, e2⟩⟩
    rw [List.getElem?_map, Array.getElem?_toList, e1]
    rfl
  refine ⟨.ref s.heap.objs.size, upd H s.heap.objs.size (.lst (x.cps.toList.map fun c => V.str ⟨#[c]⟩)), I.laid (t' := tk) hk (Nat.le_refl _)
    (show ObjOk X.prog X.w _ _ _ (.lst (x.cps.toList.map fun c => V.str ⟨#[c]⟩)) from ⟨by rw [List.length_map]; simpa using hz, acc.toList, c', hv, by rw [Array.toArray_toList]; exact hD⟩), rfl, q _ (I.hok.fresh (Nat.le_refl _))⟩
def rListS2 : List V → Hp → VK → Prop := fun xs H Q => ∃ x : Str, xs = [.str x] ∧ x.cps.size ≤ sizeLine ∧ ∀ p, H p = none → Q (.ref p) (upd H p (.lst (x.cps.toList.map fun c => V.str ⟨#[c]⟩)))
def gListS : List D → PR
  | [.str x] => if x.cps.size ≤ sizeLine then .f (.lst (chars x)) else .no
  | _ => .no
theorem reps_chars {G : Hp} {ρ : List Addr} : ∀ (cs : List Nat), Reps K cn G ρ (cs.map fun c => D.str ⟨#[c]⟩) (cs.map fun c => V.str ⟨#[c]⟩)
  | [] => .nil
  | c :: cs => .cons .str (reps_chars cs)
theorem ok_listS : POk K cn rListS2 gListS := by
  intro Z xs vs Q hR hv hq
  unfold gListS at hq
  split at hq
  · rename_i x
    by_cases hz : x.cps.size ≤ sizeLine
    · rw [if_pos hz] at hq
      obtain ⟨v, rfl, h⟩ := hv.one
      cases h.str
      exact ⟨x, rfl, hz, fun p hp => hq p _ hp (.lst (reps_chars _))⟩
    · rw [if_neg hz] at hq; exact hq.elim
  · exact hq.elim
/-! ### for c in text -/
theorem walks_str {x : Str} : Walks K cn (Its x) (chars x) NoA (fun _ => True) where
  keepA := fun _ _ _ => trivial
  go := fun {Z i d} hR _ e => by
    unfold chars at e
    rw [List.getElem?_map, Array.getElem?_toList] at e
    cases e1 : x.cps[i]? with
    | none => rw [e1] at e; cases e
    | some c =>
      rw [e1] at e
      cases e
      refine ⟨(Array.getElem?_eq_some_iff.mp e1).1, fun w H' y => ?_⟩
      obtain ⟨rfl, c2, e2, rfl⟩ := y
      rw [e1] at e2
      cases e2
      exact ⟨Z.G, hR, .str, Step.refl⟩
  stop := fun {Z} hR _ => by
    show x.cps.size ≤ _
    unfold chars
    rw [List.length_map, Array.length_toList]
    exact Nat.le_refl _
def srcS (r : RV) : Mn (List MP.D × Hd) := fun sl st => match view sl st r with
  | some (.str x) => .ok (chars x, .none) sl st
  | _ => .no
def mSrcS (m : Mn RV) : Mn (List MP.D × Hd) := bnd m srcS
theorem mi_str {tg l : Expr} {m : Mn RV} (hl : PE X l (TM K cn W m)) : PI X tg l (TMi K cn W (mSrcS m)) :=
  PI.imp (pi_str hl) fun σ H T q => by
    obtain ⟨G, ρ, sl, st, hR, h⟩ := q
    refine ⟨G, ρ, sl, st, hR, ?_⟩
    unfold mSrcS bnd at h
    cases e : m sl st with
    | no => rw [e] at h; exact h
    | exc C xs sl1 st1 => rw [e] at h; exact h
    | ok r sl1 st1 =>
      rw [e] at h
      intro G1 H1 ρ1 v hR1 hv hS
      have h : PostI K cn W ⟨G, H, ρ, σ, sl, st⟩ (srcS r sl1 st1) T := h
      unfold srcS at h
      cases ev : view sl1 st1 r with
      | none => rw [ev] at h; exact h.elim
      | some d =>
        rw [ev] at h
        cases d with
        | str x =>
          have hx := (view_ok hR1 hv ev).str
          exact ⟨x, hx, h G1 H1 ρ1 _ (Its x) _ _ hR1 hS (fun _ z => z.elim) walks_str trivial⟩
        | _ => exact h.elim
/-! ### list(range(..)) -/
def rLr : List V → Hp → VK → Prop := fun vs H Q => ∃ lo hi : Int, (vs = [.int hi] ∧ lo = 0 ∨ vs = [.int lo, .int hi]) ∧ (-(2 ^ 62) ≤ lo ∧ lo < 2 ^ 62 ∧ -(2 ^ 62) ≤ hi ∧ hi < 2 ^ 62) ∧ (hi - lo).toNat ≤ 2 ^ 24 ∧ ∀ p, H p = none → Q (.ref p) (upd H p (.lst ((List.range (hi - lo).toNat).map fun (i : Nat) => V.int (lo + i))))
theorem lr_core {pins : List (Addr × Obj)} {σ : L2.St} {H : Hp} {s : Shared} {lo hi : Int} {t u v : Tok} {tk : Nat} {Q : VK} (hc : X.calm = true) (I : Inv X pins σ H s) (h1 : -(2 ^ 62) ≤ lo) (h2 : lo < 2 ^ 62) (h3 : -(2 ^ 62) ≤ hi) (h4 : hi < 2 ^ 62) (hn : (hi - lo).toNat ≤ 2 ^ 24)
    (q : ∀ p, H p = none → Q (.ref p) (upd H p (.lst ((List.range (hi - lo).toNat).map fun (i : Nat) => V.int (lo + i))))) :
    wpAny (model X.prog X.w) X.A (call (.type "list") [.ref s.heap.objs.size]) (EP X pins σ Q) X.xe { s with heap := s.heap.push { cls := .type "range", data := .fields #[.int lo t, .int hi u, .int 1 v] }, toks := tk } := by
  have I1 : Inv X pins σ H { s with heap := s.heap.push { cls := .type "range", data := .fields #[.int lo t, .int hi u, .int 1 v] }, toks := tk } := I.kept fun b o e => Heap.get?_push_of_some _ e
  have e2 : (Builtin.Range.rangeSize lo hi 1 : Int) = ((hi - lo).toNat : Nat) := by rw [rangeSize_one]; split <;> omega
  refine call_list_range (I.ok.hd hc) (IsRange.new ..) (small_one h1 h2 h3 h4) e2 hn fun h' tk acc c' hk hD hacc => ?_
  have hv : Vals ((List.range (hi - lo).toNat).map fun (i : Nat) => V.int (lo + i)) acc.toList := by
    refine vals_get (by rw [Array.length_toList, hacc.1, List.length_map, List.length_range]) fun j u e => ?_
    have hj : j < (hi - lo).toNat := by
      have := (List.getElem?_eq_some_iff.mp e).1
      rw [Array.length_toList, hacc.1] at this
      exact this
    obtain ⟨t2, e1⟩ := hacc.2 j u (by rw [← Array.getElem?_toList]; exact e)
    refine ⟨.int (lo + j), ?_, ⟨t2, ?_⟩⟩
    · rw [List.getElem?_map, List.getElem?_range hj]
      rfl
    · rw [e1, Int.mul_one]
  refine ⟨.ref (s.heap.push { cls := .type "range", data := .fields #[.int lo t, .int hi u, .int 1 v] }).objs.size, upd H (s.heap.push { cls := .type "range", data := .fields #[.int lo t, .int hi u, .int 1 v] }).objs.size (.lst ((List.range (hi - lo).toNat).map fun (i : Nat) => V.int (lo + i))), I1.laid (t' := tk) hk (Nat.le_refl _)
    (show ObjOk X.prog X.w _ _ _ (.lst ((List.range (hi - lo).toNat).map fun (i : Nat) => V.int (lo + i))) from ⟨by rw [List.length_map, List.length_range]; exact Nat.le_trans hn (by decide), acc.toList, c', hv, by rw [Array.toArray_toList]; exact hD⟩), rfl, q _ (I1.hok.fresh (Nat.le_refl _))⟩
theorem pe_listRange {a : Expr} {es : List Expr} {ta : TA} {p pos p2 pos2 : Pos} (hc : X.calm = true) (hgl : Gl X "list") (hml : X.mg "list" = none) (hg : Gl X "range") (hm : X.mg "range" = none) (ha : PA X (a :: es) ta)
    (hs : starEach [.Call (.Name "range" p2) (a :: es) [] pos2] X.env = [(false, eval (.Call (.Name "range" p2) (a :: es) [] pos2) X.env)] := by rfl)
    (he : starEach (a :: es) X.env = (false, eval a X.env) :: starEach es X.env := by rfl) (hpl : (backTo pos2 (starEach es X.env)).any (·.1) = false := by rfl) :
    PE X (.Call (.Name "list" p) [.Call (.Name "range" p2) (a :: es) [] pos2] [] pos) (fun σ H Q => ta σ H fun vs H1 => rLr vs H1 Q) := by
  refine ⟨fun pins s σ H Q I h => ?_⟩
  refine Call_ (ld_blt I hgl hml PyProof.Rows.boot_list (PyProof.Rows.callWith_type1 ?_ hs rfl))
  rw [hs]
  refine Calls.spliced_cons ?_
  refine Call_ (ld_blt I hg hm PyProof.Rows.boot_range (PyProof.Rows.callWith_type1 (thn (ha.run pos2 pins s σ H _ I h) fun us s1 ⟨vs, H1, I1, r1, q1⟩ => ?_) he hpl))
  obtain ⟨lo, hi, ev, ⟨h1, h2, h3, h4⟩, hn, q⟩ := q1
  rcases ev with ⟨rfl, rfl⟩ | rfl
  · obtain ⟨u, eu, rx⟩ := vals1 r1
    subst eu
    obtain ⟨t, rfl⟩ := rx
    exact call_range_1 (Calls.spliced_nil (lr_core hc I1 h1 h2 h3 h4 hn q))
  · obtain ⟨u1, u2, rfl, rx, ry⟩ := vals2 r1
    obtain ⟨t, rfl⟩ := rx
    obtain ⟨t', rfl⟩ := ry
    exact call_range_2 (Calls.spliced_nil (lr_core hc I1 h1 h2 h3 h4 hn q))
/-- the numbers of a range as data -/
def upto (lo hi : Int) : List D := (List.range (hi - lo).toNat).map fun (i : Nat) => D.int (lo + i)
def gLr : List D → PR
  | [.int hi] => if (-(2 ^ 62) ≤ hi ∧ hi < 2 ^ 62) ∧ (hi - 0).toNat ≤ 2 ^ 24 then .f (.lst (upto 0 hi)) else .no
  | [.int lo, .int hi] => if (-(2 ^ 62) ≤ lo ∧ lo < 2 ^ 62 ∧ -(2 ^ 62) ≤ hi ∧ hi < 2 ^ 62) ∧ (hi - lo).toNat ≤ 2 ^ 24 then .f (.lst (upto lo hi)) else .no
  | _ => .no
theorem reps_upto {G : Hp} {ρ : List Addr} {lo : Int} : ∀ (ns : List Nat), Reps K cn G ρ (ns.map fun (i : Nat) => D.int (lo + i)) (ns.map fun (i : Nat) => V.int (lo + i))
  | [] => .nil
  | c :: cs => .cons .int (reps_upto cs)
theorem ok_lr : POk K cn rLr gLr := by
  intro Z xs vs Q hR hv hq
  unfold gLr at hq
  split at hq
  · rename_i hi
    by_cases hz : (-(2 ^ 62) ≤ hi ∧ hi < 2 ^ 62) ∧ (hi - 0).toNat ≤ 2 ^ 24
    · rw [if_pos hz] at hq
      obtain ⟨v, rfl, h⟩ := hv.one
      cases h.int
      exact ⟨0, hi, .inl ⟨rfl, rfl⟩, ⟨by decide, by decide, hz.1⟩, hz.2, fun p hp => hq p _ hp (.lst (reps_upto _))⟩
    · rw [if_neg hz] at hq; exact hq.elim
  · rename_i lo hi
    by_cases hz : (-(2 ^ 62) ≤ lo ∧ lo < 2 ^ 62 ∧ -(2 ^ 62) ≤ hi ∧ hi < 2 ^ 62) ∧ (hi - lo).toNat ≤ 2 ^ 24
    · rw [if_pos hz] at hq
      obtain ⟨v, w, rfl, h, h'⟩ := hv.two
      cases h.int
      cases h'.int
      exact ⟨lo, hi, .inr rfl, hz.1, hz.2, fun p hp => hq p _ hp (.lst (reps_upto _))⟩
    · rw [if_neg hz] at hq; exact hq.elim
  · exact hq.elim
theorem me_listRange {a : Expr} {es : List Expr} {ma : Mn (List RV)} {p pos p2 pos2 : Pos} (hc : X.calm = true) (hgl : Gl X "list") (hml : X.mg "list" = none) (hg : Gl X "range") (hm : X.mg "range" = none) (ha : PA X (a :: es) (TMa K cn W ma))
    (hs : starEach [.Call (.Name "range" p2) (a :: es) [] pos2] X.env = [(false, eval (.Call (.Name "range" p2) (a :: es) [] pos2) X.env)] := by rfl)
    (he : starEach (a :: es) X.env = (false, eval a X.env) :: starEach es X.env := by rfl) (hpl : (backTo pos2 (starEach es X.env)).any (·.1) = false := by rfl) :
    PE X (.Call (.Name "list" p) [.Call (.Name "range" p2) (a :: es) [] pos2] [] pos) (TM K cn W (mOp (mPure gLr) ma)) := PE.imp (pe_listRange hc hgl hml hg hm ha hs he hpl) fun σ H Q h => tm_op ok_lr.op σ H Q h
end
end MP

set_option Elab.async false
set_option linter.all false
set_option maxRecDepth 100000
set_option maxHeartbeats 4000000
/-! MP34: calls of functions that a local name holds. -/
namespace MP
open PySem PySem.Spec PyProof.Rows L2
open Evl (Ex)
/-- the functions that a name may hold: name, what it answers, how many arguments -/
def mCallV (i : Nat) (tbl : List (String × Fn × Nat)) (m : Mn (List RV)) : Mn RV := fun sl st => match sl[i]? with
  | some (.d (.gl nm)) => match List.lookup nm tbl with
    | some (φ, n) => mOp (callF φ n) m sl st
    | none => .no
  | _ => .no
section
variable {K : PySem.W.Frag} {cn : String → Addr} {W : WX} {X : Cx} {Z : Zt} {A : Addr → Prop}
structure HeldM (X : Cx) (K : PySem.W.Frag) (cn : String → Addr) (nm : String) (φ : Fn) (n : Nat) : Prop where
  ex : ∃ (k : Nat) (fd : FuncData) (ps : List Str), FnOk X.prog X.w X.K X.mg X.base (L2.CX X.prog X.w) k (cn nm) fd ps (spM K cn φ n) ∧ Room k X.A ∧ PySem.W.keepIn X.K (.ref (cn nm)) = true ∧ Binds X.K fd ps []
def HeldT (X : Cx) (K : PySem.W.Frag) (cn : String → Addr) (tbl : List (String × Fn × Nat)) : Prop := ∀ nm φ n, List.lookup nm tbl = some (φ, n) → HeldM X K cn nm φ n
theorem held_nil : HeldT X K cn [] := fun _ _ _ h => by cases h
theorem held_cons {nm : String} {φ : Fn} {n : Nat} {tbl : List (String × Fn × Nat)} {k : Nat} {f : Addr} {fd : FuncData} {ps : List Str} (e : cn nm = f) (F : FnOk X.prog X.w X.K X.mg X.base (L2.CX X.prog X.w) k f fd ps (spM K cn φ n)) (hr : Room k X.A) (hk : PySem.W.keepIn X.K (.ref f) = true) (hb : Binds X.K fd ps []) (t : HeldT X K cn tbl) : HeldT X K cn ((nm, φ, n) :: tbl) := by
  intro nm' φ' n' h
  rw [List.lookup] at h
  cases c : nm' == nm with
  | true =>
    rw [c] at h
    cases h
    cases (beq_iff_eq.mp c)
    subst e
    exact ⟨k, fd, ps, F, hr, hk, hb⟩
  | false =>
    rw [c] at h
    exact t _ _ _ h
theorem me_callV {i : Nat} {tbl : List (String × Fn × Nat)} {x : Str} {e : Expr} {es : List Expr} {p pos : Pos} {m : Mn (List RV)} (hT : HeldT X K cn tbl) (tk : Takes X W) (ha : PA X (e :: es) (TMa K cn W m)) (hN : X.N[i]? = some x := by rfl) (hv : Vis X.env.scope x := by first | exact Or.inl rfl | exact Or.inr (Or.inl rfl) | exact Or.inr (Or.inr rfl))
    (hdb : (x == ("__debug__" : Str)) = false := by decide) (hcd : (x == ("__classdict__" : Str)) = false := by decide) (he : starEach (e :: es) X.env = (false, eval e X.env) :: starEach es X.env := by rfl) (hpl : (backTo pos (starEach es X.env)).any (·.1) = false := by rfl) :
    PE X (.Call (.Name x p) (e :: es) [] pos) (TM K cn W (mCallV i tbl m)) := by
  refine ⟨fun pins s σ H Q I h => ?_⟩
  obtain ⟨G, ρ, sl, st, hR, h⟩ := h
  unfold mCallV at h
  cases es : sl[i]? with
  | none => rw [es] at h; exact h.elim
  | some t =>
    rw [es] at h
    cases t with
    | d y =>
      cases y with
      | gl nm =>
        dsimp only at h
        cases el : List.lookup nm tbl with
        | none => rw [el] at h; exact h.elim
        | some q =>
          obtain ⟨φ, n⟩ := q
          rw [el] at h
          obtain ⟨k, fd, ps, F, hr, hk, hb⟩ := (hT nm φ n el).ex
          obtain ⟨w, hw, rw'⟩ := (show SlOk K cn ⟨G, H, ρ, σ, sl, st⟩ i (.d (.gl nm)) from hR.slots i _ es)
          have ew : w = .ref (cn nm) := by cases rw'; rfl
          subst ew
          refine wpAny_Call_Name_kw (thn ((pe_var (pos := p) hN hv hdb hcd).run pins s σ H (fun v H1 => v = .ref (cn nm) ∧ H1 = H) I ⟨.ref (cn nm), hw, rfl, rfl⟩) fun u s1 ⟨v, H1, I1, r1, q1⟩ => ?_)
          obtain ⟨rfl, rfl⟩ := q1
          cases r1
          refine PySem.W.callWith_K (h₀ := X.base) I1.ok.mod.kin hk (thn (ha.run pos pins s1 σ H1 _ I1 (tm_opS callF_ok σ H1 Q ⟨G, ρ, sl, st, hR, h⟩)) fun us s2 ⟨vs, H2, I2, r, q⟩ => ⟨I2.kIn, ?_⟩) he hpl
          exact run_fnS F hr hb (passAt tk σ) I2 r q
      | _ => exact h.elim
    | _ => exact h.elim
end
end MP

set_option Elab.async false
set_option linter.all false
set_option maxRecDepth 100000
set_option maxHeartbeats 4000000
/-! MP35: calls of instances whose class has __call__. -/
namespace MP
open PySem PySem.Spec PyProof.Rows L2
open Evl (Ex)
/-- the first of the row is an instance of C -/
def gHead (C : String) : List D → Bool
  | .obj a _ :: _ => decide (a = C)
  | _ => false
section
variable {K : PySem.W.Frag} {cn : String → Addr} {W : WX} {X : Cx} {Z : Zt} {A : Addr → Prop}
theorem guardO_ok {C : String} {φ : Fn} {n : Nat} : OpOkS K cn W (fun σ vs H Q => (∃ a vs', vs = V.ref a :: vs' ∧ ∃ dx fs, H a = some (.ins (cn C) dx fs)) ∧ spM K cn φ n vs H Q (fun cls d H => W cls d σ H)) (mGuard (gHead C) (callF φ n)) := by
  intro Z rs vs Q hR hv hq
  unfold mGuard at hq
  cases e : views Z.sl Z.st rs with
  | none => rw [e] at hq; exact hq.elim
  | some xs =>
    rw [e] at hq
    dsimp only at hq
    by_cases c : gHead C xs = true
    · rw [if_pos c] at hq
      refine ⟨?_, callF_ok Z rs vs Q hR hv hq⟩
      have h := views_ok hR hv e
      unfold gHead at c
      split at c
      · cases h with
        | cons h1 t =>
          obtain ⟨a, dx, us, rfl, e1, e2⟩ := h1
          exact ⟨a, _, rfl, dx, us, by rw [← (of_decide_eq_true c)]; exact e1⟩
      · cases c
    · rw [if_neg c] at hq; exact hq.elim
theorem me_callO {k n : Nat} {f : Addr} {fd : FuncData} {ps : List Str} {φ : Fn} {C : String} {o e : Expr} {es : List Expr} {pos : Pos} {mo : Mn RV} {ma : Mn (List RV)} (c : StX.CallO X.K (cn C) f) (F : FnOk X.prog X.w X.K X.mg X.base (L2.CX X.prog X.w) k f fd ps (spM K cn φ n)) (tk : Takes X W) (hr : Room k X.A) (hb : Binds X.K fd ps []) (ho : PE X o (TM K cn W mo)) (ha : PA X (e :: es) (TMa K cn W ma))
    (ht : eval (.Call o (e :: es) [] pos) X.env = (do callWith pos (← eval o X.env) [] (backTo pos (starEach (e :: es) X.env)) (backToKw pos (keywordEach [] X.env))) := by rfl)
    (he : starEach (e :: es) X.env = (false, eval e X.env) :: starEach es X.env := by rfl) (hpl : (backTo pos (starEach es X.env)).any (·.1) = false := by rfl) :
    PE X (.Call o (e :: es) [] pos) (TM K cn W (mOp (mGuard (gHead C) (callF φ n)) (mCons (mIns C "__call__" mo) ma))) := by
  refine ⟨fun pins s σ H Q I h => ?_⟩
  have h1 := tm_ins (tma_cons σ H _ (tm_opS guardO_ok σ H Q h))
  refine Call_ (thn (ho.run pins s σ H _ I h1) fun u s1 ⟨y, H1, I1, ry, ⟨a, dx, fs, ey, _, _⟩, q⟩ => ?_) ht
  subst ey
  obtain rfl : u = Value.ref a := ry
  refine StX.callO_with (thn (ha.run pos pins s1 σ H1 _ I1 q) fun us s2 ⟨vs, H2, I2, r, ⟨a', vs', ev, dx', fs', e'⟩, q2⟩ => ?_) he hpl
  cases ev
  obtain ⟨ox, od, J, hd⟩ := StX.insC_at I2 (C := cn C) (.inr ⟨dx', fs', e'⟩)
  have r2 : Vals (V.ref a :: vs) (Value.ref a :: us) := .cons rfl r
  have hl : (Value.ref a :: us).length = ps.length := by rw [← r2.length]; exact F.len _ _ _ _ q2
  have b := hb s2 (.ref a :: us) I2.kIn (by rw [List.append_nil]; exact hl)
  rw [List.append_nil] at b
  refine ⟨⟨cn C, ox, od, J, hd⟩, wpAny_call (PySem.W.kco_code I2.kIn J hd c.at_ c.fn c.fi (codeAny_mono (F.run X.A X.stack s2 H2 ⟨.ref a :: us, []⟩ (.ref a :: us) (.ref a :: vs) Q _ hr I2.env0 b r2 q2) fun r s' hq => ?_))⟩
  cases r with
  | error e => exact (passAt tk σ) pins H2 s2 e s' I2 hq
  | ok fl =>
    cases fl with
    | ret u => exact I2.after hq
    | next => exact False.elim hq
    | brk => exact False.elim hq
    | cont => exact False.elim hq
end
end MP

set_option Elab.async false
set_option linter.all false
set_option maxRecDepth 100000
set_option maxHeartbeats 4000000
/-! MP36: calls of a value that is a function or an instance. -/
namespace MP
open PySem PySem.Spec PyProof.Rows L2
open Evl (Ex)
/-- the function with the name nm -/
def mGl (nm : String) (mo : Mn RV) : Mn RV := bnd mo fun r sl st => match view sl st r with
  | some (.gl m) => if m = nm then .ok r sl st else .no
  | _ => .no
/-- the first of the row is the function itself -/
def callT (φ : Fn) (n : Nat) (rs : List RV) : Mn RV := bnd (escs rs) fun ds sl st => match ds with
  | _ :: ds => if ds.length = n then ofC sl (φ ds st) else .no
  | [] => .no
def mCallX (tf tc : List (String × Fn × Nat)) (mo : Mn RV) (ma : Mn (List RV)) : Mn RV := fun sl st => match mo sl st with
  | .ok r sl1 st1 => match view sl1 st1 r with
    | some (.gl nm) => match List.lookup nm tf with
      | some (φ, n) => mOp (callT φ n) (mCons (mGl nm mo) ma) sl st
      | none => .no
    | some (.obj C _) => match List.lookup C tc with
      | some (φ, n) => mOp (mGuard (gHead C) (callF φ n)) (mCons (mIns C "__call__" mo) ma) sl st
      | none => .no
    | _ => .no
  | _ => .no
section
variable {K : PySem.W.Frag} {cn : String → Addr} {W : WX} {X : Cx} {Z : Zt} {A : Addr → Prop}
theorem tm_gl {mo : Mn RV} {nm : String} {σ : L2.St} {H : Hp} {P : VK} (h : TM K cn W (mGl nm mo) σ H P) : TM K cn W mo σ H fun x H1 => x = .ref (cn nm) ∧ P x H1 := by
  obtain ⟨G, ρ, sl, st, hR, q⟩ := h
  refine ⟨G, ρ, sl, st, hR, ?_⟩
  unfold mGl bnd at q
  cases e : mo sl st with
  | no => rw [e] at q; exact q
  | exc C xs s t => rw [e] at q; exact q
  | ok r s t =>
    rw [e] at q
    dsimp only at q
    intro G1 H1 ρ1 v hR1 hv1 hS
    cases e2 : view s t r with
    | none => rw [e2] at q; exact q.elim
    | some x =>
      rw [e2] at q
      have hx := view_ok hR1 hv1 e2
      cases x with
      | gl m =>
        dsimp only at q
        by_cases c : m = nm
        · rw [if_pos c] at q
          subst c
          exact ⟨hx.gl, q G1 H1 ρ1 _ hR1 hv1 hS⟩
        · rw [if_neg c] at q; exact q.elim
      | _ => exact q.elim
theorem callT_ok {φ : Fn} {n : Nat} : OpOkS K cn W (fun σ vs H Q => ∃ v vs', vs = v :: vs' ∧ spM K cn φ n vs' H Q (fun cls d H => W cls d σ H)) (callT φ n) := op_escsS fun Z xs vs Q hR hx h => by
  cases hx with
  | nil => exact h.elim
  | @cons x v xs vs r rr =>
    dsimp only at h
    refine ⟨_, _, rfl, ?_⟩
    by_cases c : xs.length = n
    · rw [if_pos c] at h
      exact ⟨by rw [← rr.length]; exact c, Z.G, Z.ρ, Z.st, xs, hR.bare, rr, postC_of hR h⟩
    · rw [if_neg c] at h; exact h.elim
theorem me_callG {k n : Nat} {f : Addr} {fd : FuncData} {ps : List Str} {φ : Fn} {nm : String} {o e : Expr} {es : List Expr} {pos : Pos} {mo : Mn RV} {ma : Mn (List RV)} (ef : cn nm = f) (F : FnOk X.prog X.w X.K X.mg X.base (L2.CX X.prog X.w) k f fd ps (spM K cn φ n)) (tk : Takes X W) (hr : Room k X.A) (hk : PySem.W.keepIn X.K (.ref f) = true) (hb : Binds X.K fd ps []) (ho : PE X o (TM K cn W mo)) (ha : PA X (e :: es) (TMa K cn W ma))
    (ht : eval (.Call o (e :: es) [] pos) X.env = (do callWith pos (← eval o X.env) [] (backTo pos (starEach (e :: es) X.env)) (backToKw pos (keywordEach [] X.env))) := by rfl)
    (he : starEach (e :: es) X.env = (false, eval e X.env) :: starEach es X.env := by rfl) (hpl : (backTo pos (starEach es X.env)).any (·.1) = false := by rfl) :
    PE X (.Call o (e :: es) [] pos) (TM K cn W (mOp (callT φ n) (mCons (mGl nm mo) ma))) := by
  refine ⟨fun pins s σ H Q I h => ?_⟩
  have h1 := tm_gl (tma_cons σ H _ (tm_opS callT_ok σ H Q h))
  refine Call_ (thn (ho.run pins s σ H _ I h1) fun u s1 ⟨y, H1, I1, ry, ey, q⟩ => ?_) ht
  subst ey
  subst ef
  obtain rfl : u = Value.ref (cn nm) := ry
  refine PySem.W.callWith_K (h₀ := X.base) I1.ok.mod.kin hk (thn (ha.run pos pins s1 σ H1 _ I1 q) fun us s2 ⟨vs, H2, I2, r, v', vs', ev, q2⟩ => ⟨I2.kIn, ?_⟩) he hpl
  cases ev
  exact run_fnS F hr hb (passAt tk σ) I2 r q2
/-- the functions and the instances that a value may be -/
def CallsT (X : Cx) (K : PySem.W.Frag) (cn : String → Addr) (tc : List (String × Fn × Nat)) : Prop := ∀ C φ n, List.lookup C tc = some (φ, n) → ∃ (k : Nat) (f : Addr) (fd : FuncData) (ps : List Str), StX.CallO X.K (cn C) f ∧ FnOk X.prog X.w X.K X.mg X.base (L2.CX X.prog X.w) k f fd ps (spM K cn φ n) ∧ Room k X.A ∧ Binds X.K fd ps []
theorem calls_nil : CallsT X K cn [] := fun _ _ _ h => by cases h
theorem calls_cons {C : String} {φ : Fn} {n : Nat} {tc : List (String × Fn × Nat)} {k : Nat} {f : Addr} {fd : FuncData} {ps : List Str} (c : StX.CallO X.K (cn C) f) (F : FnOk X.prog X.w X.K X.mg X.base (L2.CX X.prog X.w) k f fd ps (spM K cn φ n)) (hr : Room k X.A) (hb : Binds X.K fd ps []) (t : CallsT X K cn tc) : CallsT X K cn ((C, φ, n) :: tc) := by
  intro C' φ' n' h
  rw [List.lookup] at h
  cases e : C' == C with
  | true =>
    rw [e] at h
    cases h
    cases (beq_iff_eq.mp e)
    exact ⟨k, f, fd, ps, c, F, hr, hb⟩
  | false =>
    rw [e] at h
    exact t _ _ _ h
theorem me_callX {tf tc : List (String × Fn × Nat)} {o e : Expr} {es : List Expr} {pos : Pos} {mo : Mn RV} {ma : Mn (List RV)} (hf : HeldT X K cn tf) (hc : CallsT X K cn tc) (tk : Takes X W) (ho : PE X o (TM K cn W mo)) (ha : PA X (e :: es) (TMa K cn W ma))
    (ht : eval (.Call o (e :: es) [] pos) X.env = (do callWith pos (← eval o X.env) [] (backTo pos (starEach (e :: es) X.env)) (backToKw pos (keywordEach [] X.env))) := by rfl)
    (he : starEach (e :: es) X.env = (false, eval e X.env) :: starEach es X.env := by rfl) (hpl : (backTo pos (starEach es X.env)).any (·.1) = false := by rfl) :
    PE X (.Call o (e :: es) [] pos) (TM K cn W (mCallX tf tc mo ma)) := by
  refine ⟨fun pins s σ H Q I h => ?_⟩
  obtain ⟨G, ρ, sl, st, hR, h⟩ := h
  unfold mCallX at h
  cases e0 : mo sl st with
  | no => rw [e0] at h; exact h.elim
  | exc C xs s1 t1 => rw [e0] at h; exact h.elim
  | ok r s1 t1 =>
    rw [e0] at h
    dsimp only at h
    cases e1 : view s1 t1 r with
    | none => rw [e1] at h; exact h.elim
    | some y =>
      rw [e1] at h
      cases y with
      | gl nm =>
        dsimp only at h
        cases e2 : List.lookup nm tf with
        | none => rw [e2] at h; exact h.elim
        | some q =>
          obtain ⟨φ, n⟩ := q
          rw [e2] at h
          obtain ⟨k, fd, ps, F, hr, hk, hb⟩ := (hf nm φ n e2).ex
          exact (me_callG rfl F tk hr hk hb ho ha ht he hpl).run pins s σ H Q I ⟨G, ρ, sl, st, hR, h⟩
      | obj C fs =>
        dsimp only at h
        cases e2 : List.lookup C tc with
        | none => rw [e2] at h; exact h.elim
        | some q =>
          obtain ⟨φ, n⟩ := q
          rw [e2] at h
          obtain ⟨k, f, fd, ps, c, F, hr, hb⟩ := hc C φ n e2
          exact (me_callO c F tk hr hb ho ha ht he hpl).run pins s σ H Q I ⟨G, ρ, sl, st, hR, h⟩
      | _ => exact h.elim
end
section
open He
/-- what the class must show that its instances may be called -/
def callB (K : PySem.W.Frag) (C f : Addr) : Bool := eqO (PySem.W.findIn K (.ref C) "__call__") (some (some (.ref f))) && (PySem.W.isFn K (.ref f) && PySem.W.fnIn K f)
theorem callO_of {K : PySem.W.Frag} {C f : Addr} (h : callB K C f = true) : StX.CallO K C f := by
  obtain ⟨h1, h2⟩ := ba h
  obtain ⟨h2, h3⟩ := ba h2
  exact ⟨eqO_ok h1, h2, h3⟩
end
end MP

set_option Elab.async false
set_option linter.all false
set_option maxRecDepth 100000
set_option maxHeartbeats 4000000
/-! MP37: calls of a field that holds a function or an instance. -/
namespace MP
open PySem PySem.Spec PyProof.Rows L2
open Evl (Ex)
section
variable {X : Cx} {pins : List (Addr × Obj)} {σ : L2.St} {H : Hp} {s : Shared} {a C dx : Addr} {fs : List (Str × V)} {f : Str} {v : V} {A : Around} {E : Value → Shared → Prop}
/-- e.f where f is a field, read for a call -/
theorem getmethFld_ok {pl : Sem Bool} {Q : Value × List Value → Shared → Prop} (I : Inv X pins σ H s) (e : H a = some (.ins C dx fs)) (c : Cls X.K C) (n : NoAttr X.K C f) (l : fs.lookup f = some v)
    (h : ∀ u s', Inv X pins σ H s' → RelV v u → Q (u, []) s') : wpAny (model X.prog X.w) A (getMethod (.ref a) f pl) Q E s := by
  obtain ⟨mA, O, r, _, _, _⟩ := ins_get I.hok e
  obtain ⟨od, J, hl⟩ := O.look
  obtain ⟨hga, hk⟩ := PySem.W.plainGet_of (c.get f)
  have hcan := PySem.F.canon_object_ga
  unfold getMethod specialOf
  refine wpAny_bind (wpAny_bind (J.type.here ((PySem.W.looks_findIn I.kIn hga).here ?_)))
  dsimp only
  rw [hcan, if_neg (by decide)]
  refine wpAny_bind (wpAny_bind (J.type.here ((PySem.W.looks_findIn I.kIn hk).here ?_)))
  refine wpAny_bind (wpAny_bind (J.type.here ((PySem.W.looks_findIn I.kIn n).here ?_)))
  exact wpAny_bind (getattr_ok I e c n l fun u s' I' r' => wpAny_pure (h u s' I' r'))
end
section
variable {K : PySem.W.Frag} {cn : String → Addr} {W : WX} {X : Cx} {Z : Zt} {A : Addr → Prop}
theorem tm_fld {Cs : List String} {f : Str} {mo : Mn RV} {σ : L2.St} {H : Hp} {Q : VK} (h : ∀ C ∈ Cs, Cls K (cn C) ∧ NoAttr K (cn C) f) (q : TM K cn W (mOp (mPure (gFld Cs f)) (mCons mo mNil)) σ H Q) : TM K cn W mo σ H fun x H1 => rFld K f x H1 Q := tm_one σ H (tm_op (ok_fld h).op σ H Q q)
/-- the callee o.f, f a field -/
theorem callee_fld {Cs : List String} {f : Str} {o : Expr} {apos : Pos} {mo : Mn RV} {pl : Sem Bool} {pins : List (Addr × Obj)} {s : Shared} {σ : L2.St} {H : Hp} {Q : VK} {k : Value × List Value → Sem Value} {P : Value → Shared → Prop} (h : ∀ C ∈ Cs, Cls X.K (cn C) ∧ NoAttr X.K (cn C) f) (ho : PE X o (TM X.K cn W mo)) (I : Inv X pins σ H s) (q : TM X.K cn W (mOp (mPure (gFld Cs f)) (mCons mo mNil)) σ H Q)
    (fin : ∀ u s1 y H1, Inv X pins σ H1 s1 → RelV y u → Q y H1 → wpAny (model X.prog X.w) X.A (k (u, [])) P X.xe s1) :
    wpAny (model X.prog X.w) X.A (do
      let ov ← eval o X.env
      standAt apos.atName
      let r ← holding [ov] (getMethod ov f pl)
      k r) P X.xe s := by
  refine wpAny_bind (thn (ho.run pins s σ H _ I (tm_fld h q)) fun u s1 ⟨x, H1, I1, rx, a, C, dx, fs, v, ex, e1, c, n, l, q1⟩ => ?_)
  subst ex
  obtain rfl : u = Value.ref a := rx
  refine wpAny_bind (wpAny_standAt ?_)
  exact wpAny_bind (wpAny_holding (getmethFld_ok I1 e1 c n l fun u s' I' r' => fin u s' v H1 I' r' q1))
theorem me_callGF {k n : Nat} {f : Addr} {fd : FuncData} {ps : List Str} {φ : Fn} {nm : String} {Cs : List String} {m : Str} {o e : Expr} {es : List Expr} {apos pos : Pos} {mo : Mn RV} {ma : Mn (List RV)} {pl : Sem Bool} (ef : cn nm = f) (F : FnOk X.prog X.w X.K X.mg X.base (L2.CX X.prog X.w) k f fd ps (spM X.K cn φ n)) (tk : Takes X W) (hr : Room k X.A) (hk : PySem.W.keepIn X.K (.ref f) = true) (hb : Binds X.K fd ps []) (h : ∀ C ∈ Cs, Cls X.K (cn C) ∧ NoAttr X.K (cn C) m) (ho : PE X o (TM X.K cn W mo)) (ha : PA X (e :: es) (TMa X.K cn W ma))
    (ht : eval (.Call (.Attribute o m apos) (e :: es) [] pos) X.env = (do
      let ov ← eval o X.env
      standAt apos.atName
      let r ← holding [ov] (getMethod ov m pl)
      callWith pos r.1 r.2 (backTo pos (starEach (e :: es) X.env)) (backToKw pos (keywordEach [] X.env))) := by rfl)
    (he : starEach (e :: es) X.env = (false, eval e X.env) :: starEach es X.env := by rfl) (hpl : (backTo pos (starEach es X.env)).any (·.1) = false := by rfl) :
    PE X (.Call (.Attribute o m apos) (e :: es) [] pos) (TM X.K cn W (mOp (callT φ n) (mCons (mGl nm (mOp (mPure (gFld Cs m)) (mCons mo mNil))) ma))) := by
  refine ⟨fun pins s σ H Q I hh => ?_⟩
  have h1 := tm_gl (tma_cons σ H _ (tm_opS callT_ok σ H Q hh))
  rw [ht]
  refine callee_fld h ho I h1 fun u s1 y H1 I1 ry q => ?_
  obtain ⟨ey, q⟩ := q
  subst ey
  subst ef
  obtain rfl : u = Value.ref (cn nm) := ry
  refine PySem.W.callWith_K (h₀ := X.base) I1.ok.mod.kin hk (thn (ha.run pos pins s1 σ H1 _ I1 q) fun us s2 ⟨vs, H2, I2, r, v', vs', ev, q2⟩ => ⟨I2.kIn, ?_⟩) he hpl
  cases ev
  exact run_fnS F hr hb (passAt tk σ) I2 r q2
theorem me_callOF {k n : Nat} {f : Addr} {fd : FuncData} {ps : List Str} {φ : Fn} {C : String} {Cs : List String} {m : Str} {o e : Expr} {es : List Expr} {apos pos : Pos} {mo : Mn RV} {ma : Mn (List RV)} {pl : Sem Bool} (c : StX.CallO X.K (cn C) f) (F : FnOk X.prog X.w X.K X.mg X.base (L2.CX X.prog X.w) k f fd ps (spM X.K cn φ n)) (tk : Takes X W) (hr : Room k X.A) (hb : Binds X.K fd ps []) (h : ∀ C ∈ Cs, Cls X.K (cn C) ∧ NoAttr X.K (cn C) m) (ho : PE X o (TM X.K cn W mo)) (ha : PA X (e :: es) (TMa X.K cn W ma))
    (ht : eval (.Call (.Attribute o m apos) (e :: es) [] pos) X.env = (do
      let ov ← eval o X.env
      standAt apos.atName
      let r ← holding [ov] (getMethod ov m pl)
      callWith pos r.1 r.2 (backTo pos (starEach (e :: es) X.env)) (backToKw pos (keywordEach [] X.env))) := by rfl)
    (he : starEach (e :: es) X.env = (false, eval e X.env) :: starEach es X.env := by rfl) (hpl : (backTo pos (starEach es X.env)).any (·.1) = false := by rfl) :
    PE X (.Call (.Attribute o m apos) (e :: es) [] pos) (TM X.K cn W (mOp (mGuard (gHead C) (callF φ n)) (mCons (mIns C "__call__" (mOp (mPure (gFld Cs m)) (mCons mo mNil))) ma))) := by
  refine ⟨fun pins s σ H Q I hh => ?_⟩
  have h1 := tm_ins (tma_cons σ H _ (tm_opS guardO_ok σ H Q hh))
  rw [ht]
  refine callee_fld h ho I h1 fun u s1 y H1 I1 ry q => ?_
  obtain ⟨⟨a, dx, fs, ey, _, _⟩, q⟩ := q
  subst ey
  obtain rfl : u = Value.ref a := ry
  refine StX.callO_with (thn (ha.run pos pins s1 σ H1 _ I1 q) fun us s2 ⟨vs, H2, I2, r, ⟨a', vs', ev, dx', fs', e'⟩, q2⟩ => ?_) he hpl
  cases ev
  obtain ⟨ox, od, J, hd⟩ := StX.insC_at I2 (C := cn C) (.inr ⟨dx', fs', e'⟩)
  have r2 : Vals (V.ref a :: vs) (Value.ref a :: us) := .cons rfl r
  have hl : (Value.ref a :: us).length = ps.length := by rw [← r2.length]; exact F.len _ _ _ _ q2
  have b := hb s2 (.ref a :: us) I2.kIn (by rw [List.append_nil]; exact hl)
  rw [List.append_nil] at b
  refine ⟨⟨cn C, ox, od, J, hd⟩, wpAny_call (PySem.W.kco_code I2.kIn J hd c.at_ c.fn c.fi (codeAny_mono (F.run X.A X.stack s2 H2 ⟨.ref a :: us, []⟩ (.ref a :: us) (.ref a :: vs) Q _ hr I2.env0 b r2 q2) fun r s' hq => ?_))⟩
  cases r with
  | error e => exact (passAt tk σ) pins H2 s2 e s' I2 hq
  | ok fl =>
    cases fl with
    | ret u => exact I2.after hq
    | next => exact False.elim hq
    | brk => exact False.elim hq
    | cont => exact False.elim hq
/-- o.m(..), m a field that holds one of the functions tf or an instance of one of the classes tc -/
theorem me_callXF {tf tc : List (String × Fn × Nat)} {Cs : List String} {m : Str} {o e : Expr} {es : List Expr} {apos pos : Pos} {mo : Mn RV} {ma : Mn (List RV)} {pl : Sem Bool} (hf : HeldT X X.K cn tf) (hc : CallsT X X.K cn tc) (tk : Takes X W) (hc0 : ∀ C ∈ Cs, Cls X.K (cn C) ∧ NoAttr X.K (cn C) m) (ho : PE X o (TM X.K cn W mo)) (ha : PA X (e :: es) (TMa X.K cn W ma))
    (ht : eval (.Call (.Attribute o m apos) (e :: es) [] pos) X.env = (do
      let ov ← eval o X.env
      standAt apos.atName
      let r ← holding [ov] (getMethod ov m pl)
      callWith pos r.1 r.2 (backTo pos (starEach (e :: es) X.env)) (backToKw pos (keywordEach [] X.env))) := by rfl)
    (he : starEach (e :: es) X.env = (false, eval e X.env) :: starEach es X.env := by rfl) (hpl : (backTo pos (starEach es X.env)).any (·.1) = false := by rfl) :
    PE X (.Call (.Attribute o m apos) (e :: es) [] pos) (TM X.K cn W (mCallX tf tc (mOp (mPure (gFld Cs m)) (mCons mo mNil)) ma)) := by
  refine ⟨fun pins s σ H Q I h => ?_⟩
  obtain ⟨G, ρ, sl, st, hR, h⟩ := h
  unfold mCallX at h
  cases e0 : mOp (mPure (gFld Cs m)) (mCons mo mNil) sl st with
  | no => rw [e0] at h; exact h.elim
  | exc C xs s1 t1 => rw [e0] at h; exact h.elim
  | ok r s1 t1 =>
    rw [e0] at h
    dsimp only at h
    cases e1 : view s1 t1 r with
    | none => rw [e1] at h; exact h.elim
    | some y =>
      rw [e1] at h
      cases y with
      | gl nm =>
        dsimp only at h
        cases e2 : List.lookup nm tf with
        | none => rw [e2] at h; exact h.elim
        | some q =>
          obtain ⟨φ, n⟩ := q
          rw [e2] at h
          obtain ⟨k, fd, ps, F, hr, hk, hb⟩ := (hf nm φ n e2).ex
          exact (me_callGF rfl F tk hr hk hb hc0 ho ha ht he hpl).run pins s σ H Q I ⟨G, ρ, sl, st, hR, h⟩
      | obj C fs =>
        dsimp only at h
        cases e2 : List.lookup C tc with
        | none => rw [e2] at h; exact h.elim
        | some q =>
          obtain ⟨φ, n⟩ := q
          rw [e2] at h
          obtain ⟨k, f, fd, ps, c, F, hr, hb⟩ := hc C φ n e2
          exact (me_callOF c F tk hr hb hc0 ho ha ht he hpl).run pins s σ H Q I ⟨G, ρ, sl, st, hR, h⟩
      | _ => exact h.elim
end
end MP

set_option Elab.async false
set_option linter.all false
set_option maxRecDepth 100000
set_option maxHeartbeats 4000000
/-! MP38: *e in a display or a call, e a tuple that is data. -/
namespace MP
open PySem PySem.Spec PyProof.Rows L2
open Evl (Ex)
def mStar (a : Mn RV) (b : Mn (List RV)) : Mn (List RV) := bnd a fun r => match r with
  | .d (.tup xs) => bnd b fun rs => unit (xs.map RV.d ++ rs)
  | _ => mNo
section
variable {K : PySem.W.Frag} {cn : String → Addr} {W : WX} {X : Cx} {Z : Zt} {A : Addr → Prop}
theorem rvs_app {rs : List RV} {vs : List V} (h : RepRVs K cn Z rs vs) : ∀ {xs : List D} {us : List V}, Reps K cn Z.G Z.ρ xs us → RepRVs K cn Z (xs.map RV.d ++ rs) (us ++ vs)
  | [], _, .nil => h
  | x :: xs, _, .cons r rr => .cons r (rvs_app h rr) (fun a z => z.elim)
theorem rvsA_app {rs : List RV} {vs : List V} {a : Addr} : ∀ {xs : List D} {us : List V}, Reps K cn Z.G Z.ρ xs us → rvsA (xs.map RV.d ++ rs) (us ++ vs) a → rvsA rs vs a
  | [], _, .nil, z => z
  | x :: xs, _, .cons r rr, z => rvsA_app rr ((show _ ∨ _ from z).elim (fun y => False.elim y) id)
theorem tma_star {a : Mn RV} {b : Mn (List RV)} : ∀ σ H Q, TMa K cn W (mStar a b) σ H Q → StX.tStar K (TM K cn W a) (TMa K cn W b) σ H Q := by
  rintro σ H Q ⟨G, ρ, sl, st, hR, h⟩
  refine ⟨G, ρ, sl, st, hR, ?_⟩
  unfold mStar bnd at h
  cases ha : a sl st with
  | no => rw [ha] at h; exact h.elim
  | exc C xs sl1 st1 => rw [ha] at h; exact h
  | ok r sl1 st1 =>
    rw [ha] at h
    intro G1 H1 ρ1 v1 hR1 hv1 hS1
    dsimp only at h
    cases r with
    | d x =>
      cases x with
      | tup xs =>
        have hv : Rep K cn G1 ρ1 (.tup xs) v1 := hv1
        cases hv with
        | @tup _ p us h1 h2 =>
          refine ⟨p, us, rfl, .inl (Evl.ex_t hR1.ex h1), G1, ρ1, sl1, st1, hR1, ?_⟩
          dsimp only at h
          cases hb : b sl1 st1 with
          | no => rw [hb] at h; exact h.elim
          | exc C xs sl2 st2 =>
            rw [hb] at h
            intro G2 H2 ρ2 d us hR2 hS2
            exact h G2 H2 ρ2 d us hR2 (hS1.end0.trans hS2)
          | ok rs sl2 st2 =>
            rw [hb] at h
            intro G2 H2 ρ2 vs hR2 hvs hS2
            have h3 : Reps K cn G2 ρ2 xs us := h2.mono hS2.g hS2.r
            refine h G2 H2 ρ2 (us ++ vs) hR2 (rvs_app (Z := ⟨G2, H2, ρ2, σ, sl2, st2⟩) hvs h3) ?_
            exact (hS1.end0.trans hS2).drop fun a z => rvsA_app (Z := ⟨G2, H2, ρ2, σ, sl2, st2⟩) h3 z
      | _ => exact h.elim
    | _ => exact h.elim
theorem ma_star {e : Expr} {es : List Expr} {m : Mn RV} {ms : Mn (List RV)} {p : Pos} (ha : PE X e (TM X.K cn W m)) (hr : PA X es (TMa X.K cn W ms)) (hs : starEach (.Starred e p :: es) X.env = (true, eval e X.env) :: starEach es X.env := by rfl) : PA X (.Starred e p :: es) (TMa X.K cn W (mStar m ms)) :=
  PA.imp (StX.pa_star ha hr hs) tma_star
end
end MP

set_option Elab.async false
set_option linter.all false
set_option maxRecDepth 100000
set_option maxHeartbeats 4000000
/-! MP39: sorted of a list of whole numbers. -/
namespace MP
open PySem PySem.Spec PyProof.Rows L2
open Evl (Ex)
theorem srt_uniq : ∀ {xs ys : List Int}, xs.Perm ys → xs.Pairwise (· ≤ ·) → ys.Pairwise (· ≤ ·) → xs = ys
  | [], ys, p, _, _ => (List.nil_perm.mp p).symm
  | x :: xs, [], p, _, _ => absurd p.length_eq (by simp)
  | x :: xs, y :: ys, p, hx, hy => by
    have h1 := List.pairwise_cons.mp hx
    have h2 := List.pairwise_cons.mp hy
    have e : x = y := by
      have m1 : x ∈ y :: ys := p.subset (List.mem_cons_self ..)
      have m2 : y ∈ x :: xs := p.symm.subset (List.mem_cons_self ..)
      rcases List.mem_cons.mp m1 with q | q
      · exact q
      · rcases List.mem_cons.mp m2 with r | r
        · exact r.symm
        · exact Int.le_antisymm (h1.1 y r) (h2.1 x q)
    subst e
    rw [srt_uniq (List.perm_cons x |>.mp p) h1.2 h2.2]
/-- the numbers in order -/
def srtI (ns : List Int) : List Int := ns.mergeSort (fun a b => decide (a ≤ b))
theorem srtI_is {ns ns' : List Int} (p : ns'.Perm ns) (s : ns'.Pairwise (· ≤ ·)) : ns' = srtI ns := by
  refine srt_uniq (p.trans (List.mergeSort_perm ns _).symm) s ?_
  have h := List.pairwise_mergeSort (le := fun (a b : Int) => decide (a ≤ b)) (fun a b c h1 h2 => by simp at *; omega) (fun a b => by simp; omega) ns
  exact h.imp fun q => by simpa using q
def gSortI : List D → PR
  | [.lst xs] => match intsD xs with
    | some ns => .f (.lst ((srtI ns).map D.int))
    | none => .no
  | _ => .no
section
variable {K : PySem.W.Frag} {cn : String → Addr} {W : WX} {X : Cx} {Z : Zt} {A : Addr → Prop}
theorem reps_ints {G : Hp} {ρ : List Addr} : ∀ (ns : List Int), Reps K cn G ρ (ns.map D.int) (ns.map V.int)
  | [] => .nil
  | _ :: ns => .cons .int (reps_ints ns)
theorem ok_sortI : POk K cn (rSortedI K) gSortI := by
  intro Z xs vs Q hR hv hq
  unfold gSortI at hq
  split at hq
  · rename_i ys
    obtain ⟨v, rfl, ⟨a, us, rfl, q1, r1⟩⟩ := hv.one
    cases c : intsD ys with
    | none => rw [c] at hq; exact hq.elim
    | some ns =>
      rw [c] at hq
      rw [ints_rep r1 c] at q1
      refine ⟨a, ns, rfl, q1, fun ns' p hp hs h0 => ?_⟩
      rw [srtI_is hp hs]
      exact hq p _ h0 (.lst (reps_ints _))
  · exact hq.elim
end
end MP

set_option Elab.async false
set_option linter.all false
set_option maxRecDepth 100000
set_option maxHeartbeats 4000000
/-! MP40: where no display of a list or tuple runs above: promises of defs there, repr of data. -/
namespace MP
open PySem PySem.Spec PyProof.Rows L2
open Evl (Ex)
/-- what a def promises where nothing above is being shown -/
structure FnG (P : Program) (w : World) (K : PySem.W.Frag) (mg : Str → Option Value) (base : Heap) (CX : CXT) (k : Nat) (f : Addr) (fd : FuncData) (ps : List Str) (sp : Sp) : Prop where
  size : ∀ vs H Q E, sp vs H Q E → vs.length = ps.length
  goes : ∀ (A : Around) (outer : List Env) (s : Shared) (H : Hp) (args : Args) (us : List Value) (vs : List V) (Q : VK) (E : XK), A.guards = some [] → Room k A → Env0 P w K mg base A outer s H → BindsTo s fd args (ps.zip us) → Vals vs us → sp vs H Q E →
    codeAny (model P w) A (.call (.ref f) args) (CR CX outer P w H s Q E) s
section
variable {P : Program} {w : World} {K : PySem.W.Frag} {cn : String → Addr} {mg : Str → Option Value} {base : Heap}
theorem FnG.of {CX : CXT} {k : Nat} {f : Addr} {fd : FuncData} {ps : List Str} {sp : Sp} (F : FnOk P w K mg base CX k f fd ps sp) : FnG P w K mg base CX k f fd ps sp :=
  ⟨F.len, fun A outer s H args us vs Q E _ => F.run A outer s H args us vs Q E⟩
/-- a def by its body, once entered -/
theorem FnG.body {CX : CXT} {N ps : List Str} {k : Nat} {sp : Sp} {x qual : Str} {params : Arguments} {body : List Stmt} {scope : Scope} {dvs : List V} {kws : List (Str × V)} {f : Addr} {fd : FuncData} (F : FunD K x qual params body scope dvs kws f fd) (S : FnScope N ps scope) (hl : ∀ vs H Q E, sp vs H Q E → vs.length = ps.length)
    (hb : ∀ (cdv : Value) (A : Around) (outer : List Env) (s : Shared) (H : Hp) (vs : List V) (Q : VK) (E : XK), A.guards = some [] → Room k (A.deeper (envOfC qual scope s.heap.objs.size f cdv)) → sp vs H Q E →
      ∃ t, PSs (cxOf CX P w K mg base N qual scope f cdv A outer s H E) body t ∧ t { nx := fun _ H' => Q .non H', rt := Q } (L2.start N vs) H) : FnG P w K mg base CX (k + 1) f fd ps sp := by
  obtain ⟨oc, od, dV, kV, doc, pm, an, cdv, ct, osl, rfl, lk, code, _, _⟩ := F.ex
  constructor
  · exact hl
  intro A outer s H args us vs Q E gd room e0 bind vals prom
  have there : ∀ b o, base.get? b = some o → s.heap.get? b = some o := fun b o q => (e0.bs b o q).1
  have kin := e0.mod.kin.keeps there
  refine codeAny_call_function room.depth (kin _ _ lk) rfl S.co S.gen rfl (PySem.W.codeRec_of kin code) (bind _ _ _ _ ?_)
  have kinds : ∀ y ∈ ps.zip us, scope.names.lookup y.1 = some .local ∨ (scope.names.lookup y.1 = some .cell ∧ ((cellsFrom (s.heap.objs.size + 1) scope.names []).lookup y.1).isSome = true) := by
    rintro ⟨n, v⟩ hy
    rcases S.par n (List.of_mem_zip hy).1 with q | q
    · exact .inl q
    · exact .inr ⟨q, PySem.W.cellsFrom_some _ _ _ (.inl q)⟩
  refine wpAny_newFunctionEnv_cells S.kind kinds fun env he s1 entry => ?_
  cases he
  refine ⟨(e0.mod.nolimit.keeps there).keeps entry.toInCall.keep, codeAny_func ?_⟩
  obtain ⟨t, walk, goal⟩ := hb cdv A outer s H vs Q E gd (room.deeper _) prom
  have I0 : L2.Inv (cxOf CX P w K mg base N qual scope f cdv A outer s H E) [] (L2.start N vs) H s1 := inv_start S room.hd e0 (hl _ _ _ _ prom) vals entry
  have done : ∀ {σ' : L2.St} {H' : Hp} {v : V} {u : Value} {s' : Shared}, L2.Inv (cxOf CX P w K mg base N qual scope f cdv A outer s H E) [] σ' H' s' → RelV v u → Q v H' → CE outer P w H s Q u s' :=
    fun J r q => ⟨_, _, J.os, J.bare, J.base, J.hok, r, q⟩
  refine wpAny_mono (walk.run [] s1 (L2.start N vs) H _ I0 goal) (fun fl s' z => ?_) fun _ _ z => z
  match fl, z with
  | .ret u, ⟨v, σ', H', J, r, q⟩ => exact done J r q
  | .next, ⟨σ', H', J, q⟩ => exact done (v := V.non) (u := Value.none) J rfl q
  | .brk, ⟨_, _, _, q⟩ => exact False.elim q
  | .cont, ⟨_, _, _, q⟩ => exact False.elim q
theorem fn_bodyG {x qual : Str} {st : Stmt} {f : Addr} {fd : FuncData} {N ps : List Str} {k : Nat} {m : Mn Fl} {dvs : List V} {kws : List (Str × V)} (F : FunD K x qual (defArgs st) (defBody st) (defScope st) dvs kws f fd) (S : FnScope N ps (defScope st))
    (hb : ∀ (cdv : Value) (A : Around) (outer : List Env) (s : Shared) (H : Hp) (E : XK), (cxB P w K mg base N qual (defScope st) f cdv A outer s H E).A.guards = some [] → Good (cxB P w K mg base N qual (defScope st) f cdv A outer s H E) (fun cls d _ H => E cls d H) k →
      PSs (cxB P w K mg base N qual (defScope st) f cdv A outer s H E) (defBody st) (TMs K cn (fun cls d _ H => E cls d H) m)) : FnG P w K mg base (L2.CX P w) (k + 1) f fd ps (spM K cn (runB m N.length) ps.length) := by
  refine FnG.body F S (fun vs H Q E h => h.1) (fun cdv A outer s H vs Q E gd hr h => ?_)
  obtain ⟨hl, G, ρ, st', ds, hR, hv, hp⟩ := h
  exact ⟨_, hb cdv A outer s H E gd ⟨takes_of rfl rfl rfl rfl, rfl, passes_of rfl, hr, S.nd⟩, postS_of hR hv hp⟩
end
section
variable {X : Cx} {K : PySem.W.Frag} {cn : String → Addr} {W : WX}
theorem run_fnG {k : Nat} {f : Addr} {fd : FuncData} {ps : List Str} {sp : Sp} {CX : CXT} {E : L2.St → XK} {pins : List (Addr × Obj)} {σ : L2.St} {H : Hp} {s : Shared} {Q : VK} {us : List Value} {vs : List V} (F : FnG X.prog X.w X.K X.mg X.base CX k f fd ps sp) (gd : X.A.guards = some []) (hr : Room k X.A) (hb : Binds X.K fd ps []) (hx : PassesAt CX X σ (E σ))
    (I : L2.Inv X pins σ H s) (r : Vals vs us) (h : sp vs H Q (E σ)) : wpAny (model X.prog X.w) X.A (call (.ref f) us) (EP X pins σ Q) X.xe s := by
  have hl : us.length = ps.length := r.length.symm.trans (F.size _ _ _ _ h)
  have b := hb s us I.kIn (by simpa using hl)
  rw [List.append_nil] at b
  refine wpAny_call (codeAny_mono (F.goes X.A X.stack s H ⟨us, []⟩ us vs Q (E σ) gd hr I.env0 b r h) fun q s' hq => ?_)
  match q, hq with
  | .error e, hq => exact hx pins H s e s' I hq
  | .ok (.ret u), hq => exact I.after hq
  | .ok .next, hq => exact False.elim hq
  | .ok .brk, hq => exact False.elim hq
  | .ok .cont, hq => exact False.elim hq
/-- f(e, ..), f a def that shows data -/
theorem me_callGd {k n : Nat} {f : Addr} {fd : FuncData} {ps : List Str} {φ : Fn} {x : Str} {e : Expr} {es : List Expr} {p pos : Pos} {m : Mn (List RV)} (F : FnG X.prog X.w X.K X.mg X.base (L2.CX X.prog X.w) k f fd ps (spM K cn φ n)) (gd : X.A.guards = some []) (tk : Takes X W) (hr : Room k X.A) (hg : Gl X x) (hm : X.mg x = some (.ref f)) (hk : PySem.W.keepIn X.K (.ref f) = true) (hb : Binds X.K fd ps [])
    (ha : PA X (e :: es) (TMa K cn W m)) (hdb : (x == ("__debug__" : Str)) = false := by decide) (he : starEach (e :: es) X.env = (false, eval e X.env) :: starEach es X.env := by rfl) (hpl : (backTo pos (starEach es X.env)).any (·.1) = false := by rfl) :
    PE X (.Call (.Name x p) (e :: es) [] pos) (TM K cn W (mOp (callF φ n) m)) := by
  constructor
  intro pins s σ H Q I h
  have h1 := tm_opS callF_ok σ H Q h
  refine wpAny_Call_Name_kw (ld_glob I hg hm ?_ hdb)
  refine PySem.W.callWith_K (h₀ := X.base) I.ok.mod.kin hk (thn (ha.run pos pins s σ H _ I h1) fun us s1 ⟨vs, H1, I1, r, q⟩ => ?_) he hpl
  exact ⟨I1.kIn, run_fnG F gd hr hb (passAt tk σ) I1 r q⟩
/-! ### repr of data -/
def rRepr (K : PySem.W.Frag) : List V → Hp → VK → Prop := fun vs H Q => ∃ x d, vs = [x] ∧ Dp K H x d ∧ d.showable = true ∧ d.hasDict = false ∧ d.depth ≤ 60 ∧ d.shown.length ≤ sizeLine ∧ Q (.str d.shown) H
theorem cr_reprD (gd : X.A.guards = some []) (hu : X.A.units + 64 < cLine) : CallR X (.builtin "repr") (rRepr X.K) := by
  intro pins s σ H vs us Q I r h
  obtain ⟨x, d, rfl, hd, sh, nd, dp, sz, q⟩ := h
  obtain ⟨u, rfl, ru⟩ := vals1 r
  obtain ⟨as, rd⟩ := Dp.reads I d x u hd ru
  cases rd with
  | none => exact PySem.P.repr_of_none ⟨.str _, H, I.tok _, ⟨_, rfl⟩, q⟩
  | bool b =>
    refine PySem.P.repr_of_bool ⟨.str _, H, I.tok _, ⟨_, rfl⟩, ?_⟩
    cases b <;> exact q
  | int i t => exact PySem.P.repr_of_int (by simpa [PyData.showable] using sh) ⟨.str _, H, I.tok _, ⟨_, rfl⟩, q⟩
  | str y t => exact PySem.P.repr_of_str ⟨.str _, H, I.tok _, ⟨_, rfl⟩, q⟩ sz
  | list a1 a2 a3 a4 => exact repr_of_reads' (.list a1 a2 a3 a4) sh (fun e => by rw [nd] at e; cases e) gd (by omega) (fun _ _ e => e) (fun h' u tk hk => ⟨.str _, H, I.kept (t' := tk) hk, ⟨_, rfl⟩, q⟩) sz
  | tuple a1 a2 a3 a4 => exact repr_of_reads' (.tuple a1 a2 a3 a4) sh (fun e => by rw [nd] at e; cases e) gd (by omega) (fun _ _ e => e) (fun h' u tk hk => ⟨.str _, H, I.kept (t' := tk) hk, ⟨_, rfl⟩, q⟩) sz
  | dict a1 a2 a3 a4 a5 => exact repr_of_reads' (.dict a1 a2 a3 a4 a5) sh (fun e => by rw [nd] at e; cases e) gd (by omega) (fun _ _ e => e) (fun h' u tk hk => ⟨.str _, H, I.kept (t' := tk) hk, ⟨_, rfl⟩, q⟩) sz
mutual
theorem dat_nodict : ∀ {x : MP.D} {d : PyData}, dat x = some d → d.hasDict = false
  | .non, _, h => by cases h; rfl
  | .bl b, _, h => by cases h; rfl
  | .int i, _, h => by cases h; rfl
  | .str s, _, h => by cases h; rfl
  | .tup xs, _, h => by
    unfold dat at h
    split at h
    · rename_i ds e; cases h; exact dats_nodict e
    · cases h
  | .lst xs, _, h => by
    unfold dat at h
    split at h
    · rename_i ds e; cases h; exact dats_nodict e
    · cases h
  | .ty n, _, h => by cases h
  | .gl n, _, h => by cases h
  | .dct n, _, h => by cases h
  | .obj C n, _, h => by cases h
  | .cell n, _, h => by cases h
  | .exn _ _ _, _, h => by cases h
theorem dats_nodict : ∀ {x : List MP.D} {d : List PyData}, dats x = some d → PyData.hasDictAll d = false
  | [], _, h => by cases h; rfl
  | x :: xs, _, h => by
    unfold dats at h
    split at h
    · rename_i d ds e1 e2
      cases h
      simp only [PyData.hasDictAll, dat_nodict e1, dats_nodict e2, Bool.or_self]
    · cases h
end
def gRepr : List MP.D → PR
  | [x] => match dat x with
    | some d => if d.showable = true ∧ d.depth ≤ 60 ∧ d.shown.length ≤ sizeLine then .d (.str d.shown) else .no
    | none => .no
  | _ => .no
theorem ok_repr : POk K cn (rRepr K) gRepr := by
  intro Z xs vs Q hR hv hq
  unfold gRepr at hq
  split at hq
  · obtain ⟨v, rfl, h1⟩ := hv.one
    split at hq
    · rename_i d e
      split at hq
      · rename_i c
        exact ⟨v, d, rfl, h1.dp hR e, c.1, dat_nodict e, c.2.1, c.2.2, hq _ .str⟩
      · exact hq.elim
    · exact hq.elim
  · exact hq.elim
end
end MP

set_option Elab.async false
set_option linter.all false
set_option maxRecDepth 100000
set_option maxHeartbeats 4000000
/-! MP41: the law's walk behind the head, for a law that shows data. -/
namespace MP
open PySem PySem.Spec PyProof.Rows L2
open He
abbrev scriptObj (vs : List Value) : Obj := { cls := .type "list", data := .seq vs.toArray }
/-- how the law's own call must end -/
abbrev LawEnd (s1 : Shared) : Result → Shared → Prop := fun r s2 => r = .ok (.ret (.bool true)) ∧ OldK s1.heap s2.heap ∧ s2.os = s1.os ∧ AllBare s2.gens
section
variable {P : Program} {w : World} {K : PySem.W.Frag} {mg mb : Str → Option Value} {CX : CXT} {k : Nat} {fa a : Addr} {fd : FuncData} {x : Str} {sp : Sp} {s1 : Shared} {vs : List Value} {ns : List Int}
/-- from a heap in which at most the script is followed -/
theorem lawG_from (H : Hp) (kin : K.In s1.heap) (gl : s1.heap.Ns mainGlobals mg) (bl : s1.heap.Ns builtinsNs mb) (bb : ∀ x : Str, x ≠ "__name__" → mb x = bootBuiltins x) (nl : s1.heap.NoLimit) (hg : s1.gens = #[]) (ha : s1.heap.get? a = some (scriptObj vs)) (room : Room k callerA)
    (F : ∀ base : Heap, K.In base → base.Ns mainGlobals mg → FnG P w K mg base CX k fa fd [x] sp) (bind : ∀ (s : Shared) (u : Value), BindsTo s fd ⟨[u], []⟩ [(x, u)])
    (prom : sp [.ref a] H (fun v _ => v = .bl true) fun _ _ _ => False) (noex : ∀ e s', CX [] H s1 (fun _ _ _ => False) e s' → False) (ok : HOk P w H s1.heap)
    (only : ∀ b u, H b = some u → b = a ∧ K.lookup a = none ∧ ∃ o xs, u = .frz o (.lst xs)) : codeAny (model P w) callerA (.call (.ref fa) ⟨[.ref a], []⟩) (LawEnd s1) s1 := by
  have low : ∀ {b : Addr} {o : Obj}, s1.heap.get? b = some o → H b = none → (hidT s1.heap H).get? b = some o := hidT_get
  have isNs : ∀ {b : Addr} {m : Str → Option Value}, s1.heap.Ns b m → (hidT s1.heap H).Ns b m := by
    rintro b m ⟨o, es, ep, e, d, r⟩
    refine ⟨o, es, ep, low e ?_, d, r⟩
    cases q : H b with
    | none => rfl
    | some u =>
      obtain ⟨rfl, _⟩ := only b u q
      rw [ha] at e
      cases e
      cases d
  have kin2 : K.In (hidT s1.heap H) := by
    intro b o e
    refine low (kin b o e) ?_
    cases q : H b with
    | none => rfl
    | some u =>
      obtain ⟨rfl, z, _⟩ := only b u q
      rw [z] at e
      cases e
  obtain ⟨mc, l1, l2⟩ := nl
  have md : Mod K mg (hidT s1.heap H) := ⟨kin2, isNs gl, ⟨mb, isNs bl, bb⟩, mc, isNs l1, l2⟩
  have env : Env0 P w K mg (hidT s1.heap H) callerA [] s1 H := ⟨rfl, md, fun b o e => of_hidT e, Nat.le_of_eq (hidT_size ..), trivial, fun b hb => (List.not_mem_nil hb).elim, ok, .of_eq hg⟩
  have go := (F _ kin2 (isNs gl)).goes callerA [] s1 H ⟨[.ref a], []⟩ [.ref a] [.ref a] _ _ rfl room env (bind s1 (.ref a)) (.cons rfl .nil) prom
  refine codeAny_mono go fun r s2 z => ?_
  match r, z with
  | .error e, z => exact (noex e s2 z).elim
  | .ok .next, z => exact False.elim z
  | .ok .brk, z => exact False.elim z
  | .ok .cont, z => exact False.elim z
  | .ok (.ret u), ⟨v, H', os, bare, un, ok', rv, qv⟩ =>
    cases (show v = .bl true from qv)
    cases (show u = Value.bool true from rv)
    refine ⟨rfl, OldK.of_keep fun b o e => ?_, os, bare⟩
    cases q : H b with
    | none => exact un.keep b o e q (fun z => (List.not_mem_nil z).elim) (fun z => (List.not_mem_nil z).elim)
    | some u =>
      obtain ⟨_, _, ob, xs, rfl⟩ := only b u q
      have e1 := (ok b _ q).1
      rw [e] at e1
      cases e1
      exact (ok' b _ (un.frzs b _ _ q)).1
theorem lawG_call (kin : K.In s1.heap) (gl : s1.heap.Ns mainGlobals mg) (bl : s1.heap.Ns builtinsNs mb) (bb : ∀ x : Str, x ≠ "__name__" → mb x = bootBuiltins x) (nl : s1.heap.NoLimit) (hg : s1.gens = #[]) (ha : s1.heap.get? a = some (scriptObj vs)) (hi : IntsAre vs ns) (hl : ns.length ≤ sizeLine) (room : Room k callerA)
    (F : ∀ base : Heap, K.In base → base.Ns mainGlobals mg → FnG P w K mg base CX k fa fd [x] sp) (bind : ∀ (s : Shared) (u : Value), BindsTo s fd ⟨[u], []⟩ [(x, u)])
    (prom : ∀ H : Hp, SqL K H a (ns.map V.int) → sp [.ref a] H (fun v _ => v = .bl true) fun _ _ _ => False) (noex : ∀ H e s', CX [] H s1 (fun _ _ _ => False) e s' → False) : codeAny (model P w) callerA (.call (.ref fa) ⟨[.ref a], []⟩) (LawEnd s1) s1 := by
  have vals := vals_ints hi
  have len := hi.length
  cases lk : K.lookup a with
  | some o =>
    have e := kin a o lk
    rw [ha] at e
    cases e
    exact lawG_from (fun _ => none) kin gl bl bb nl hg ha room F bind (prom _ (.inr ⟨_, vs.toArray, _, lk, rfl, rfl, rfl, by rw [List.size_toArray, len]; exact hl, by simpa using vals⟩)) (noex _) (fun b u z => nomatch (show (none : Option HO) = some u from z)) fun b u z => nomatch (show (none : Option HO) = some u from z)
  | none =>
    have at1 : ∀ b u, upd (fun _ => none) a (HO.frz (scriptObj vs) (.lst (ns.map V.int))) b = some u → b = a ∧ u = HO.frz (scriptObj vs) (.lst (ns.map V.int)) := fun b u z => by
      by_cases c : b = a
      · subst c; rw [upd_same] at z; cases z; exact ⟨rfl, rfl⟩
      · rw [upd_ne c] at z; cases z
    refine lawG_from (upd (fun _ => none) a (.frz (scriptObj vs) (.lst (ns.map V.int)))) kin gl bl bb nl hg ha room F bind (prom _ (.inl (.inr ⟨scriptObj vs, upd_same⟩))) (noex _) (fun b u z => ?_) fun b u z => ?_
    · obtain ⟨rfl, rfl⟩ := at1 b u z
      exact ⟨ha, by rw [List.length_map]; exact hl, vs, _, vals, ha⟩
    · obtain ⟨rfl, rfl⟩ := at1 b u z
      exact ⟨rfl, lk, _, _, rfl⟩
end
theorem walkG {l : PySem.W.OpenLaw} {m k : Nat} {qv : Program} {other : List Str} {XQ : (Str → Option Value) → Heap → Prop} {YQ : World → Heap → Prop} {dr : DefRec} {par : Str}
    (hm : l.most = some m) (hm2 : m ≤ sizeLine) (hnd : dr.params.defaults = []) (hroom : Room k callerA)
    (HF : ∀ (w : World) (mg : Str → Option Value) (at0 : Addr) (h : Heap), YQ w h → h.Ns mainGlobals mg → mg dr.name = some (.ref at0) →
      ∃ (K : PySem.W.Frag) (fd : FuncData) (sp : Sp), K.In h ∧ (∀ (s : Shared) (u : Value), BindsTo s fd ⟨[u], []⟩ [(par, u)]) ∧
        (∀ (H : Hp) (a : Addr) (ns : List Int), ns.length ≤ m → SqL K H a (ns.map V.int) → sp [.ref a] H (fun v _ => v = .bl true) fun _ _ _ => False) ∧
        ∀ base : Heap, K.In base → base.Ns mainGlobals mg → FnG l.prog w K mg base (L2.CX l.prog w) k at0 fd [par] sp) :
    PySem.W.WalkO qv other XQ YQ l.row.toRowW dr [] (fun f vs => PySem.call f vs) := by
  refine Att.attach_call hm hnd fun w s0 s1 mg mb at0 o pm cd doc a vs ns Gd Yd a1 a2 a3 amg aobj ahints alen ag => ?_
  obtain ⟨K, fd, sp, KX, hbind, hprom, hfn⟩ := HF w mg at0 _ Yd Gd.T.g amg
  refine lawG_call KX Gd.T.g Gd.T.b Gd.T.builtins Gd.T.nolimit ag aobj ahints (Nat.le_trans alen hm2) hroom hfn hbind (fun H hS => hprom H a ns alen hS) ?_
  intro H e s2 hx
  obtain ⟨_, _, _, _, _, _, _, _, _, _, _, _, hE⟩ := hx
  exact hE
end MP

set_option Elab.async false
set_option linter.all false
set_option maxRecDepth 100000
set_option maxHeartbeats 4000000
/-! MP42: sorted(xs, key=f), f any def whose keys are data. -/
namespace MP
open PySem PySem.Spec PyProof.Rows L2 PySem.W
open Evl (Ex)
/-- the context two units deeper, where nothing may be raised -/
abbrev cxI2 (X : Cx) : Cx := { X with A := X.A.in1.in1, xe := fun _ _ => False }
theorem inv_i2 {X : Cx} {pins : List (Addr × Obj)} {σ : L2.St} {H : Hp} {s : Shared} (I : L2.Inv X pins σ H s) : L2.Inv (cxI2 X) pins σ H s := inv_in (inv_in I)
theorem inv_o2 {X : Cx} {pins : List (Addr × Obj)} {σ : L2.St} {H : Hp} {s : Shared} (ok : X.Ok) (I : L2.Inv (cxI2 X) pins σ H s) : L2.Inv X pins σ H s :=
  ⟨ok, I.os, I.bare, I.base, I.loc, I.cell, I.free, I.freeC, I.pin, I.hok, I.len⟩
/-- the keys are made one by one: a: the list that is sorted, S: the keys so far -/
def SortC (call : V → Hp → VK → Prop) (a S : Addr) (od : Obj) : List V → List V → Hp → (List V → Hp → Prop) → Prop
  | [], ks, H, Q => H a = some (.frz od (.lst [])) ∧ H S = some (.lst ks) ∧ Q ks H
  | x :: xs, ks, H, Q => call x H fun k H1 => H1 a = some (.frz od (.lst [])) ∧ H1 S = some (.lst ks) ∧ SortC call a S od xs (ks ++ [k]) (upd H1 S (.lst (ks ++ [k]))) Q
def srtV {α : Type} (kz : List PyData) (xs : List α) : List α := ((xs.zip kz).mergeSort (dataLe false Prod.snd)).map Prod.fst
theorem srtV_length {α : Type} {kz : List PyData} {xs : List α} (h : xs.length = kz.length) : (srtV kz xs).length = xs.length := by
  unfold srtV
  rw [List.length_map, (List.mergeSort_perm _ _).length_eq, List.length_zip, h, Nat.min_self]
section
variable {X : Cx} {pins : List (Addr × Obj)} {σ : L2.St} {H : Hp} {s : Shared}
theorem dpAll_each (I : L2.Inv X pins σ H s) : ∀ {vs : List V} {ds : List PyData} {us : List Value}, DpAll X.K H vs ds → Vals vs us → EachIs (fun u d => ∃ as, Reads s.heap u d as) us ds
  | _, _, _, .nil, .nil => .nil
  | _, _, _, .cons h t, .cons r rs => .cons (Dp.reads I _ _ _ h r) (dpAll_each I t rs)
theorem each_zip : ∀ {xs : List V} {us : List Value} {kz : List PyData}, Vals xs us → xs.length = kz.length → EachIs (fun (u : Value) (b : V × PyData) => RelV b.1 u) us (xs.zip kz)
  | [], [], [], _, _ => .nil
  | x :: xs, u :: us, k :: kz, .cons r rs, h => .cons r (each_zip rs (by simpa using h))
theorem each_vals : ∀ {us : List Value} {bs : List (V × PyData)}, EachIs (fun (u : Value) (b : V × PyData) => RelV b.1 u) us bs → Vals (bs.map Prod.fst) us
  | _, _, .nil => .nil
  | _, _, .cons h t => .cons h (each_vals t)
end
section
variable {prog : Program} {w : World} {A : Around} {E : Value → Shared → Prop}
/-- behind the keys: the order, the list filled again -/
theorem sort_close {s : Shared} {a S : Addr} {vs out : List Value} {keys : Array Value} {e e1 : Nat} {st : SortSt} {Q : PySem.Fin → Shared → Prop} (hS : s.heap.get? S = some (seqObj "list" keys e)) (ha : s.heap.get? a = some (seqObj "list" #[] e1)) (ne : S ≠ a) (kz : keys.size ≤ sizeLine) (oz : out.length ≤ sizeLine) (nf : failedOf st = none) (eo : (arrOf st).map (·.2) = out.toArray)
    (fin : Q (.done (.ret .none)) { s with heap := (s.heap.update S (Obj.mapSeq fun _ => #[])).update a (Obj.mapSeq fun _ => out.toArray) }) : wpAny (model prog w) A (ksk_tail a false e1 (.ref S) st) Q E s := by
  have ha2 := ((Heap.SameBut.update s.heap S (Obj.mapSeq fun _ => (#[] : Array Value))).2 a ne.symm).trans ha
  unfold ksk_tail
  try dsimp only
  rw [eo, nf]
  refine wpAny_bind (listUpdate_at hS rfl (wpAny_bind (wpAny_letGo (wpAny_bind (seqEpoch_at ha2 rfl (wpAny_bind (listUpdate_at ha2 rfl ?_ (Nat.zero_le _) (by simp; omega))))))) kz (Nat.zero_le _))
  simp only [bne_self_eq_false, Bool.false_eq_true, if_false]
  exact wpAny_pure fin
theorem sort_order {κ : PyProof.Rows.KeyKind} {s : Shared} {a S : Addr} {vs : List Value} {keys : Array Value} {e e1 : Nat} {Q : PySem.Fin → Shared → Prop} (hS : s.heap.get? S = some (seqObj "list" keys e)) (ha : s.heap.get? a = some (seqObj "list" #[] e1)) (ne : S ≠ a) (kz : keys.size = vs.length) (vz : vs.length ≤ sizeLine) (so : SortsAt prog w A s κ keys.toList)
    (fin : Q (.done (.ret .none)) { s with heap := (s.heap.update S (Obj.mapSeq fun _ => #[])).update a (Obj.mapSeq fun _ => (sortVals κ false keys.toList vs).toArray) }) : wpAny (model prog w) A (ksk_end a false vs.toArray e1 (.ref S) keys) Q E s := by
  obtain ⟨kd, lt, kind⟩ := so.kind
  have kl : keys.toList.length = vs.length := by rw [Array.length_toList, kz]
  have are : PyProof.Rows.KeysOf κ (keys.zip vs.toArray) := keysOf_zip so.keys
  have ol := sortVals_length (κ := κ) false kl
  have zs : (keys.zip vs.toArray).size = vs.length := by simp [kz]
  have outs : ∀ st : SortSt, (arrOf st).Perm (keys.zip vs.toArray) → SortedToK κ (arrOf st) (keys.zip vs.toArray).size → Stable κ (arrOf st) (keys.zip vs.toArray) → (arrOf st).map (·.2) = (sortVals κ false keys.toList vs).toArray := by
    intro st p1 p2 p3
    have q := sort_out (rev := false) (keys := keys) (items := vs.toArray) (xs := arrOf st) (κ := κ) are p1 p2 p3
    simp only [Bool.false_eq_true, if_false] at q
    rw [← q, Array.toArray_toList]
  have sz1 : keys.size ≤ sizeLine := by rw [kz]; exact vz
  have sz2 : (sortVals κ false keys.toList vs).length ≤ sizeLine := by rw [ol]; exact vz
  unfold ksk_end
  dsimp only
  simp only [Bool.false_eq_true, if_false]
  by_cases few : vs.toArray.size < 2
  · simp only [few, if_true]
    refine wpAny_bind (wpAny_pure (wpAny_bind (wpAny_pure ?_)))
    refine sort_close (vs := vs) (st := SortSt.mk' general' (keys.zip vs.toArray) #[] 7 none) hS ha ne sz1 sz2 rfl (outs _ (Array.Perm.refl _) ?_ (Stable.refl _)) fin
    intro i j h1 h2
    have : i = j := by
      rw [zs] at h2
      rw [List.size_toArray] at few
      omega
    rw [this]
    exact KeyOrd.kle_refl _
  · simp only [few, if_false]
    have two : 2 ≤ keys.toList.length := by
      rw [List.size_toArray] at few
      omega
    refine wpAny_bind (kind two E (wpAny_bind (wpAny_mono (H.wpS_sortRunsSt (κ := κ) (kd := kd) (a₀ := keys.zip vs.toArray) (st := SortSt.mk' kd (keys.zip vs.toArray) #[] 7 none) (Q := fun _ st => failedOf st = none ∧ (arrOf st).map (·.2) = (sortVals κ false keys.toList vs).toArray) lt are ⟨Array.Perm.refl _, rfl, rfl⟩ rfl (Stable.refl _) (by rw [zs]; omega) fun st q1 q2 q3 q4 => ⟨q2, outs st q1 q3 q4⟩) ?_ fun _ _ z => z)))
    rintro ⟨⟨⟩, st⟩ s' ⟨rfl, q1, q2⟩
    exact sort_close (vs := vs) hS ha ne sz1 sz2 q1 q2 fin
end
section
variable {X : Cx}
/-- what the calls of the key must do, two units deeper -/
def KeyCalls (X : Cx) (f : Addr) (call : V → Hp → VK → Prop) : Prop := ∀ (pins : List (Addr × Obj)) (s : Shared) (σ : L2.St) (H : Hp) (v : V) (u : Value) (Q : VK), L2.Inv (cxI2 X) pins σ H s → RelV v u → call v H Q → wpAny (model X.prog X.w) X.A.in1.in1 (PySem.call (.ref f) [u]) (EP (cxI2 X) pins σ Q) (fun _ _ => False) s
def KeysQ (K : PySem.W.Frag) (a S : Addr) (xs : List V) (Q : VK) : List V → Hp → Prop := fun ks H => ks.length = xs.length ∧ ∃ kz, DpAll K H ks kz ∧ AllAlike kz ∧ Sortable kz ∧ (∀ d ∈ kz, d.depth ≤ 60) ∧ kz.length = xs.length ∧ Q (.ref a) (upd (upd H S (.lst [])) a (.lst (srtV kz xs)))
theorem sort_keys {f : Addr} {call : V → Hp → VK → Prop} (hc : KeyCalls X f call) (hu : X.A.units + 80 < cLine) {pins : List (Addr × Obj)} {σ : L2.St} {a S : Addr} {e1 : Nat} {xs : List V} {us : List Value} {s : Shared} {H : Hp} {Q : VK} (ne : S ≠ a) (na : ∀ o' u', X.H_0 a ≠ some (.frz o' u')) (rv : Vals xs us) (sz : xs.length ≤ sizeLine)
    (I : L2.Inv X pins σ H s) (hq : SortC call a S (seqObj "list" #[] e1) xs [] H (KeysQ X.K a S xs Q)) (E : Value → Shared → Prop) (hS : H S = some (.lst [])) (ha : H a = some (.frz (seqObj "list" #[] e1) (.lst []))) :
    wpAny (model X.prog X.w) X.A.in1.in1 (ksk_rest a (.ref f) false us.toArray e1 (.ref S)) (fun r s' => r = .done (.ret .none) ∧ EP X pins σ Q (.ref a) s') E s := by
  have hlen := rv.length
  unfold ksk_rest
  refine wpAny_bind (wpAny_rule ?_)
  rw [List.forIn_toArray]
  refine wpAny_bind (ksk_fold (fun i s' => ∃ H' ks, L2.Inv X pins σ H' s' ∧ ks.length = i ∧ H' a = some (.frz (seqObj "list" #[] e1) (.lst [])) ∧ H' S = some (.lst ks) ∧ SortC call a S (seqObj "list" #[] e1) (xs.drop i) ks H' (KeysQ X.K a S xs Q)) us 0 s ⟨H, [], I, rfl, ha, hS, hq⟩ ?step ?done)
  case step =>
    rintro j u s' hj ⟨H', ks, I1, kl, ha1, hS1, hq1⟩
    simp only [Nat.zero_add] at kl hq1 ⊢
    have jl : j < us.length := (List.getElem?_eq_some_iff.mp hj).1
    have jx : j < xs.length := by omega
    have ex : xs[j]? = some xs[j] := List.getElem?_eq_getElem jx
    obtain ⟨u', eu, ru⟩ := rv.get ex
    rw [hj] at eu
    cases eu
    rw [List.drop_eq_getElem_cons jx] at hq1
    refine wpAny_bind (wpAny_attempt (wpAny_mono (hc pins s' σ H' _ u _ (inv_i2 I1) ru hq1) (fun k s2 h2 => ?_) fun _ _ z => z.elim))
    obtain ⟨kv, H2, I2, rk, ha2, hS2, hq2⟩ := h2
    have I2 := inv_o2 I1.ok I2
    obtain ⟨z, its, n, rvk, lk, e⟩ := I2.lstM hS2
    have zl : (ks ++ [kv]).length ≤ sizeLine := by rw [List.length_append, List.length_singleton, kl]; omega
    have J := I2.lset (f := fun arr => arr.push k) (its' := its ++ [k]) (ys := ks ++ [kv]) (t' := s2.toks) hS2 e (by simp) (rvk.append (.cons rk .nil)) zl
    refine wpAny_bind (listUpdate_at e rfl ?_ (by rw [List.size_toArray, ← lk]; exact z) (by rw [Array.size_push, List.size_toArray, ← lk]; omega))
    refine wpAny_pure ⟨rfl, _, ks ++ [kv], J, by simp [kl], by rw [upd_ne (Ne.symm ne)]; exact ha2, upd_same, hq2⟩
  case done =>
    rintro s' ⟨H', ks, I1, kl, ha1, hS1, hq1⟩
    simp only [Nat.zero_add] at kl hq1
    rw [show xs.drop us.length = [] from List.drop_eq_nil_of_le (by omega)] at hq1
    obtain ⟨_, _, ksl, kz, dp, al, so, dd, zl, q⟩ := hq1
    obtain ⟨z, its, n, rvk, lk, e⟩ := I1.lstM hS1
    have ea : s'.heap.get? a = some (seqObj "list" #[] e1) := (I1.hok a _ ha1).1
    have each := dpAll_each I1 dp rvk
    refine wpAny_bind (listItems_at e rfl ?_)
    have S1 : SortsAt X.prog X.w X.A.in1.in1 s' (dataKind s'.heap kz) its := SortsAt.data each al so fun d hd => by
      have := dd d hd
      show X.A.units + 1 + 1 + d.depth < cLine
      omega
    refine sort_order (κ := dataKind s'.heap kz) e ea ne (by rw [List.size_toArray]; omega) (by omega) S1 ⟨rfl, ?_⟩
    have ko : KeyedOut false kz us (sortVals (dataKind s'.heap kz) false its us) := ⟨s'.heap, its, al, rfl, each⟩
    have ez := each_zip rv (zl.symm)
    have em : (xs.zip kz).map Prod.snd = kz := by rw [List.map_snd_zip]; omega
    have out := each_vals (keyedOut_each (bs := xs.zip kz) Prod.snd (by rw [em]; exact ko) ez)
    have J1 := I1.lset (f := fun _ => (#[] : Array Value)) (its' := []) (ys := []) (t' := s'.toks) hS1 e rfl .nil (Nat.zero_le _)
    have J2 := J1.unlock (d := a) (by rw [upd_ne (Ne.symm ne)]; exact ha1) na
    have ea2 : ({ s' with heap := s'.heap.update S (Obj.mapSeq fun _ => (#[] : Array Value)), toks := s'.toks } : Shared).heap.get? a = some (seqObj "list" [].toArray e1) := ((Heap.SameBut.update s'.heap S (Obj.mapSeq fun _ => (#[] : Array Value))).2 a ne.symm).trans ea
    have J3 := J2.lset (f := fun _ => (sortVals (dataKind s'.heap kz) false its us).toArray) (its' := sortVals (dataKind s'.heap kz) false its us) (ys := srtV kz xs) (t' := s'.toks) upd_same ea2 rfl out (by rw [srtV_length zl.symm]; exact sz)
    have eu : upd (upd (upd H' S (.lst [])) a (.lst [])) a (.lst (srtV kz xs)) = upd (upd H' S (.lst [])) a (.lst (srtV kz xs)) := by
      funext b
      by_cases c : b = a
      · rw [c, upd_same, upd_same]
      · rw [upd_ne c, upd_ne c, upd_ne c]
    rw [eu] at J3
    exact ⟨.ref a, _, J3, rfl, q⟩
/-- sorted(xs, key=f) -/
def rSortK (K : PySem.W.Frag) (f : Addr) (call : V → Hp → VK → Prop) : List V → List V → Hp → VK → Prop := fun vs zs H Q => ∃ l xs, vs = [V.ref l] ∧ zs = [V.ref f] ∧ SqL K H l xs ∧
  ∀ a S od, S ≠ a → H a = none → H S = none → SortC call a S od xs [] (upd (upd H a (.frz od (.lst []))) S (.lst [])) (KeysQ K a S xs Q)
theorem cr_sortK {f : Addr} {call : V → Hp → VK → Prop} (hc : KeyCalls X f call) (hu : X.A.units + 80 < cLine) : CallRK X (.builtin "sorted") [Str.ofString "key"] (rSortK X.K f call) := by
  intro pins s σ H vs zs us ws Q I r rz h
  obtain ⟨l, xs, rfl, rfl, hs, hq⟩ := h
  obtain rfl := Vals.ref1 r
  obtain ⟨w1, rfl, e1⟩ := vals1 rz
  obtain rfl : w1 = Value.ref f := e1
  obtain ⟨its, rv, hl, hz⟩ := I.list hs
  refine sorted_of_sort hl.isList (by rw [← rv.length]; exact hz) (PyProof.Rows.ksk_s1 _ _) (fun _ => PyProof.Rows.ksk_l1 _ _) fun E' => ?_
  rw [show Builtin.«list.sort» ⟨[.ref (s.heap.objs.size + 1)], [Str.ofString "key"].zip [Value.ref f]⟩ = ksk_tree (s.heap.objs.size + 1) (.ref f) false from PyProof.Rows.ksk_t1 _ _]
  have I1 : L2.Inv X pins σ (upd H (s.heap.objs.size + 1) (.lst xs)) { s with heap := copyHeap s.heap its, toks := s.toks } := I.laid (fun _ _ => copyHeap_old) (Nat.le_succ _) ⟨hz, its, 0, rv, copyHeap_at _ _⟩
  have fr1 : H (s.heap.objs.size + 1) = none := I.hok.fresh (Nat.le_succ _)
  have e0 := copyHeap_at s.heap its
  have J2 := I1.lset (f := fun _ => (#[] : Array Value)) (its' := []) (ys := []) (t' := s.toks) upd_same e0 rfl .nil (Nat.zero_le _)
  obtain ⟨n1, e2⟩ : ∃ n1, ((copyHeap s.heap its).update (s.heap.objs.size + 1) (Obj.mapSeq fun _ => (#[] : Array Value))).get? (s.heap.objs.size + 1) = some (seqObj "list" #[] n1) := ⟨_, get?_update_seq e0 fun _ => (#[] : Array Value)⟩
  unfold ksk_tree
  refine wpAny_bind (listItems_at e0 rfl ?_)
  refine wpAny_bind (listUpdate_at e0 rfl ?_ (by rw [List.size_toArray, ← rv.length]; exact hz) (Nat.zero_le _))
  refine wpAny_bind (seqEpoch_at e2 rfl ?_)
  refine wpAny_bind (wpAny_newTuple ?_ (by show its.length ≤ _; rw [← rv.length]; exact hz))
  refine wpAny_bind (wpAny_newList ?_ (Nat.zero_le _))
  refine wpAny_holding ?_
  have J3 := J2.kept (t' := s.toks) (h' := ((copyHeap s.heap its).update (s.heap.objs.size + 1) (Obj.mapSeq fun _ => (#[] : Array Value))).push (seqObj "tuple" its.toArray 0)) fun b o e => Heap.get?_push_of_some _ e
  have J4 := J3.lnew (its := []) (ys := []) (t' := s.toks) .nil (Nat.zero_le _)
  have fr2 := J3.fresh
  generalize hSz : (((copyHeap s.heap its).update (s.heap.objs.size + 1) (Obj.mapSeq fun _ => (#[] : Array Value))).push (seqObj "tuple" its.toArray 0)).objs.size = S at *
  generalize hA : s.heap.objs.size + 1 = a at *
  have ne : S ≠ a := by
    intro z
    rw [z, upd_same] at fr2
    cases fr2
  have frS : H S = none := by
    rw [upd_ne ne, upd_ne ne] at fr2
    exact fr2
  obtain ⟨od, J5⟩ := J4.lock (d := a) (u := .lst []) (by rw [upd_ne (Ne.symm ne), upd_same]) trivial
  have e5 : ((((copyHeap s.heap its).update a (Obj.mapSeq fun _ => (#[] : Array Value))).push (seqObj "tuple" its.toArray 0)).push (seqObj "list" [].toArray 0)).get? a = some od := (J5.hok a _ upd_same).1
  rw [Heap.get?_push_of_some _ (Heap.get?_push_of_some _ e2)] at e5
  cases e5
  have eu : upd (upd (upd (upd H a (.lst xs)) a (.lst [])) S (.lst [])) a (.frz (seqObj "list" #[] n1) (.lst [])) = upd (upd H a (.frz (seqObj "list" #[] n1) (.lst []))) S (.lst []) := by
    funext b
    by_cases c : b = a
    · rw [c, upd_same, upd_ne (Ne.symm ne), upd_same]
    · rw [upd_ne c]
      by_cases c2 : b = S
      · rw [c2, upd_same, upd_same]
      · rw [upd_ne c2, upd_ne c2, upd_ne c, upd_ne c, upd_ne c]
  rw [eu] at J5
  have nf : ∀ o' u', X.H_0 a ≠ some (.frz o' u') := fun o' u' z => by
    have q := I.base.frzs a o' u' z
    rw [fr1] at q
    cases q
  exact sort_keys hc hu ne nf rv hz J5 (hq a S _ ne fr1 frS) E' upd_same (by rw [upd_ne (Ne.symm ne), upd_same])
end
end MP

set_option Elab.async false
set_option linter.all false
set_option maxRecDepth 100000
set_option maxHeartbeats 4000000
/-! MP43: the machine's sorted by a key def. -/
namespace MP
open PySem PySem.Spec PyProof.Rows L2 PySem.W
open Evl (Ex)
/-- the keys, one by one -/
def keysL (φ : Fn) : List MP.D → Sto → Option (List MP.D × Sto)
  | [], st => some ([], st)
  | x :: xs, st => match φ [x] st with
    | .ok (.d k) st1 => match keysL φ xs st1 with
      | some (ks, st2) => some (k :: ks, st2)
      | none => none
    | _ => none
def tup1 : PyData → Bool
  | .tuple (_ :: _) => true
  | _ => false
def notup : PyData → Bool
  | .none => false
  | .tuple _ => false
  | _ => true
/-- keys by which sorted may go -/
def srtOk (kz : List PyData) : Bool := (kz.all fun d => kz.all fun e => alike d e) && ((kz.all tup1 || kz.all notup) && kz.all fun d => decide (d.depth ≤ 60))
theorem srtOk_is {kz : List PyData} (h : srtOk kz = true) : AllAlike kz ∧ Sortable kz ∧ ∀ d ∈ kz, d.depth ≤ 60 := by
  unfold srtOk at h
  simp only [Bool.and_eq_true, Bool.or_eq_true, List.all_eq_true, decide_eq_true_eq] at h
  obtain ⟨h1, h2, h3⟩ := h
  refine ⟨fun d hd e he => h1 d hd e he, h2.imp (fun q d hd => ?_) (fun q d hd => ?_), h3⟩
  · have := q d hd
    unfold tup1 at this
    split at this
    · exact ⟨_, _, rfl⟩
    · cases this
  · have := q d hd
    cases d with
    | none => cases this
    | tuple xs => cases this
    | _ => exact ⟨(by intro z; cases z), fun _ z => by cases z⟩
section
variable {K : PySem.W.Frag} {cn : String → Addr} {W : WX} {X : Cx}
theorem dats_app : ∀ {xs ys : List MP.D} {ds : List PyData}, dats (xs ++ ys) = some ds → ∃ d1 d2, dats xs = some d1 ∧ dats ys = some d2 ∧ ds = d1 ++ d2
  | [], ys, ds, h => ⟨[], ds, rfl, h, rfl⟩
  | x :: xs, ys, ds, h => by
    rw [List.cons_append] at h
    unfold dats at h
    split at h
    · rename_i d d2 e1 e2
      cases h
      obtain ⟨p, q, h1, h2, h3⟩ := dats_app e2
      refine ⟨d :: p, q, ?_, h2, by rw [h3]; rfl⟩
      conv => lhs; unfold dats
      rw [e1, h1]
    · cases h
theorem dats_len : ∀ {xs : List MP.D} {ds : List PyData}, dats xs = some ds → ds.length = xs.length
  | [], ds, h => by cases h; rfl
  | x :: xs, ds, h => by
    unfold dats at h
    split at h
    · rename_i d d2 e1 e2
      cases h
      exact congrArg (· + 1) (dats_len e2)
    · cases h
theorem srt_reps {G : Hp} {ρ : List Addr} {xs : List MP.D} {vs : List V} {kz : List PyData} (h : Reps K cn G ρ xs vs) : Reps K cn G ρ (srtV kz xs) (srtV kz vs) := by
  have hz : ∀ (xs : List MP.D) (vs : List V) (kz : List PyData), xs.length = vs.length → (xs.zip (vs.zip kz)).map (fun t => (t.1, t.2.2)) = xs.zip kz ∧ (xs.zip (vs.zip kz)).map (fun t => t.2) = vs.zip kz := by
    intro xs
    induction xs with
    | nil => intro vs kz h; cases vs with
      | nil => exact ⟨rfl, rfl⟩
      | cons => cases h
    | cons x xs ih =>
      intro vs kz h
      cases vs with
      | nil => cases h
      | cons v vs =>
        cases kz with
        | nil => exact ⟨rfl, rfl⟩
        | cons k kz =>
          obtain ⟨h1, h2⟩ := ih vs kz (by simpa using h)
          exact ⟨congrArg (List.cons (x, k)) h1, congrArg (List.cons (v, k)) h2⟩
  have hm : ∀ (xs : List MP.D) (vs : List V) (kz : List PyData), Reps K cn G ρ xs vs → ∀ t ∈ xs.zip (vs.zip kz), Rep K cn G ρ t.1 t.2.1 := by
    intro xs
    induction xs with
    | nil => intro vs kz _ t ht; simp at ht
    | cons x xs ih =>
      intro vs kz h t ht
      cases h with
      | @cons _ v _ vs h1 h2 =>
        cases kz with
        | nil => simp at ht
        | cons k kz =>
          rcases List.mem_cons.mp (show t ∈ (x, v, k) :: xs.zip (vs.zip kz) from ht) with rfl | ht
          · exact h1
          · exact ih vs kz h2 t ht
  obtain ⟨e1, e2⟩ := hz xs vs kz h.length
  have m1 := List.map_mergeSort (r := fun s t => dataLe false Prod.snd (s.1, s.2.2) (t.1, t.2.2)) (s := dataLe false Prod.snd) (f := fun t : MP.D × V × PyData => (t.1, t.2.2)) (l := xs.zip (vs.zip kz)) (fun _ _ _ _ => rfl)
  have m2 := List.map_mergeSort (r := fun s t => dataLe false Prod.snd (s.1, s.2.2) (t.1, t.2.2)) (s := dataLe false Prod.snd) (f := fun t : MP.D × V × PyData => t.2) (l := xs.zip (vs.zip kz)) (fun _ _ _ _ => rfl)
  rw [e1] at m1
  rw [e2] at m2
  unfold srtV
  rw [← m1, ← m2, List.map_map, List.map_map]
  have all : ∀ (ts : List (MP.D × V × PyData)), (∀ t ∈ ts, Rep K cn G ρ t.1 t.2.1) → Reps K cn G ρ (ts.map (Prod.fst ∘ fun t => (t.1, t.2.2))) (ts.map (Prod.fst ∘ fun t => t.2)) := by
    intro ts
    induction ts with
    | nil => exact fun _ => .nil
    | cons t ts ih => exact fun h => .cons (h t (List.mem_cons_self ..)) (ih fun u hu => h u (List.mem_cons_of_mem _ hu))
  exact all _ fun t ht => hm xs vs kz h t ((List.mergeSort_perm _ _).mem_iff.mp ht)
abbrev keyP (K : PySem.W.Frag) (cn : String → Addr) (φ : Fn) : V → Hp → VK → Prop := fun v H Q => spM K cn φ 1 [v] H Q fun _ _ _ => False
theorem sort_run {φ : Fn} {a S : Addr} {od : Obj} {all : List MP.D} {vall : List V} {Q : VK} (ne : S ≠ a) : ∀ (xs : List MP.D) (ws ks : List V) (kd : List MP.D) (Z : Zt), R K cn Z → Reps K cn Z.G Z.ρ xs ws → Reps K cn Z.G Z.ρ kd ks → Reps K cn Z.G Z.ρ all vall → Z.H a = some (.frz od (.lst [])) → Z.G a = none → a ∉ Z.ρ → ¬ Z.own a → Z.H S = some (.lst ks) → Z.G S = none → S ∉ Z.ρ → ¬ Z.own S → kd.length + xs.length = all.length →
    (match keysL φ xs Z.st with
      | some (k2, st') => (match dats (kd ++ k2) with
        | some kz => srtOk kz = true ∧ PostE K cn W Z (fun b => b = a ∨ b = S) (.ok (.f (.lst (srtV kz all))) Z.sl st') Q
        | none => False)
      | none => False) → SortC (keyP K cn φ) a S od ws ks Z.H (KeysQ K a S vall Q) := by
  intro xs
  induction xs with
  | nil =>
    intro ws ks kd Z hR hx hk hall ha ga ra oa hS gS rS oS hl h
    cases hx
    rw [show keysL φ [] Z.st = some ([], Z.st) from rfl] at h
    dsimp only at h
    rw [List.append_nil] at h
    cases ed : dats kd with
    | none => rw [ed] at h; exact h.elim
    | some kz =>
      rw [ed] at h
      obtain ⟨so, h⟩ := h
      obtain ⟨s1, s2, s3⟩ := srtOk_is so
      have l1 := dats_len ed
      have l2 := hall.length
      have l3 := hk.length
      refine ⟨ha, hS, by simp at hl; omega, kz, dats_dp hR.ex hk ed, s1, s2, s3, by simp at hl; omega, ?_⟩
      have t1 := (Step.hand (Z := Z) (u := .lst []) hR rS oS).with (· = a)
      have R1 := R.hand (Z := Z) (u := .lst []) hR hS gS rS oS
      have ha1 : upd Z.H S (.lst []) a = some (.frz od (.lst [])) := by rw [upd_ne (Ne.symm ne)]; exact ha
      have t2 := (Step.hand (Z := { Z with H := upd Z.H S (.lst []) }) (u := .lst (srtV kz vall)) R1 ra oa).with (· = S)
      have R2 := R.hand (Z := { Z with H := upd Z.H S (.lst []) }) (u := .lst (srtV kz vall)) R1 ha1 ga ra oa
      have tt : Step Z (fun b => b = a ∨ b = S) { Z with H := upd (upd Z.H S (.lst [])) a (.lst (srtV kz vall)) } (fun b => b = a ∨ b = S) := (t1.less (fun b z => z.symm)).trans (t2.less fun b z => z.symm)
      refine h Z.G _ Z.ρ (.ref a) R2 ⟨a, _, rfl, upd_same, ga, ra, oa, .lst (srt_reps hall)⟩ (tt.drop fun b z => ?_)
      exact .inl (by have z' : V.ref a = V.ref b := z; cases z'; rfl)
  | cons x xs ih =>
    intro ws ks kd Z hR hx hk hall ha ga ra oa hS gS rS oS hl h
    cases hx with
    | @cons _ w _ ws h1 h2 =>
    unfold keysL at h
    refine ⟨rfl, Z.G, Z.ρ, Z.st, [x], hR.bare, .cons h1 .nil, ?_⟩
    cases e : φ [x] Z.st with
    | no => rw [e] at h; exact h.elim
    | exc C ys st => rw [e] at h; exact h.elim
    | ok r st1 =>
      rw [e] at h
      cases r with
      | f b => exact h.elim
      | sl i => exact h.elim
      | d k =>
        dsimp only at h
        intro G H ρ v hR1 hv hst
        obtain ⟨k1, k2, k3⟩ := hR.framed hR1 hst
        obtain ⟨a1, a2, a3, a4, _⟩ := k2.keep a _ ha ga ra oa (fun z => z.elim)
        obtain ⟨S1, S2, S3, S4, _⟩ := k2.keep S _ hS gS rS oS (fun z => z.elim)
        have R2 := R.hand (Z := ⟨G, H, ρ, Z.σ, Z.sl, st1⟩) (u := .lst (ks ++ [v])) k1 S1 S2 S3 S4
        have t0 := k2.with (fun b => b = a ∨ b = S)
        have t1 := (Step.hand (Z := ⟨G, H, ρ, Z.σ, Z.sl, st1⟩) (u := .lst (ks ++ [v])) k1 S3 S4).with (· = a)
        have tt : Step Z (fun b => b = a ∨ b = S) ⟨G, upd H S (.lst (ks ++ [v])), ρ, Z.σ, Z.sl, st1⟩ (fun b => b = a ∨ b = S) := (t0.less fun b z => z.elim False.elim id).trans (((t1.less fun b z => z.symm).less fun b z => .inr z).drop fun b z => z.symm)
        refine ⟨a1, S1, ?_⟩
        refine ih ws (ks ++ [v]) (kd ++ [k]) ⟨G, upd H S (.lst (ks ++ [v])), ρ, Z.σ, Z.sl, st1⟩ R2 (h2.mono k2.g k2.r) ((hk.mono k2.g k2.r).append (.cons hv .nil)) (hall.mono k2.g k2.r) (by show upd H S _ a = _; rw [upd_ne (Ne.symm ne)]; exact a1) a2 a3 a4 upd_same S2 S3 S4 (by simp at hl ⊢; omega) ?_
        cases e2 : keysL φ xs st1 with
        | none => rw [e2] at h; exact h.elim
        | some q =>
          obtain ⟨k2', st2⟩ := q
          rw [e2] at h
          dsimp only at h ⊢
          rw [show kd ++ [k] ++ k2' = kd ++ k :: k2' by simp]
          cases e3 : dats (kd ++ k :: k2') with
          | none => rw [e3] at h; exact h.elim
          | some kz =>
            rw [e3] at h
            exact ⟨h.1, PostE.trans tt rfl h.2⟩
def mSortK (φ : Fn) (rs : List RV) : Mn RV := bnd (escs rs) fun ds sl st => match ds with
  | [.lst xs] => match keysL φ xs st with
    | some (ks, st') => match dats ks with
      | some kz => if srtOk kz = true then .ok (.f (.lst (srtV kz xs))) sl st' else .no
      | none => .no
    | none => .no
  | _ => .no
theorem sortK_ok {φ : Fn} {f : Addr} : OpOk K cn W (fun vs H Q => rSortK K f (keyP K cn φ) vs [V.ref f] H Q) (mSortK φ) := op_escs fun Z ds vs Q hR hx h => by
  split at h
  · rename_i xs
    cases hx with
    | cons h1 t =>
      cases t
      cases h1 with
      | @lst _ l ws k1 k2 =>
        refine ⟨l, ws, rfl, rfl, Evl.ex_l hR.ex k1, fun a S od ne fa fS => ?_⟩
        have s1 := Step.laid (A := NoA) hR (.frz od (.lst [])) fa
        have R1 := R.laid hR (.frz od (.lst [])) fa
        have fS1 : upd Z.H a (.frz od (.lst [])) S = none := by rw [upd_ne ne]; exact fS
        have s2 := Step.laid (A := fun b => NoA b ∨ b = a) R1 (.lst []) fS1
        have R2 := R.laid R1 (.lst []) fS1
        refine sort_run (W := W) ne xs ws [] [] _ R2 k2 .nil k2 (by show upd (upd Z.H a (.frz od (.lst []))) S (.lst []) a = _; rw [upd_ne (Ne.symm ne), upd_same]) (hR.gnone fa) (hR.rnew fa) (hR.onew fa) upd_same (hR.gnone fS) (hR.rnew fS) (hR.onew fS) (by simp) ?_
        cases e1 : keysL φ xs Z.st with
        | none => rw [e1] at h; exact h.elim
        | some q =>
          obtain ⟨ks, st'⟩ := q
          rw [e1] at h
          dsimp only at h ⊢
          rw [List.nil_append]
          cases e2 : dats ks with
          | none => rw [e2] at h; exact h.elim
          | some kz =>
            rw [e2] at h
            dsimp only at h ⊢
            by_cases c : srtOk kz = true
            · rw [if_pos c] at h
              exact ⟨c, PostE.trans ((s1.trans s2).drop fun b z => z.elim (fun z => .inl (.inr z)) .inr) rfl h⟩
            · rw [if_neg c] at h; exact h.elim
  · exact h.elim
theorem key_calls {k : Nat} {f : Addr} {fd : FuncData} {ps : List Str} {φ : Fn} (F : FnOk X.prog X.w X.K X.mg X.base (L2.CX X.prog X.w) k f fd ps (spM X.K cn φ 1)) (hr : Room (k + 2) X.A) (hb : Binds X.K fd ps []) : KeyCalls X f (keyP X.K cn φ) := by
  intro pins s σ H v u Q I r h
  exact run_fnS (X := cxI2 X) (E := WE WF) F (hr.in1.in1) hb (passAt (X := cxI2 X) (W := WF) takes0 σ) I (.cons r .nil) h
/-- sorted(xs, key=g) -/
theorem me_sortK {k : Nat} {f : Addr} {fd : FuncData} {ps : List Str} {φ : Fn} {x g : Str} {e : Expr} {es : List Expr} {p gp pos kpos : Pos} {m : Mn (List RV)} (F : FnOk X.prog X.w X.K X.mg X.base (L2.CX X.prog X.w) k f fd ps (spM X.K cn φ 1)) (hr : Room (k + 2) X.A) (hb : Binds X.K fd ps []) (hgg : Gl X g) (hgm : X.mg g = some (.ref f)) (hg : Gl X x) (hm : X.mg x = none) (hv : bootBuiltins x = some (.builtin "sorted")) (ha : PA X (e :: es) (TMa X.K cn W m)) (hgd : (g == ("__debug__" : Str)) = false := by decide) (hn : x ≠ "__name__" := by decide) (hdb : (x == ("__debug__" : Str)) = false := by decide)
    (he : backTo pos (starEach (e :: es) X.env) = (false, eval e X.env) :: backTo pos (starEach es X.env) := by rfl) (hpl : (backTo pos (starEach (e :: es) X.env)).any (·.1) = false := by rfl)
    (hall : (backToKw pos (keywordEach [⟨some (Str.ofString "key"), .Name g gp, kpos⟩] X.env)).all (·.1.isSome) = true := by rfl) (hnone : (backToKw pos (keywordEach [⟨some (Str.ofString "key"), .Name g gp, kpos⟩] X.env)).any (·.1.isNone) = false := by rfl) (hks : (backToKw pos (keywordEach [⟨some (Str.ofString "key"), .Name g gp, kpos⟩] X.env)).filterMap (·.1) = [Str.ofString "key"] := by rfl) :
    PE X (.Call (.Name x p) (e :: es) [⟨some (Str.ofString "key"), .Name g gp, kpos⟩] pos) (TM X.K cn W (mOp (mSortK φ) m)) :=
  PE.imp (pe_callBK (cr_sortK (key_calls F hr hb) (by have := hr.un; omega)) hg hm hv ha (pk_cons (pe_glob (v := .ref f) hgg hgm rfl hgd) pk_nil) hn hdb he hpl hall hnone hks) fun σ H Q q => tm_op (sortK_ok (f := f)) σ H Q q
end
end MP

set_option Elab.async false
set_option linter.all false
set_option maxRecDepth 100000
set_option maxHeartbeats 4000000
/-! MP44: isinstance of a value that is a function. -/
namespace MP
open PySem PySem.Spec PyProof.Rows L2 PySem.W
open Evl (Ex)
open Sem (wp)
namespace FnF
theorem getattribute : Slot "function" "__getattribute__" "object.__getattribute__" :=
  .of (owner := "object") (n := "__getattribute__") (by rw [typeLookup_type, builtinLookup_eq_fast]; kernel_rfl) (by decide +kernel) (by decide +kernel) (by decide +kernel) (by first | exact .inl (by decide +kernel) | exact .inr (by decide +kernel)) (by rw [isSubtype_type]; kernel_rfl)
theorem cls : typeLookup (.type "function") "__class__" = pure (some (.builtin "object.__class__")) := by rw [typeLookup_type, builtinLookup_eq_fast]; kernel_rfl
theorem own : isSubtype (.type "function") (.type (".".intercalate ("object.__class__".cutAt '.').dropLast)) = pure true := by rw [PySem.F.owner_object_class, isSubtype_type]; kernel_rfl
end FnF
section
variable {prog : Program} {w : World} {A : Around} {E : Value → Shared → Prop} {h : Heap} {g : Array GenState} {d : Drawn} {t : Nat} {os : OsState} {a : Addr} {o : Obj}
theorem fn_class_by {tk : Tok} {Q : Value → Shared → Prop} (hx : h.get? a = some o) (hc : o.cls = .type "function") (hq : Q (.type "function") ⟨h, g, d, t, os⟩) : wpAny (model prog w) A (getAttrBy (.ref a) (.str "__class__" tk) false) Q E ⟨h, g, d, t, os⟩ := by
  have hT : (⟨h, g, d, t, os⟩ : Shared).TypeIs (.ref a) "function" := ⟨_, hx, hc⟩
  have f2 := FnF.getattribute.lookup
  have f3 := FnF.getattribute.bind (.ref a)
  repeat (any_goals (first | assumption | wp_step))
  refine codeAny_call_builtin FnF.getattribute.plain PySem.F.entry_object_getattribute (FnF.getattribute.check _ _ _ _ _ _ _ _ hT (PySem.F.args_object_getattribute_2 _ _) (class_entry_exc FnF.cls FnF.own (by decide) hx hc ?_))
  repeat (any_goals (first | assumption | wp_step))
theorem fn_class {Q : Option Value → Shared → Prop} (hx : h.get? a = some o) (hc : o.cls = .type "function") (hq : Q (some (.type "function")) ⟨h, g, d, t + 1, os⟩) : wpAny (model prog w) A (getAttr? (.ref a) "__class__") Q E ⟨h, g, d, t, os⟩ := by
  unfold getAttr? getAttrBy?
  repeat (any_goals (first | assumption | with_reducible apply fn_class_by hx hc | wp_step))
theorem kitx_fn {K : PySem.W.Frag} {a : Addr} : KitX K (.ref a) (.type "function") (KitAt a "function") := kitx_of kitAt_ty (fun {_ _ _ _ _ s} p k => by obtain ⟨h, g, d, t, os⟩ := s; obtain ⟨o, h1, h2⟩ := p; exact fn_class h1 h2 k)
end
/-- the def at f is a function object -/
def fnB (K : PySem.W.Frag) (f : Addr) : Bool := match K.lookup f with
  | some o => match o.cls with
    | .type n => n == "function"
    | _ => false
  | none => false
theorem fnB_is {K : PySem.W.Frag} {f : Addr} (h : fnB K f = true) : ∃ o, K.lookup f = some o ∧ o.cls = .type "function" := by
  unfold fnB at h
  split at h
  · rename_i o e
    split at h
    · rename_i n c
      exact ⟨o, e, by rw [c, beq_iff_eq.mp h]⟩
    · cases h
  · cases h
/-- isinstance(f, (c1, c2, ..)), f a function -/
def rIsiF (K : PySem.W.Frag) : List V → Hp → VK → Prop := fun xs H Q => ∃ (f : Addr) (tp : Addr) (cs : List V) (us : List Value) (b : Bool), xs = [.ref f, .ref tp] ∧ fnB K f = true ∧ SqT K H tp cs ∧ Paired ClsV cs us ∧ PySem.W.kitAny K (.type "function") us = some b ∧ Q (.bl b) H
theorem call_isiF {X : Cx} : CallR X (.builtin "isinstance") (rIsiF X.K) := by
  intro pins s σ H xs us Q I r h
  obtain ⟨f, tp, cs, ws, b, rfl, hf, hT, k, e, q⟩ := h
  obtain ⟨u1, u2, rfl, r1, r2⟩ := vals2 r
  cases (show u1 = Value.ref f from r1)
  cases (show u2 = Value.ref tp from r2)
  obtain ⟨of, lf, cf⟩ := fnB_is hf
  obtain ⟨its, o, n, rv, h1, h2, h3⟩ := sqTAt I.hok I.kIn hT
  have e3 := ClsV.all k rv
  subst e3
  obtain ⟨oc, od, dt, sl⟩ := o
  simp only at h2 h3
  subst h2 h3
  exact PySem.W.kia_tup kitx_fn I.kIn ⟨of, I.kIn _ _ lf, cf⟩ h1 e (fun z => by cases z) fun tk => ⟨.bl b, H, I.tok tk, rfl, q⟩
/-- the class is none of these built-in types -/
def fnA (isa : String → String → Option Bool) (Cs : List String) : List MP.D → Bool
  | [] => true
  | .ty n :: cs => decide (n ∉ Cs) && (decide (isa "function" n = some false) && fnA isa Cs cs)
  | _ => false
def gIsiG (Fs Cs : List String) (isa : String → String → Option Bool) : List MP.D → PR
  | [.gl f, .tup cs] => if f ∈ Fs ∧ "function" ∉ Cs ∧ fnA isa Cs cs = true then .d (.bl false) else .no
  | xs => gIsiT Cs isa xs
section
variable {K : PySem.W.Frag} {cn : String → Addr} {X : Cx} {Z : Zt}
def rIsiG (K : PySem.W.Frag) : List V → Hp → VK → Prop := fun xs H Q => rIsiF K xs H Q ∨ rIsiU K xs H Q
theorem call_isiG : CallR X (.builtin "isinstance") (rIsiG X.K) := by
  intro pins s σ H xs us Q I r h
  rcases h with h | h
  · exact call_isiF pins s σ H xs us Q I r h
  · exact call_isiU pins s σ H xs us Q I r h
theorem fnA_ok {Cs : List String} {isa : String → String → Option Bool} (hI : IsaOk K cn Cs isa) (nf : "function" ∉ Cs) : ∀ {cs : List MP.D} {vs : List V} {G : Hp} {ρ : List Addr}, Reps K cn G ρ cs vs → fnA isa Cs cs = true → ∃ us, Paired ClsV vs us ∧ PySem.W.kitAny K (.type "function") us = some false
  | [], _, _, _, .nil, h => ⟨[], .nil, rfl⟩
  | c :: cs, _, G, ρ, .cons (v := v) (vs := vs) h1 h2, h => by
    cases c with
    | ty n =>
      simp only [fnA, Bool.and_eq_true, decide_eq_true_eq] at h
      obtain ⟨m, e, h⟩ := h
      cases h1 with
      | ty =>
        have k := hI.bb _ _ _ nf m e
        obtain ⟨us, p, q⟩ := fnA_ok hI nf h2 h
        refine ⟨.type n :: us, .cons (.ty n) p, ?_⟩
        unfold PySem.W.kitAny
        rw [k]
        exact q
    | _ => cases h
theorem ok_isiG {Fs Cs : List String} {isa : String → String → Option Bool} (hI : IsaOk K cn Cs isa) (hF : ∀ f ∈ Fs, fnB K (cn f) = true) : POk K cn (rIsiG K) (gIsiG Fs Cs isa) := by
  intro Z xs vs Q hR hv hq
  unfold gIsiG at hq
  split at hq
  · rename_i f cs
    obtain ⟨v, w, rfl, h1, h2⟩ := hv.two
    cases h1.gl
    obtain ⟨tp, ws, rfl, t1, t2, t3⟩ := h2.tup hR
    by_cases c : f ∈ Fs ∧ "function" ∉ Cs ∧ fnA isa Cs cs = true
    · rw [if_pos c] at hq
      obtain ⟨us, p, q⟩ := fnA_ok hI c.2.1 t2 c.2.2
      exact .inl ⟨_, tp, ws, us, false, rfl, hF f c.1, t1, p, q, hq _ .bl⟩
    · rw [if_neg c] at hq; exact hq.elim
  · exact .inr (ok_isiT hI Z _ vs Q hR hv hq)
end
end MP

set_option Elab.async false
set_option linter.all false
set_option maxRecDepth 100000
set_option maxHeartbeats 4000000
/-! MP45: products of which one factor is short. -/
namespace MP
open PySem PySem.Spec PyProof.Rows L2
def CMulU (i j : Int) : Prop := i.natAbs.log2 < 63 ∨ j.natAbs.log2 < 63 ∨ CMulW i j
theorem bits_short {i : Int} (h : i.natAbs.log2 < 63) : Builtin.Int.intBits i ≤ 64 := by
  unfold Builtin.Int.intBits
  split <;> omega
theorem op_mulU {X : Cx} : OpR X (binaryOp .Mult) (rI CMulU fun i j => .int (i * j)) := opI fun _ _ _ _ _ _ _ hc q => mul_int q (hc.elim (fun h => .of_left (bits_short h)) fun h => h.elim (fun h => .of_right (bits_short h)) fun h => h.ok)
def mulOkU (i j : Int) : Bool := decide (i.natAbs.log2 < 63) || (decide (j.natAbs.log2 < 63) || decide (i.natAbs.log2 + j.natAbs.log2 < 1000000))
def gMulU : List D → PR := gII fun i j => if mulOkU i j = true then .d (.int (i * j)) else .no
theorem ok_mulU {K : PySem.W.Frag} {cn : String → Addr} : POk K cn (r2l (rI CMulU fun i j => .int (i * j))) gMulU := gII_ok fun Z i j Q hR h => by
  by_cases c : mulOkU i j = true
  · rw [if_pos c] at h
    unfold mulOkU at c
    simp only [Bool.or_eq_true, decide_eq_true_eq] at c
    exact ⟨i, j, rfl, rfl, c, h _ .int⟩
  · rw [if_neg c] at h
    exact h.elim
@[simp] theorem ev_gMulU (x y : Int) (h : mulOkU x y = true) : gMulU [.int x, .int y] = .d (.int (x * y)) := if_pos h
theorem mulU_l {i j : Int} (h : i.natAbs < 2 ^ 63) : mulOkU i j = true := by
  have q : i.natAbs.log2 < 63 := by
    by_cases z : i.natAbs = 0
    · rw [z]; decide
    · exact (Nat.log2_lt z).mpr h
  simp [mulOkU, q]
theorem mulU_r {i j : Int} (h : j.natAbs < 2 ^ 63) : mulOkU i j = true := by
  have q : j.natAbs.log2 < 63 := by
    by_cases z : j.natAbs = 0
    · rw [z]; decide
    · exact (Nat.log2_lt z).mpr h
  simp [mulOkU, q]
end MP

set_option Elab.async false
set_option linter.all false
set_option maxRecDepth 100000
set_option maxHeartbeats 4000000
/-! MP46: dict comprehensions. -/
namespace MP
open PySem PySem.Spec PyProof.Rows L2
open Evl (Ex)
def valKD (kvs : List (Key × D)) (k : Key) : Option D := (kvs.find? fun kv => decide (kv.1 = k)).map (·.2)
def putKD (kvs : List (Key × D)) (k : Key) (v : D) : List (Key × D) :=
  if (kvs.any fun kv => decide (kv.1 = k)) = true then kvs.map (fun kv => if kv.1 = k then (kv.1, v) else kv) else kvs ++ [(k, v)]
/-- a key that an expression gives -/
def keyR : RV → Option Key
  | .d (.str s) => some (.inr s)
  | .d (.int i) => some (.inl i)
  | _ => none
def compD (t : Tgt) (tt : Mn Bool) (tk te : Mn RV) (vs : List Nat) : List D → List (Key × D) → Mn (List (Key × D))
  | [], acc => unit acc
  | x :: xs, acc => fun sl st => match mTgt t x sl st with
    | .ok .nx sl1 st1 => match tt sl1 st1 with
      | .ok true sl2 st2 => match tk sl2 st2 with
        | .ok rk slk stk => match keyR rk with
          | some key => match te slk stk with
            | .ok r sl3 st3 => match esc r sl3 st3 with
              | .ok y sl4 st4 => if acc.length < 100000 ∧ noLk sl4 vs = true then compD t tt tk te vs xs (putKD acc key y) (wipeS sl4 vs) st4 else .no
              | _ => .no
            | _ => .no
          | none => .no
        | _ => .no
      | .ok false sl2 st2 => if noLk sl2 vs = true then compD t tt tk te vs xs acc (wipeS sl2 vs) st2 else .no
      | _ => .no
    | _ => .no
def mCompD (vs : List Nat) (mi : Mn (List D × Hd)) (t : Tgt) (tt : Mn Bool) (tk te : Mn RV) : Mn RV := bnd mi fun p sl st =>
  if noLk (lockS p.2 sl) vs = true then
    match compD t tt tk te vs p.1 [] (wipeS (lockS p.2 sl) vs) (lockC p.2 st) with
    | .ok ys sl' st' => .ok (.f (.dct ys)) (unlS p.2 sl (backS (lockS p.2 sl) sl' vs)) (unlC p.2 st st')
    | _ => .no
  else .no
section
variable {K : PySem.W.Frag} {cn : String → Addr} {W : WX} {X : Cx} {Z : Zt} {A : Addr → Prop}
theorem RepK.any {G : Hp} {ρ : List Addr} (k : Key) : ∀ {xs : List (Key × MP.D)} {vs : List (Key × V)}, RepK K cn G ρ xs vs → (xs.any fun kv => decide (kv.1 = k)) = vs.any fun kv => decide (kv.1 = k)
  | _, _, .nil => rfl
  | _, _, .cons (k := k') h r => by
    simp only [List.any_cons]
    rw [RepK.any k r]
theorem RepK.snoc {G : Hp} {ρ : List Addr} {k : Key} {x : MP.D} {v : V} (hx : Rep K cn G ρ x v) : ∀ {xs : List (Key × MP.D)} {vs : List (Key × V)}, RepK K cn G ρ xs vs → RepK K cn G ρ (xs ++ [(k, x)]) (vs ++ [(k, v)])
  | _, _, .nil => .cons hx .nil
  | _, _, .cons h r => .cons h (RepK.snoc hx r)
theorem RepK.repl {G : Hp} {ρ : List Addr} {k : Key} {x : MP.D} {v : V} (hx : Rep K cn G ρ x v) : ∀ {xs : List (Key × MP.D)} {vs : List (Key × V)}, RepK K cn G ρ xs vs → RepK K cn G ρ (xs.map fun kv => if kv.1 = k then (kv.1, x) else kv) (vs.map fun kv => if kv.1 = k then (kv.1, v) else kv)
  | _, _, .nil => .nil
  | _, _, .cons (k := k') h r => by
    simp only [List.map_cons]
    by_cases c : k' = k
    · rw [if_pos c, if_pos c]; exact .cons hx (RepK.repl hx r)
    · rw [if_neg c, if_neg c]; exact .cons h (RepK.repl hx r)
theorem RepK.put {G : Hp} {ρ : List Addr} {x : MP.D} {v : V} {xs : List (Key × MP.D)} {vs : List (Key × V)} (h : RepK K cn G ρ xs vs) (k : Key) (hx : Rep K cn G ρ x v) : RepK K cn G ρ (putKD xs k x) (putK vs k v) := by
  unfold putKD putK
  rw [h.any k]
  split
  · exact h.repl hx
  · exact h.snoc hx
theorem RepK.val {G : Hp} {ρ : List Addr} {k : Key} : ∀ {xs : List (Key × MP.D)} {vs : List (Key × V)} {x : MP.D}, RepK K cn G ρ xs vs → valKD xs k = some x → ∃ v, valV vs k = some v ∧ Rep K cn G ρ x v
  | _, _, x, .nil, e => by cases e
  | _, _, x, .cons (k := k') (x := y) (v := v) h r, e => by
    unfold valKD at e
    rw [List.find?_cons] at e
    by_cases c : k' = k
    · simp [c] at e
      subst e
      exact ⟨v, valV_pos c, h⟩
    · simp [c] at e
      obtain ⟨v', h1, h2⟩ := RepK.val (k := k) (x := x) r (by simpa [valKD] using e)
      exact ⟨v', by rw [valV_neg c]; exact h1, h2⟩
theorem RepK.isSome {G : Hp} {ρ : List Addr} {k : Key} : ∀ {xs : List (Key × MP.D)} {vs : List (Key × V)}, RepK K cn G ρ xs vs → (valV vs k).isSome = (valKD xs k).isSome
  | _, _, .nil => rfl
  | _, _, .cons (k := k') (x := y) (v := v) (xs := xs) (vs := vs) h r => by
    have ih := RepK.isSome (k := k) r
    by_cases c : k' = k
    · rw [valV_pos c]
      simp [valKD, c]
    · rw [valV_neg c, ih]
      simp [valKD, c]
theorem keyR_is {Z : Zt} {r : RV} {k : Key} {y : V} (e : keyR r = some k) (h : RepRV K cn Z r y) : y = kV k ∧ ∀ a, ¬ rvA r y a := by
  unfold keyR at e
  split at e
  · cases e
    cases (show Rep K cn Z.G Z.ρ (.str _) y from h)
    exact ⟨rfl, fun a z => z⟩
  · cases e
    cases (show Rep K cn Z.G Z.ρ (.int _) y from h)
    exact ⟨rfl, fun a z => z⟩
  · cases e
/-- the new dict that is in hand -/
def HandD (p : Addr) (us : List (Key × V)) (Z : Zt) : Prop := Z.H p = some (.dK us) ∧ Z.G p = none ∧ p ∉ Z.ρ ∧ ¬ Z.own p
theorem HandD.step {p : Addr} {us : List (Key × V)} {Z Z' : Zt} {A A' : Addr → Prop} (h : HandD p us Z) (s : Step Z A Z' A') (n : ¬ A p) : HandD p us Z' ∧ ¬ A' p := by
  obtain ⟨a, b, c, d, e⟩ := s.keep p _ h.1 h.2.1 h.2.2.1 h.2.2.2 n
  exact ⟨⟨a, b, c, d⟩, e⟩
def WD (K : PySem.W.Frag) (cn : String → Addr) (t : Tgt) (tt : Mn Bool) (tk te : Mn RV) (vs : List Nat) (xs : List MP.D) (P : Zt → Prop) (p : Addr) (ZW : Zt) (σ : L2.St) (q : Res (List (Key × MP.D))) (i m : Nat) (H : Hp) : Prop :=
  m + i = xs.length ∧ ∃ G ρ sl st acc us, R K cn ⟨G, H, ρ, L2.wipe σ vs, sl, st⟩ ∧ P ⟨G, H, ρ, L2.wipe σ vs, sl, st⟩ ∧ Step ZW NoA ⟨G, H, ρ, L2.wipe σ vs, sl, st⟩ (· = p) ∧ HandD p us ⟨G, H, ρ, L2.wipe σ vs, sl, st⟩ ∧ RepK K cn G ρ acc us ∧ (∀ j ∈ vs, ∀ s, sl[j]? = some s → s = Sl.u) ∧ compD t tt tk te vs (xs.drop i) acc sl st = q
theorem wd_turn {t : Tgt} {tt : Mn Bool} {tk te : Mn RV} {vs : List Nat} {xs : List MP.D} {B : Addr → Prop} {P : Zt → Prop} {J : It} {p : Addr} {ZW : Zt} {σ : L2.St} {ys : List (Key × MP.D)} {slf : Sls} {stf : Sto} {g : TG} (hk : GOk K cn WF g t) (hin : GIn vs g) (hW : Walks K cn J xs B P) (hB : ¬ B p)
    {i m : Nat} {H : Hp} (ci : i < xs.length) (h : WD K cn t tt tk te vs xs P p ZW σ (.ok ys slf stf) i m H) :
    J.go i H ∧ ∃ Nx : Hp → Prop, (∀ H', Nx H' → ∃ m', m' < m ∧ WD K cn t tt tk te vs xs P p ZW σ (.ok ys slf stf) (i + 1) m' H') ∧ ∀ x H', J.yld i H x H' → g x (L2.wipe σ vs) H' fun σ2 H2 => L2.wipe σ2 vs = L2.wipe σ vs ∧ TMt K cn WF tt σ2 H2 fun b H3 =>
    if b = true then TM K cn WF tk σ2 H3 fun y H4 => TM K cn WF te σ2 H4 fun z H5 => ∃ kvs k, y = kV k ∧ H5 p = some (.dK kvs) ∧ kvs.length < sizeLine ∧ Nx (upd H5 p (.dK (putK kvs k z))) else Nx H3 := by
  obtain ⟨hm, G', ρ', sl', st', acc, us, hR', hP', hS', hD', hacc, hu, hc⟩ := h
  obtain ⟨hgo, hy⟩ := hW.go hR' hP' (List.getElem?_eq_getElem ci)
  refine ⟨hgo, fun H2 => WD K cn t tt tk te vs xs P p ZW σ (.ok ys slf stf) (i + 1) (m - 1) H2, fun H2 z => ⟨m - 1, by omega, z⟩, fun v H2 hyl => ?_⟩
  obtain ⟨G2, hR2, hv, hS2⟩ := hy v H2 hyl
  have hP2 := hW.keep hP' hS2
  obtain ⟨hD2, _⟩ := hD'.step hS2 fun z => z
  have ww : L2.wipe (L2.wipe σ vs) vs = L2.wipe σ vs := wipe_wipe (σ2 := σ) rfl
  rw [List.drop_eq_getElem_cons ci] at hc
  unfold compD at hc
  refine hin v (L2.wipe σ vs) H2 (fun σ3 H3 => L2.wipe σ3 vs = L2.wipe σ vs → TMt K cn WF tt σ3 H3 fun b H3 =>
    if b = true then TM K cn WF tk σ3 H3 fun y H4 => TM K cn WF te σ3 H4 fun z H5 => ∃ kvs k, y = kV k ∧ H5 p = some (.dK kvs) ∧ kvs.length < sizeLine ∧ WD K cn t tt tk te vs xs P p ZW σ (.ok ys slf stf) (i + 1) (m - 1) (upd H5 p (.dK (putK kvs k z))) else WD K cn t tt tk te vs xs P p ZW σ (.ok ys slf stf) (i + 1) (m - 1) H3) _ (fun σ3 H3 ew q => ⟨ew.trans ww, q (ew.trans ww)⟩) ?_
  refine hk ⟨G2, H2, ρ', L2.wipe σ vs, sl', st'⟩ xs[i] v ⟨_, fun _ _ => False, fun _ _ => False, fun _ _ => False⟩ hR2 hv ?_
  cases et : mTgt t xs[i] sl' st' with
  | no => rw [et] at hc; cases hc
  | exc C zs s3 t3 => rw [et] at hc; cases hc
  | ok f s3 t3 =>
    rw [et] at hc
    cases f with
    | bk => cases hc
    | ct => cases hc
    | rt r => cases hc
    | nx =>
      intro G3 H3 ρ3 σ3 hR3 hS3 ew
      dsimp only at hc
      have hP3 := hW.keep hP2 hS3
      obtain ⟨hD3, _⟩ := hD2.step hS3 fun z => z
      refine ⟨G3, ρ3, s3, t3, hR3, ?_⟩
      cases ett : tt s3 t3 with
      | no => rw [ett] at hc; cases hc
      | exc C zs s4 t4 => rw [ett] at hc; cases hc
      | ok b s4 t4 =>
        rw [ett] at hc
        intro G4 H4 ρ4 hR4 hS4
        have hP4 := hW.keep hP3 hS4
        obtain ⟨hD4, _⟩ := hD3.step hS4 fun z => z
        have hS24 : Step ⟨G', H, ρ', L2.wipe σ vs, sl', st'⟩ NoA ⟨G4, H4, ρ4, σ3, s4, t4⟩ NoA := (hS2.trans hS3).trans hS4
        cases b with
        | false =>
          dsimp only at hc
          by_cases cl : noLk s4 vs = true
          · rw [if_pos cl] at hc
            rw [if_neg (by decide)]
            have hw : Step ⟨G4, H4, ρ4, σ3, s4, t4⟩ (· = p) ⟨G4, H4, ρ4, L2.wipe σ vs, wipeS s4 vs, t4⟩ (· = p) := by
              have := Step.wipe (Z := ⟨G4, H4, ρ4, σ3, s4, t4⟩) (A := (· = p)) (vs := vs) cl
              unfold Zt.wipe at this
              dsimp only at this
              rw [ew] at this
              exact this
            have hw0 : Step ⟨G4, H4, ρ4, σ3, s4, t4⟩ NoA ⟨G4, H4, ρ4, L2.wipe σ vs, wipeS s4 vs, t4⟩ NoA := by
              have := Step.wipe (Z := ⟨G4, H4, ρ4, σ3, s4, t4⟩) (A := NoA) (vs := vs) cl
              unfold Zt.wipe at this
              dsimp only at this
              rw [ew] at this
              exact this
            have hRw : R K cn ⟨G4, H4, ρ4, L2.wipe σ vs, wipeS s4 vs, t4⟩ := by
              have := hR4.wipe vs
              unfold Zt.wipe at this
              dsimp only at this
              rw [ew] at this
              exact this
            refine ⟨by omega, G4, ρ4, wipeS s4 vs, t4, acc, us, hRw, hW.keep hP4 hw0, ?_, (hD4.step hw0 fun z => z).1, hacc.mono hS24.g hS24.r, wipeS_u s4 vs, hc⟩
            have s1 := (hS24.with (· = p)).less (B := (· = p)) (fun a z => z.elim False.elim id)
            exact (hS'.trans (s1.drop fun a z => .inr z)).trans hw
          · rw [if_neg cl] at hc; cases hc
        | true =>
          dsimp only at hc
          rw [if_pos rfl]
          refine ⟨G4, ρ4, s4, t4, hR4, ?_⟩
          cases etk : tk s4 t4 with
          | no => rw [etk] at hc; cases hc
          | exc C zs s5 t5 => rw [etk] at hc; cases hc
          | ok rk sk tk4 =>
            rw [etk] at hc
            dsimp only at hc
            intro Gk Hk ρk yk hRk hyk hSk
            cases ekk : keyR rk with
            | none => rw [ekk] at hc; cases hc
            | some key =>
              rw [ekk] at hc
              dsimp only at hc
              obtain ⟨eyk, erk⟩ := keyR_is ekk hyk
              have hPk := hW.keep hP4 (hSk.drop (B := NoA) fun a z => z.elim)
              obtain ⟨hDk, _⟩ := hD4.step hSk fun z => z
              have hS2k : Step ⟨G', H, ρ', L2.wipe σ vs, sl', st'⟩ NoA ⟨Gk, Hk, ρk, σ3, sk, tk4⟩ NoA := hS24.trans (hSk.drop (B := NoA) fun a z => z.elim)
              refine ⟨Gk, ρk, sk, tk4, hRk, ?_⟩
              cases etx : te sk tk4 with
              | no => rw [etx] at hc; cases hc
              | exc C zs s5 t5 => rw [etx] at hc; cases hc
              | ok r s5 t5 =>
                rw [etx] at hc
                dsimp only at hc
                intro G5 H5 ρ5 y hR5 hy5 hS5
                cases ee : esc r s5 t5 with
                | no => rw [ee] at hc; cases hc
                | exc C zs s6 t6 => rw [ee] at hc; cases hc
                | ok yd s6 t6 =>
                  rw [ee] at hc
                  dsimp only at hc
                  obtain ⟨rfl, G6, hR6, hy6, hS6⟩ := esc_ok (Z := ⟨G5, H5, ρ5, σ3, s5, t5⟩) hR5 hy5 ee
                  obtain ⟨hD5, n5⟩ := hDk.step hS5 fun z => z
                  obtain ⟨hD6, _⟩ := hD5.step hS6 n5
                  have hS26 : Step ⟨G', H, ρ', L2.wipe σ vs, sl', st'⟩ NoA ⟨G6, H5, ρ5, σ3, s6, t6⟩ NoA := (hS2k.trans hS5).trans hS6
                  have hP6 := hW.keep hP' hS26
                  by_cases cl : acc.length < 100000 ∧ noLk s6 vs = true
                  · rw [if_pos cl] at hc
                    refine ⟨us, key, eyk, hD6.1, by rw [← hacc.length]; exact Nat.lt_trans cl.1 (by decide), ?_⟩
                    have hRh := R.hand hR6 (u := .dK (putK us key y)) hD6.1 hD6.2.1 hD6.2.2.1 hD6.2.2.2
                    have hSh := Step.hand hR6 (u := .dK (putK us key y)) hD6.2.2.1 hD6.2.2.2
                    have hw : ∀ A, Step ⟨G6, upd H5 p (.dK (putK us key y)), ρ5, σ3, s6, t6⟩ A ⟨G6, upd H5 p (.dK (putK us key y)), ρ5, L2.wipe σ vs, wipeS s6 vs, t6⟩ A := fun A => by
                      have := Step.wipe (Z := ⟨G6, upd H5 p (.dK (putK us key y)), ρ5, σ3, s6, t6⟩) (A := A) (vs := vs) cl.2
                      unfold Zt.wipe at this
                      dsimp only at this
                      rw [ew] at this
                      exact this
                    have hRw : R K cn ⟨G6, upd H5 p (.dK (putK us key y)), ρ5, L2.wipe σ vs, wipeS s6 vs, t6⟩ := by
                      have := hRh.wipe vs
                      unfold Zt.wipe at this
                      dsimp only at this
                      rw [ew] at this
                      exact this
                    have hDh : HandD p (putK us key y) ⟨G6, upd H5 p (.dK (putK us key y)), ρ5, σ3, s6, t6⟩ := ⟨upd_same, hD6.2.1, hD6.2.2.1, hD6.2.2.2⟩
                    refine ⟨by omega, G6, ρ5, wipeS s6 vs, t6, putKD acc key yd, putK us key y, hRw, ?_, ?_, (hDh.step (hw NoA) fun z => z).1, (hacc.mono hS26.g hS26.r).put key hy6, wipeS_u s6 vs, hc⟩
                    · refine hW.keep (hW.keepA hP6 hSh fun a z => ?_) (hw NoA)
                      subst z; exact hB
                    · have s1 := (hS26.with (· = p)).less (B := (· = p)) (fun a z => z.elim False.elim id)
                      exact ((hS'.trans (s1.drop fun a z => .inr z)).trans hSh).trans (hw _)
                  · rw [if_neg cl] at hc; cases hc
theorem tm_dcomp {vs : List Nat} {mi : Mn (List MP.D × Hd)} {t : Tgt} {tt : Mn Bool} {tk te : Mn RV} {g : TG} (hk : GOk K cn WF g t) (hin : GIn vs g) : ∀ σ H Q, TM K cn W (mCompD vs mi t tt tk te) σ H Q → tDc (TMi K cn W mi) g (TMt K cn WF tt) (TM K cn WF tk) (TM K cn WF te) vs σ H Q := by
  rintro σ H Q ⟨G, ρ, sl, st, hR, h⟩
  refine ⟨G, ρ, sl, st, hR, ?_⟩
  unfold mCompD bnd at h
  cases e : mi sl st with
  | no => rw [e] at h; exact h
  | exc C xs s t => rw [e] at h; exact h
  | ok w sl1 st1 =>
    obtain ⟨xs, hd⟩ := w
    rw [e] at h
    dsimp only at h
    intro G1 H1 ρ1 A' J B P hR1 hS hB hW hP p hp
    by_cases c : noLk (lockS hd sl1) vs = true
    · rw [if_pos c] at h
      cases ec : compD t tt tk te vs xs [] (wipeS (lockS hd sl1) vs) (lockC hd st1) with
      | no => rw [ec] at h; exact h.elim
      | exc C xs s t => rw [ec] at h; exact h.elim
      | ok ys slf stf =>
        rw [ec] at h
        dsimp only at h
        have hRL := hR1.lock hd
        have hRW := hRL.wipe vs
        have hpW : (Zt.wipe (Zt.lock ⟨G1, H1, ρ1, σ, sl1, st1⟩ hd) vs).H p = none := hp
        have hB' : ¬ B p := fun z => hB p z hp
        refine ⟨WD K cn t tt tk te vs xs P p (Zt.wipe (Zt.lock ⟨G1, H1, ρ1, σ, sl1, st1⟩ hd) vs) σ (.ok ys slf stf), ⟨xs.length, ?_⟩, ?_⟩
        · have hl := hRW.laid (.dK []) hpW
          have sl0 : ∀ A, Step (Zt.wipe (Zt.lock ⟨G1, H1, ρ1, σ, sl1, st1⟩ hd) vs) A _ (fun a => A a ∨ a = p) := fun A => Step.laid hRW (.dK []) hpW
          have sw : Step (Zt.lock ⟨G1, H1, ρ1, σ, sl1, st1⟩ hd) NoA (Zt.wipe (Zt.lock ⟨G1, H1, ρ1, σ, sl1, st1⟩ hd) vs) NoA := Step.wipe c
          refine ⟨by omega, G1, ρ1, _, _, [], [], hl, hW.keep (hW.keep hP sw) (sl0 NoA), (sl0 NoA).drop fun a z => .inr z, ⟨upd_same, hRW.gnone hpW, hRW.rnew hpW, hRW.onew hpW⟩, .nil, wipe_u, ?_⟩
          rw [List.drop_zero]; exact ec
        · intro i m H' hwi
          by_cases ci : i < xs.length
          · exact .inr (wd_turn hk hin hW hB' ci hwi)
          · left
            obtain ⟨hm, G', ρ', sl', st', acc, us, hR', hP', hS', hD', hacc, hu, hc⟩ := hwi
            have ei : i = xs.length := by omega
            subst ei
            refine ⟨hW.stop hR' hP', ?_⟩
            rw [List.drop_length] at hc
            cases hc
            obtain ⟨b1, b2, b3⟩ := hRL.back hR' hS' hu
            have sm := unl_same hd sl1 (backS (lockS hd sl1) slf vs) st1 stf
            refine h G' H' ρ' (.ref p) (b1.same sm) ?_ (hS.end0.trans ?_)
            · refine RepRV.same (Z := ⟨G', H', ρ', σ, backS (lockS hd sl1) slf vs, stf⟩) sm ?_
              exact ⟨p, .dK us, rfl, hD'.1, hD'.2.1, hD'.2.2.1, b3 p rfl hD'.2.2.2, .dct hacc⟩
            · exact (Step.unlock (Z := ⟨G1, H1, ρ1, σ, sl1, st1⟩) (Z1 := ⟨G', H', ρ', σ, backS (lockS hd sl1) slf vs, stf⟩) b2).drop fun a z => by cases z; rfl
    · rw [if_neg c] at h; exact h.elim
theorem me_dcomp {kx vx tg iter : Expr} {ifs : List Expr} {scope : Scope} {own : List (Str × Nat)} {pos : Pos} {g : TG} {mi : Mn (List MP.D × Hd)} {t : Tgt} {tt : Mn Bool} {tk te : Mn RV} (hc : X.calm = true) (hN : X.N.Nodup) (hi : PI X tg iter (TMi K cn W mi)) (ok : BlkOk X.N X.env.scope scope own)
    (hg : ∀ (s : Shared) (H : Hp) (C : Addr) (cl : List (Str × Addr)) (fp : List Addr), PG (X.blk s H scope (compEnvC scope cl C X.env) fp) tg g) (ht : ∀ (s : Shared) (H : Hp) (C : Addr) (cl : List (Str × Addr)) (fp : List Addr), PTs (X.blk s H scope (compEnvC scope cl C X.env) fp) ifs (TMt K cn WF tt))
    (hkx : ∀ (s : Shared) (H : Hp) (C : Addr) (cl : List (Str × Addr)) (fp : List Addr), PE (X.blk s H scope (compEnvC scope cl C X.env) fp) kx (TM K cn WF tk))
    (he : ∀ (s : Shared) (H : Hp) (C : Addr) (cl : List (Str × Addr)) (fp : List Addr), PE (X.blk s H scope (compEnvC scope cl C X.env) fp) vx (TM K cn WF te)) (hk : GOk K cn WF g t) (hin : GIn (own.map (·.2)) g) (hs : ∀ x, foldedSetIterable iter X.env x = pure x := by intro _; rfl) :
    PE X (.DictComp kx vx [⟨tg, iter, ifs, 0⟩] scope pos) (TM K cn W (mCompD (own.map (·.2)) mi t tt tk te)) := PE.imp (pe_dc hc hN hi ok hg ht hkx he hs) (tm_dcomp hk hin)
end
end MP

set_option Elab.async false
set_option linter.all false
set_option maxRecDepth 100000
set_option maxHeartbeats 4000000
/-! MP47: d[k]; written dicts from names to defs; constants that are tuples of texts; sorted(xs) of data; dict(pairs); a or b by truth. -/
namespace MP
open PySem PySem.Spec PyProof.Rows L2 PySem.W
open Evl (Ex)
/-! ### d[k] -/
def keyD : MP.D → Option Key
  | .str s => some (.inr s)
  | .int i => some (.inl i)
  | _ => none
def gIxD : List MP.D → PR
  | [.dct kvs, k] => match keyD k with
    | some key => match valKD kvs key with
      | some v => .d v
      | none => .no
    | none => .no
  | _ => .no
def rIxDct : R2 := fun x y H Q => ∃ a v, x = .ref a ∧ DGet H a y (some v) ∧ Q v H
theorem ix_dct {X : Cx} (hu : X.A.units + 1 < cLine) : IxR X rIxDct := by
  intro value slice pins s σ H x y v u Q I rx ry h hs
  obtain ⟨a, r, rfl, g, q⟩ := h
  obtain rfl : v = Value.ref a := rx
  exact tail_any (dict_typeIs I g) slot_dict_getitem.lookup (d_getItem hu I g ry fun w' s' I' rw' => ⟨r, H, I', rw', q⟩) hs
section
variable {K : PySem.W.Frag} {cn : String → Addr} {W : WX} {X : Cx} {Z : Zt} {A : Addr → Prop}
theorem keyD_is {Z : Zt} {x : MP.D} {k : Key} {y : V} (e : keyD x = some k) (h : RepH K cn Z x y) : y = kV k := by
  unfold keyD at e
  split at e
  · cases e; exact h.str
  · cases e; exact h.int
  · cases e
theorem ok_ixD : POk K cn (r2l rIxDct) gIxD := by
  intro Z xs vs Q hR hv hq
  unfold gIxD at hq
  split at hq
  · obtain ⟨v, w, rfl, ⟨a, us, rfl, q1, r1⟩, h2⟩ := hv.two
    split at hq
    · rename_i kk key ek
      cases keyD_is ek h2
      split at hq
      · rename_i x ex
        obtain ⟨u, e1, e2⟩ := r1.val ex
        refine ⟨_, _, rfl, a, u, rfl, ?_, hq _ e2⟩
        rw [← e1]
        exact DGet.k q1
      · exact hq.elim
    · exact hq.elim
  · exact hq.elim
/-! ### a written dict from names to defs -/
def tabG (tbl : List (Str × String)) (z : Str) : Option String := (tbl.find? fun q => decide (q.1 = z)).map (·.2)
structure KTab (K : PySem.W.Frag) (w : World) (cn : String → Addr) (d : String) (tbl : List (Str × String)) : Prop where
  ex : ∃ es n, KDict K w (cn d) es n
  at_ : ∀ z, PySem.W.nsIn K (cn d) z = some ((tabG tbl z).map fun f => Value.ref (cn f))
def gIxG (d : String) (tbl : List (Str × String)) : List MP.D → PR
  | [.gl e, .str z] => if e = d then (match tabG tbl z with
    | some f => .d (.gl f)
    | none => .no) else .no
  | _ => .no
def gInG (neg : Bool) (d : String) (tbl : List (Str × String)) : List MP.D → PR
  | [.str z, .gl e] => if e = d then .d (.bl (if neg = true then !(tabG tbl z).isSome else (tabG tbl z).isSome)) else .no
  | _ => .no
def rIxG (K : PySem.W.Frag) (cn : String → Addr) (d : String) (tbl : List (Str × String)) : R2 := fun x y H Q => ∃ z f, x = .ref (cn d) ∧ y = .str z ∧ tabG tbl z = some f ∧ Q (.ref (cn f)) H
def rInG (cn : String → Addr) (neg : Bool) (d : String) (tbl : List (Str × String)) : R2 := fun x y H Q => ∃ z, x = .str z ∧ y = .ref (cn d) ∧ Q (.bl (if neg = true then !(tabG tbl z).isSome else (tabG tbl z).isSome)) H
theorem ix_tab {d : String} {tbl : List (Str × String)} (T : KTab X.K X.w cn d tbl) : IxR X (rIxG X.K cn d tbl) := by
  intro value slice pins s σ H x y v u Q I rx ry h hs
  obtain ⟨z, f, rfl, rfl, e, q⟩ := h
  obtain ⟨es, n, D⟩ := T.ex
  refine ix_kdict value slice pins s σ H _ _ v u Q I rx ry ⟨cn d, z, .ref (cn f), rfl, rfl, ⟨es, n, .ref (cn f), D.at_, D.lit, ?_, rfl⟩, q⟩ hs
  rw [T.at_ z, e]
  rfl
theorem op_in_tab {d : String} {tbl : List (Str × String)} (T : KTab X.K X.w cn d tbl) : OpR X (compareOp .In) (rInG cn false d tbl) := by
  intro pins s σ H x y v u Q I rx ry h
  obtain ⟨z, rfl, rfl, q⟩ := h
  obtain ⟨es, n, D⟩ := T.ex
  refine op_in_kd D pins s σ H _ _ v u Q I rx ry ⟨z, _, rfl, rfl, T.at_ z, ?_⟩
  rw [Option.isSome_map]
  exact q
theorem op_notIn_tab {d : String} {tbl : List (Str × String)} (T : KTab X.K X.w cn d tbl) : OpR X (compareOp .NotIn) (rInG cn true d tbl) := by
  intro pins s σ H x y v u Q I rx ry h
  obtain ⟨z, rfl, rfl, q⟩ := h
  obtain ⟨es, n, D⟩ := T.ex
  refine op_notIn_kd D pins s σ H _ _ v u Q I rx ry ⟨z, _, rfl, rfl, T.at_ z, ?_⟩
  rw [Option.isSome_map]
  exact q
theorem ok_ixG {d : String} {tbl : List (Str × String)} : POk K cn (r2l (rIxG K cn d tbl)) (gIxG d tbl) := by
  intro Z xs vs Q hR hv hq
  unfold gIxG at hq
  split at hq
  · obtain ⟨v, w, rfl, h1, h2⟩ := hv.two
    cases h1.gl
    cases h2.str
    split at hq
    · rename_i e
      cases e
      split at hq
      · rename_i f ef
        exact ⟨_, _, rfl, _, f, rfl, rfl, ef, hq _ .gl⟩
      · exact hq.elim
    · exact hq.elim
  · exact hq.elim
theorem ok_inG {neg : Bool} {d : String} {tbl : List (Str × String)} : POk K cn (r2l (rInG cn neg d tbl)) (gInG neg d tbl) := by
  intro Z xs vs Q hR hv hq
  unfold gInG at hq
  split at hq
  · obtain ⟨v, w, rfl, h1, h2⟩ := hv.two
    cases h1.str
    cases h2.gl
    split at hq
    · rename_i e
      cases e
      exact ⟨_, _, rfl, _, rfl, rfl, hq _ .bl⟩
    · exact hq.elim
  · exact hq.elim
end
def keyS : Value → Option Str
  | .str x _ => some x
  | _ => none
def tabB (K : PySem.W.Frag) (a : Addr) (tbl : List (Str × String)) : Bool := match K.lookup a with
  | some ⟨_, _, .dict es _, _⟩ => decide (es.toList.map (fun e => (keyS e.key, e.val)) = tbl.map fun q => (some q.1, Value.ref (cnK K q.2)))
  | _ => false
theorem tab_find {K : PySem.W.Frag} {z : Str} : ∀ {es : List DictEntry} {tbl : List (Str × String)}, es.map (fun e => (keyS e.key, e.val)) = tbl.map (fun q => (some q.1, Value.ref (cnK K q.2))) →
    (match es.find? (·.key.isStr z) with
      | some e => some (some e.val)
      | none => if es.any (·.refKey) then none else some none) = some ((tabG tbl z).map fun f => Value.ref (cnK K f)) ∧ es.any (·.refKey) = false
  | [], [], _ => ⟨rfl, rfl⟩
  | [], _ :: _, h => by cases h
  | _ :: _, [], h => by cases h
  | e :: es, q :: tbl, h => by
    rw [List.map_cons, List.map_cons] at h
    injection h with h1 h2
    injection h1 with h3 h4
    obtain ⟨ih1, ih2⟩ := tab_find (z := z) h2
    obtain ⟨hs, k, v⟩ := e
    cases k with
    | str x t =>
      cases (Option.some.inj h3)
      dsimp only at h4
      have ez : Value.isStr (.str q.1 t) z = decide (q.1 = z) := by
        show (q.1 == z) = _
        by_cases c : q.1 = z
        · rw [c]; simp
        · simp [c]
      have e2 : (DictEntry.refKey ⟨hs, .str q.1 t, v⟩) = false := rfl
      refine ⟨?_, by rw [List.any_cons, e2, ih2]; rfl⟩
      rw [List.find?_cons, List.any_cons, e2]
      dsimp only
      rw [ez]
      unfold tabG
      rw [List.find?_cons]
      cases c : decide (q.1 = z) with
      | true => simp [h4]
      | false =>
        rw [Bool.false_or]
        exact ih1
    | _ => cases h3
theorem ktab_of {K : PySem.W.Frag} {w : World} {d : String} {tbl : List (Str × String)} (h : ∃ es n, KDict K w (He.ga K d) es n) (c : tabB K (He.ga K d) tbl = true) : KTab K w (cnK K) d tbl := by
  refine ⟨h, fun z => ?_⟩
  obtain ⟨es, n, D⟩ := h
  unfold tabB at c
  show PySem.W.nsIn K (He.ga K d) z = _
  unfold PySem.W.nsIn
  rw [D.at_] at c ⊢
  exact (tab_find (of_decide_eq_true c)).1
/-! ### a constant that is a tuple of texts -/
def KTup (K : PySem.W.Frag) (a : Addr) (xs : List Str) : Prop := ∃ (o : Obj) (its : Array Value) (n : Nat), K.lookup a = some o ∧ o.cls = .type "tuple" ∧ o.data = .seq its n ∧ its.size ≤ sizeLine ∧ Vals (xs.map V.str) its.toList
def tupB (K : PySem.W.Frag) (a : Addr) (xs : List Str) : Bool := match K.lookup a with
  | some ⟨.type c, _, .seq its _, _⟩ => decide (c = "tuple") && (decide (its.toList.map keyS = xs.map some) && decide (its.size ≤ 1000))
  | _ => false
theorem keyS_vals : ∀ {us : List Value} {xs : List Str}, us.map keyS = xs.map some → Vals (xs.map V.str) us
  | [], [], _ => .nil
  | [], _ :: _, h => by cases h
  | _ :: _, [], h => by cases h
  | u :: us, x :: xs, h => by
    rw [List.map_cons, List.map_cons] at h
    injection h with h1 h2
    cases u with
    | str y t => cases (Option.some.inj h1); exact .cons ⟨t, rfl⟩ (keyS_vals h2)
    | _ => cases h1
theorem tupB_ok {K : PySem.W.Frag} {a : Addr} {xs : List Str} (h : tupB K a xs = true) : KTup K a xs := by
  unfold tupB at h
  split at h
  · rename_i c od its n sl e
    simp only [Bool.and_eq_true, decide_eq_true_eq] at h
    obtain ⟨h1, h2, h3⟩ := h
    exact ⟨_, its, n, e, by rw [h1], rfl, Nat.le_trans h3 (by decide), keyS_vals h2⟩
  · cases h
section
variable {K : PySem.W.Frag} {cn : String → Addr} {W : WX} {X : Cx} {Z : Zt} {A : Addr → Prop}
theorem reps_strs {G : Hp} {ρ : List Addr} : ∀ (xs : List Str), Reps K cn G ρ (xs.map MP.D.str) (xs.map V.str)
  | [] => .nil
  | _ :: xs => .cons .str (reps_strs xs)
theorem me_glT {xs : List Str} {a : Addr} {x : Str} {pos : Pos} (hg : Gl X x) (hm : X.mg x = some (.ref a)) (hT : KTup X.K a xs) (hd : (x == ("__debug__" : Str)) = false := by decide) : PE X (.Name x pos) (TM X.K cn W (mC (.tup (xs.map MP.D.str)))) :=
  PE.imp (pe_glob hg hm (v := .ref a) rfl hd) (tm_c fun _ _ => .tup (.inr hT) (reps_strs xs))
/-! ### sorted(xs), xs a list of data -/
theorem each_zip2 {s : Shared} : ∀ {xs : List V} {us : List Value} {kz : List PyData}, EachIs (fun u d => ∃ as, Reads s.heap u d as) us kz → xs.length = kz.length → EachIs (fun (u : Value) (b : V × PyData) => ∃ as, Reads s.heap u b.2 as) us (xs.zip kz)
  | [], _, [], .nil, _ => .nil
  | x :: xs, _, _ :: _, .cons h t, e => .cons h (each_zip2 t (by simpa using e))
def rSortD (K : PySem.W.Frag) : List V → Hp → VK → Prop := fun vs H Q => ∃ (a : Addr) (xs : List V) (kz : List PyData), vs = [V.ref a] ∧ SqL K H a xs ∧ DpAll K H xs kz ∧ xs.length = kz.length ∧ AllAlike kz ∧ Sortable kz ∧ (∀ d ∈ kz, d.depth ≤ 60) ∧
  ∀ p, H p = none → Q (.ref p) (upd H p (.lst (srtV kz xs)))
theorem cr_sortedD (hu : X.A.units + 80 < cLine) : CallR X (.builtin "sorted") (rSortD X.K) := by
  intro pins s σ H vs us Q I r h
  obtain ⟨a, xs, kz, rfl, hs, dp, el, al, so, de, q⟩ := h
  obtain ⟨its, rv, hl, hz⟩ := I.list hs
  rw [Vals.ref1 r]
  have e1 : (xs.zip kz).map Prod.snd = kz := List.map_snd_zip (by omega)
  have el2 : (xs.zip kz).length = xs.length := by rw [List.length_zip]; omega
  refine sorted_data (bs := xs.zip kz) (enc := Prod.snd) (R := fun u b => RelV b.1 u) hl.isList (each_zip rv el) (each_zip2 (dpAll_each I dp rv) el) (by rw [e1]; exact al) (by rw [e1]; exact so) (by rw [el2]; exact hz) (fun b hb => ?_) fun out ho eo => ?_
  · have := de b.2 (by rw [← e1]; exact List.mem_map.mpr ⟨b, hb, rfl⟩)
    omega
  · obtain ⟨ep, he'⟩ := PyProof.Rows.sortedAll_at s.heap its out.toArray
    have hlen : (srtV kz xs).length ≤ sizeLine := by
      rw [srtV_length el]
      exact hz
    exact ⟨.ref _, upd H (s.heap.objs.size + 1) (.lst (srtV kz xs)), I.laid (t' := s.toks) (fun _ _ => PyProof.Rows.sortedAll_old) (Nat.le_succ _) ⟨hlen, out, ep, each_vals eo, he'⟩, rfl, q _ (I.hok.fresh (Nat.le_succ _))⟩
def gSortD : List MP.D → PR
  | [.lst xs] => match dats xs with
    | some kz => if srtOk kz = true then .f (.lst (srtV kz xs)) else .no
    | none => .no
  | _ => .no
theorem ok_sortD : POk K cn (rSortD K) gSortD := by
  intro Z xs vs Q hR hv hq
  unfold gSortD at hq
  split at hq
  · rename_i ys
    obtain ⟨v, rfl, ⟨a, us, rfl, q1, r1⟩⟩ := hv.one
    cases c : dats ys with
    | none => rw [c] at hq; exact hq.elim
    | some kz =>
      rw [c] at hq
      dsimp only at hq
      by_cases so : srtOk kz = true
      · rw [if_pos so] at hq
        obtain ⟨s1, s2, s3⟩ := srtOk_is so
        exact ⟨a, us, kz, rfl, q1, dats_dp hR.ex r1 c, by rw [← r1.length, dats_len c], s1, s2, s3, fun p h0 => hq p _ h0 (.lst (srt_reps r1))⟩
      · rw [if_neg so] at hq; exact hq.elim
  · exact hq.elim
/-! ### dict(pairs) -/
def kvOf : MP.D → Option (Key × MP.D)
  | .tup [k, v] => match keyD k with
    | some key => some (key, v)
    | none => none
  | _ => none
def kvsOf : List MP.D → Option (List (Key × MP.D))
  | [] => some []
  | x :: xs => match kvOf x, kvsOf xs with
    | some kv, some kvs => some (kv :: kvs)
    | _, _ => none
def mergeKD (kvs more : List (Key × MP.D)) : List (Key × MP.D) := more.foldl (fun acc kv => putKD acc kv.1 kv.2) kvs
def gDictP : List MP.D → PR
  | [.lst xs] => match kvsOf xs with
    | some kvs => .f (.dct (mergeKD [] kvs))
    | none => .no
  | _ => .no
def rDictP (K : PySem.W.Frag) : List V → Hp → VK → Prop := fun xs H Q => ∃ (a : Addr) (ps : List Addr) (kvs : List (Key × V)), xs = [.ref a] ∧ SqL K H a (ps.map V.ref) ∧ Paired (fun p kv => SqT K H p [kV kv.1, kv.2]) ps kvs ∧
    ∀ p, H p = none → Q (.ref p) (upd H p (.dK (mergeK [] kvs)))
theorem kvs_rep {G H : Hp} {ρ : List Addr} (hE : Ex G H) : ∀ {xs : List MP.D} {us : List V} {kvs : List (Key × MP.D)}, Reps K cn G ρ xs us → kvsOf xs = some kvs → ∃ ps ws, us = ps.map V.ref ∧ RepK K cn G ρ kvs ws ∧ Paired (fun p kv => SqT K H p [kV kv.1, kv.2]) ps ws
  | _, _, _, .nil, e => by cases e; exact ⟨[], [], rfl, .nil, .nil⟩
  | _, _, _, .cons (x := x) (v := v) (xs := xs) h r, e => by
    unfold kvsOf at e
    split at e
    · rename_i kv kvs' e1 e2
      cases e
      obtain ⟨ps, ws, e3, e4, e5⟩ := kvs_rep hE r e2
      unfold kvOf at e1
      split at e1
      · rename_i k y
        split at e1
        · rename_i key ek
          cases e1
          cases h with
          | @tup _ p vs h1 h2 =>
          cases h2 with
          | cons k1 t =>
          cases t with
          | @cons _ y' _ _ k2 t2 =>
          cases t2
          have ek2 : ∀ {v : V}, Rep K cn G ρ k v → v = kV key := by
            intro v hk
            unfold keyD at ek
            split at ek
            · cases ek; cases hk; rfl
            · cases ek; cases hk; rfl
            · cases ek
          cases ek2 k1
          subst e3
          exact ⟨p :: ps, (key, y') :: ws, rfl, .cons k2 e4, .cons (Evl.ex_t hE h1) e5⟩
        · cases e1
      · cases e1
    · cases e
theorem merge_rep {G : Hp} {ρ : List Addr} : ∀ {more : List (Key × MP.D)} {ms : List (Key × V)} {kvs : List (Key × MP.D)} {vs : List (Key × V)}, RepK K cn G ρ more ms → RepK K cn G ρ kvs vs → RepK K cn G ρ (mergeKD kvs more) (mergeK vs ms)
  | _, _, _, _, .nil, h => h
  | _, _, _, _, .cons (k := k) h r, h0 => by
    show RepK K cn G ρ (mergeKD (putKD _ k _) _) (mergeK (putK _ k _) _)
    exact merge_rep r (h0.put k h)
theorem ok_dictP : POk K cn (rDictP K) gDictP := by
  intro Z xs vs Q hR hv hq
  unfold gDictP at hq
  split at hq
  · rename_i ys
    obtain ⟨v, rfl, ⟨a, us, rfl, q1, r1⟩⟩ := hv.one
    cases c : kvsOf ys with
    | none => rw [c] at hq; exact hq.elim
    | some kvs =>
      rw [c] at hq
      obtain ⟨ps, ws, rfl, h1, h2⟩ := kvs_rep hR.ex r1 c
      exact ⟨a, ps, ws, rfl, q1, h2, fun p h0 => hq p _ h0 (.dct (merge_rep h1 .nil))⟩
  · exact hq.elim
theorem cr_dictP (hcalm : X.calm = true) : CallR X (.type "dict") (rDictP X.K) := call_dictP hcalm
/-! ### a or b, by truth -/
def mOrT (a b : Mn RV) : Mn RV := bnd a fun r sl st => match view sl st r with
  | some x => match truth x with
    | some true => .ok r sl st
    | some false => b sl st
    | none => .no
  | none => .no
theorem me_orT {a b : Expr} {rest : List Expr} {pos : Pos} {m n : Mn RV} (ha : PE X a (TM X.K cn W m)) (hb : PE X (.BoolOp .Or (b :: rest) pos) (TM X.K cn W n)) : PE X (.BoolOp .Or (a :: b :: rest) pos) (TM X.K cn W (mOrT m n)) := by
  refine PE.imp (pe_orT ha hb) ?_
  rintro σ H Q ⟨G, ρ, sl, st, hR, h⟩
  refine ⟨G, ρ, sl, st, hR, ?_⟩
  unfold mOrT bnd at h
  cases e : m sl st with
  | no => rw [e] at h; exact h
  | exc C xs s t => rw [e] at h; exact h
  | ok r sl1 st1 =>
    rw [e] at h
    intro G1 H1 ρ1 v hR1 hv hS
    dsimp only at h
    cases e1 : view sl1 st1 r with
    | none => rw [e1] at h; exact h.elim
    | some x =>
      rw [e1] at h
      dsimp only at h
      cases e2 : truth x with
      | none => rw [e2] at h; exact h.elim
      | some c =>
        rw [e2] at h
        refine ⟨c, (view_ok hR1 hv e1).truth hR1 e2, ?_⟩
        cases c with
        | true =>
          rw [if_pos rfl]
          exact h G1 H1 ρ1 v hR1 hv hS
        | false =>
          rw [if_neg (by decide)]
          exact ⟨G1, ρ1, sl1, st1, hR1, PostE.trans hS.end0 rfl h⟩
end
/-! ### name = {k: v for ..}, the name a local, on one line -/
section
variable {cn : String → Addr} {W : WX} {X : Cx}
theorem sw_trueD {kx vx : Expr} {gs : List Comprehension} {scope : Scope} {pos py : Pos} {y : Str} {l : Nat} {env : Env} (hk : env.scope.kind = .function) (hy : env.scope.names.lookup y = some .local) (hl : (py.line == pos.line) = true)
    (ha : (scope.names.any fun (n, k) => n == y && (k == .local || k == .cell)) = false) : swapsWith (.DictComp kx vx gs scope pos) (some (.Name y py)) l env = pure true := by
  have ky : env.kindOf y = some .local := hy
  have hb : env.blockKind = .function := by unfold Env.blockKind; rw [hk]; rfl
  unfold swapsWith
  simp only [hb, ky, ha, Expr.pos, hl]
  rfl
theorem ps_setDc {i : Nat} {y : Str} {py : Pos} {kx vx tg iter : Expr} {ifs : List Expr} {scope : Scope} {own : List (Str × Nat)} {pos spos : Pos} {wi : TI} {g : TG} {tt : TT} {tk tv : TE} (hc : X.calm = true) (hN : X.N.Nodup) (hy : X.N[i]? = some y) (hyl : X.env.scope.names.lookup y = some .local)
    (hsw : swapsWith (.DictComp kx vx [⟨tg, iter, ifs, 0⟩] scope pos) (some (.Name y py)) spos.line X.env = pure true) (hi : PI X tg iter wi) (ok : BlkOk X.N X.env.scope scope own)
    (hg : ∀ (s : Shared) (H : Hp) (C : Addr) (cl : List (Str × Addr)) (fp : List Addr), PG (X.blk s H scope (compEnvC scope cl C X.env) fp) tg g) (ht : ∀ (s : Shared) (H : Hp) (C : Addr) (cl : List (Str × Addr)) (fp : List Addr), PTs (X.blk s H scope (compEnvC scope cl C X.env) fp) ifs tt)
    (hk : ∀ (s : Shared) (H : Hp) (C : Addr) (cl : List (Str × Addr)) (fp : List Addr), PE (X.blk s H scope (compEnvC scope cl C X.env) fp) kx tk)
    (he : ∀ (s : Shared) (H : Hp) (C : Addr) (cl : List (Str × Addr)) (fp : List Addr), PE (X.blk s H scope (compEnvC scope cl C X.env) fp) vx tv) (hs : ∀ x, foldedSetIterable iter X.env x = pure x := by intro _; rfl) :
    PS X (.Assign [.Name y py] (.DictComp kx vx [⟨tg, iter, ifs, 0⟩] scope pos) spos) (tAsg (tDc wi g tt tk tv (own.map (·.2))) (gName i)) := by
  refine ⟨fun pins s σ H D I h => ?_⟩
  rw [exec_Assign_Name_used _ _ _ _ hsw]
  refine wpAny_bind (wpAny_standAt (wpAny_bind ?_))
  show wpAny _ X.A (do let _ ← comprehension (.DictComp kx vx [⟨tg, iter, ifs, 0⟩] scope pos) scope X.env (firstIterPos [⟨tg, iter, ifs, 0⟩] pos) newDict false (eval iter X.env) (some (PySem.assign (.Name y py) X.env))) _ _ s
  have h : tDc wi g tt tk tv (own.map (·.2)) σ H (fun x H1 => gName i x σ H1 D.nx) := h
  refine wpAny_bind (thn (dc_core (Qf := fun _ s' => SP X pins D .next s') hc hN I hi ok hg ht hk he hs h fun L C s' m H' I' q hn f => ?_) fun _ s' hq => wpAny_pure (wpAny_pure hq))
  show wpAny _ _ (PySem.assign (.Name y py) X.env (.ref L)) _ _ _
  refine wpAny_assign_Name (store_ok2 (v := V.ref L) I' hN hy (.inl hyl) rfl (fun s2 I2 ⟨a, sb, ha⟩ => ?_) (.inr hyl))
  obtain ⟨f0, f1, f2, f3, f4, f5⟩ := f
  have haC : C ≠ a := by
    rcases ha with z | z
    · rw [z]; exact f1
    · exact fun e => f4 y a z e.symm
  refine ⟨m, hn.sameBut sb haC, fun h3 sb3 => ?_⟩
  exact ⟨_, H', I2.turned (t' := s2.toks) (fun b o hb e => (sb3.2 b hb).trans e) f0 f1 f3 f4 f5, q⟩
theorem ms_setDc {i : Nat} {y : Str} {py : Pos} {kx vx tg iter : Expr} {ifs : List Expr} {scope : Scope} {own : List (Str × Nat)} {pos spos : Pos} {g : TG} {mi : Mn (List MP.D × Hd)} {t : Tgt} {tt : Mn Bool} {tk te : Mn RV} (hc : X.calm = true) (hN : X.N.Nodup) (hy : X.N[i]? = some y) (hyl : X.env.scope.names.lookup y = some .local)
    (hsw : swapsWith (.DictComp kx vx [⟨tg, iter, ifs, 0⟩] scope pos) (some (.Name y py)) spos.line X.env = pure true) (hi : PI X tg iter (TMi X.K cn W mi)) (ok : BlkOk X.N X.env.scope scope own)
    (hg : ∀ (s : Shared) (H : Hp) (C : Addr) (cl : List (Str × Addr)) (fp : List Addr), PG (X.blk s H scope (compEnvC scope cl C X.env) fp) tg g) (ht : ∀ (s : Shared) (H : Hp) (C : Addr) (cl : List (Str × Addr)) (fp : List Addr), PTs (X.blk s H scope (compEnvC scope cl C X.env) fp) ifs (TMt X.K cn WF tt))
    (hkx : ∀ (s : Shared) (H : Hp) (C : Addr) (cl : List (Str × Addr)) (fp : List Addr), PE (X.blk s H scope (compEnvC scope cl C X.env) fp) kx (TM X.K cn WF tk))
    (he : ∀ (s : Shared) (H : Hp) (C : Addr) (cl : List (Str × Addr)) (fp : List Addr), PE (X.blk s H scope (compEnvC scope cl C X.env) fp) vx (TM X.K cn WF te)) (hk : GOk X.K cn WF g t) (hin : GIn (own.map (·.2)) g) (hs : ∀ x, foldedSetIterable iter X.env x = pure x := by intro _; rfl) :
    PS X (.Assign [.Name y py] (.DictComp kx vx [⟨tg, iter, ifs, 0⟩] scope pos) spos) (TMs X.K cn W (mSet i (mCompD (own.map (·.2)) mi t tt tk te))) :=
  PS.imp (ps_setDc hc hN hy hyl hsw hi ok hg ht hkx he hs) fun D σ H q => tm_dcomp hk hin σ H _ (tm_s (P := fun v σ H => D.nx (σ.set i (some v)) H) q fun G H ρ sl st r v hR hv h => assign_ok (Z := ⟨G, H, ρ, σ, sl, st⟩) hR hv h)
end
/-! ### a, b = a list -/
section
variable {K : PySem.W.Frag} {cn : String → Addr} {W : WX}
def tpL (ts : List Tgt) : MP.D → Mn Fl
  | .lst xs => if xs.length = ts.length then mTgts ts xs else MP.non
  | _ => MP.non
theorem gok_tpL {gs : TGs} {ts : List Tgt} {n : Nat} (h : GsOk K cn W gs ts) (hn : ts.length = n) : GOk K cn W (gUnl K n gs) (.ot (tpL ts)) := fun Z x v D hR hv hq => by
  have hq : PostS K cn W Z NoA (tpL ts x Z.sl Z.st) D := hq
  unfold tpL at hq
  cases hv with
  | @lst xs a vs h1 h2 =>
    dsimp only at hq
    by_cases c : xs.length = ts.length
    · rw [if_pos c] at hq
      exact ⟨a, vs, rfl, Evl.ex_l hR.ex h1, by rw [← h2.length, c, hn], h Z xs vs D hR h2 hq⟩
    · rw [if_neg c] at hq
      exact hq.elim
  | _ => exact hq.elim
end
theorem hu1 {k : Nat} {A : Around} (r : Room k A) : A.units + 1 < cLine := by have := r.un; omega
theorem hu80 {k : Nat} {A : Around} (r : Room k A) : A.units + 80 < cLine := by have := r.un; omega
/-! ### a hook with tables -/
open He
abbrev AlMT : Type := AlM × List (Option (List (Option (Str × Int))))
def obsMT (fa : List Fa) (ck : List (PySem.W.Frag → Bool)) (fn : List He5.DefA) (fc : List ((Str × Option Str) × FnC)) (ts : List Tab) (K : PySem.W.Frag) : AlMT := (obsM fa ck fn fc K, ts.map fun t => dicW K (t.1 K))
def valMT (fn : List He5.DefA) (fc : List ((Str × Option Str) × FnC)) (ts : List Tab) (w : World) : AlMT := (valM fn fc, ts.map fun t => some (keysIn w.params t.2))
def obsMTG (n : Nat) (fa : List Fa) (ck : List (PySem.W.Frag → Bool)) (fn : List He5.DefA) (fc : List ((Str × Option Str) × FnC)) (ts : List Tab) (g : Addr → Option Obj) : AlMT := obsMT fa ck fn fc ts (frG g (He5.asA g n))
def SaysMT (fa : List Fa) (ck : List (PySem.W.Frag → Bool)) (fn : List He5.DefA) (fc : List ((Str × Option Str) × FnC)) (ts : List Tab) (w : World) (K : PySem.W.Frag) : Prop := obsMT fa ck fn fc ts K = valMT fn fc ts w
def hookMT (n : Nat) (fa : List Fa) (ck : List (PySem.W.Frag → Bool)) (fn : List He5.DefA) (fc : List ((Str × Option Str) × FnC)) (ts : List Tab) : PySem.W.Hook where
  α := AlMT
  obs := fun s => obsMTG n fa ck fn fc ts s.heap.get?
  val := fun w => valMT fn fc ts w
  says := fun w h => ∃ K : PySem.W.Frag, K.In h ∧ SaysMT fa ck fn fc ts w K
  of := fun _ _ e => ⟨_, frG_in, e⟩
  keeps := fun _ _ _ ⟨K, hK, c⟩ k => ⟨K, PySem.W.Frag.In.keeps hK k, c⟩
theorem obsMTG_eq {n : Nat} {fa : List Fa} {ck : List (PySem.W.Frag → Bool)} {fn : List He5.DefA} {fc : List ((Str × Option Str) × FnC)} {ts : List Tab} {g : Addr → Option Obj} {s : Shared} (h : ∀ a, g a = s.heap.get? a) : obsMTG n fa ck fn fc ts g = (hookMT n fa ck fn fc ts).obs s := by
  have e : g = s.heap.get? := funext h
  rw [e] <;> rfl
section
variable {fa : List Fa} {ck : List (PySem.W.Frag → Bool)} {fn : List He5.DefA} {fc : List ((Str × Option Str) × FnC)} {ts : List Tab} {w : World} {K : PySem.W.Frag}
theorem SaysMT.m (c : SaysMT fa ck fn fc ts w K) : SaysM fa ck fn fc K := congrArg (fun z : AlMT => z.1) c
theorem SaysMT.tab (c : SaysMT fa ck fn fc ts w K) (i : Nat) {t : Tab} (h : ts[i]? = some t := by rfl) : ∃ es n, KDict K w (t.1 K) es n := by
  have e : ts.map (fun t => dicW K (t.1 K)) = ts.map fun t => some (keysIn w.params t.2) := congrArg (fun z : AlMT => z.2) c
  have e2 : (ts.map fun t => dicW K (t.1 K))[i]? = (ts.map fun t => some (keysIn w.params t.2))[i]? := by rw [e]
  rw [List.getElem?_map, List.getElem?_map, h] at e2
  exact dicW_ok (Option.some.inj e2)
end
end MP

set_option Elab.async false
set_option linter.all false
set_option maxRecDepth 100000
set_option maxHeartbeats 4000000
/-! MP48: split, startswith of texts. -/
namespace MP
open PySem PySem.Spec PyProof.Rows L2
def gSplit : List MP.D → PR
  | [.str a, .str b] => if (b.length == 0) = false ∧ a.length + 2 ≤ sizeLine then .f (.lst ((Txt.split a b).map MP.D.str)) else .no
  | _ => .no
def gStarts : List MP.D → PR
  | [.str a, .str b] => .d (.bl (Txt.startswith a b))
  | _ => .no
section
variable {K : PySem.W.Frag} {cn : String → Addr}
theorem ok_split : POk K cn (rMt (fun x xs H Q => ∃ a b, x = .str a ∧ xs = [.str b] ∧ (b.length == 0) = false ∧ a.length + 2 ≤ sizeLine ∧ rNewStrs (Txt.split a b) H Q)) gSplit := by
  intro Z xs vs Q hR hv hq
  unfold gSplit at hq
  split at hq
  · obtain ⟨v, w, rfl, h1, h2⟩ := hv.two
    cases h1.str
    cases h2.str
    split at hq
    · rename_i c
      exact ⟨_, _, rfl, _, _, rfl, rfl, c.1, c.2, fun p h0 => hq p _ h0 (.lst (reps_strs _))⟩
    · exact hq.elim
  · exact hq.elim
theorem ok_starts : POk K cn (rMt (fun x xs H Q => ∃ a b, x = .str a ∧ xs = [.str b] ∧ Q (.bl (Txt.startswith a b)) H)) gStarts := by
  intro Z xs vs Q hR hv hq
  unfold gStarts at hq
  split at hq
  · obtain ⟨v, w, rfl, h1, h2⟩ := hv.two
    cases h1.str
    cases h2.str
    exact ⟨_, _, rfl, _, _, rfl, rfl, hq _ .bl⟩
  · exact hq.elim
end
end MP

set_option Elab.async false
set_option linter.all false
set_option maxRecDepth 100000
set_option maxHeartbeats 4000000
/-! MP49: sets of texts: made, a text added, the members in order. -/
namespace MP
open PySem PySem.Spec PyProof.Rows L2
open PySem.W (EachIs)
/-! ### what a set of texts is -/
/-- a set's entry for the text x -/
def TxE (w : World) (e : Int × Value) (x : Str) : Prop := (∃ t, e.2 = Value.str x t) ∧ e.1 = hashStr w x
/-- ks: the members in some order -/
def SetTx (w : World) (h : Heap) (a : Addr) (ks : List Str) : Prop := ∃ o es ep t ys, h.get? a = some o ∧ o.ExactSet ∧ o.data = .set es ep t ∧ Paired (TxE w) es.toList ys ∧ ys.Perm ks ∧
  es.size < scanBound ∧ t.fits es.size = true ∧ Ris t.place.toList ∧ (w.params.followText "set-order" = true ∨ t.led = true)
theorem paired_len {α β : Type} {F : α → β → Prop} : ∀ {l : List α} {m : List β}, Paired F l m → l.length = m.length
  | _, _, .nil => rfl
  | _, _, .cons _ r => congrArg (· + 1) (paired_len r)
theorem paired_perm {α β : Type} {F : α → β → Prop} {l l' : List α} (p : l'.Perm l) : ∀ {m : List β}, Paired F l m → ∃ m', m'.Perm m ∧ Paired F l' m' := by
  induction p with
  | nil => exact fun h => ⟨_, List.Perm.refl _, h⟩
  | cons x p ih =>
    intro m h
    cases h with
    | cons h1 h2 =>
      obtain ⟨m', q1, q2⟩ := ih h2
      exact ⟨_, q1.cons _, .cons h1 q2⟩
  | swap x y l =>
    intro m h
    cases h with
    | cons h1 h2 =>
      cases h2 with
      | cons h3 h4 => exact ⟨_, List.Perm.swap _ _ _, .cons h3 (.cons h1 h4)⟩
  | trans p q ihp ihq =>
    intro m h
    obtain ⟨m1, a1, a2⟩ := ihq h
    obtain ⟨m2, b1, b2⟩ := ihp a2
    exact ⟨m2, b1.trans a1, b2⟩
section
variable {P : Program} {w : World} {h h' : Heap} {a : Addr} {ks : List Str}
theorem SetTx.at (R : SetTx w h a ks) (k : ∀ o, h.get? a = some o → h'.get? a = some o) : SetTx w h' a ks := by
  obtain ⟨o, es, ep, t, ys, ho, r⟩ := R
  exact ⟨o, es, ep, t, ys, k o ho, r⟩
theorem tx_is {x y : Str} {v : Value} (h : ∃ t, v = Value.str x t) : (PySem.strKind P w).is y v = true ↔ x = y := by
  obtain ⟨t, rfl⟩ := h
  show ((x == y) = true) ↔ x = y
  exact beq_iff_eq
theorem tx_elems : ∀ {l : List (Int × Value)} {ys : List Str}, Paired (TxE w) l ys → ElemsOf (PySem.strKind P w) l
  | _, _, .nil, e, he => by cases he
  | _, _, .cons (a := e0) h r, e, he => by
    rcases List.mem_cons.mp he with rfl | he
    · exact ⟨⟨_, (tx_is h.1).mpr rfl, h.2⟩, by obtain ⟨t, q⟩ := h.1; rw [q]; rfl⟩
    · exact tx_elems r e he
theorem tx_hit : ∀ {l : List (Int × Value)} {ys : List Str} {k : Str} {e : Int × Value}, Paired (TxE w) l ys → e ∈ l → (PySem.strKind P w).is k e.2 = true → k ∈ ys
  | _, _, _, _, .nil, he, _ => by cases he
  | _, _, k, e, .cons h r, he, hk => by
    rcases List.mem_cons.mp he with rfl | he
    · rw [(tx_is h.1).mp hk]; exact List.mem_cons_self ..
    · exact List.mem_cons_of_mem _ (tx_hit r he hk)
theorem tx_miss : ∀ {l : List (Int × Value)} {ys : List Str} {k : Str}, Paired (TxE w) l ys → (∀ e ∈ l, ¬ (PySem.strKind P w).is k e.2 = true) → k ∉ ys
  | _, _, _, .nil, _, z => by cases z
  | _, _, k, .cons (a := e0) h r, hn, z => by
    rcases List.mem_cons.mp z with rfl | z
    · exact hn e0 (List.mem_cons_self ..) ((tx_is h.1).mpr rfl)
    · exact tx_miss r (fun e he => hn e (List.mem_cons_of_mem _ he)) z
end
/-- the texts with one more -/
def addT (ks : List Str) (k : Str) : List Str := if k ∈ ks then ks else ks ++ [k]
section
variable {P : Program} {w : World} {A : Around} {E : Value → Shared → Prop} {s : Shared} {a : Addr} {ks : List Str}
/-- behind the new entry: the table perhaps laid anew -/
theorem setTx_laid {g : Bool → Sem Unit} (hg : ∀ (b : Bool) (s1 : Shared) (Q' : Unit → Shared → Prop), Q' () s1 → wpAny (model P w) A (g b) Q' E s1) {o : Obj} {es es1 : Array (Int × Value)} {ep : Nat} {t t2 : SetTable} {ys ms : List Str} (ho : s.heap.get? a = some o) (hex : o.ExactSet) (hd : o.data = .set es ep t)
    (pr : Paired (TxE w) es1.toList ys) (pm : ys.Perm ms) (hb : es1.size < scanBound) (hf : t2.fits es1.size = true) (hr : Ris t2.place.toList) (hl : w.params.followText "set-order" = true ∨ t2.led = true) {dm : Bool} {R : Option Bool → Shared → Prop}
    (hR : ∀ h', Heap.SameBut a s.heap h' → SetTx w h' a ms → R (some true) { s with heap := h' }) :
    wpAny (model P w) A (do
        storeSet a es1 t2
        if (!dm && t2.tooFull) = true then do
            g (relayAll t2 es1 (SetTable.grown es1.size)).2.2
            storeSet a (relayAll t2 es1 (SetTable.grown es1.size)).1 (relayAll t2 es1 (SetTable.grown es1.size)).2.1
            pure (some true)
          else pure (some true)) R E s := by
  have o1 := store_at (es' := es1) (t' := t2) ho hd
  have b1 := Heap.SameBut.update s.heap a (Obj.putSet es1 t2)
  refine wpAny_bind (wpAny_storeSet_of ho hd ?_ (fits_of_scanBound hb))
  split
  · have q1 := relayAll_perm t2 es1 (SetTable.grown es1.size)
    have q2 := relayAll_fits t2 es1 (SetTable.grown es1.size)
    have q3 := relayAll_ris t2 es1 (SetTable.grown es1.size)
    have q4 := relayAll_led t2 es1 (SetTable.grown es1.size)
    generalize relayAll t2 es1 (SetTable.grown es1.size) = Z at q1 q2 q3 q4 ⊢
    obtain ⟨es2, t3, gave⟩ := Z
    dsimp only at q1 q2 q3 q4 ⊢
    have sz : es2.size = es1.size := by rw [← Array.length_toList, q1.length_eq, Array.length_toList]
    obtain ⟨ys2, r1, r2⟩ := paired_perm q1 pr
    refine wpAny_bind (hg _ _ _ (wpAny_bind (wpAny_storeSet_of o1 rfl ?_ (fits_of_scanBound (by rw [sz]; exact hb)))))
    exact wpAny_pure (hR _ (b1.trans (Heap.SameBut.update _ a _)) ⟨_, es2, _, t3, ys2, store_at (es' := es2) (t' := t3) o1 rfl, hex, rfl, r2, r1.trans pm, by rw [sz]; exact hb, q2, q3, hl.imp id fun z => by rw [q4]; exact z⟩)
  · exact wpAny_pure (hR _ b1 ⟨_, es1, _, t2, ys, o1, hex, rfl, pr, pm, hb, hf, hr, hl⟩)
theorem setTx_hashed {k : Str} {tk : Tok} {Q : Bool → Shared → Prop} (R : SetTx w s.heap a ks) (room : ks.length + 1 < scanBound) (hQ : ∀ b h', Heap.SameBut a s.heap h' → SetTx w h' a (addT ks k) → Q b { s with heap := h' }) :
    wpAny (model P w) A (setAddHashed a (.str k tk) ((PySem.strKind P w).hash k)) Q E s := by
  obtain ⟨o, es, ep, t, ys, ho, hex, hd, pr, pm, hb, hf, hr, hl⟩ := R
  have hkey : (PySem.strKind P w).is k (.str k tk) = true := (tx_is ⟨tk, rfl⟩).mpr rfl
  have hsc : (Value.str k tk).scannable = true := rfl
  have hel : ElemsOf (PySem.strKind P w) es.toList := tx_elems pr
  have hn : es.size = ks.length := by rw [← Array.length_toList, paired_len pr, pm.length_eq]
  unfold setAddHashed setAddHashedIn
  refine wpAny_holding (wpAny_bind (wpAny_setState_of ho hd hf ?_))
  dsimp only
  rw [byScan_of hsc hb hel]
  simp only [↓reduceIte]
  unfold setAddByScan
  refine wpAny_bind (wpAny_bind (wpAny_rule (wpAny_bind (wpAny_setScan_of hkey ho hd hf hel ?_))))
  cases hfi : List.findIdx? (fun e => (PySem.strKind P w).is k e.2) es.toList with
  | some j =>
    dsimp only
    obtain ⟨hj, pj, _⟩ := List.findIdx?_eq_some_iff_getElem.mp hfi
    have hk : k ∈ ks := pm.mem_iff.mp (tx_hit pr (List.getElem_mem hj) pj)
    refine wpAny_pure (wpAny_pure (hQ _ s.heap (Heap.SameBut.refl a s.heap) ?_))
    rw [show addT ks k = ks from if_pos hk]
    exact ⟨o, es, ep, t, ys, ho, hex, hd, pr, pm, hb, hf, hr, hl⟩
  | none =>
    dsimp only
    have hk : k ∉ ks := fun z => tx_miss (P := P) pr (fun e he q => by
      have c := List.findIdx?_eq_none_iff.mp hfi e he
      rw [q] at c
      cases c) (pm.mem_iff.mpr z)
    have hgw : ∀ (b : Bool) {s1 : Shared} {Q' : Unit → Shared → Prop}, Q' () s1 → wpAny (model P w) A (match b with | true => rule "set.scan.the-table-gave-way" | false => pure ()) Q' E s1 :=
      fun b s1 Q' q => by cases b <;> first | exact wpAny_pure q | exact wpAny_rule q
    have n1 := layNew_perm t es ((PySem.strKind P w).hash k) (.str k tk)
    have n2 := layNew_fits t es ((PySem.strKind P w).hash k) (.str k tk)
    have n3 := layNew_ris t es ((PySem.strKind P w).hash k) (.str k tk) hr
    have n4 := layNew_led t es ((PySem.strKind P w).hash k) (.str k tk)
    generalize layNew t es ((PySem.strKind P w).hash k) (.str k tk) = Z at n1 n2 n3 n4 ⊢
    obtain ⟨es1, t1, dm, gave⟩ := Z
    dsimp only at n1 n2 n3 n4 ⊢
    rw [Array.toList_push] at n1
    obtain ⟨ys1, r1, r2⟩ := paired_perm n1 (Paired.snoc pr (show TxE w ((PySem.strKind P w).hash k, Value.str k tk) k from ⟨⟨tk, rfl⟩, rfl⟩))
    have pk : ys1.Perm (addT ks k) := by
      rw [show addT ks k = ks ++ [k] from if_neg hk]
      exact r1.trans (pm.append_right _)
    have b1 : es1.size < scanBound := by rw [← Array.length_toList, paired_len r2, r1.length_eq, List.length_append, ← paired_len pr, Array.length_toList, hn]; exact room
    have hled : w.params.followText "set-order" = true ∨ t1.led = true := hl.imp id fun z => by rw [n4]; exact z
    refine wpAny_bind (hgw _ ?_)
    split
    · refine wpAny_bind ?_
      rw [hashByValue_scannable 8 hsc]
      refine wpAny_pure ?_
      refine setTx_laid ?_ ho hex hd r2 pk b1 ?_ ?_ ?_ ?_
      · intro b s1 Q' q; cases b <;> first | exact wpAny_pure q | exact wpAny_rule q
      · first | (split <;> first | exact n2 | exact SetTable.fits_plain_off n2) | exact n2
      · first | (split <;> exact n3) | exact n3
      · first | (split <;> exact hled) | exact hled
      · intro h' sb r; dsimp only; exact wpAny_pure (hQ _ h' sb r)
    · refine wpAny_bind (wpAny_pure ?_)
      simp only [↓reduceIte]
      refine setTx_laid ?_ ho hex hd r2 pk b1 n2 n3 hled ?_
      · intro b s1 Q' q; cases b <;> first | exact wpAny_pure q | exact wpAny_rule q
      · intro h' sb r; dsimp only; exact wpAny_pure (hQ _ h' sb r)
theorem setTx_setOf (R : SetTx w s.heap a ks) : ∃ S n, s.heap.SetOf (PySem.strKind P w) a S n := by
  obtain ⟨o, es, ep, t, ys, ho, hex, hd, pr, pm, hb, hf, hr, hl⟩ := R
  exact ⟨fun k => es.toList.any fun e => (PySem.strKind P w).is k e.2, es.size, o, es, ep, t, ho, hex, hd, tx_elems pr, fun k => by rw [List.any_eq_true], hb, hf, rfl⟩
/-- set.add of a text -/
theorem setTx_add {k : Str} {tk : Tok} {Q : Value → Shared → Prop} (R : SetTx w s.heap a ks) (room : ks.length + 1 < scanBound) (hQ : ∀ h', Heap.SameBut a s.heap h' → SetTx w h' a (addT ks k) → Q .none { s with heap := h', toks := s.toks + 1 }) :
    wpAny (model P w) A (call (.builtin "set.add") [.ref a, .str k tk]) Q E s := by
  obtain ⟨S, n, hS⟩ := setTx_setOf (P := P) R
  refine wpAny_call_entry F.slot_set_add hS.typeIs F.entry_set_add ?_ (F.args_set_add_2 _ _)
  unfold Builtin.«set.add» Builtin.Frozenset.oneOther
  simp only [List.isEmpty_nil, bind_assoc]
  unfold Builtin.Frozenset.addrOf setAdd
  refine wpAny_bind (wpAny_pure ?_)
  try dsimp only
  refine wpAny_bind (wpAny_pure ?_)
  try dsimp only
  refine wpAny_bind (wpAny_holding (wpAny_bind ((PySem.strKind P w).pyHash ((tx_is ⟨tk, rfl⟩).mpr rfl) ?_)))
  refine setTx_hashed (s := { s with toks := s.toks + 1 }) R room fun b h' sb r => ?_
  show wpAny _ _ (ret Value.none) _ _ _
  exact wpAny_pure ⟨_, rfl, hQ h' sb r⟩
theorem setTx_fresh {h : Heap} (w : World) : SetTx w (h.push { cls := .type "set", dict := none, data := .set #[] 0 (.fresh 0 0 (!w.params.followText "set-order")) }) h.objs.size [] :=
  ⟨_, #[], 0, _, [], Heap.get?_push_size _ rfl, ⟨rfl, rfl, rfl⟩, rfl, .nil, List.Perm.refl _, by decide, by rfl, List.Pairwise.nil, by
    show _ ∨ (!w.params.followText "set-order") = true
    cases w.params.followText "set-order"
    · exact .inr rfl
    · exact .inl rfl⟩
/-! ### in order -/
def sortT (ks : List Str) : List Str := ks.mergeSort (PySem.W.dataLe false PyData.str)
theorem sortT_le (x y : Str) : PySem.W.dataLe false PyData.str x y = !decide (y.cps.toList < x.cps.toList) := by
  show (!PyProof.Rows.lexLt PyProof.Rows.itemOrd [.inr y.cps.toList] [.inr x.cps.toList]) = _
  rw [PyProof.Rows.lex_cons]
  show (!(decide (y.cps.toList < x.cps.toList) || (!decide (x.cps.toList < y.cps.toList) && false))) = _
  simp
theorem sortT_sorted (ks : List Str) : (sortT ks).Pairwise fun x y => ¬ y.cps.toList < x.cps.toList := by
  have h := List.pairwise_mergeSort (le := PySem.W.dataLe false PyData.str) (fun a b c h1 h2 => by
    rw [sortT_le] at h1 h2 ⊢
    simp only [Bool.not_eq_true', decide_eq_false_iff_not, List.not_lt] at h1 h2 ⊢
    exact List.le_trans h1 h2) (fun a b => by
    rw [sortT_le, sortT_le]
    by_cases c : b.cps.toList < a.cps.toList
    · rw [decide_eq_false (List.not_lt.mpr (List.le_of_lt c))]; exact Bool.or_true _
    · rw [decide_eq_false c]; rfl) ks
  exact h.imp fun {x y} q => by
    rw [sortT_le] at q
    simpa using q
theorem sortT_uniq : ∀ {xs ys : List Str}, xs.Perm ys → xs.Pairwise (fun x y => ¬ y.cps.toList < x.cps.toList) → ys.Pairwise (fun x y => ¬ y.cps.toList < x.cps.toList) → xs = ys
  | [], ys, p, _, _ => (List.nil_perm.mp p).symm
  | x :: xs, [], p, _, _ => absurd p.length_eq (by simp)
  | x :: xs, y :: ys, p, hx, hy => by
    have h1 := List.pairwise_cons.mp hx
    have h2 := List.pairwise_cons.mp hy
    have e : x = y := by
      have m1 : x ∈ y :: ys := p.subset (List.mem_cons_self ..)
      have m2 : y ∈ x :: xs := p.symm.subset (List.mem_cons_self ..)
      rcases List.mem_cons.mp m1 with q | q
      · exact q
      · rcases List.mem_cons.mp m2 with r | r
        · exact r.symm
        · have a1 := List.not_lt.mp (h1.1 y r)
          have a2 := List.not_lt.mp (h2.1 x q)
          have a3 := List.le_antisymm a1 a2
          exact Str.ext' (Array.toList_inj.mp a3)
    subst e
    rw [sortT_uniq ((List.perm_cons x).mp p) h1.2 h2.2]
theorem sortT_perm {xs ys : List Str} (p : xs.Perm ys) : sortT xs = sortT ys := sortT_uniq ((List.mergeSort_perm _ _).trans (p.trans (List.mergeSort_perm _ _).symm)) (sortT_sorted xs) (sortT_sorted ys)
theorem tx_vals : ∀ {l : List (Int × Value)} {ys : List Str} {w : World}, Paired (TxE w) l ys → Vals (ys.map V.str) (l.map (·.2))
  | _, _, _, .nil => .nil
  | _, _, _, .cons h r => .cons h.1 (tx_vals r)
theorem vals_eachS : ∀ {ys : List Str} {us : List Value}, Vals (ys.map V.str) us → EachIs (fun (u : Value) (x : Str) => ∃ t, u = Value.str x t) us ys
  | [], _, .nil => .nil
  | _ :: _, _, .cons h r => .cons h (vals_eachS r)
theorem eachS_vals : ∀ {ys : List Str} {us : List Value}, EachIs (fun (u : Value) (x : Str) => ∃ t, u = Value.str x t) us ys → Vals (ys.map V.str) us
  | _, _, .nil => .nil
  | _, _, .cons h r => .cons h (eachS_vals r)
theorem eachS_reads {h : Heap} {a : Addr} : ∀ {ys : List Str} {us : List Value}, EachIs (fun (u : Value) (x : Str) => ∃ t, u = Value.str x t) us ys → EachIs (fun v b => ∃ as, Reads h v (PyData.str b) as ∧ a ∉ as) us ys
  | _, _, .nil => .nil
  | _, _, .cons hx r => .cons (by obtain ⟨t, rfl⟩ := hx; exact ⟨[], Reads.str _ t, by simp⟩) (eachS_reads r)
theorem vals_permS {ys : List Str} : ∀ {us us' : List Value}, us'.Perm us → Vals (ys.map V.str) us → ∃ ys' : List Str, ys'.Perm ys ∧ Vals (ys'.map V.str) us' := by
  intro us us' p
  induction p generalizing ys with
  | nil => exact fun h => ⟨ys, List.Perm.refl _, h⟩
  | cons x p ih =>
    intro h
    cases ys with
    | nil => cases h
    | cons y ys =>
      cases h with
      | cons h1 h2 =>
        obtain ⟨m', q1, q2⟩ := ih h2
        exact ⟨y :: m', q1.cons _, .cons h1 q2⟩
  | swap x y l =>
    intro h
    cases ys with
    | nil => cases h
    | cons a ys =>
      cases h with
      | cons h1 h2 =>
        cases ys with
        | nil => cases h2
        | cons b ys =>
          cases h2 with
          | cons h3 h4 => exact ⟨b :: a :: ys, List.Perm.swap _ _ _, .cons h3 (.cons h1 h4)⟩
  | trans p q ihp ihq =>
    intro h
    obtain ⟨m1, a1, a2⟩ := ihq h
    obtain ⟨m2, b1, b2⟩ := ihp a2
    exact ⟨m2, b1.trans a1, b2⟩
theorem str_sortable (ks : List Str) : PySem.W.AllAlike (ks.map PyData.str) ∧ PySem.W.Sortable (ks.map PyData.str) := by
  refine ⟨fun d hd e he => ?_, .inr fun d hd => ?_⟩
  · obtain ⟨x, _, rfl⟩ := List.mem_map.mp hd
    obtain ⟨y, _, rfl⟩ := List.mem_map.mp he
    rfl
  · obtain ⟨x, _, rfl⟩ := List.mem_map.mp hd
    exact ⟨(by intro z; cases z), fun _ z => by cases z⟩
/-- sorted(a set of texts) -/
theorem sorted_setTx {a : Addr} {ks : List Str} {Q : Value → Shared → Prop} (R : SetTx w s.heap a ks) (hh : A.handled = none) (hu : A.units + 80 < cLine)
    (hQ : ∀ s' p (out : List Value) (c : Nat), (∀ b o, s.heap.get? b = some o → s'.heap.get? b = some o) → s'.gens = s.gens → s'.os = s.os → s.heap.objs.size ≤ p → s'.heap.get? p = some (seqObj "list" out.toArray c) → Vals ((sortT ks).map V.str) out → Q (.ref p) s') :
    wpAny (model P w) A (call (.builtin "sorted") [.ref a]) Q E s := by
  obtain ⟨o, es, ep, t, ys, ho, hex, hd, pr, pm, hb, hf, hr, hl⟩ := R
  refine Calls.call_function_entry kind_sorted plain_sorted entry_sorted (args_sorted1 _) ?_
  unfold Builtin.«sorted»
  refine wpAny_bind (m := checkCount "sorted" 1 1 _) (wpAny_pure ?_)
  refine wpAny_bind (collect_set (A := A.in1) hh ⟨o, ho, hex.1, hd⟩ hf hb hr hl fun s1 vs k1 hz g1 o1 pv => ?_)
  obtain ⟨ys', p1, rv⟩ := vals_permS pv (tx_vals pr)
  have lv : vs.length = ys'.length := by have := paired_len rv; simp at this; omega
  have ly : ys'.length = es.size := by rw [p1.length_eq, ← paired_len pr, Array.length_toList]
  have zz : ys'.length ≤ sizeLine := by rw [ly]; exact fits_of_scanBound hb
  refine wpAny_bind (wpAny_newList ?_ (by rw [lv]; exact zz))
  have hoL : (s1.heap.push (seqObj "list" vs.toArray 0)).get? s1.heap.objs.size = some (seqObj "list" vs.toArray 0) := Heap.get?_push_size _ rfl
  have ev := vals_eachS rv
  obtain ⟨al, so⟩ := str_sortable ys'
  refine wpAny_bind (wpAny_holding (PySem.W.list_sort_data (s := { s1 with heap := s1.heap.push (seqObj "list" vs.toArray 0) }) hoL ev (eachS_reads ev) al so zz (fun b hb' => ?_) fun out eo1 eo2 => ?_))
  · show A.in1.units + 1 + 0 < cLine
    have : A.in1.units = A.units + 1 := rfl
    omega
  · obtain ⟨c, hc⟩ := sortedHeap_at (vs := vs) (out := out.toArray) hoL
    have q : Vals ((sortT ys').map V.str) out := eachS_vals eo2
    rw [sortT_perm (p1.trans pm)] at q
    refine wpAny_pure ⟨_, rfl, hQ _ s1.heap.objs.size out c (fun b u e => ?_) g1 o1 hz hc q⟩
    have q2 := k1 b u e
    have hlt := Heap.lt_size q2
    show (sortedHeap (s1.heap.push (seqObj "list" vs.toArray 0)) s1.heap.objs.size vs out.toArray).get? b = some u
    rw [sortedHeap_old (Nat.ne_of_lt hlt) (by rw [size_push']; exact Nat.lt_succ_of_lt hlt)]
    exact Heap.get?_push_of_some _ q2
end
end MP

set_option Elab.async false
set_option linter.all false
set_option maxRecDepth 100000
set_option maxHeartbeats 4000000
/-! MP50: set(a list of texts); sorted(set(..)). -/
namespace MP
open PySem PySem.Spec PyProof.Rows L2
open PySem.W (EachIs)
/-- the texts of a list, each once -/
def dedT (ks : List Str) : List Str := ks.foldl addT []
theorem addT_len (ks : List Str) (k : Str) : (addT ks k).length ≤ ks.length + 1 := by
  unfold addT
  split <;> simp
theorem foldT_len : ∀ (ks acc : List Str), (ks.foldl addT acc).length ≤ acc.length + ks.length
  | [], acc => by simp
  | k :: ks, acc => by
    have := foldT_len ks (addT acc k)
    have := addT_len acc k
    simp only [List.foldl_cons, List.length_cons]
    omega
theorem foldT_next {ks : List Str} {i : Nat} {x : Str} (h : ks[i]? = some x) : (ks.take (i + 1)).foldl addT [] = addT ((ks.take i).foldl addT []) x := by
  rw [take_next h, List.foldl_append]
  rfl
section
variable {P : Program} {w : World} {A : Around} {E : Value → Shared → Prop} {s : Shared}
/-- the loop behind set(xs) -/
theorem fill_tx {I : Addr} {fp wr : List Addr} {G : Array GenState → Array GenState → Prop} {n : Nat} {Pv : Nat → Value → Prop} {St : Nat → Shared → Prop} {R : Result → Shared → Prop} (W : WalksS P w A.in1 I fp wr G n Pv St) (S : Addr) (hSf : S ∉ fp) (ks : List Str) (hn : n = ks.length) (few : ks.length < 4000)
    (hval : ∀ i v, Pv i v → ∃ x t, ks[i]? = some x ∧ v = Value.str x t) (h0 : Heap) (hS0 : h0.get? S = none) (hw0 : ∀ b ∈ wr, h0.get? b = none) :
    ∀ (k i : Nat) (s : Shared), n - i = k → i ≤ n → St i s → (∀ b o, h0.get? b = some o → s.heap.get? b = some o) → SetTx w s.heap S ((ks.take i).foldl addT []) →
      (∀ s', Moved (S :: wr) G s s' → SetTx w s'.heap S (dedT ks) → (∀ b o, h0.get? b = some o → s'.heap.get? b = some o) → R (.ok (.ret .none)) s') →
      codeAny (model P w) A (.builtin "set.update.loop" ⟨[.ref S, .ref I], []⟩) R s := by
  have hSw : S ∉ wr := fun h => hSf (W.sub _ h)
  have more : ∀ b ∈ wr, b ∈ S :: wr := fun b hb => List.mem_cons_of_mem _ hb
  have stays : ∀ {s s' : Shared}, Moved wr G s s' → (∀ b o, h0.get? b = some o → s.heap.get? b = some o) → ∀ b o, h0.get? b = some o → s'.heap.get? b = some o := fun hm hk b o e =>
    hm.heap b o (fun hb => by rw [hw0 b hb] at e; cases e) (hk b o e)
  intro k
  induction k with
  | zero =>
    intro i s hk hi hst hkp hS hR
    obtain rfl : i = n := by omega
    refine codeAny_builtin F.entry_set_update_loop ?_
    rw [Around.under_plainId F.plain_set_update_loop _]
    show wpAny _ A.in1 (pyNext (.ref I) >>= _) _ _ s
    refine wpAny_bind (W.done s _ _ hst fun s' hm => ?_)
    show wpAny _ A.in1 (ret Value.none) _ _ s'
    rw [hn, List.take_length] at hS
    exact wpAny_pure (hR s' (hm.mono more) (hS.at fun o e => hm.heap S o hSw e) (stays hm hkp))
  | succ k ih =>
    intro i s hk hi hst hkp hS hR
    have hlt : i < n := by omega
    refine codeAny_builtin F.entry_set_update_loop ?_
    rw [Around.under_plainId F.plain_set_update_loop _]
    show wpAny _ A.in1 (pyNext (.ref I) >>= _) _ _ s
    refine wpAny_bind (W.item i s _ _ hlt hst fun v s' hP hst' hm => ?_)
    obtain ⟨x, t, hx, rfl⟩ := hval i v hP
    have hkp' := stays hm hkp
    have hS' := hS.at (fun o e => hm.heap S o hSw e)
    show wpAny _ A.in1 (holding [Value.str x t] (setAdd S (.str x t)) >>= _) _ _ s'
    refine wpAny_bind (wpAny_holding ?_)
    unfold setAdd
    refine wpAny_holding (wpAny_bind ((PySem.strKind P w).pyHash ((tx_is ⟨t, rfl⟩).mpr rfl) ?_))
    have fl := foldT_len (ks.take i) []
    have fs : scanBound = 4096 := rfl
    refine setTx_hashed (s := { s' with toks := s'.toks + 1 }) hS' (by simp at fl; omega) fun b h' sb new => ?_
    rw [← foldT_next hx] at new
    have hkp2 : ∀ b o, h0.get? b = some o → h'.get? b = some o := fun b o e => (sb.2 b (fun z => by rw [z, hS0] at e; cases e)).trans (hkp' b o e)
    refine wpAny_pure ⟨plainId_quiet F.plain_set_update_loop _, ih (i + 1) _ (by omega) hlt (W.frame _ s' _ _ hst' (Nat.le_add_right _ _) fun b hb o e => ?_) hkp2 new fun s'' hm'' S'' hkp'' => ?_⟩
    · rw [sb.2 b (fun h : b = S => hSf (by rw [← h]; exact hb))]; exact e
    · refine hR s'' (Moved.trans W.gtrans ((hm.mono more).then_heap (Nat.le_add_right _ _) fun b o hb e => ?_) hm'') S'' hkp''
      rw [sb.2 b (fun h : b = S => hb (by rw [h]; exact List.mem_cons_self))]; exact e
set_option maxHeartbeats 3200000 in
/-- set(xs), xs a list of texts -/
theorem call_set_tx {l : Addr} {items : Array Value} (ks : List Str) {Q : Value → Shared → Prop} (hh : A.handled = none) (hl : s.heap.IsList l items) (hit : Vals (ks.map V.str) items.toList) (few : ks.length < 4000)
    (h : ∀ (h' : Heap) (tk : Nat), SetTx w h' s.heap.objs.size (dedT ks) → (∀ b o, s.heap.get? b = some o → h'.get? b = some o) → Q (.ref s.heap.objs.size) { s with heap := h', toks := tk }) :
    wpAny (model P w) A (call (.type "set") [.ref l]) Q E s := by
  have hisz : items.size = ks.length := by
    have q := paired_len hit
    simp at q
    omega
  obtain ⟨c, tl, hmro⟩ := F.called_set.mro
  have hmade := F.called_set.made
  have hsub := F.called_set.sub
  refine wpAny_call (codeAny_of_tree ?_)
  show wpAny _ _ (callAny (.type "set") _) _ _ _
  refine wpAny_pure ⟨Code.quiet_builtin _ (by decide +kernel), codeAny_builtin F.entry_type_call ?_⟩
  rw [Around.under_plain (weight_type_call_type "set" [.ref l] []) rfl]
  have h1 := F.called_set.notType
  have h2 := F.called_set.canCreate
  have hct := F.typeCall_set_1 (.ref l)
  repeat (any_goals (first | assumption | wp_step))
  refine codeAny_mono (code_set_led1 (.ref l) (E := E) (Q₁ := fun obj s₁ => obj = .ref s.heap.objs.size ∧ s₁ = { s with heap := s.heap.push { cls := .type "set", dict := none, data := .set #[] 0 (.fresh 0 0 (!w.params.followText "set-order")) } }) ⟨rfl, rfl⟩) fun r s₁ hr => ?_
  cases r with
  | error e => exact hr
  | ok fl =>
    cases fl with
    | ret obj =>
      obtain ⟨rfl, rfl⟩ := hr
      have hS : (s.heap.push { cls := .type "set", dict := none, data := .set #[] 0 (.fresh 0 0 (!w.params.followText "set-order")) }).get? s.heap.objs.size = some { cls := .type "set", dict := none, data := .set #[] 0 (.fresh 0 0 (!w.params.followText "set-order")) } := Heap.get?_push_size _ rfl
      have hT : Shared.TypeIs { s with heap := s.heap.push { cls := .type "set", dict := none, data := .set #[] 0 (.fresh 0 0 (!w.params.followText "set-order")) } } (.ref s.heap.objs.size) "set" := ⟨_, hS, rfl⟩
      have hli := F.called_set.init.lookup
      have hbi := F.called_set.init.bind (.ref s.heap.objs.size)
      repeat (any_goals (first | assumption | wp_step))
      refine codeAny_mono (codeAny_call_builtin (R := wants (fun r s₂ => r = .none ∧ ∃ h' tk, s₂ = { s with heap := h', toks := tk } ∧ SetTx w h' s.heap.objs.size (dedT ks) ∧ (∀ b o, s.heap.get? b = some o → h'.get? b = some o)) E) F.called_set.init.plain F.entry_set_init (check_set_init_1 hT ?_)) fun r₂ s₂ hr₂ => ?_
      · obtain ⟨ol, hol, hcl, nl, hdl⟩ := hl
        obtain ⟨ocls, odict, odata, oslots⟩ := ol
        simp only at hcl hdl
        subst hcl; subst hdl
        have hol' : (s.heap.push { cls := .type "set", dict := none, data := .set #[] 0 (.fresh 0 0 (!w.params.followText "set-order")) }).get? l = some { cls := .type "list", dict := odict, data := .seq items nl, slots := oslots } := Heap.get?_push_of_some _ hol
        have hsls := F.sub_list_set
        have hslf := F.sub_list_frozenset
        have hne : (Value.type "list" == Value.type "dict") = false := by decide
        have hl1 : (s.heap.push { cls := .type "set", dict := none, data := .set #[] 0 (.fresh 0 0 (!w.params.followText "set-order")) }).IsList l items := ⟨_, hol', rfl, nl, rfl⟩
        unfold Builtin.«set.__init__» noKeywords Builtin.Frozenset.updateFrom
        generalize hPI : pyIter = PI
        wp_walk
        subst hPI
        refine wpAny_pyIter_list hl1 ?_
        refine wpAny_bind (wpAny_runValue ?_)
        have hlS : l < s.heap.objs.size := Heap.lt_size hol
        have hh3 : A.in1.in1.in1.handled = none := by simp [hh]
        have hneI : l ≠ (s.heap.push { cls := .type "set", dict := none, data := .set #[] 0 (.fresh 0 0 (!w.params.followText "set-order")) }).objs.size := by
          rw [Heap.size_push]; exact Nat.ne_of_lt (Nat.lt_succ_of_lt hlS)
        have hSf : s.heap.objs.size ∉ [(s.heap.push { cls := .type "set", dict := none, data := .set #[] 0 (.fresh 0 0 (!w.params.followText "set-order")) }).objs.size, l] := by
          rw [Heap.size_push]; simp only [List.mem_cons, List.mem_singleton, List.not_mem_nil, or_false, not_or]
          exact ⟨Nat.ne_of_lt (Nat.lt_succ_self _), Nat.ne_of_gt hlS⟩
        have hval : ∀ (i : Nat) (v : Value), items[i]? = some v → ∃ x t, ks[i]? = some x ∧ v = Value.str x t := fun i v hv => by
          have li : i < ks.length := by rw [← hisz]; exact (Array.getElem?_eq_some_iff.mp hv).1
          have ek : (ks.map V.str)[i]? = some (.str ks[i]) := by rw [List.getElem?_map, List.getElem?_eq_getElem li]; rfl
          obtain ⟨u, e1, e2⟩ := Vals.get hit ek
          rw [Array.getElem?_toList, hv] at e1
          cases e1
          obtain ⟨t, rfl⟩ := e2
          exact ⟨_, t, List.getElem?_eq_getElem li, rfl⟩
        have none_of : ∀ b, s.heap.objs.size ≤ b → s.heap.get? b = none := fun b hb => by
          cases q : s.heap.get? b with
          | none => rfl
          | some o => exact absurd (Nat.lt_of_lt_of_le (Heap.lt_size q) hb) (Nat.lt_irrefl _)
        refine fill_tx ((Walks.list hh3 _ l hneI items).toS) s.heap.objs.size hSf ks hisz few hval s.heap (none_of _ (Nat.le_refl _)) (fun b hb => none_of b (by
            rw [List.mem_singleton.mp hb, Heap.size_push]
            exact Nat.le_succ _)) (items.size - 0) 0 _ (by omega) (Nat.zero_le _)
          ⟨⟨_, Heap.get?_push_size _ rfl, rfl, rfl⟩, (hl1.push _)⟩ (fun b o e => Heap.get?_push_of_some _ (Heap.get?_push_of_some _ e)) ?hS0 ?hR
        case hS0 =>
          rw [List.take_zero]
          exact (setTx_fresh (h := s.heap) w).at fun o e => Heap.get?_push_of_some _ e
        case hR =>
          intro s' hm hS' hkp
          obtain ⟨h', g2, d', tk', os'⟩ := s'
          have eg : g2 = s.gens := hm.gens
          have ed : d' = s.drawn := hm.drawn
          have eo : os' = s.os := hm.os
          subst eg; subst ed; subst eo
          show wpAny _ _ _ _ _ _
          refine wpAny_pure ?_
          show wpAny _ _ (ret Value.none) _ _ _
          exact wpAny_pure ⟨rfl, h', tk', rfl, hS', hkp⟩
      · cases r₂ with
        | error e => exact hr₂
        | ok fl₂ =>
          cases fl₂ with
          | ret r =>
            obtain ⟨rfl, h', tk, rfl, hS', hk'⟩ := hr₂
            repeat (any_goals (first | assumption | wp_step))
            exact h _ _ hS' hk'
          | _ => exact hr₂.elim
    | _ => exact hr.elim
end
end MP

set_option Elab.async false
set_option linter.all false
set_option maxRecDepth 100000
set_option maxHeartbeats 4000000
/-! MP51: sorted(set(xs)) of texts, as the machine has it. -/
namespace MP
open PySem PySem.Spec PyProof.Rows L2
open Evl (Ex)
/-- a set of texts, tracked -/
def STx (w : World) (a : Addr) (ks : List Str) : HO := .ext fun h => SetTx w h a ks
theorem sTx_new {w : World} {P : Program} {H : Hp} {h : Heap} {a : Addr} {ks : List Str} (R : SetTx w h a ks) : ObjOk P w H h a (STx w a ks) := by
  have ⟨o, _, _, _, _, ho, _⟩ := R
  exact ⟨R, ⟨o, ho⟩, fun h1 h2 p k => SetTx.at p k⟩
section
variable {X : Cx}
theorem sTx_get {pins : List (Addr × Obj)} {σ : L2.St} {H : Hp} {s : Shared} {a : Addr} {ks : List Str} (I : L2.Inv X pins σ H s) (ha : H a = some (STx X.w a ks)) : SetTx X.w s.heap a ks := (I.hok a _ ha).1
/-- a text added -/
theorem sTx_add {pins : List (Addr × Obj)} {σ : L2.St} {H : Hp} {s : Shared} {E : Value → Shared → Prop} {D : Addr} {ks : List Str} {y : Str} {t : Tok} {Q : Value → Shared → Prop} (I : L2.Inv X pins σ H s) (hD : H D = some (STx X.w D ks)) (room : ks.length + 1 < scanBound)
    (h : ∀ s', L2.Inv X pins σ (upd H D (STx X.w D (addT ks y))) s' → Q .none s') : wpAny (model X.prog X.w) X.A (call (.builtin "set.add") [.ref D, .str y t]) Q E s := by
  refine setTx_add (sTx_get I hD) room fun h' sb new => ?_
  have he : ∃ u, h'.get? D = some u := by
    have ⟨o, _, _, _, _, ho, _⟩ := new
    exact ⟨o, ho⟩
  exact h _ (I.write (e := D) (t' := s.toks + 1) (by rw [hD]; trivial) (.inl rfl) (fun b u hb hu => (sb.2 b hb).trans hu) he (sTx_new new))
/-- sorted(a set of texts) -/
def rSortTx (w : World) : List V → Hp → VK → Prop := fun vs H Q => ∃ (a : Addr) (ks : List Str), vs = [V.ref a] ∧ H a = some (STx w a ks) ∧ ∀ p, H p = none → Q (.ref p) (upd H p (.lst ((sortT ks).map V.str)))
theorem sortT_len (ks : List Str) : (sortT ks).length = ks.length := (List.mergeSort_perm _ _).length_eq
theorem setTx_few {w : World} {h : Heap} {a : Addr} {ks : List Str} (R : SetTx w h a ks) : ks.length < 4096 := by
  obtain ⟨o, es, ep, t, ys, ho, hex, hd, pr, pm, hb, _⟩ := R
  have e : scanBound = 4096 := rfl
  rw [← pm.length_eq, ← paired_len pr, Array.length_toList]
  omega
theorem cr_sortTx (hc : X.calm = true) (hu : X.A.units + 80 < cLine) : CallR X (.builtin "sorted") (rSortTx X.w) := by
  intro pins s σ H vs us Q I r h
  obtain ⟨a, ks, rfl, ha, q⟩ := h
  rw [Vals.ref1 r]
  have R := sTx_get I ha
  have few := setTx_few R
  refine sorted_setTx R (I.ok.hd hc) hu fun s' p out c k g o z hp rv => ?_
  have hz : ((sortT ks).map V.str).length ≤ sizeLine := by rw [List.length_map, sortT_len, sizeLine_eq]; omega
  obtain ⟨h', g', d', tk', os'⟩ := s'
  dsimp only at k g o hp
  have fr : H p = none := I.hok.fresh z
  refine ⟨.ref p, upd H p (.lst ((sortT ks).map V.str)), ?_, rfl, q p fr⟩
  have J : L2.Inv X pins σ (upd H p (.lst ((sortT ks).map V.str))) { s with heap := h', toks := tk' } := I.laid (t' := tk') k z ⟨hz, out, c, rv, hp⟩
  exact J.call' (ch := []) o (Un.kept fun _ _ e => e) (J.hok.kept fun _ _ e => e) (by rw [g]; exact J.bare) (fun _ z => nomatch z)
/-- set(a list of texts) -/
def rSetTx (K : PySem.W.Frag) (w : World) : List V → Hp → VK → Prop := fun xs H Q => ∃ (l : Addr) (ks : List Str), xs = [V.ref l] ∧ SqL K H l (ks.map V.str) ∧ ks.length < 4000 ∧ ∀ a, H a = none → Q (.ref a) (upd H a (STx w a (dedT ks)))
theorem cr_setTx (hc : X.calm = true) : CallR X (.type "set") (rSetTx X.K X.w) := by
  intro pins s σ H xs us Q I r h
  obtain ⟨l, ks, rfl, hl, few, q⟩ := h
  rw [Vals.ref1 r]
  obtain ⟨its, rv, pl, hz⟩ := I.list hl
  have hn : H s.heap.objs.size = none := I.hok.fresh (Nat.le_refl _)
  refine call_set_tx (P := X.prog) (w := X.w) ks (I.ok.hd hc) pl.isList (by simpa using rv) few fun h' tk R k => ?_
  exact ⟨.ref s.heap.objs.size, upd H s.heap.objs.size (STx X.w s.heap.objs.size (dedT ks)), I.laid (t' := tk) k (Nat.le_refl _) (sTx_new R), rfl, q _ hn⟩
end
/-! ### the machine's sorted(set(xs)) -/
def strsD : List MP.D → Option (List Str)
  | [] => some []
  | .str x :: xs => match strsD xs with
    | some ks => some (x :: ks)
    | none => none
  | _ => none
def mSortSet (rs : List RV) : Mn RV := bnd (escs rs) fun ds sl st => match ds with
  | [.lst xs] => match strsD xs with
    | some ks => if ks.length < 4000 then .ok (.f (.lst ((sortT (dedT ks)).map MP.D.str))) sl st else .no
    | none => .no
  | _ => .no
def rSS (K : PySem.W.Frag) (w : World) : List V → Hp → VK → Prop := fun vs H Q => rSetTx K w vs H fun x H2 => rSortTx w [x] H2 Q
section
variable {K : PySem.W.Frag} {cn : String → Addr} {W : WX} {X : Cx}
theorem strs_rep {G : Hp} {ρ : List Addr} : ∀ {xs : List MP.D} {vs : List V} {ks : List Str}, Reps K cn G ρ xs vs → strsD xs = some ks → vs = ks.map V.str
  | _, _, _, .nil, e => by cases e; rfl
  | x :: xs, _, ks, .cons h r, e => by
    cases x with
    | str y =>
      have e : (match strsD xs with | some ks => some (y :: ks) | none => none) = some ks := e
      cases e2 : strsD xs with
      | none => rw [e2] at e; cases e
      | some ks' =>
        rw [e2] at e
        cases e
        cases h
        rw [strs_rep r e2]
        rfl
    | _ => cases e
theorem sortSet_ok {w : World} : OpOk K cn W (rSS K w) mSortSet := op_escs fun Z ds vs Q hR hx h => by
  split at h
  · rename_i xs
    cases hx with
    | cons h1 t =>
      cases t
      cases h1 with
      | @lst _ l ws k1 k2 =>
        cases e1 : strsD xs with
        | none => rw [e1] at h; exact h.elim
        | some ks =>
          rw [e1] at h
          dsimp only at h
          by_cases c : ks.length < 4000
          · rw [if_pos c] at h
            have ew := strs_rep k2 e1
            subst ew
            refine ⟨l, ks, rfl, Evl.ex_l hR.ex k1, c, fun a fa => ⟨a, dedT ks, rfl, upd_same, fun p fp => ?_⟩⟩
            have s1 := Step.laid (A := NoA) hR (STx w a (dedT ks)) fa
            have R1 := R.laid hR (STx w a (dedT ks)) fa
            have s2 := Step.laid (A := fun b => NoA b ∨ b = a) R1 (.lst ((sortT (dedT ks)).map V.str)) fp
            have R2 := R.laid R1 (.lst ((sortT (dedT ks)).map V.str)) fp
            have fp0 : Z.H p = none := by
              by_cases e : p = a
              · rw [e]; exact fa
              · have fp' := fp
                rw [upd_ne e] at fp'
                exact fp'
            exact h Z.G _ Z.ρ (.ref p) R2 ⟨p, _, rfl, upd_same, hR.gnone fp0, hR.rnew fp0, hR.onew fp0, .lst (reps_strs _)⟩ ((s1.trans s2).drop fun b z => .inr (by cases z; rfl))
          · rw [if_neg c] at h; exact h.elim
  · exact h.elim
/-- sorted(set(e)) -/
theorem me_sortSet {x y : Str} {e : Expr} {p q pos pos' : Pos} {m : Mn (List RV)} (hc : X.calm = true) (hu : X.A.units + 80 < cLine) (hg : Gl X x) (hm : X.mg x = none) (hv : bootBuiltins x = some (.builtin "sorted")) (hg' : Gl X y) (hm' : X.mg y = none) (hv' : bootBuiltins y = some (.type "set")) (ha : PA X [e] (TMa X.K cn W m))
    (hn : x ≠ "__name__" := by decide) (hdb : (x == ("__debug__" : Str)) = false := by decide) (hn' : y ≠ "__name__" := by decide) (hdb' : (y == ("__debug__" : Str)) = false := by decide)
    (he : starEach [e] X.env = [(false, eval e X.env)] := by rfl) :
    PE X (.Call (.Name x p) [.Call (.Name y q) [e] [] pos'] [] pos) (TM X.K cn W (mOp mSortSet m)) :=
  PE.imp (pe_callB (cr_sortTx hc hu) hg hm hv (pa_cons (pe_callTy (cr_setTx hc) hg' hm' hv' ha hn' hdb' (by rw [he]; rfl) rfl) pa_nil) hn hdb) fun σ H Q h => tm_op (sortSet_ok (w := X.w)) σ H Q h
end
end MP

set_option Elab.async false
set_option linter.all false
set_option maxRecDepth 100000
set_option maxHeartbeats 4000000
/-! MP52: set comprehensions of texts, put in order. -/
namespace MP
open PySem PySem.Spec PyProof.Rows L2
open Evl (Ex)
section
variable {X : Cx}
/-- {text for target in iter if ..}: D the new set -/
def tScT (w : World) (wi : TI) (g : TG) (tt : TT) (te : TE) (vs : List Nat) : TE := fun σ H Q => wi σ H fun J H1 => ∀ D, H1 D = none → ∃ W : Nat → Nat → Hp → Prop, (∃ m, W 0 m (upd H1 D (STx w D []))) ∧ ∀ i m H, W i m H →
  (J.stop i H ∧ Q (.ref D) H) ∨ (J.go i H ∧ ∃ Nx : Hp → Prop, (∀ H', Nx H' → ∃ m', m' < m ∧ W (i + 1) m' H') ∧ ∀ x H', J.yld i H x H' → g x (wipe σ vs) H' fun σ2 H2 => wipe σ2 vs = wipe σ vs ∧ tt σ2 H2 fun b H3 =>
    if b = true then te σ2 H3 fun y H4 => ∃ (c : Str) (ks : List Str), y = .str c ∧ H4 D = some (STx w D ks) ∧ ks.length + 1 < scanBound ∧ Nx (upd H4 D (STx w D (addT ks c))) else Nx H3)
theorem scT_core {pins : List (Addr × Obj)} {s : Shared} {σ : L2.St} {H : Hp} {Q : VK} {elt tg iter : Expr} {ifs : List Expr} {scope : Scope} {own : List (PySem.Str × Nat)} {pos pos' : Pos} {wi : TI} {g : TG} {tt : TT} {te : TE} {use : Option (Value → Sem Unit)} {Qf : Value → Shared → Prop}
    (hc : X.calm = true) (hN : X.N.Nodup) (I : L2.Inv X pins σ H s) (hi : PI X tg iter wi) (ok : BlkOk X.N X.env.scope scope own)
    (hg : ∀ (s : Shared) (H : Hp) (C : Addr) (cl : List (PySem.Str × Addr)) (fp : List Addr), PG (X.blk s H scope (compEnvC scope cl C X.env) fp) tg g) (ht : ∀ (s : Shared) (H : Hp) (C : Addr) (cl : List (PySem.Str × Addr)) (fp : List Addr), PTs (X.blk s H scope (compEnvC scope cl C X.env) fp) ifs tt)
    (he : ∀ (s : Shared) (H : Hp) (C : Addr) (cl : List (PySem.Str × Addr)) (fp : List Addr), PE (X.blk s H scope (compEnvC scope cl C X.env) fp) elt te) (hs : ∀ x, foldedSetIterable iter X.env x = pure x)
    (h : tScT X.w wi g tt te (own.map (·.2)) σ H Q)
    (fin : ∀ D C s' m H', L2.Inv X pins σ H' s' → Q (.ref D) H' → s'.heap.Ns C m → FpOk X pins H' C → compPost (model X.prog X.w) X.A X.xe use Qf (.ref D) C (.ok .next) s') :
    wpAny (model X.prog X.w) X.A (comprehension (.SetComp elt [⟨tg, iter, ifs, 0⟩] scope pos) scope X.env pos' (newSet (.type "set")) false (eval iter X.env) use) Qf X.xe s := by
  have there : ∀ y ∈ scope.names, y.2 = .free → ∃ c, X.env.cells.lookup y.1 = some c := fun y hy e => (ok.free y hy e).elim (fun k => I.ok.has _ (.inl k)) fun k => I.ok.has _ (.inr k)
  refine wpAny_comprehension_free (use := use) rfl hs (closure_ok there) ok.kind (fun y hy e => by rw [ok.uniq y hy, e]) (thn (hi.run pins s σ H _ I h) fun xv s1 hx => thn hx fun itv s2 h2 => ?_)
  obtain ⟨it, fp, tn, J, H2, e, I2, T, st2, f2, q⟩ := h2
  subst e
  refine PpSet.newSet_ok (newEnv_comp ?_)
  generalize hD : s2.heap.objs.size = D
  have fresh : H2 D = none := I2.hok.fresh (Nat.le_of_eq hD)
  obtain ⟨W, ⟨m0, w0⟩, turn⟩ := q D fresh
  generalize hs3 : ({ s2 with heap := s2.heap.push { cls := .type "set", dict := none, data := .set #[] 0 (.fresh 0 0 (!X.w.params.followText "set-order")) } } : Shared) = s3
  have I3 : L2.Inv X pins σ (upd H2 D (STx X.w D [])) s3 := by
    rw [← hs3]
    refine I2.laid (t' := s2.toks) (fun b o e => Heap.get?_push_of_some _ e) (Nat.le_of_eq hD) ?_
    rw [← hD]
    exact sTx_new (setTx_fresh X.w)
  have heap3 : s3.heap = s2.heap.push { cls := .type "set", dict := none, data := .set #[] 0 (.fresh 0 0 (!X.w.params.followText "set-order")) } := by rw [← hs3]
  have below : ∀ b ∈ fp, b < s2.heap.objs.size := fun b hb => by
    obtain ⟨o, e, _⟩ := T.obj _ _ st2 b hb
    exact Heap.lt_size e
  have f3 : ∀ b ∈ fp, FpOk X pins (upd H2 D (STx X.w D [])) b ∧ b < s3.heap.objs.size := fun b hb => by
    have lt := below b hb
    refine ⟨⟨?_, (f2 b hb).2⟩, by rw [heap3, Heap.size_push]; exact Nat.lt_succ_of_lt lt⟩
    rw [upd_ne (by rw [← hD]; exact Nat.ne_of_lt lt)]
    exact (f2 b hb).1
  have st3 : tn 0 s3.heap := T.keep _ _ _ st2 fun b _ o e => by rw [heap3]; exact Heap.get?_push_of_some _ e
  have I4 := block_start I3 ok hN f3
  have pg := hg s3 (upd H2 D (STx X.w D [])) s3.heap.objs.size (cellsFrom (s3.heap.objs.size + 1) scope.names (cloFrom X.env.cells scope.names [])) fp
  have pt := ht s3 (upd H2 D (STx X.w D [])) s3.heap.objs.size (cellsFrom (s3.heap.objs.size + 1) scope.names (cloFrom X.env.cells scope.names [])) fp
  have pe := he s3 (upd H2 D (STx X.w D [])) s3.heap.objs.size (cellsFrom (s3.heap.objs.size + 1) scope.names (cloFrom X.env.cells scope.names [])) fp
  show codeAny _ _ (.compStart (.SetComp elt [⟨tg, iter, ifs, 0⟩] scope pos) 0 (.ref it) (.ref D) (compEnvC scope (cellsFrom (s3.heap.objs.size + 1) scope.names (cloFrom X.env.cells scope.names [])) s3.heap.objs.size X.env)) (compPost (model X.prog X.w) X.A X.xe use Qf (.ref D) s3.heap.objs.size) { s3 with heap := pushCells (s3.heap.push { cls := .type "dict", data := .dict #[] }) scope.names }
  have nfp : ∀ b ∈ fp, (upd H2 D (STx X.w D [])) b = none := fun b hb => (f3 b hb).1.1
  generalize hce : compEnvC scope (cellsFrom (s3.heap.objs.size + 1) scope.names (cloFrom X.env.cells scope.names [])) s3.heap.objs.size X.env = ce at I4 pg pt pe ⊢
  have cL : ce.locals = s3.heap.objs.size := by subst hce; rfl
  generalize hH3 : upd H2 D (STx X.w D []) = H3 at I3 I4 pg pt pe w0 nfp f3
  generalize hs4 : ({ s3 with heap := pushCells (s3.heap.push { cls := .type "dict", data := .dict #[] }) scope.names } : Shared) = s4 at I4 ⊢
  have st4 : tn 0 s4.heap := T.keep _ _ _ st3 fun b _ o e => by rw [← hs4]; exact pushCells_keeps _ _ _ _ (Heap.get?_push_of_some _ e)
  have stat : ∀ {σ' : L2.St} {H' : Hp} {s' : Shared}, L2.Inv (X.blk s3 H3 scope ce fp) [] σ' H' s' → (∀ b ∈ fp, H' b = none) → ∀ b ∈ fp, FpOk (X.blk s3 H3 scope ce fp) [] H' b := fun {σ' H' s'} I' hn b hb =>
    ⟨hn b hb, (I'.ok.exf b hb).1, I'.ok.exfs b hb, .inl hb, fun x c e => (I'.ok.exf b hb).2 x c e, fun p hp => absurd (show p ∈ ([] : List (Addr × Obj)) ++ [] from hp) (by simp)⟩
  have loop : codeAny (model X.prog X.w) X.A (.compLoop (.SetComp elt [⟨tg, iter, ifs, 0⟩] scope pos) 0 (.ref it) (.ref D) ce) (compPost (model X.prog X.w) X.A X.xe use Qf (.ref D) s3.heap.objs.size) s4 := by
    refine PpSet.compLoopS_any (fun n s' => ∃ i H', L2.Inv (X.blk s3 H3 scope ce fp) [] (wipe σ (own.map (·.2))) H' s' ∧ tn i s'.heap ∧ (∀ b ∈ fp, H' b = none) ∧ W i n H') ?_ m0 ⟨0, H3, I4, st4, nfp, w0⟩
    rintro n s5 ⟨i, H5, I5, st5, n5, w5⟩
    rcases turn i n H5 w5 with ⟨stop, qq⟩ | ⟨go, Nx, hNx, step⟩
    · refine thnF (T.done (X.blk s3 H3 scope ce fp) rfl rfl rfl hc i [] s5 _ H5 (fun _ _ => False) I5 (stat I5 n5) st5 stop) fun r s6 ⟨hr, I6⟩ => ?_
      subst hr
      have I7 : L2.Inv X pins σ H5 s6 := I3.call' (ch := fp) I6.os I6.base I6.hok I6.bare fun b hb => ⟨(f3 b hb).1.2.2.2.1, (f3 b hb).1.2.1, (f3 b hb).1.2.2.2.2.1, (f3 b hb).1.2.2.2.2.2⟩
      have nC : H5 s3.heap.objs.size = none := by
        have z : H5 ce.locals = none := I6.free
        rw [cL] at z
        exact z
      obtain ⟨m, hn, _⟩ := I6.loc
      have hn : s6.heap.Ns ce.locals m := hn
      rw [cL] at hn
      exact fin D s3.heap.objs.size s6 m H5 I7 qq hn (I3.fpOk (Nat.le_refl _) nC)
    · refine thnF (T.item (X.blk s3 H3 scope ce fp) rfl rfl rfl hc i [] s5 _ H5 (fun _ _ => False) I5 (stat I5 n5) st5 go) fun r s6 ⟨u, hr, h6⟩ => ?_
      subst hr
      refine thnF h6 fun _ s7 ⟨x, H7, I7, r7, y7, st7, n7⟩ => ?_
      have I7' := I7.pinned (stat I7 n7) (T.obj _ _ st7)
      refine thnF (pg.run _ s7 _ H7 x u _ I7' r7 (step x H7 y7)) fun _ s8 ⟨σ8, H8, I8, hw8, q8⟩ => ?_
      refine thnF (pt.run _ s8 σ8 H8 _ I8 q8) fun b s9 ⟨H9, I9, q9⟩ => ?_
      have turned : ∀ {s' : Shared} {H' : Hp}, L2.Inv (X.blk s3 H3 scope ce fp) ([] ++ pinsAt fp s7.heap) σ8 H' s' → Nx H' → ∃ m, m < n ∧ ∃ i H', L2.Inv (X.blk s3 H3 scope ce fp) [] (wipe σ (own.map (·.2))) H' s' ∧ tn i s'.heap ∧ (∀ b ∈ fp, H' b = none) ∧ W i m H' := fun {s' H'} I' nx => by
        obtain ⟨m', hm, w'⟩ := hNx H' nx
        have pin' : ∀ b ∈ fp, ∀ o, s7.heap.get? b = some o → s'.heap.get? b = some o ∧ H' b = none := fun b hb o e =>
          let z := I'.pin (b, o) (List.mem_append_right _ (List.mem_append_right _ (mem_pinsAt hb e)))
          ⟨z.1, z.2.1⟩
        have hl : (wipe σ (own.map (·.2))).length = σ8.length := by rw [← hw8, wipe_length]
        refine ⟨m', hm, i + 1, H', (I'.unpinned (pins := [])).weak hl (fun j v e => ?_), T.keep _ _ _ st7 fun b hb o e => (pin' b hb o e).1, fun b hb => ?_, w'⟩
        · rw [← hw8] at e
          exact (wipe_some e).1
        · obtain ⟨o, e, _⟩ := T.obj _ _ st7 b hb
          exact (pin' b hb o e).2
      cases b with
      | false =>
        simp only [Bool.false_eq_true, if_false] at q9 ⊢
        exact turned I9 q9
      | true =>
        simp only [if_true] at q9 ⊢
        refine thnF (pe.run _ s9 σ8 H9 _ I9 q9) fun z s10 ⟨yv, H10, I10, r10, cb, ks, ey, hD10, few, nx⟩ => ?_
        subst ey
        obtain ⟨t, rfl⟩ := (show ∃ t, z = Value.str cb t from r10)
        exact sTx_add (X := X.blk s3 H3 scope ce fp) I10 hD10 few fun s11 I11 => turned I11 nx
  exact PpSet.codeAny_compStart_set loop (T.self X.A 0 _ _ _ st4 loop)
theorem pe_scT {elt tg iter : Expr} {ifs : List Expr} {scope : Scope} {own : List (PySem.Str × Nat)} {pos : Pos} {wi : TI} {g : TG} {tt : TT} {te : TE} (hc : X.calm = true) (hN : X.N.Nodup) (hi : PI X tg iter wi) (ok : BlkOk X.N X.env.scope scope own)
    (hg : ∀ (s : Shared) (H : Hp) (C : Addr) (cl : List (PySem.Str × Addr)) (fp : List Addr), PG (X.blk s H scope (compEnvC scope cl C X.env) fp) tg g) (ht : ∀ (s : Shared) (H : Hp) (C : Addr) (cl : List (PySem.Str × Addr)) (fp : List Addr), PTs (X.blk s H scope (compEnvC scope cl C X.env) fp) ifs tt)
    (he : ∀ (s : Shared) (H : Hp) (C : Addr) (cl : List (PySem.Str × Addr)) (fp : List Addr), PE (X.blk s H scope (compEnvC scope cl C X.env) fp) elt te) (hs : ∀ x, foldedSetIterable iter X.env x = pure x := by intro _; rfl) :
    PE X (.SetComp elt [⟨tg, iter, ifs, 0⟩] scope pos) (tScT X.w wi g tt te (own.map (·.2))) := by
  refine ⟨fun pins s σ H Q I h => ?_⟩
  rw [PpSet.eval_SetComp]
  refine scT_core hc hN I hi ok hg ht he hs h fun D C s' m H' I' q hn f => ⟨m, hn, fun h'' sb => ?_⟩
  obtain ⟨f0, f1, f2, f3, f4, f5⟩ := f
  exact ⟨.ref D, H', I'.turned (t' := s'.toks) (fun b o hb e => (sb.2 b hb).trans e) f0 f1 f3 f4 f5, rfl, q⟩
end
end MP

set_option Elab.async false
set_option linter.all false
set_option maxRecDepth 100000
set_option maxHeartbeats 4000000
/-! MP53: sorted({text for ..}), as the machine has it. -/
namespace MP
open PySem PySem.Spec PyProof.Rows L2
open Evl (Ex)
def compS (t : Tgt) (tt : Mn Bool) (te : Mn RV) (vs : List Nat) : List D → List Str → Mn (List Str)
  | [], acc => unit acc
  | x :: xs, acc => fun sl st => match mTgt t x sl st with
    | .ok .nx sl1 st1 => match tt sl1 st1 with
      | .ok true sl2 st2 => match te sl2 st2 with
        | .ok (.d (.str y)) sl3 st3 => if acc.length < 4000 ∧ noLk sl3 vs = true then compS t tt te vs xs (addT acc y) (wipeS sl3 vs) st3 else .no
        | _ => .no
      | .ok false sl2 st2 => if noLk sl2 vs = true then compS t tt te vs xs acc (wipeS sl2 vs) st2 else .no
      | _ => .no
    | _ => .no
def mSortSC (vs : List Nat) (mi : Mn (List D × Hd)) (t : Tgt) (tt : Mn Bool) (te : Mn RV) : Mn RV := bnd mi fun p sl st =>
  if noLk (lockS p.2 sl) vs = true then
    match compS t tt te vs p.1 [] (wipeS (lockS p.2 sl) vs) (lockC p.2 st) with
    | .ok ys sl' st' => .ok (.f (.lst ((sortT ys).map D.str))) (unlS p.2 sl (backS (lockS p.2 sl) sl' vs)) (unlC p.2 st st')
    | _ => .no
  else .no
section
variable {K : PySem.W.Frag} {cn : String → Addr} {W : WX} {X : Cx} {Z : Zt} {A : Addr → Prop}
/-- the new set that is in hand -/
def HandT (w : World) (p : Addr) (us : List Str) (Z : Zt) : Prop := Z.H p = some (STx w p us) ∧ Z.G p = none ∧ p ∉ Z.ρ ∧ ¬ Z.own p
theorem HandT.step {p : Addr} {w : World} {us : List Str} {Z Z' : Zt} {A A' : Addr → Prop} (h : HandT w p us Z) (s : Step Z A Z' A') (n : ¬ A p) : HandT w p us Z' ∧ ¬ A' p := by
  obtain ⟨a, b, c, d, e⟩ := s.keep p _ h.1 h.2.1 h.2.2.1 h.2.2.2 n
  exact ⟨⟨a, b, c, d⟩, e⟩
def WS (w : World) (K : PySem.W.Frag) (cn : String → Addr) (t : Tgt) (tt : Mn Bool) (te : Mn RV) (vs : List Nat) (xs : List MP.D) (P : Zt → Prop) (p : Addr) (ZW : Zt) (σ : L2.St) (q : Res (List Str)) (i m : Nat) (H : Hp) : Prop :=
  m + i = xs.length ∧ ∃ G ρ sl st us, R K cn ⟨G, H, ρ, L2.wipe σ vs, sl, st⟩ ∧ P ⟨G, H, ρ, L2.wipe σ vs, sl, st⟩ ∧ Step ZW NoA ⟨G, H, ρ, L2.wipe σ vs, sl, st⟩ (· = p) ∧ HandT w p us ⟨G, H, ρ, L2.wipe σ vs, sl, st⟩ ∧ (∀ j ∈ vs, ∀ s, sl[j]? = some s → s = Sl.u) ∧ compS t tt te vs (xs.drop i) us sl st = q
theorem ws_turn {t : Tgt} {tt : Mn Bool} {te : Mn RV} {vs : List Nat} {xs : List MP.D} {B : Addr → Prop} {P : Zt → Prop} {J : It} {p : Addr} {ZW : Zt} {σ : L2.St} {w : World} {ys : List Str} {slf : Sls} {stf : Sto} {g : TG} (hk : GOk K cn WF g t) (hin : GIn vs g) (hW : Walks K cn J xs B P) (hB : ¬ B p)
    {i m : Nat} {H : Hp} (ci : i < xs.length) (h : WS w K cn t tt te vs xs P p ZW σ (.ok ys slf stf) i m H) :
    J.go i H ∧ ∃ Nx : Hp → Prop, (∀ H', Nx H' → ∃ m', m' < m ∧ WS w K cn t tt te vs xs P p ZW σ (.ok ys slf stf) (i + 1) m' H') ∧ ∀ x H', J.yld i H x H' → g x (L2.wipe σ vs) H' fun σ2 H2 => L2.wipe σ2 vs = L2.wipe σ vs ∧ TMt K cn WF tt σ2 H2 fun b H3 =>
    if b = true then TM K cn WF te σ2 H3 fun y H4 => ∃ (c : Str) (ks : List Str), y = .str c ∧ H4 p = some (STx w p ks) ∧ ks.length + 1 < scanBound ∧ Nx (upd H4 p (STx w p (addT ks c))) else Nx H3 := by
  obtain ⟨hm, G', ρ', sl', st', us, hR', hP', hS', hD', hu, hc⟩ := h
  obtain ⟨hgo, hy⟩ := hW.go hR' hP' (List.getElem?_eq_getElem ci)
  refine ⟨hgo, fun H2 => WS w K cn t tt te vs xs P p ZW σ (.ok ys slf stf) (i + 1) (m - 1) H2, fun H2 z => ⟨m - 1, by omega, z⟩, fun v H2 hyl => ?_⟩
  obtain ⟨G2, hR2, hv, hS2⟩ := hy v H2 hyl
  have hP2 := hW.keep hP' hS2
  obtain ⟨hD2, _⟩ := hD'.step hS2 fun z => z
  have ww : L2.wipe (L2.wipe σ vs) vs = L2.wipe σ vs := wipe_wipe (σ2 := σ) rfl
  rw [List.drop_eq_getElem_cons ci] at hc
  unfold compS at hc
  refine hin v (L2.wipe σ vs) H2 (fun σ3 H3 => L2.wipe σ3 vs = L2.wipe σ vs → TMt K cn WF tt σ3 H3 fun b H3 =>
    if b = true then TM K cn WF te σ3 H3 fun y H4 => ∃ (c : Str) (ks : List Str), y = .str c ∧ H4 p = some (STx w p ks) ∧ ks.length + 1 < scanBound ∧ WS w K cn t tt te vs xs P p ZW σ (.ok ys slf stf) (i + 1) (m - 1) (upd H4 p (STx w p (addT ks c))) else WS w K cn t tt te vs xs P p ZW σ (.ok ys slf stf) (i + 1) (m - 1) H3) _ (fun σ3 H3 ew q => ⟨ew.trans ww, q (ew.trans ww)⟩) ?_
  refine hk ⟨G2, H2, ρ', L2.wipe σ vs, sl', st'⟩ xs[i] v ⟨_, fun _ _ => False, fun _ _ => False, fun _ _ => False⟩ hR2 hv ?_
  cases et : mTgt t xs[i] sl' st' with
  | no => rw [et] at hc; cases hc
  | exc C zs s3 t3 => rw [et] at hc; cases hc
  | ok f s3 t3 =>
    rw [et] at hc
    cases f with
    | bk => cases hc
    | ct => cases hc
    | rt r => cases hc
    | nx =>
      intro G3 H3 ρ3 σ3 hR3 hS3 ew
      dsimp only at hc
      have hP3 := hW.keep hP2 hS3
      obtain ⟨hD3, _⟩ := hD2.step hS3 fun z => z
      refine ⟨G3, ρ3, s3, t3, hR3, ?_⟩
      cases ett : tt s3 t3 with
      | no => rw [ett] at hc; cases hc
      | exc C zs s4 t4 => rw [ett] at hc; cases hc
      | ok b s4 t4 =>
        rw [ett] at hc
        intro G4 H4 ρ4 hR4 hS4
        have hP4 := hW.keep hP3 hS4
        obtain ⟨hD4, _⟩ := hD3.step hS4 fun z => z
        have hS24 : Step ⟨G', H, ρ', L2.wipe σ vs, sl', st'⟩ NoA ⟨G4, H4, ρ4, σ3, s4, t4⟩ NoA := (hS2.trans hS3).trans hS4
        cases b with
        | false =>
          dsimp only at hc
          by_cases cl : noLk s4 vs = true
          · rw [if_pos cl] at hc
            rw [if_neg (by decide)]
            have hw : Step ⟨G4, H4, ρ4, σ3, s4, t4⟩ (· = p) ⟨G4, H4, ρ4, L2.wipe σ vs, wipeS s4 vs, t4⟩ (· = p) := by
              have := Step.wipe (Z := ⟨G4, H4, ρ4, σ3, s4, t4⟩) (A := (· = p)) (vs := vs) cl
              unfold Zt.wipe at this
              dsimp only at this
              rw [ew] at this
              exact this
            have hw0 : Step ⟨G4, H4, ρ4, σ3, s4, t4⟩ NoA ⟨G4, H4, ρ4, L2.wipe σ vs, wipeS s4 vs, t4⟩ NoA := by
              have := Step.wipe (Z := ⟨G4, H4, ρ4, σ3, s4, t4⟩) (A := NoA) (vs := vs) cl
              unfold Zt.wipe at this
              dsimp only at this
              rw [ew] at this
              exact this
            have hRw : R K cn ⟨G4, H4, ρ4, L2.wipe σ vs, wipeS s4 vs, t4⟩ := by
              have := hR4.wipe vs
              unfold Zt.wipe at this
              dsimp only at this
              rw [ew] at this
              exact this
            refine ⟨by omega, G4, ρ4, wipeS s4 vs, t4, us, hRw, hW.keep hP4 hw0, ?_, (hD4.step hw0 fun z => z).1, wipeS_u s4 vs, hc⟩
            have s1 := (hS24.with (· = p)).less (B := (· = p)) (fun a z => z.elim False.elim id)
            exact (hS'.trans (s1.drop fun a z => .inr z)).trans hw
          · rw [if_neg cl] at hc; cases hc
        | true =>
          dsimp only at hc
          rw [if_pos rfl]
          refine ⟨G4, ρ4, s4, t4, hR4, ?_⟩
          cases etx : te s4 t4 with
          | no => rw [etx] at hc; cases hc
          | exc C zs s5 t5 => rw [etx] at hc; cases hc
          | ok r s5 t5 =>
            rw [etx] at hc
            intro G5 H5 ρ5 y hR5 hy5 hS5
            have hP5 := hW.keep hP4 (hS5.drop (B := NoA) fun a z => z.elim)
            cases r with
            | f b => cases hc
            | sl j => cases hc
            | d x =>
              cases x with
              | str c =>
                dsimp only at hc
                cases (show Rep K cn G5 ρ5 (.str c) y from hy5)
                have hS5' : Step ⟨G4, H4, ρ4, σ3, s4, t4⟩ NoA ⟨G5, H5, ρ5, σ3, s5, t5⟩ NoA := hS5.drop fun a z => z.elim
                obtain ⟨hD5, _⟩ := hD4.step hS5' fun z => z
                have hS25 : Step ⟨G', H, ρ', L2.wipe σ vs, sl', st'⟩ NoA ⟨G5, H5, ρ5, σ3, s5, t5⟩ NoA := hS24.trans hS5'
                have sb : scanBound = 4096 := rfl
                by_cases cl : us.length < 4000 ∧ noLk s5 vs = true
                · rw [if_pos cl] at hc
                  refine ⟨c, us, rfl, hD5.1, by omega, ?_⟩
                  have hRh := R.hand hR5 (u := STx w p (addT us c)) hD5.1 hD5.2.1 hD5.2.2.1 hD5.2.2.2
                  have hSh := Step.hand hR5 (u := STx w p (addT us c)) hD5.2.2.1 hD5.2.2.2
                  have hw : ∀ A, Step ⟨G5, upd H5 p (STx w p (addT us c)), ρ5, σ3, s5, t5⟩ A ⟨G5, upd H5 p (STx w p (addT us c)), ρ5, L2.wipe σ vs, wipeS s5 vs, t5⟩ A := fun A => by
                    have := Step.wipe (Z := ⟨G5, upd H5 p (STx w p (addT us c)), ρ5, σ3, s5, t5⟩) (A := A) (vs := vs) cl.2
                    unfold Zt.wipe at this
                    dsimp only at this
                    rw [ew] at this
                    exact this
                  have hRw : R K cn ⟨G5, upd H5 p (STx w p (addT us c)), ρ5, L2.wipe σ vs, wipeS s5 vs, t5⟩ := by
                    have := hRh.wipe vs
                    unfold Zt.wipe at this
                    dsimp only at this
                    rw [ew] at this
                    exact this
                  have hDh : HandT w p (addT us c) ⟨G5, upd H5 p (STx w p (addT us c)), ρ5, σ3, s5, t5⟩ := ⟨upd_same, hD5.2.1, hD5.2.2.1, hD5.2.2.2⟩
                  refine ⟨by omega, G5, ρ5, wipeS s5 vs, t5, addT us c, hRw, ?_, ?_, (hDh.step (hw NoA) fun z => z).1, wipeS_u s5 vs, hc⟩
                  · refine hW.keep (hW.keepA hP5 hSh fun a z => ?_) (hw NoA)
                    subst z; exact hB
                  · have s1 := (hS25.with (· = p)).less (B := (· = p)) (fun a z => z.elim False.elim id)
                    exact ((hS'.trans (s1.drop fun a z => .inr z)).trans hSh).trans (hw _)
                · rw [if_neg cl] at hc; cases hc
              | _ => cases hc
theorem tm_sortSC {w : World} {vs : List Nat} {mi : Mn (List MP.D × Hd)} {t : Tgt} {tt : Mn Bool} {te : Mn RV} {g : TG} (hk : GOk K cn WF g t) (hin : GIn vs g) : ∀ σ H Q, TM K cn W (mSortSC vs mi t tt te) σ H Q → tScT w (TMi K cn W mi) g (TMt K cn WF tt) (TM K cn WF te) vs σ H fun x H2 => rSortTx w [x] H2 Q := by
  rintro σ H Q ⟨G, ρ, sl, st, hR, h⟩
  refine ⟨G, ρ, sl, st, hR, ?_⟩
  unfold mSortSC bnd at h
  cases e : mi sl st with
  | no => rw [e] at h; exact h
  | exc C xs s t => rw [e] at h; exact h
  | ok w0 sl1 st1 =>
    obtain ⟨xs, hd⟩ := w0
    rw [e] at h
    dsimp only at h
    intro G1 H1 ρ1 A' J B P hR1 hS hB hW hP p hp
    by_cases c : noLk (lockS hd sl1) vs = true
    · rw [if_pos c] at h
      cases ec : compS t tt te vs xs [] (wipeS (lockS hd sl1) vs) (lockC hd st1) with
      | no => rw [ec] at h; exact h.elim
      | exc C xs s t => rw [ec] at h; exact h.elim
      | ok ys slf stf =>
        rw [ec] at h
        dsimp only at h
        have hRL := hR1.lock hd
        have hRW := hRL.wipe vs
        have hpW : (Zt.wipe (Zt.lock ⟨G1, H1, ρ1, σ, sl1, st1⟩ hd) vs).H p = none := hp
        have hB' : ¬ B p := fun z => hB p z hp
        refine ⟨WS w K cn t tt te vs xs P p (Zt.wipe (Zt.lock ⟨G1, H1, ρ1, σ, sl1, st1⟩ hd) vs) σ (.ok ys slf stf), ⟨xs.length, ?_⟩, ?_⟩
        · have hl := hRW.laid (STx w p []) hpW
          have sl0 : ∀ A, Step (Zt.wipe (Zt.lock ⟨G1, H1, ρ1, σ, sl1, st1⟩ hd) vs) A _ (fun a => A a ∨ a = p) := fun A => Step.laid hRW (STx w p []) hpW
          have sw : Step (Zt.lock ⟨G1, H1, ρ1, σ, sl1, st1⟩ hd) NoA (Zt.wipe (Zt.lock ⟨G1, H1, ρ1, σ, sl1, st1⟩ hd) vs) NoA := Step.wipe c
          refine ⟨by omega, G1, ρ1, _, _, [], hl, hW.keep (hW.keep hP sw) (sl0 NoA), (sl0 NoA).drop fun a z => .inr z, ⟨upd_same, hRW.gnone hpW, hRW.rnew hpW, hRW.onew hpW⟩, wipe_u, ?_⟩
          rw [List.drop_zero]; exact ec
        · intro i m H' hwi
          by_cases ci : i < xs.length
          · exact .inr (ws_turn hk hin hW hB' ci hwi)
          · left
            obtain ⟨hm, G', ρ', sl', st', us, hR', hP', hS', hD', hu, hc⟩ := hwi
            have ei : i = xs.length := by omega
            subst ei
            refine ⟨hW.stop hR' hP', ?_⟩
            rw [List.drop_length] at hc
            cases hc
            obtain ⟨b1, b2, b3⟩ := hRL.back hR' hS' hu
            have sm := unl_same hd sl1 (backS (lockS hd sl1) slf vs) st1 stf
            refine ⟨p, ys, rfl, hD'.1, fun q hq => ?_⟩
            have b1' := b1.same sm
            have s2 := Step.laid (A := (· = p)) b1' (.lst ((sortT ys).map V.str)) hq
            have R2 := R.laid b1' (.lst ((sortT ys).map V.str)) hq
            refine h G' _ ρ' (.ref q) R2 ⟨q, _, rfl, upd_same, b1'.gnone hq, b1'.rnew hq, b1'.onew hq, .lst (reps_strs _)⟩ (hS.end0.trans (((Step.unlock (Z := ⟨G1, H1, ρ1, σ, sl1, st1⟩) (Z1 := ⟨G', H', ρ', σ, backS (lockS hd sl1) slf vs, stf⟩) b2).trans s2).drop fun a z => .inr (by
              have z' : V.ref q = V.ref a := z
              cases z'
              rfl)))
    · rw [if_neg c] at h; exact h.elim
/-- sorted({elt for ..}) -/
theorem me_sortSC {x : Str} {elt tg iter : Expr} {ifs : List Expr} {scope : Scope} {own : List (Str × Nat)} {p pos pos' : Pos} {g : TG} {mi : Mn (List MP.D × Hd)} {t : Tgt} {tt : Mn Bool} {te : Mn RV} (hu : X.A.units + 80 < cLine) (hgl : Gl X x) (hm : X.mg x = none) (hv : bootBuiltins x = some (.builtin "sorted")) (hc : X.calm = true) (hN : X.N.Nodup) (hi : PI X tg iter (TMi X.K cn W mi)) (ok : BlkOk X.N X.env.scope scope own)
    (hg : ∀ (s : Shared) (H : Hp) (C : Addr) (cl : List (Str × Addr)) (fp : List Addr), PG (X.blk s H scope (compEnvC scope cl C X.env) fp) tg g) (ht : ∀ (s : Shared) (H : Hp) (C : Addr) (cl : List (Str × Addr)) (fp : List Addr), PTs (X.blk s H scope (compEnvC scope cl C X.env) fp) ifs (TMt X.K cn WF tt))
    (he : ∀ (s : Shared) (H : Hp) (C : Addr) (cl : List (Str × Addr)) (fp : List Addr), PE (X.blk s H scope (compEnvC scope cl C X.env) fp) elt (TM X.K cn WF te)) (hk : GOk X.K cn WF g t) (hin : GIn (own.map (·.2)) g) (hn : x ≠ "__name__" := by decide) (hdb : (x == ("__debug__" : Str)) = false := by decide) (hs : ∀ x, foldedSetIterable iter X.env x = pure x := by intro _; rfl) :
    PE X (.Call (.Name x p) [.SetComp elt [⟨tg, iter, ifs, 0⟩] scope pos'] [] pos) (TM X.K cn W (mSortSC (own.map (·.2)) mi t tt te)) :=
  PE.imp (pe_callB (cr_sortTx hc hu) hgl hm hv (pa_cons (pe_scT hc hN hi ok hg ht he hs) pa_nil) hn hdb) fun σ H Q q => tm_sortSC (w := X.w) hk hin σ H Q q
end
end MP

set_option Elab.async false
set_option linter.all false
set_option maxRecDepth 100000
set_option maxHeartbeats 4000000
/-! MP54: enumerate of a tuple, no start; C() with defaults alone. -/
namespace MP
open PySem PySem.Spec PyProof.Rows L2
open Evl (Ex)
theorem meets_enum1 {v : Value} {o : Obj} {H : Heap → Prop} (B : Begins v o H) :
    Meets (Builtin.«enumerate.__new__» ⟨[.type "enumerate", v], []⟩) (fun _ R s => H s.heap ∧
      R (.ok (.ret (.ref (s.heap.push o).objs.size))) { s with heap := (s.heap.push o).push { cls := .type "enumerate", data := .fields #[.none, .bool false, .ref s.heap.objs.size, rawInt 0, .none, .none] } }) :=
  .of_wp fun prog w A R s h => by
    obtain ⟨hp, g, d, tk, os⟩ := s; obtain ⟨h1, h⟩ := h
    have hsub := sub_enumerate
    have q1 : ∀ {A' : Around} {E : Value → Shared → Prop} {Q : Value → Shared → Prop}, Q (.ref hp.objs.size) ⟨hp.push o, g, d, tk, os⟩ → wpAny (model prog w) A' (pyIter v) Q E ⟨hp, g, d, tk, os⟩ :=
      fun q => B.iter prog w _ _ ⟨hp, g, d, tk, os⟩ _ h1 q
    wp_walk using q1
    refine wpAny_stack_any fun st => wpAny_pure ?_
    split
    · rename_i c _ _ _ _ _
      cases (c == Value.type "enumerate")
      · wp_walk using q1
        exact ⟨_, rfl, h⟩
      · wp_walk using q1
        exact ⟨_, rfl, h⟩
    · wp_walk using q1
      exact ⟨_, rfl, h⟩
section
variable {prog : Program} {w : World} {A : Around} {E : Value → Shared → Prop} {s : Shared}
theorem enum_begins1 {v : Value} {o : Obj} {H : Heap → Prop} {Q : Value → Shared → Prop} (B : Begins v o H) (h1 : H s.heap)
    (h : ∀ h', IsEnum h' (s.heap.objs.size + 1) s.heap.objs.size 0 .none → h'.get? s.heap.objs.size = some o → h'.objs.size = s.heap.objs.size + 2 →
      (∀ b o, s.heap.get? b = some o → h'.get? b = some o) → Q (.ref (s.heap.objs.size + 1)) { s with heap := h' }) :
    wpAny (model prog w) A (call (.type "enumerate") [v]) Q E s := by
  refine callType_new F.called_enumerate (by decide) (F.typeCall_enumerate_1 _) (F.newCall_enumerate_1 _) (fun obj => F.args_object_init_2 obj _) F.entry_enumerate_new (meets_enum1 B) ⟨h1, ?_⟩
  have hz : (s.heap.push o).objs.size = s.heap.objs.size + 1 := Heap.size_push ..
  show _ ∧ _
  rw [hz]
  have he : IsEnum ((s.heap.push o).push { cls := .type "enumerate", data := .fields #[.none, .bool false, .ref s.heap.objs.size, rawInt 0, .none, .none] }) (s.heap.objs.size + 1) s.heap.objs.size 0 .none := by
    have := Heap.get?_push_size (s.heap.push o) (o := { cls := .type "enumerate", data := .fields #[.none, .bool false, .ref s.heap.objs.size, rawInt 0, .none, .none] }) rfl
    rw [hz] at this; exact this
  exact ⟨⟨_, he, rfl⟩, h _ he (Heap.get?_push_of_some _ (Heap.get?_push_size _ B.free)) (by rw [Heap.size_push, hz]) fun b o x => Heap.get?_push_of_some _ (Heap.get?_push_of_some _ x)⟩
end
section
variable {X : Cx} {K : PySem.W.Frag} {cn : String → Addr} {W : WX}
def iEnum1 (K : PySem.W.Frag) (ta : TA) : TI := fun σ H T => ta σ H fun vs H1 => ∃ a xs, vs = [V.ref a] ∧ ((SqL K H1 a xs ∧ T (ItE (SqL K) 0 a) H1) ∨ (SqT K H1 a xs ∧ T (ItE (SqT K) 0 a) H1))
theorem pi_enum1 {e : Expr} {ta : TA} {p pos tpos : Pos} {elts : List Expr} {kk : Nat} (hg : Gl X "enumerate") (hm : X.mg "enumerate" = none) (ha : PA X [e] ta) (hs : starEach [e] X.env = [(false, eval e X.env)] := by rfl) :
    PI X (.Tuple elts kk tpos) (.Call (.Name "enumerate" p) [e] [] pos) (iEnum1 X.K ta) := by
  refine ⟨fun pins s σ H T I h => ?_⟩
  refine Call_ (ld_blt I hg hm boot_enumerate (PyProof.Rows.callWith_type1 (thn (ha.run pos pins s σ H _ I h) fun us s2 ⟨vs, H2, I2, r1, q2⟩ => ?_) hs rfl))
  obtain ⟨a, xs, rfl, q⟩ := q2
  cases r1 with
  | cons r rr =>
    cases rr
    cases r
    have fin : ∀ {sq : Hp → Addr → List V → Prop} {tn : Nat → Heap → Prop} {h' : Heap}, Turn X.prog X.w X.K (.Tuple elts kk tpos) (ItE sq 0 a) [s2.heap.objs.size + 1, s2.heap.objs.size] (s2.heap.objs.size + 1) tn → tn 0 h' → IsEnum h' (s2.heap.objs.size + 1) s2.heap.objs.size 0 .none → (∀ b o, s2.heap.get? b = some o → h'.get? b = some o) → T (ItE sq 0 a) H2 →
        wpAny (model X.prog X.w) X.A (pyIter (.ref (s2.heap.objs.size + 1))) (PIE X pins σ (.Tuple elts kk tpos) T) X.xe { s2 with heap := h' } := fun {sq tn h'} tu h0 he hkp ht => by
      refine wpAny_pyIter_enum he ⟨s2.heap.objs.size + 1, [s2.heap.objs.size + 1, s2.heap.objs.size], _, _, H2, rfl, I2.kept (t' := s2.toks) hkp, tu, h0, fun b hb => ?_, ht⟩
      have hle : s2.heap.objs.size ≤ b := by
        have e' : b = s2.heap.objs.size + 1 ∨ b = s2.heap.objs.size := by simpa using hb
        rcases e' with z | z <;> rw [z]
        · exact Nat.le_add_right _ _
        · exact Nat.le_refl _
      exact I2.fpOk hle (I2.hok.fresh hle)
    rcases q with ⟨hq, q⟩ | ⟨hq, q⟩
    · obtain ⟨its, rv, p', hz⟩ := I2.list hq
      exact enum_begins1 (begins_list a its.toArray) p'.isList fun h' he ho hsz hkp => fin (turn_enumL 0 a _ _) ⟨⟨.none, by simpa using he⟩, ⟨_, ho, rfl, rfl⟩, Nat.succ_ne_self _⟩ he hkp q
    · obtain ⟨its, rv, p', hz⟩ := I2.tuple hq
      exact enum_begins1 (begins_tuple a its.toArray) p' fun h' he ho hsz hkp => fin (turn_enumT 0 a _ _) ⟨⟨.none, by simpa using he⟩, ⟨_, ho, rfl, rfl⟩, Nat.succ_ne_self _⟩ he hkp q
/-- enumerate of a list or a tuple -/
theorem mi_enum1 {e : Expr} {m : Mn RV} {p pos tpos : Pos} {elts : List Expr} {kk : Nat} (hg : Gl X "enumerate") (hm : X.mg "enumerate" = none) (he : PE X e (TM X.K cn W m)) (hs : starEach [e] X.env = [(false, eval e X.env)] := by rfl) :
    PI X (.Tuple elts kk tpos) (.Call (.Name "enumerate" p) [e] [] pos) (TMi X.K cn W (mEnum true 0 (mCons m mNil))) :=
  PI.imp (pi_enum1 hg hm (ma_cons he ma_nil (by rw [hs]; rfl)) hs) fun σ H T q => TMa.len1 (enum_core q) fun v H1 z => by
    obtain ⟨a, xs, e1, z⟩ := z
    refine ⟨a, xs, e1, ?_⟩
    rcases z with ⟨z1, z2, _⟩ | ⟨_, z1, z2⟩
    · exact .inl ⟨z1, z2⟩
    · exact .inr ⟨z1, z2⟩
/-- C(), all by defaults -/
theorem pe_make0S {k : Nat} {f C : Addr} {fd : FuncData} {ps : List Str} {ds : List Value} {dvs : List V} {sp : Sp} {CX : CXT} {E : L2.St → XK} {x : Str} {p pos : Pos} (M : Mk X.K C f) (F : FnOk X.prog X.w X.K X.mg X.base CX k f fd ps sp) (hr : Room (k + 1) X.A) (hg : Gl X x) (hm : X.mg x = some (.ref C)) (hb : Binds X.K fd ps ds) (hd : Vals dvs ds) (hx : ∀ σ, PassesAt CX X σ (E σ))
    (hdb : (x == ("__debug__" : Str)) = false := by decide) : PE X (.Call (.Name x p) [] [] pos) (tMakeS C sp dvs E tNil) := by
  refine ⟨fun pins s σ H Q I h => ?_⟩
  refine wpAny_Call_Name_kw (ld_glob I hg hm ?_ hdb)
  exact PySem.W.callWith_K0 I.kIn M.kp (run_makeD (us := []) M F hr hb hd (hx σ) I .nil h)
theorem me_make0 {k n : Nat} {f : Addr} {fd : FuncData} {ps : List Str} {φ : Fn} {C : String} {x : Str} {p pos : Pos} {ds : List Value} {dvs : List V} {dd : List MP.D} (M : Mk X.K (cn C) f) (F : FnOk X.prog X.w X.K X.mg X.base (L2.CX X.prog X.w) k f fd ps (spI X.K cn C φ n)) (tk : Takes X W) (hr : Room (k + 1) X.A) (hg : Gl X x) (hm : X.mg x = some (.ref (cn C))) (hb : Binds X.K fd ps ds) (hd : Vals dvs ds) (hc : Cld X.K cn dd dvs)
    (hdb : (x == ("__debug__" : Str)) = false := by decide) :
    PE X (.Call (.Name x p) [] [] pos) (TM X.K cn W (mOp (mkF φ n dd) mNil)) :=
  PE.imp (pe_make0S (E := WE W) M F hr hg hm hb hd (fun σ => passAt tk σ) hdb) fun σ H Q q => tma_nil (K := X.K) (cn := cn) (W := W) σ H _ (tm_opS (mkF_ok hc) σ H Q q)
end
end MP

set_option Elab.async false
set_option linter.all false
set_option maxRecDepth 100000
set_option maxHeartbeats 4000000
/-! MP55: len of an instance with its own __len__. -/
namespace MP
open PySem PySem.Spec PyProof.Rows L2
open Evl (Ex)
def lenEx : CRes → CRes
  | .ok (.d (.int n)) st => if 0 ≤ n ∧ n < 2 ^ 62 then .ok (.d (.int n)) st else .no
  | _ => .no
section
variable {K : PySem.W.Frag} {cn : String → Addr} {W : WX} {X : Cx} {pins : List (Addr × Obj)} {σ : L2.St} {H : Hp} {s : Shared} {k : Nat} {f : Addr} {fd : FuncData} {ps : List Str} {φ : Fn} {C : String} {Q : VK}
theorem sp_len {n : Nat} {vs : List V} {E E' : XK} (h : spM K cn (fun ds st => lenEx (φ ds st)) n vs H Q E) : spM K cn φ n vs H (fun v H' => ∃ c : Int, (0 ≤ c ∧ c < 2 ^ 62) ∧ v = .int c ∧ Q (.int c) H') E' := by
  obtain ⟨hl, G, ρ, st, dl, k1, k2, k3⟩ := h
  refine ⟨hl, G, ρ, st, dl, k1, k2, ?_⟩
  dsimp only at k3
  cases e : φ dl st with
  | no => rw [e] at k3; exact k3
  | exc C xs st' => rw [e] at k3; exact k3.elim
  | ok r st' =>
    rw [e] at k3
    cases r with
    | f b => exact k3.elim
    | sl i => exact k3.elim
    | d x =>
      cases x with
      | int c =>
        unfold lenEx at k3
        dsimp only at k3
        by_cases z : 0 ≤ c ∧ c < 2 ^ 62
        · rw [if_pos z] at k3
          intro G1 H1 ρ1 v hR hv hS
          cases (show Rep K cn G1 ρ1 (.int c) v from hv)
          exact ⟨c, z, rfl, k3 G1 H1 ρ1 _ hR .int hS⟩
        · rw [if_neg z] at k3; exact k3.elim
      | _ => exact k3.elim
def rOLen (K : PySem.W.Frag) (cn : String → Addr) (C : String) (φ : Fn) : List V → Hp → VK → Prop := fun vs H Q => ∃ a dx fs, vs = [.ref a] ∧ H a = some (.ins (cn C) dx fs) ∧ spM K cn φ 1 [.ref a] H (fun v H' => ∃ c : Int, (0 ≤ c ∧ c < 2 ^ 62) ∧ v = .int c ∧ Q (.int c) H') (fun _ _ _ => False)
theorem olen_ok : OpOk K cn W (rOLen K cn C φ) (mGuard (gObj C) (callF (fun ds st => lenEx (φ ds st)) 1)) := by
  intro Z rs vs Q hR hv hq
  unfold mGuard at hq
  cases e : views Z.sl Z.st rs with
  | none => rw [e] at hq; exact hq.elim
  | some xs =>
    rw [e] at hq
    dsimp only at hq
    by_cases c : gObj C xs = true
    · rw [if_pos c] at hq
      have h := callF_ok (W := W) Z rs vs Q hR hv hq
      have hh := views_ok hR hv e
      unfold gObj at c
      split at c
      · obtain ⟨v, rfl, ⟨p, dx, us, rfl, h1, _⟩⟩ := hh.one
        rw [of_decide_eq_true c] at h1
        exact ⟨p, dx, us, rfl, h1, sp_len h⟩
      · cases c
    · rw [if_neg c] at hq; exact hq.elim
theorem cr_olen (F : FnOk X.prog X.w X.K X.mg X.base (L2.CX X.prog X.w) k f fd ps (spM X.K cn φ 1)) (hr : Room (k + 1) X.A) (hb : Binds X.K fd ps []) (hs : PySem.W.findIn X.K (.ref (cn C)) "__len__" = some (some (.ref f))) (hf : PySem.W.isFn X.K (.ref f) = true) : CallR X (.builtin "len") (rOLen X.K cn C φ) := by
  intro pins s σ H xs us Q I r h
  obtain ⟨a, dx, fs, rfl, ea, h⟩ := h
  obtain ⟨u, rfl, ru⟩ := r.one
  obtain rfl : u = Value.ref a := ru
  obtain ⟨m, hF⟩ := I.fr
  obtain ⟨ox, od, J⟩ := inst_at I ea
  refine PySem.W.len_K hF I.ok.mod.kin J hs hf (wpAny_mono (run_in1 (us := [.ref a]) (vs := [.ref a]) F hr hb noX I (.cons rfl .nil) h) (fun v s' q => ?_) fun _ _ z => z)
  obtain ⟨x, H', I', r, c, ⟨c0, c1⟩, rfl, q⟩ := q
  obtain ⟨t, rfl⟩ := (show ∃ t, v = Value.int c t from r)
  exact ⟨⟨c0, by omega⟩, .int c, H', I'.tok _, ⟨_, rfl⟩, q⟩
end
end MP

set_option Elab.async false
set_option linter.all false
set_option maxRecDepth 100000
set_option maxHeartbeats 4000000
/-! EV: the machine's mirrors run by simp: each form, applied to slots and store. -/
namespace MP
open PySem PySem.Spec PyProof.Rows L2
def Res.bind {α β : Type} (q : Res α) (k : α → Mn β) : Res β := match q with
  | .ok a sl st => k a sl st
  | .exc C xs sl st => .exc C xs sl st
  | .no => .no
section
variable {α β : Type}
theorem ev_bindC {q q' : Res α} {k : α → Mn β} (h : q = q') : Res.bind q k = Res.bind q' k := by rw [h]
@[simp] theorem ev_bok (a : α) (sl : Sls) (st : Sto) (k : α → Mn β) : Res.bind (.ok a sl st) k = k a sl st := rfl
@[simp] theorem ev_bexc (C : String) (xs : List (Str × D)) (sl : Sls) (st : Sto) (k : α → Mn β) : Res.bind (.exc C xs sl st) k = .exc C xs sl st := rfl
@[simp] theorem ev_bno (k : α → Mn β) : Res.bind .no k = .no := rfl
@[simp] theorem ev_bnd (m : Mn α) (k : α → Mn β) (sl : Sls) (st : Sto) : bnd m k sl st = Res.bind (m sl st) k := rfl
@[simp] theorem ev_unit (a : α) (sl : Sls) (st : Sto) : unit a sl st = .ok a sl st := rfl
@[simp] theorem ev_non (sl : Sls) (st : Sto) : (non : Mn α) sl st = .no := rfl
@[simp] theorem ev_mNo (sl : Sls) (st : Sto) : (mNo : Mn α) sl st = .no := rfl
end
/-! slots -/
def slRV (i : Nat) (sl : Sls) (st : Sto) : Option Sl → Res RV
  | some (.d x) => .ok (.d x) sl st
  | some (.o _) => .ok (.sl i) sl st
  | some (.lk _) => .ok (.sl i) sl st
  | _ => .no
@[simp] theorem ev_slRVd (i : Nat) (sl : Sls) (st : Sto) (x : D) : slRV i sl st (some (.d x)) = .ok (.d x) sl st := rfl
@[simp] theorem ev_slRVo (i : Nat) (sl : Sls) (st : Sto) (x : Ob) : slRV i sl st (some (.o x)) = .ok (.sl i) sl st := rfl
@[simp] theorem ev_slRVl (i : Nat) (sl : Sls) (st : Sto) (x : Ob) : slRV i sl st (some (.lk x)) = .ok (.sl i) sl st := rfl
@[simp] theorem ev_mVar (i : Nat) (sl : Sls) (st : Sto) : mVar i sl st = slRV i sl st (sl[i]?) := rfl
@[simp] theorem ev_mC (x : D) (sl : Sls) (st : Sto) : mC x sl st = .ok (.d x) sl st := rfl
@[simp] theorem ev_mNil (sl : Sls) (st : Sto) : mNil sl st = .ok [] sl st := rfl
def consK1 (b : Mn (List RV)) (r : RV) : Mn (List RV) := bnd b fun rs => unit (r :: rs)
def consK2 (r : RV) (rs : List RV) : Mn (List RV) := unit (r :: rs)
@[simp] theorem ev_mCons (a : Mn RV) (b : Mn (List RV)) (sl : Sls) (st : Sto) : mCons a b sl st = Res.bind (a sl st) (consK1 b) := rfl
@[simp] theorem ev_consK1 (b : Mn (List RV)) (r : RV) (sl : Sls) (st : Sto) : consK1 b r sl st = Res.bind (b sl st) (consK2 r) := rfl
@[simp] theorem ev_consK2 (r : RV) (rs : List RV) (sl : Sls) (st : Sto) : consK2 r rs sl st = .ok (r :: rs) sl st := rfl
@[simp] theorem ev_mOp (f : List RV → Mn RV) (a : Mn (List RV)) (sl : Sls) (st : Sto) : mOp f a sl st = Res.bind (a sl st) f := rfl
/-! what is seen -/
@[simp] theorem ev_toDl (xs : List D) : (Ob.lst xs).toD = .lst xs := rfl
@[simp] theorem ev_toDd (xs : List (Key × D)) : (Ob.dct xs).toD = .dct xs := rfl
@[simp] theorem ev_toDi (C : String) (xs : List (Str × D)) : (Ob.ins C xs).toD = .obj C xs := rfl
def clD : Option Cl → Option D
  | some c => some c.ob.toD
  | none => none
@[simp] theorem ev_clDc (b : Ob) : clD (some (.c b)) = some b.toD := rfl
@[simp] theorem ev_clDl (b : Ob) : clD (some (.lk b)) = some b.toD := rfl
section
variable (st : Sto)
@[simp] theorem ev_drC (i : Nat) : deref st (.cell i) = clD (st[i]?) := rfl
@[simp] theorem ev_dr1 : deref st .non = some .non := rfl
@[simp] theorem ev_dr2 (b : Bool) : deref st (.bl b) = some (.bl b) := rfl
@[simp] theorem ev_dr3 (b : Int) : deref st (.int b) = some (.int b) := rfl
@[simp] theorem ev_dr4 (b : Str) : deref st (.str b) = some (.str b) := rfl
@[simp] theorem ev_dr5 (b : String) : deref st (.ty b) = some (.ty b) := rfl
@[simp] theorem ev_dr6 (b : String) : deref st (.gl b) = some (.gl b) := rfl
@[simp] theorem ev_dr7 (b : List D) : deref st (.tup b) = some (.tup b) := rfl
@[simp] theorem ev_dr8 (b : List D) : deref st (.lst b) = some (.lst b) := rfl
@[simp] theorem ev_dr9 (b : List (Key × D)) : deref st (.dct b) = some (.dct b) := rfl
@[simp] theorem ev_drA (C : String) (b : List (Str × D)) : deref st (.obj C b) = some (.obj C b) := rfl
@[simp] theorem ev_drB (a b : Addr) (xs : List (Str × D)) : deref st (.exn a b xs) = some (.exn a b xs) := rfl
def slD : Option Sl → Option D
  | some (.o b) => some b.toD
  | some (.lk b) => some b.toD
  | some (.d x) => deref st x
  | _ => none
@[simp] theorem ev_slDo (b : Ob) : slD st (some (.o b)) = some b.toD := rfl
@[simp] theorem ev_slDl (b : Ob) : slD st (some (.lk b)) = some b.toD := rfl
@[simp] theorem ev_slDd (b : D) : slD st (some (.d b)) = deref st b := rfl
variable (sl : Sls)
@[simp] theorem ev_vd (x : D) : view sl st (.d x) = deref st x := rfl
@[simp] theorem ev_vf (x : Ob) : view sl st (.f x) = some x.toD := rfl
@[simp] theorem ev_vs (i : Nat) : view sl st (.sl i) = slD st (sl[i]?) := rfl
def conO : Option D → Option (List D) → Option (List D)
  | some x, some xs => some (x :: xs)
  | _, _ => none
@[simp] theorem ev_conO (x : D) (xs : List D) : conO (some x) (some xs) = some (x :: xs) := rfl
@[simp] theorem ev_vn : views sl st [] = some [] := rfl
@[simp] theorem ev_vc (r : RV) (rs : List RV) : views sl st (r :: rs) = conO (view sl st r) (views sl st rs) := rfl
def prR : PR → Res RV
  | .d x => .ok (.d x) sl st
  | .f b => .ok (.f b) sl st
  | .t ys => .ok (.d (.tup ys)) sl st
  | .no => .no
@[simp] theorem ev_prd (x : D) : prR st sl (.d x) = .ok (.d x) sl st := rfl
@[simp] theorem ev_prf (x : Ob) : prR st sl (.f x) = .ok (.f x) sl st := rfl
@[simp] theorem ev_prt (x : List D) : prR st sl (.t x) = .ok (.d (.tup x)) sl st := rfl
@[simp] theorem ev_prn : prR st sl .no = .no := rfl
def seen {α : Type} (k : List D → Res α) : Option (List D) → Res α
  | some xs => k xs
  | none => .no
@[simp] theorem ev_seen {α : Type} (k : List D → Res α) (xs : List D) : seen k (some xs) = k xs := rfl
theorem ev_seenC {α : Type} {k : List D → Res α} {o o' : Option (List D)} (h : o = o') : seen k o = seen k o' := by rw [h]
def see1 {α : Type} (k : D → Res α) : Option D → Res α
  | some xs => k xs
  | none => .no
@[simp] theorem ev_see1 {α : Type} (k : D → Res α) (xs : D) : see1 k (some xs) = k xs := rfl
theorem ev_see1C {α : Type} {k : D → Res α} {o o' : Option D} (h : o = o') : see1 k o = see1 k o' := by rw [h]
@[simp] theorem ev_mPure (g : List D → PR) (rs : List RV) : mPure g rs sl st = seen (fun xs => prR st sl (g xs)) (views sl st rs) := by
  unfold mPure seen prR
  cases views sl st rs with
  | none => rfl
  | some xs => cases h : g xs <;> simp only [h]
end
/-! tests -/
section
variable (sl : Sls) (st : Sto)
def okB : Option Bool → Res Bool
  | some b => .ok b sl st
  | none => .no
@[simp] theorem ev_okB (b : Bool) : okB sl st (some b) = .ok b sl st := rfl
def truK (r : RV) : Mn Bool := fun sl st => see1 (fun x => okB sl st (truth x)) (view sl st r)
@[simp] theorem ev_truK (r : RV) : truK r sl st = see1 (fun x => okB sl st (truth x)) (view sl st r) := rfl
@[simp] theorem ev_mTru (m : Mn RV) : mTru m sl st = Res.bind (m sl st) truK := by
  unfold mTru bnd Res.bind
  cases m sl st with
  | no => rfl
  | exc => rfl
  | ok r sl' st' =>
    dsimp only
    unfold truK see1
    cases view sl' st' r with
    | none => rfl
    | some x => dsimp only; unfold okB; cases truth x <;> rfl
@[simp] theorem ev_tr1 : truth .non = some false := rfl
@[simp] theorem ev_tr2 (b : Bool) : truth (.bl b) = some b := rfl
@[simp] theorem ev_tr3 (i : Int) : truth (.int i) = some (i != 0) := rfl
@[simp] theorem ev_tr4 (xs : List D) : truth (.lst xs) = some (!xs.isEmpty) := rfl
@[simp] theorem ev_tr5 (xs : List D) : truth (.tup xs) = some (!xs.isEmpty) := rfl
@[simp] theorem ev_tr6 (xs : List (Key × D)) : truth (.dct xs) = some (!xs.isEmpty) := rfl
def tbK : RV → Mn Bool
  | .d (.bl b) => unit b
  | _ => non
@[simp] theorem ev_tbK (b : Bool) : tbK (.d (.bl b)) sl st = .ok b sl st := rfl
@[simp] theorem ev_mTB (m : Mn RV) : mTB m sl st = Res.bind (m sl st) tbK := by
  unfold mTB bnd Res.bind
  cases m sl st with
  | no => rfl
  | exc => rfl
  | ok r sl' st' => cases r with
    | d x => cases x <;> rfl
    | _ => rfl
def andK (b : Mn Bool) : Bool → Mn Bool := fun c => if c = true then b else unit false
def orK (b : Mn Bool) : Bool → Mn Bool := fun c => if c = true then unit true else b
def notK : Bool → Mn Bool := fun c => unit (!c)
@[simp] theorem ev_mAnd (a b : Mn Bool) : mAnd a b sl st = Res.bind (a sl st) (andK b) := rfl
@[simp] theorem ev_mOr (a b : Mn Bool) : mOr a b sl st = Res.bind (a sl st) (orK b) := rfl
@[simp] theorem ev_mNot (a : Mn Bool) : mNot a sl st = Res.bind (a sl st) notK := rfl
@[simp] theorem ev_andT (b : Mn Bool) : andK b true sl st = b sl st := rfl
@[simp] theorem ev_andF (b : Mn Bool) : andK b false sl st = .ok false sl st := rfl
@[simp] theorem ev_orT (b : Mn Bool) : orK b true sl st = .ok true sl st := rfl
@[simp] theorem ev_orF (b : Mn Bool) : orK b false sl st = b sl st := rfl
@[simp] theorem ev_notK (c : Bool) : notK c sl st = .ok (!c) sl st := rfl
def ifK {α : Type} (a b : Mn α) : Bool → Mn α := fun c => if c = true then a else b
@[simp] theorem ev_ifT {α : Type} (a b : Mn α) : ifK a b true sl st = a sl st := rfl
@[simp] theorem ev_ifF {α : Type} (a b : Mn α) : ifK a b false sl st = b sl st := rfl
theorem ev_ifC {α : Type} {a b : Mn α} {c c' : Bool} {sl : Sls} {st : Sto} (h : c = c') : ifK a b c sl st = ifK a b c' sl st := by rw [h]
@[simp] theorem ev_mIfE (t : Mn Bool) (a b : Mn RV) : mIfE t a b sl st = Res.bind (t sl st) (ifK a b) := rfl
@[simp] theorem ev_mIf (t : Mn Bool) (a b : Mn Fl) : mIf t a b sl st = Res.bind (t sl st) (ifK a b) := rfl
@[simp] theorem ev_tif (t a b : Mn Bool) : bnd t (fun k => if k = true then a else b) sl st = Res.bind (t sl st) (ifK a b) := rfl
def bvK : Bool → Mn RV := fun c => unit (.d (.bl c))
@[simp] theorem ev_bvK (c : Bool) : bvK c sl st = .ok (.d (.bl c)) sl st := rfl
@[simp] theorem ev_mBv (t : Mn Bool) : mBv t sl st = Res.bind (t sl st) bvK := rfl
def andVK (b : Mn RV) : Bool → Mn RV := fun c => if c = true then b else unit (.d (.bl false))
def orVK (b : Mn RV) : Bool → Mn RV := fun c => if c = true then unit (.d (.bl true)) else b
def notVK : Bool → Mn RV := fun c => unit (.d (.bl (!c)))
@[simp] theorem ev_andVT (b : Mn RV) : andVK b true sl st = b sl st := rfl
@[simp] theorem ev_andVF (b : Mn RV) : andVK b false sl st = .ok (.d (.bl false)) sl st := rfl
@[simp] theorem ev_orVT (b : Mn RV) : orVK b true sl st = .ok (.d (.bl true)) sl st := rfl
@[simp] theorem ev_orVF (b : Mn RV) : orVK b false sl st = b sl st := rfl
@[simp] theorem ev_notVK (c : Bool) : notVK c sl st = .ok (.d (.bl (!c))) sl st := rfl
@[simp] theorem ev_mAndV (a b : Mn RV) : mAndV a b sl st = Res.bind (mTB a sl st) (andVK b) := rfl
@[simp] theorem ev_mOrV (a b : Mn RV) : mOrV a b sl st = Res.bind (mTB a sl st) (orVK b) := rfl
@[simp] theorem ev_mNotV (a : Mn RV) : mNotV a sl st = Res.bind (mTB a sl st) notVK := rfl
/-! statements -/
@[simp] theorem ev_pd (i : Nat) (x : D) : putIn i (.d x) sl st = .ok .nx (sl.set i (.d x)) st := rfl
@[simp] theorem ev_pf (i : Nat) (x : Ob) : putIn i (.f x) sl st = .ok .nx (sl.set i (.o x)) st := rfl
def putS (i j : Nat) : Option Sl → Res Fl
  | some (.o b) => .ok .nx ((sl.set j (.d b.toD)).set i (.d b.toD)) st
  | some (.d x) => .ok .nx (sl.set i (.d x)) st
  | _ => .no
@[simp] theorem ev_putSo (i j : Nat) (b : Ob) : putS sl st i j (some (.o b)) = .ok .nx ((sl.set j (.d b.toD)).set i (.d b.toD)) st := rfl
@[simp] theorem ev_putSd (i j : Nat) (b : D) : putS sl st i j (some (.d b)) = .ok .nx (sl.set i (.d b)) st := rfl
@[simp] theorem ev_ps (i j : Nat) : putIn i (.sl j) sl st = putS sl st i j (sl[j]?) := rfl
def asgK (i : Nat) (r : RV) : Option Sl → Res Fl
  | none => .no
  | some (.lk _) => .no
  | some _ => putIn i r sl st
@[simp] theorem ev_asgU (i : Nat) (r : RV) : asgK sl st i r (some .u) = putIn i r sl st := rfl
@[simp] theorem ev_asgD (i : Nat) (r : RV) (x : D) : asgK sl st i r (some (.d x)) = putIn i r sl st := rfl
@[simp] theorem ev_asgO (i : Nat) (r : RV) (x : Ob) : asgK sl st i r (some (.o x)) = putIn i r sl st := rfl
@[simp] theorem ev_assign (i : Nat) (r : RV) : assign i r sl st = asgK sl st i r (sl[i]?) := by
  unfold assign asgK
  cases sl[i]? with
  | none => rfl
  | some s => cases s <;> rfl
/-- not locked -/
def Sl.fr : Sl → Prop
  | .lk _ => False
  | _ => True
@[simp] theorem ev_fru : Sl.u.fr := trivial
@[simp] theorem ev_frd (x : D) : (Sl.d x).fr := trivial
@[simp] theorem ev_fro (x : Ob) : (Sl.o x).fr := trivial
@[simp] theorem ev_asgF (i : Nat) (r : RV) (s : Sl) (h : s.fr) : asgK sl st i r (some s) = putIn i r sl st := by
  cases s with
  | lk => exact h.elim
  | _ => rfl
@[simp] theorem ev_mSet (i : Nat) (m : Mn RV) : mSet i m sl st = Res.bind (m sl st) (assign i) := rfl
def retK (r : RV) : Mn Fl := unit (.rt r)
def doK (_ : RV) : Mn Fl := unit .nx
@[simp] theorem ev_retK (r : RV) : retK r sl st = .ok (.rt r) sl st := rfl
@[simp] theorem ev_doK (r : RV) : doK r sl st = .ok .nx sl st := rfl
@[simp] theorem ev_mRet (m : Mn RV) : mRet m sl st = Res.bind (m sl st) retK := rfl
@[simp] theorem ev_mDo (m : Mn RV) : mDo m sl st = Res.bind (m sl st) doK := rfl
def seqK (b : Mn Fl) : Fl → Mn Fl
  | .nx => b
  | f => unit f
@[simp] theorem ev_seqN (b : Mn Fl) : seqK b .nx sl st = b sl st := rfl
@[simp] theorem ev_seqB (b : Mn Fl) : seqK b .bk sl st = .ok .bk sl st := rfl
@[simp] theorem ev_seqC (b : Mn Fl) : seqK b .ct sl st = .ok .ct sl st := rfl
@[simp] theorem ev_seqR (b : Mn Fl) (r : RV) : seqK b (.rt r) sl st = .ok (.rt r) sl st := rfl
@[simp] theorem ev_mSeq (a b : Mn Fl) : mSeq a b sl st = Res.bind (a sl st) (seqK b) := by
  unfold mSeq bnd Res.bind
  cases a sl st with
  | no => rfl
  | exc => rfl
  | ok f sl' st' => cases f <;> rfl
@[simp] theorem ev_mSkip : mSkip sl st = .ok .nx sl st := rfl
@[simp] theorem ev_mBrk : mBrk sl st = .ok .bk sl st := rfl
@[simp] theorem ev_mCnt : mCnt sl st = .ok .ct sl st := rfl
/-! out of hand -/
@[simp] theorem ev_ed (x : D) : esc (.d x) sl st = .ok x sl st := rfl
@[simp] theorem ev_ef (x : Ob) : esc (.f x) sl st = .ok x.toD sl st := rfl
def escS (j : Nat) : Option Sl → Res D
  | some (.o b) => .ok b.toD (sl.set j (.d b.toD)) st
  | some (.d x) => .ok x sl st
  | _ => .no
@[simp] theorem ev_esO (j : Nat) (b : Ob) : escS sl st j (some (.o b)) = .ok b.toD (sl.set j (.d b.toD)) st := rfl
@[simp] theorem ev_esD (j : Nat) (b : D) : escS sl st j (some (.d b)) = .ok b sl st := rfl
@[simp] theorem ev_es (j : Nat) : esc (.sl j) sl st = escS sl st j (sl[j]?) := rfl
def escK1 (rs : List RV) (x : D) : Mn (List D) := bnd (escs rs) fun xs => unit (x :: xs)
def escK2 (x : D) (xs : List D) : Mn (List D) := unit (x :: xs)
@[simp] theorem ev_escn : escs [] sl st = .ok [] sl st := rfl
@[simp] theorem ev_escc (r : RV) (rs : List RV) : escs (r :: rs) sl st = Res.bind (esc r sl st) (escK1 rs) := rfl
@[simp] theorem ev_escK1 (rs : List RV) (x : D) : escK1 rs x sl st = Res.bind (escs rs sl st) (escK2 x) := rfl
@[simp] theorem ev_escK2 (xs : List D) (x : D) : escK2 x xs sl st = .ok (x :: xs) sl st := rfl
@[simp] theorem ev_tcd (x : D) : toCell (.d x) sl st = .ok (.d x) sl st := rfl
@[simp] theorem ev_tcf (x : Ob) : toCell (.f x) sl st = .ok (.d (.cell st.length)) sl (st ++ [.c x]) := rfl
def tcS (j : Nat) : Option Sl → Res RV
  | some (.o b) => .ok (.d (.cell st.length)) (sl.set j (.d (.cell st.length))) (st ++ [.c b])
  | some (.d x) => .ok (.d x) sl st
  | _ => .no
@[simp] theorem ev_tcSo (j : Nat) (b : Ob) : tcS sl st j (some (.o b)) = .ok (.d (.cell st.length)) (sl.set j (.d (.cell st.length))) (st ++ [.c b]) := rfl
@[simp] theorem ev_tcSd (j : Nat) (b : D) : tcS sl st j (some (.d b)) = .ok (.d b) sl st := rfl
@[simp] theorem ev_tcs (j : Nat) : toCell (.sl j) sl st = tcS sl st j (sl[j]?) := rfl
@[simp] theorem ev_mCell (m : Mn RV) : mCell m sl st = Res.bind (m sl st) toCell := rfl
def dispK (xs : List D) : Mn RV := fun sl st => if xs.length ≤ 100000 then .ok (.f (.lst xs)) sl st else .no
def dispTK (xs : List D) : Mn RV := fun sl st => if xs.length ≤ 100000 then .ok (.d (.tup xs)) sl st else .no
@[simp] theorem ev_dispK (xs : List D) : dispK xs sl st = if xs.length ≤ 100000 then .ok (.f (.lst xs)) sl st else .no := rfl
@[simp] theorem ev_dispTK (xs : List D) : dispTK xs sl st = if xs.length ≤ 100000 then .ok (.d (.tup xs)) sl st else .no := rfl
@[simp] theorem ev_dispL (rs : List RV) : dispL rs sl st = Res.bind (escs rs sl st) dispK := rfl
@[simp] theorem ev_dispT (rs : List RV) : dispT rs sl st = Res.bind (escs rs sl st) dispTK := rfl
/-! calls -/
@[simp] theorem ev_ofd (x : D) : ofC sl (.ok (.d x) st) = .ok (.d x) sl st := rfl
@[simp] theorem ev_off (x : Ob) : ofC sl (.ok (.f x) st) = .ok (.f x) sl st := rfl
@[simp] theorem ev_ofe (C : String) (xs : List (Str × D)) : ofC sl (.exc C xs st) = .exc C xs sl st := rfl
@[simp] theorem ev_ofn : ofC sl .no = .no := rfl
def callK (φ : Fn) (n : Nat) (ds : List D) : Mn RV := fun sl st => if ds.length = n then ofC sl (φ ds st) else .no
@[simp] theorem ev_callK (φ : Fn) (n : Nat) (ds : List D) (h : ds.length = n) : callK φ n ds sl st = ofC sl (φ ds st) := if_pos h
@[simp] theorem ev_callF (φ : Fn) (n : Nat) (rs : List RV) : callF φ n rs sl st = Res.bind (escs rs sl st) (callK φ n) := rfl
def callDK (φ : Fn) (n : Nat) (dd ds : List D) : Mn RV := fun sl st => if (ds ++ dd).length = n then ofC sl (φ (ds ++ dd) st) else .no
@[simp] theorem ev_callDK (φ : Fn) (n : Nat) (dd ds : List D) (h : (ds ++ dd).length = n) : callDK φ n dd ds sl st = ofC sl (φ (ds ++ dd) st) := if_pos h
@[simp] theorem ev_callD (φ : Fn) (n : Nat) (dd : List D) (rs : List RV) : callD φ n dd rs sl st = Res.bind (escs rs sl st) (callDK φ n dd) := rfl
@[simp] theorem ev_onf (x : Ob) : ofN sl (.ok (.f x) st) = .ok (.f x) sl st := rfl
@[simp] theorem ev_one (C : String) (xs : List (Str × D)) : ofN sl (.exc C xs st) = .exc C xs sl st := rfl
def mkK (φ : Fn) (n : Nat) (dd ds : List D) : Mn RV := fun sl st => if (ds ++ dd).length + 1 = n then ofN sl (φ (ds ++ dd) st) else .no
@[simp] theorem ev_mkK (φ : Fn) (n : Nat) (dd ds : List D) (h : (ds ++ dd).length + 1 = n) : mkK φ n dd ds sl st = ofN sl (φ (ds ++ dd) st) := if_pos h
@[simp] theorem ev_mkF (φ : Fn) (n : Nat) (dd : List D) (rs : List RV) : mkF φ n dd rs sl st = Res.bind (escs rs sl st) (mkK φ n dd) := rfl
@[simp] theorem ev_nx1 (r : RV) : noEx (.ok r st) = .ok r st := rfl
@[simp] theorem ev_sx (c : Str) : strEx (.ok (.d (.str c)) st) = .ok (.d (.str c)) st := rfl
@[simp] theorem ev_ngx (c : Bool) : negEx (.ok (.d (.bl c)) st) = .ok (.d (.bl (!c))) st := rfl
def finB : Res Fl → CRes
  | .ok .nx _ st' => .ok (.d .non) st'
  | .ok (.rt (.d x)) _ st' => .ok (.d x) st'
  | .ok (.rt (.f b)) _ st' => .ok (.f b) st'
  | .ok (.rt (.sl i)) sl' st' => match sl'[i]? with
    | some (.o b) => .ok (.f b) st'
    | some (.d x) => .ok (.d x) st'
    | _ => .no
  | .exc C xs _ st' => .exc C xs st'
  | _ => .no
def finS : Option Sl → CRes
  | some (.o b) => .ok (.f b) st
  | some (.d x) => .ok (.d x) st
  | _ => .no
@[simp] theorem ev_finSo (b : Ob) : finS st (some (.o b)) = .ok (.f b) st := rfl
@[simp] theorem ev_finSd (b : D) : finS st (some (.d b)) = .ok (.d b) st := rfl
@[simp] theorem ev_fin1 : finB (.ok .nx sl st) = .ok (.d .non) st := rfl
@[simp] theorem ev_fin2 (x : D) : finB (.ok (.rt (.d x)) sl st) = .ok (.d x) st := rfl
@[simp] theorem ev_fin3 (x : Ob) : finB (.ok (.rt (.f x)) sl st) = .ok (.f x) st := rfl
@[simp] theorem ev_fin4 (i : Nat) : finB (.ok (.rt (.sl i)) sl st) = finS st (sl[i]?) := rfl
@[simp] theorem ev_fin5 (C : String) (xs : List (Str × D)) : finB (.exc C xs sl st) = .exc C xs st := rfl
def st0 (n : Nat) (ds : List D) : Sls := ds.map Sl.d ++ List.replicate (n - ds.length) Sl.u
@[simp] theorem ev_st0 (n : Nat) (ds : List D) : st0 n ds = ds.map Sl.d ++ List.replicate (n - ds.length) Sl.u := rfl
theorem ev_runB (m : Mn Fl) (n : Nat) (ds : List D) : runB m n ds st = finB (m (st0 n ds) st) := rfl
def finI : Res Fl → CRes
  | .ok .nx sl' st' => match sl'[0]? with
    | some (Sl.lk b) => CRes.ok (.f b) st'
    | _ => .no
  | .exc C xs _ st' => .exc C xs st'
  | _ => .no
def finIS : Option Sl → CRes
  | some (.lk b) => .ok (.f b) st
  | _ => .no
@[simp] theorem ev_finIS (b : Ob) : finIS st (some (.lk b)) = .ok (.f b) st := rfl
@[simp] theorem ev_finI1 : finI (.ok .nx sl st) = finIS st (sl[0]?) := rfl
@[simp] theorem ev_finI2 (C : String) (xs : List (Str × D)) : finI (.exc C xs sl st) = .exc C xs st := rfl
theorem ev_runI (C : String) (m : Mn Fl) (n : Nat) (ds : List D) : runI C m n ds st = finI (m (Sl.lk (.ins C []) :: (ds.map Sl.d ++ List.replicate (n - (ds.length + 1)) Sl.u)) st) := rfl
/-! targets -/
@[simp] theorem ev_tnm (i : Nat) (x : D) : mTgt (.nm i) x sl st = assign i (.d x) sl st := rfl
@[simp] theorem ev_tot (f : D → Mn Fl) (x : D) : mTgt (.ot f) x sl st = f x sl st := rfl
@[simp] theorem ev_ttp (ts : List Tgt) (xs : List D) (h : xs.length = ts.length) : mTgt (.tp ts) (.tup xs) sl st = mTgts ts xs sl st := congrFun (congrFun (if_pos h) sl) st
@[simp] theorem ev_tsn : mTgts [] [] sl st = .ok .nx sl st := rfl
@[simp] theorem ev_tsc (t : Tgt) (ts : List Tgt) (x : D) (xs : List D) : mTgts (t :: ts) (x :: xs) sl st = Res.bind (mTgt t x sl st) (seqK (mTgts ts xs)) := by
  rw [← ev_mSeq]; rfl
def asgE (t : Tgt) (r : RV) : Mn Fl := bnd (esc r) (mTgt t)
@[simp] theorem ev_asgE (t : Tgt) (r : RV) : asgE t r sl st = Res.bind (esc r sl st) (mTgt t) := rfl
@[simp] theorem ev_mAsg (m : Mn RV) (t : Tgt) : mAsg m t sl st = Res.bind (m sl st) (asgE t) := rfl
def stepK (t : Tgt) (b : Mn Fl) (xs : List D) : Fl → Mn Fl
  | .nx => forL t b xs
  | .ct => forL t b xs
  | .bk => unit .nx
  | .rt r => unit (.rt r)
@[simp] theorem ev_stepN (t : Tgt) (b : Mn Fl) (xs : List D) : stepK t b xs .nx sl st = forL t b xs sl st := rfl
@[simp] theorem ev_stepC (t : Tgt) (b : Mn Fl) (xs : List D) : stepK t b xs .ct sl st = forL t b xs sl st := rfl
@[simp] theorem ev_stepB (t : Tgt) (b : Mn Fl) (xs : List D) : stepK t b xs .bk sl st = .ok .nx sl st := rfl
@[simp] theorem ev_stepR (t : Tgt) (b : Mn Fl) (xs : List D) (r : RV) : stepK t b xs (.rt r) sl st = .ok (.rt r) sl st := rfl
def bodyK (t : Tgt) (b : Mn Fl) (xs : List D) : Mn Fl := bnd b (stepK t b xs)
@[simp] theorem ev_bodyK (t : Tgt) (b : Mn Fl) (xs : List D) : bodyK t b xs sl st = Res.bind (b sl st) (stepK t b xs) := rfl
@[simp] theorem ev_forn (t : Tgt) (b : Mn Fl) : forL t b [] sl st = .ok .nx sl st := rfl
theorem ev_forc (t : Tgt) (b : Mn Fl) (x : D) (xs : List D) : forL t b (x :: xs) sl st = Res.bind (mTgt t x sl st) (seqK (bodyK t b xs)) := by
  rw [← ev_mSeq]
  have h : forL t b (x :: xs) = mSeq (mTgt t x) (bodyK t b xs) := by
    show mSeq (mTgt t x) (bnd b _) = mSeq (mTgt t x) (bnd b (stepK t b xs))
    congr 2
    try (funext f; cases f <;> rfl)
  rw [h]
/-- a held walk -/
def unlR {α : Type} (h : Hd) (sl0 : Sls) (st0 : Sto) : Res α → Res α
  | .ok a sl' st' => .ok a (unlS h sl0 sl') (unlC h st0 st')
  | .exc C xs sl' st' => .exc C xs (unlS h sl0 sl') (unlC h st0 st')
  | .no => .no
def mHoldF (t : Tgt) (b : Mn Fl) (p : List D × Hd) : Mn Fl := mHold p.2 (forL t b p.1)
@[simp] theorem ev_mFor (m : Mn (List D × Hd)) (t : Tgt) (b : Mn Fl) : mFor m t b sl st = Res.bind (m sl st) (mHoldF t b) := rfl
@[simp] theorem ev_holdF (t : Tgt) (b : Mn Fl) (xs : List D) (h : Hd) : mHoldF t b (xs, h) sl st = unlR h sl st (forL t b xs (lockS h sl) (lockC h st)) := rfl
@[simp] theorem ev_hold0 (t : Tgt) (b : Mn Fl) (xs : List D) : mHoldF t b (xs, .none) sl st = forL t b xs sl st := by
  show unlR .none sl st (forL t b xs sl st) = _
  cases forL t b xs sl st <;> rfl
@[simp] theorem ev_unlO {α : Type} (h : Hd) (sl0 : Sls) (st0 : Sto) (a : α) : unlR h sl0 st0 (.ok a sl st) = .ok a (unlS h sl0 sl) (unlC h st0 st) := rfl
@[simp] theorem ev_mSrc (m : Mn RV) : mSrc m sl st = Res.bind (m sl st) srcOf := rfl
@[simp] theorem ev_src1 (xs : List D) : srcOf (.d (.lst xs)) sl st = .ok (xs, .none) sl st := rfl
@[simp] theorem ev_src2 (xs : List D) : srcOf (.d (.tup xs)) sl st = .ok (xs, .none) sl st := rfl
@[simp] theorem ev_src3 (xs : List D) : srcOf (.f (.lst xs)) sl st = .ok (xs, .none) sl st := rfl
def srcC (i : Nat) : Option Cl → Res (List D × Hd)
  | some (.c (.lst xs)) => .ok (xs, .ce i) sl st
  | some (.lk (.lst xs)) => .ok (xs, .none) sl st
  | _ => .no
@[simp] theorem ev_srcC1 (i : Nat) (xs : List D) : srcC sl st i (some (.c (.lst xs))) = .ok (xs, .ce i) sl st := rfl
@[simp] theorem ev_srcC2 (i : Nat) (xs : List D) : srcC sl st i (some (.lk (.lst xs))) = .ok (xs, .none) sl st := rfl
def srcSl (j : Nat) : Option Sl → Res (List D × Hd)
  | some (.o (.lst xs)) => .ok (xs, .sl j) sl st
  | some (.lk (.lst xs)) => .ok (xs, .none) sl st
  | _ => .no
@[simp] theorem ev_srcS1 (i : Nat) (xs : List D) : srcSl sl st i (some (.o (.lst xs))) = .ok (xs, .sl i) sl st := rfl
@[simp] theorem ev_srcS2 (i : Nat) (xs : List D) : srcSl sl st i (some (.lk (.lst xs))) = .ok (xs, .none) sl st := rfl
@[simp] theorem ev_src4 (i : Nat) : srcOf (.d (.cell i)) sl st = srcC sl st i (st[i]?) := by
  unfold srcOf srcC
  rfl
@[simp] theorem ev_src5 (i : Nat) : srcOf (.sl i) sl st = srcSl sl st i (sl[i]?) := by
  unfold srcOf srcSl
  rfl
@[simp] theorem ev_mRng (m : Mn (List RV)) : mRng m sl st = Res.bind (m sl st) rngOf := rfl
@[simp] theorem ev_rng1 (j : Int) (h : -(2 ^ 62) ≤ j ∧ j < 2 ^ 62) : rngOf [.d (.int j)] sl st = .ok (rngL 0 j.toNat, .none) sl st := if_pos h
@[simp] theorem ev_rng2 (i j : Int) (h : -(2 ^ 62) ≤ i ∧ i < 2 ^ 62 ∧ -(2 ^ 62) ≤ j ∧ j < 2 ^ 62) : rngOf [.d (.int i), .d (.int j)] sl st = .ok (rngL i (j - i).toNat, .none) sl st := if_pos h
@[simp] theorem ev_us0 (sl' : Sls) : unlS .none sl sl' = sl' := rfl
@[simp] theorem ev_uc0 (st' : Sto) : unlC .none st st' = st' := rfl
@[simp] theorem ev_ls0 : lockS .none sl = sl := rfl
@[simp] theorem ev_lc0 : lockC .none st = st := rfl
@[simp] theorem ev_lc1 (j : Nat) : lockC (.sl j) st = st := rfl
@[simp] theorem ev_ls1 (i : Nat) : lockS (.ce i) sl = sl := rfl
@[simp] theorem ev_us1 (i : Nat) (sl' : Sls) : unlS (.ce i) sl sl' = sl' := rfl
@[simp] theorem ev_uc1 (i : Nat) (st' : Sto) : unlC (.sl i) st st' = st' := rfl
/-! changes -/
def setLK (x : D) (r : RV) : Option Ob → Int → Res Fl
  | some (.lst xs), i => match ixN xs.length i with
    | some j => .ok .nx (setOb r (.lst (xs.set j x)) sl st).1 (setOb r (.lst (xs.set j x)) sl st).2
    | none => .no
  | _, _ => .no
def setXK (x : D) (r : RV) : D → Res Fl
  | .int i => setLK sl st x r (obOf sl st r) i
  | _ => .no
def setIK2 (x : D) (r q : RV) : Mn Fl := fun sl st => see1 (setXK sl st x r) (view sl st q)
def setIK (mi : Mn RV) (x : D) (r : RV) : Mn Fl := bnd mi (setIK2 x r)
@[simp] theorem ev_setIK (mi : Mn RV) (x : D) (r : RV) : setIK mi x r sl st = Res.bind (mi sl st) (setIK2 x r) := rfl
@[simp] theorem ev_setIK2 (x : D) (r q : RV) : setIK2 x r q sl st = see1 (setXK sl st x r) (view sl st q) := rfl
@[simp] theorem ev_setXK (x : D) (r : RV) (i : Int) : setXK sl st x r (.int i) = setLK sl st x r (obOf sl st r) i := rfl
def onIx (k : Nat → Res Fl) : Option Nat → Res Fl
  | some j => k j
  | none => .no
@[simp] theorem ev_onIx (k : Nat → Res Fl) (j : Nat) : onIx k (some j) = k j := rfl
@[simp] theorem ev_setLK' (x : D) (r : RV) (xs : List D) (i : Int) : setLK sl st x r (some (.lst xs)) i = onIx (fun j => .ok .nx (setOb r (.lst (xs.set j x)) sl st).1 (setOb r (.lst (xs.set j x)) sl st).2) (ixN xs.length i) := by
  show (match ixN xs.length i with | some j => _ | none => _) = _
  cases ixN xs.length i <;> rfl
@[simp] theorem ev_setIx (mo mi : Mn RV) (x : D) : setIx mo mi x sl st = Res.bind (mo sl st) (setIK mi x) := by
  unfold setIx bnd Res.bind
  cases mo sl st with
  | no => rfl
  | exc => rfl
  | ok r s1 t1 =>
    dsimp only
    unfold setIK bnd
    cases mi s1 t1 with
    | no => rfl
    | exc => rfl
    | ok q s2 t2 =>
      dsimp only
      unfold setIK2 see1
      cases view s2 t2 q with
      | none => rfl
      | some y => cases y with
        | int i =>
          show _ = setLK s2 t2 x r (obOf s2 t2 r) i
          cases obOf s2 t2 r with
          | none => rfl
          | some b => cases b <;> rfl
        | _ => rfl
def obS : Option Sl → Option Ob
  | some (.o b) => some b
  | _ => none
def obC : Option Cl → Option Ob
  | some (.c b) => some b
  | _ => none
@[simp] theorem ev_obS (b : Ob) : obS (some (.o b)) = some b := rfl
@[simp] theorem ev_obSl (b : Ob) : obS (some (.lk b)) = none := rfl
@[simp] theorem ev_obC (b : Ob) : obC (some (.c b)) = some b := rfl
@[simp] theorem ev_ob1 (i : Nat) : obOf sl st (.sl i) = obS (sl[i]?) := rfl
@[simp] theorem ev_ob2 (i : Nat) : obOf sl st (.d (.cell i)) = obC (st[i]?) := rfl
@[simp] theorem ev_so1 (i : Nat) (b : Ob) : setOb (.sl i) b sl st = (sl.set i (.o b), st) := rfl
@[simp] theorem ev_so2 (i : Nat) (b : Ob) : setOb (.d (.cell i)) b sl st = (sl, st.set i (.c b)) := rfl
def mutR (r : RV) : Option (Ob × D) → Res RV
  | some (b', x) => .ok (.d x) (setOb r b' sl st).1 (setOb r b' sl st).2
  | none => .no
@[simp] theorem ev_mutR (r : RV) (b : Ob) (x : D) : mutR sl st r (some (b, x)) = .ok (.d x) (setOb r b sl st).1 (setOb r b sl st).2 := rfl
def mutO (g : Ob → List D → Option (Ob × D)) (r : RV) (xs : List D) : Option Ob → Res RV
  | some b => mutR sl st r (g b xs)
  | none => .no
@[simp] theorem ev_mutO (g : Ob → List D → Option (Ob × D)) (r : RV) (xs : List D) (b : Ob) : mutO sl st g r xs (some b) = mutR sl st r (g b xs) := rfl
def mutK (g : Ob → List D → Option (Ob × D)) (r : RV) (xs : List D) : Mn RV := fun sl st => mutO sl st g r xs (obOf sl st r)
@[simp] theorem ev_mutK (g : Ob → List D → Option (Ob × D)) (r : RV) (xs : List D) : mutK g r xs sl st = mutO sl st g r xs (obOf sl st r) := rfl
@[simp] theorem ev_mMut (g : Ob → List D → Option (Ob × D)) (r : RV) (rs : List RV) : mMut g (r :: rs) sl st = Res.bind (escs rs sl st) (mutK g r) := by
  have h : mMut g (r :: rs) = bnd (escs rs) (mutK g r) := by
    show bnd (escs rs) _ = _
    congr 1
  rw [h]
  rfl
def tyK' (T : String) (r : RV) : D → Res RV := fun x => if tyD x = T then .ok r sl st else .no
def mtyK (T : String) (r : RV) : Mn RV := fun sl st => see1 (tyK' sl st T r) (view sl st r)
@[simp] theorem ev_mtyK (T : String) (r : RV) : mtyK T r sl st = see1 (tyK' sl st T r) (view sl st r) := rfl
@[simp] theorem ev_tyK (T : String) (r : RV) (x : D) (h : tyD x = T) : tyK' sl st T r x = .ok r sl st := if_pos h
@[simp] theorem ev_tyD1 (xs : List D) : tyD (.lst xs) = "list" := by simp [tyD]
@[simp] theorem ev_tyD2 (xs : List (Key × D)) : tyD (.dct xs) = "dict" := by simp [tyD]
@[simp] theorem ev_tyD3 (xs : Str) : tyD (.str xs) = "str" := by simp [tyD]
@[simp] theorem ev_mTy (T : String) (m : Mn RV) : mTy T m sl st = Res.bind (m sl st) (mtyK T) := by
  unfold mTy bnd Res.bind
  cases m sl st with
  | no => rfl
  | exc => rfl
  | ok r s t => dsimp only; unfold mtyK see1; cases view s t r <;> rfl
@[simp] theorem ev_gApp (xs : List D) (y : D) (h : xs.length < 1000000) : gAppend (.lst xs) [y] = some (.lst (xs ++ [y]), .non) := if_pos h
@[simp] theorem ev_gClr (xs : List D) : gClear (.lst xs) [] = some (.lst [], .non) := rfl
/-! several names -/
@[simp] theorem ev_nsd (x : D) : noSl (.d x) sl st = .ok (.d x) sl st := rfl
@[simp] theorem ev_nsf (x : Ob) : noSl (.f x) sl st = .ok (.f x) sl st := rfl
def nsK (x : D) : Mn RV := unit (.d x)
@[simp] theorem ev_nsK (x : D) : nsK x sl st = .ok (.d x) sl st := rfl
@[simp] theorem ev_nss (j : Nat) : noSl (.sl j) sl st = Res.bind (esc (.sl j) sl st) nsK := rfl
def nssK1 (rs : List RV) (q : RV) : Mn (List RV) := bnd (noSls rs) fun qs => unit (q :: qs)
@[simp] theorem ev_nssn : noSls [] sl st = .ok [] sl st := rfl
@[simp] theorem ev_nssc (r : RV) (rs : List RV) : noSls (r :: rs) sl st = Res.bind (noSl r sl st) (nssK1 rs) := rfl
@[simp] theorem ev_nssK1 (rs : List RV) (q : RV) : nssK1 rs q sl st = Res.bind (noSls rs sl st) (consK2 q) := rfl
@[simp] theorem ev_pan : putAll [] [] sl st = .ok .nx sl st := rfl
def paK (is : List Nat) (rs : List RV) (_ : Fl) : Mn Fl := putAll is rs
@[simp] theorem ev_paK (is : List Nat) (rs : List RV) (f : Fl) : paK is rs f sl st = putAll is rs sl st := rfl
@[simp] theorem ev_pacd (i : Nat) (is : List Nat) (x : D) (rs : List RV) : putAll (i :: is) (.d x :: rs) sl st = Res.bind (assign i (.d x) sl st) (paK is rs) := rfl
@[simp] theorem ev_pacf (i : Nat) (is : List Nat) (x : Ob) (rs : List RV) : putAll (i :: is) (.f x :: rs) sl st = Res.bind (assign i (.f x) sl st) (paK is rs) := rfl
def parK (is : List Nat) (rs : List RV) : Mn Fl := bnd (noSls rs) (putAll is)
@[simp] theorem ev_parK (is : List Nat) (rs : List RV) : parK is rs sl st = Res.bind (noSls rs sl st) (putAll is) := rfl
@[simp] theorem ev_mPar (is : List Nat) (m : Mn (List RV)) : mPar is m sl st = Res.bind (m sl st) (parK is) := rfl
/-! objects -/
def insX (C : String) (m : Str) (r : RV) : D → Res RV
  | .obj C' fs => if C' = C ∧ fs.lookup m = none then .ok r sl st else .no
  | _ => .no
theorem ev_insX (C C' : String) (m : Str) (r : RV) (fs : List (Str × D)) : insX sl st C m r (.obj C' fs) = if C' = C ∧ fs.lookup m = none then .ok r sl st else .no := rfl
@[simp] theorem ev_insX' (C : String) (m : Str) (r : RV) (fs : List (Str × D)) (h : fs.lookup m = none) : insX sl st C m r (.obj C fs) = .ok r sl st := if_pos ⟨rfl, h⟩
def insK (C : String) (m : Str) (r : RV) : Mn RV := fun sl st => see1 (insX sl st C m r) (view sl st r)
@[simp] theorem ev_insK (C : String) (m : Str) (r : RV) : insK C m r sl st = see1 (insX sl st C m r) (view sl st r) := rfl
@[simp] theorem ev_mIns (C : String) (m : Str) (mo : Mn RV) : mIns C m mo sl st = Res.bind (mo sl st) (insK C m) := by
  unfold mIns bnd Res.bind
  cases mo sl st with
  | no => rfl
  | exc => rfl
  | ok r s t =>
    dsimp only; unfold insK see1
    cases view s t r with
    | none => rfl
    | some x => cases x <;> rfl
def sfO (Cs : List String) (f : Str) (x : D) (r : RV) : Option Ob → Res Fl
  | some (.ins C fs) => if C ∈ Cs ∧ fs.length < 1000 then .ok .nx (setOb r (.ins C (putD f x fs)) sl st).1 (setOb r (.ins C (putD f x fs)) sl st).2 else .no
  | _ => match selfOf sl r with
    | some (i, C, fs) => if C ∈ Cs ∧ fs.length < 1000 then .ok .nx (sl.set i (.lk (.ins C (putD f x fs)))) st else .no
    | none => .no
@[simp] theorem ev_sfO (Cs : List String) (f : Str) (x : D) (r : RV) (C : String) (fs : List (Str × D)) (h : C ∈ Cs ∧ fs.length < 1000) : sfO sl st Cs f x r (some (.ins C fs)) = .ok .nx (setOb r (.ins C (putD f x fs)) sl st).1 (setOb r (.ins C (putD f x fs)) sl st).2 := if_pos h
def sfS (Cs : List String) (f : Str) (x : D) : Option (Nat × String × List (Str × D)) → Res Fl
  | some (i, C, fs) => if C ∈ Cs ∧ fs.length < 1000 then .ok .nx (sl.set i (.lk (.ins C (putD f x fs)))) st else .no
  | none => .no
@[simp] theorem ev_sfS (Cs : List String) (f : Str) (x : D) (i : Nat) (C : String) (fs : List (Str × D)) (h : C ∈ Cs ∧ fs.length < 1000) : sfS sl st Cs f x (some (i, C, fs)) = .ok .nx (sl.set i (.lk (.ins C (putD f x fs)))) st := if_pos h
@[simp] theorem ev_sfN (Cs : List String) (f : Str) (x : D) (r : RV) : sfO sl st Cs f x r none = sfS sl st Cs f x (selfOf sl r) := by
  unfold sfO sfS; rfl
def slfS (i : Nat) : Option Sl → Option (Nat × String × List (Str × D))
  | some (.lk (.ins C fs)) => some (i, C, fs)
  | _ => none
@[simp] theorem ev_slfS (i : Nat) (C : String) (fs : List (Str × D)) : slfS i (some (.lk (.ins C fs))) = some (i, C, fs) := rfl
@[simp] theorem ev_selfOf (i : Nat) : selfOf sl (.sl i) = slfS i (sl[i]?) := by
  unfold selfOf slfS; rfl
def sfK (Cs : List String) (f : Str) (x : D) (r : RV) : Mn Fl := fun sl st => sfO sl st Cs f x r (obOf sl st r)
@[simp] theorem ev_sfK (Cs : List String) (f : Str) (x : D) (r : RV) : sfK Cs f x r sl st = sfO sl st Cs f x r (obOf sl st r) := rfl
@[simp] theorem ev_setFld (Cs : List String) (f : Str) (mo : Mn RV) (x : D) : setFld Cs f mo x sl st = Res.bind (mo sl st) (sfK Cs f x) := by
  unfold setFld bnd Res.bind
  cases mo sl st with
  | no => rfl
  | exc => rfl
  | ok r s t =>
    dsimp only; unfold sfK sfO
    cases obOf s t r with
    | none => rfl
    | some b => cases b <;> rfl
def sfE (Cs : List String) (f : Str) (mo : Mn RV) (r : RV) : Mn Fl := bnd (esc r) (setFld Cs f mo)
@[simp] theorem ev_sfE (Cs : List String) (f : Str) (mo : Mn RV) (r : RV) : sfE Cs f mo r sl st = Res.bind (esc r sl st) (setFld Cs f mo) := rfl
@[simp] theorem ev_mSetFld (Cs : List String) (f : Str) (mo mv : Mn RV) : mSetFld Cs f mo mv sl st = Res.bind (mv sl st) (sfE Cs f mo) := rfl
def altX (c : List D → Bool) (f g : List RV → Mn RV) (rs : List RV) : List D → Res RV := fun xs => if c xs = true then f rs sl st else g rs sl st
@[simp] theorem ev_altT (c : List D → Bool) (f g : List RV → Mn RV) (rs : List RV) (xs : List D) (h : c xs = true) : altX sl st c f g rs xs = f rs sl st := if_pos h
@[simp] theorem ev_altF (c : List D → Bool) (f g : List RV → Mn RV) (rs : List RV) (xs : List D) (h : c xs = false) : altX sl st c f g rs xs = g rs sl st := if_neg (by rw [h]; decide)
@[simp] theorem ev_mAlt (c : List D → Bool) (f g : List RV → Mn RV) (rs : List RV) : mAlt c f g rs sl st = seen (altX sl st c f g rs) (views sl st rs) := by
  unfold mAlt seen; cases views sl st rs <;> rfl
def grdX (c : List D → Bool) (f : List RV → Mn RV) (rs : List RV) : List D → Res RV := fun xs => if c xs = true then f rs sl st else .no
@[simp] theorem ev_grdX (c : List D → Bool) (f : List RV → Mn RV) (rs : List RV) (xs : List D) (h : c xs = true) : grdX sl st c f rs xs = f rs sl st := if_pos h
@[simp] theorem ev_mGuard (c : List D → Bool) (f : List RV → Mn RV) (rs : List RV) : mGuard c f rs sl st = seen (grdX sl st c f rs) (views sl st rs) := by
  unfold mGuard seen; cases views sl st rs <;> rfl
@[simp] theorem ev_cOO (C : String) (a b : List (Str × D)) : cOO C [.obj C a, .obj C b] = true := by simp [cOO]
@[simp] theorem ev_cOI (C : String) (a : List (Str × D)) (i : Int) : cOI C [.obj C a, .int i] = true := by simp [cOI]
@[simp] theorem ev_cIO (C : String) (a : List (Str × D)) (i : Int) : cIO C [.int i, .obj C a] = true := by simp [cIO]
@[simp] theorem ev_cOS (C : String) (a : List (Str × D)) (i : Str) : cOS C [.obj C a, .str i] = true := by simp [cOS]
@[simp] theorem ev_cOOi (C : String) (a : List (Str × D)) (i : Int) : cOO C [.obj C a, .int i] = false := by simp [cOO]
@[simp] theorem ev_gObj (C : String) (a : List (Str × D)) : gObj C [.obj C a] = true := by simp [gObj]
@[simp] theorem ev_swap (a b : RV) : swap2 [a, b] = [b, a] := rfl
/-! errors -/
def raiK2 (C : String) (f : Str) (x : D) : Mn Fl := fun sl st => .exc C [(f, x)] sl st
def raiK (C : String) (f : Str) (r : RV) : Mn Fl := bnd (esc r) (raiK2 C f)
@[simp] theorem ev_raiK2 (C : String) (f : Str) (x : D) : raiK2 C f x sl st = .exc C [(f, x)] sl st := rfl
@[simp] theorem ev_raiK (C : String) (f : Str) (r : RV) : raiK C f r sl st = Res.bind (esc r sl st) (raiK2 C f) := rfl
@[simp] theorem ev_mRaise (C : String) (f : Str) (m : Mn RV) : mRaise C f m sl st = Res.bind (m sl st) (raiK C f) := rfl
def errK (a0 d0 : Addr) (f : Str) (r : RV) : Mn RV := fun sl st => match r with
  | .d (.exn a dd xs) => if a = a0 ∧ dd = d0 then match xs with
    | [(g, x)] => if g = f then .ok (.d x) sl st else .no
    | _ => .no else .no
  | _ => .no
@[simp] theorem ev_errK (a d : Addr) (f : Str) (x : D) : errK a d f (.d (.exn a d [(f, x)])) sl st = .ok (.d x) sl st := by
  simp [errK]
@[simp] theorem ev_mErr (a d : Addr) (f : Str) (m : Mn RV) : mErr a d f m sl st = Res.bind (m sl st) (errK a d f) := rfl
/-! texts -/
def jsD (ms : List (Mn RV)) (acc : Str) : D → Res RV
  | .str y => if (acc ++ y).length ≤ sizeLine then mJs ms (acc ++ y) sl st else .no
  | _ => .no
@[simp] theorem ev_jsD (ms : List (Mn RV)) (acc y : Str) (h : (acc ++ y).length ≤ sizeLine) : jsD sl st ms acc (.str y) = mJs ms (acc ++ y) sl st := if_pos h
def jsK (ms : List (Mn RV)) (acc : Str) (r : RV) : Mn RV := fun sl st => see1 (jsD sl st ms acc) (view sl st r)
@[simp] theorem ev_jsK (ms : List (Mn RV)) (acc : Str) (r : RV) : jsK ms acc r sl st = see1 (jsD sl st ms acc) (view sl st r) := rfl
@[simp] theorem ev_js0 (acc : Str) : mJs [] acc sl st = .ok (.d (.str acc)) sl st := rfl
@[simp] theorem ev_js1 (m : Mn RV) (ms : List (Mn RV)) (acc : Str) : mJs (m :: ms) acc sl st = Res.bind (m sl st) (jsK ms acc) := by
  show bnd m _ sl st = _
  unfold bnd Res.bind
  cases m sl st with
  | no => rfl
  | exc => rfl
  | ok r s t =>
    dsimp only; unfold jsK see1
    cases view s t r with
    | none => rfl
    | some x => cases x <;> rfl
end
/-! texts that are equal -/
theorem str_inj {a b : String} (h : Str.ofString a = Str.ofString b) : a = b := by
  rw [Str.ofString_eq_toList, Str.ofString_eq_toList] at h
  have h1 : a.toList.map Char.toNat = b.toList.map Char.toNat := by
    have := congrArg (fun s => s.cps.toList) h
    simpa using this
  have h2 : a.toList = b.toList := by
    have hi : ∀ c d : Char, c.toNat = d.toNat → c = d := fun c d e => Char.ext (UInt32.toNat_inj.mp e)
    clear h
    generalize a.toList = l at h1 ⊢
    generalize b.toList = m at h1 ⊢
    induction l generalizing m with
    | nil => cases m <;> simp_all
    | cons c l ih => cases m with
      | nil => simp at h1
      | cons d m =>
        simp only [List.map_cons, List.cons.injEq] at h1
        rw [hi c d h1.1, ih m h1.2]
  exact String.toList_inj.mp h2
@[simp] theorem ev_strE (a b : String) : (Str.ofString a = Str.ofString b) = (a = b) := propext ⟨str_inj, fun h => by rw [h]⟩
@[simp] theorem ev_strB (a b : String) : (Str.ofString a == Str.ofString b) = (a == b) := by
  rw [Bool.eq_iff_iff]; simp
@[simp] theorem ev_lkc {β : Type} (f k : Str) (x : β) (r : List (Str × β)) : List.lookup f ((k, x) :: r) = if f = k then some x else List.lookup f r := by
  rw [List.lookup_cons]
  by_cases h : f = k
  · subst h; simp
  · have : (f == k) = false := by simpa using h
    simp [h, this]
@[simp] theorem ev_pdn (f : Str) (v : D) : putD f v [] = [(f, v)] := rfl
@[simp] theorem ev_pdc (f g : Str) (v x : D) (r : List (Str × D)) : putD f v ((g, x) :: r) = if g = f then (g, v) :: r else (g, x) :: putD f v r := rfl
theorem empty_of : Str.empty = Str.ofString "" := rfl
@[simp] theorem ev_strE0 (b : String) : (Str.empty = Str.ofString b) = ("" = b) := by rw [empty_of, ev_strE]
@[simp] theorem ev_strB0 (b : String) : (Str.empty == Str.ofString b) = ("" == b) := by rw [empty_of, ev_strB]
/-! pure operations -/
/-- a number's text -/
def sI (i : Int) : Str := Str.ofString (toString i)
@[simp] theorem ev_gLt (x y : Int) : gLt [.int x, .int y] = .d (.bl (decide (x < y))) := rfl
@[simp] theorem ev_gLe (x y : Int) : gLe [.int x, .int y] = .d (.bl (decide (x ≤ y))) := rfl
@[simp] theorem ev_gGt (x y : Int) : gGt [.int x, .int y] = .d (.bl (decide (y < x))) := rfl
@[simp] theorem ev_gGe (x y : Int) : gGe [.int x, .int y] = .d (.bl (decide (y ≤ x))) := rfl
@[simp] theorem ev_gSub (x y : Int) : gSub [.int x, .int y] = .d (.int (x - y)) := rfl
@[simp] theorem ev_gAdd (x y : Int) : gAdd [.int x, .int y] = .d (.int (x + y)) := rfl
@[simp] theorem ev_gIAdd (x y : Int) : gIAdd [.int x, .int y] = .d (.int (x + y)) := rfl
@[simp] theorem ev_gMul (x y : Int) (h : mulOk x y = true) : gMul [.int x, .int y] = .d (.int (x * y)) := if_pos h
@[simp] theorem ev_gDiv (x y : Int) (h : divOk y = true) : gDiv [.int x, .int y] = .d (.int (x / y)) := if_pos h
@[simp] theorem ev_gMod (x y : Int) (h : 0 < y) : gMod [.int x, .int y] = .d (.int (x % y)) := if_pos h
@[simp] theorem ev_gNeg (x : Int) : gNeg [.int x] = .d (.int (-x)) := rfl
@[simp] theorem ev_gAbs (x : Int) : gAbs [.int x] = .d (.int x.natAbs) := rfl
@[simp] theorem ev_gIntI (x : Int) : gInt [.int x] = .d (.int x) := rfl
@[simp] theorem ev_gIntB (b : Bool) : gInt [.bl b] = .d (.int (if b = true then 1 else 0)) := rfl
@[simp] theorem ev_gMax (x y : Int) : gMax [.int x, .int y] = .d (.int (max x y)) := rfl
@[simp] theorem ev_gMin (x y : Int) : gMin [.int x, .int y] = .d (.int (min x y)) := rfl
@[simp] theorem ev_gLenL (xs : List D) : gLen [.lst xs] = .d (.int xs.length) := rfl
@[simp] theorem ev_gLenT (xs : List D) : gLen [.tup xs] = .d (.int xs.length) := rfl
@[simp] theorem ev_gLenD (xs : List (Key × D)) : gLen [.dct xs] = .d (.int xs.length) := rfl
@[simp] theorem ev_gList (xs : List D) : gList [.lst xs] = .f (.lst xs) := rfl
@[simp] theorem ev_gListT (xs : List D) : gList [.tup xs] = .f (.lst xs) := rfl
@[simp] theorem ev_gTupL (xs : List D) : gTupleOf [.lst xs] = .t xs := rfl
@[simp] theorem ev_gTupT (xs : List D) : gTupleOf [.tup xs] = .d (.tup xs) := rfl
@[simp] theorem ev_gAddL (xs ys : List D) (h : xs.length + ys.length ≤ sizeLine) : gAdd [.lst xs, .lst ys] = .f (.lst (xs ++ ys)) := if_pos h
@[simp] theorem ev_gAddT (xs ys : List D) (h : xs.length + ys.length ≤ sizeLine) : gAdd [.tup xs, .tup ys] = .t (xs ++ ys) := if_pos h
@[simp] theorem ev_gAddS (xs ys : Str) (h : xs.length + ys.length ≤ sizeLine) : gAdd [.str xs, .str ys] = .d (.str (xs ++ ys)) := if_pos h
@[simp] theorem ev_gFmtI (i : Int) (h : i.natAbs.log2 < 1920) : gFmt [.int i] = .d (.str (sI i)) := if_pos h
@[simp] theorem ev_gStrI (i : Int) (h : i.natAbs.log2 < 1920) : gStr [.int i] = .d (.str (sI i)) := if_pos h
@[simp] theorem ev_gStrS (s : Str) : gStr [.str s] = .d (.str s) := rfl
@[simp] theorem ev_gDEqI (neg : Bool) (i j : Int) : gDEq neg [.int i, .int j] = .d (.bl (if neg = true then !decide (i = j) else decide (i = j))) := by
  have h : min (PyData.depth (.int i)) (PyData.depth (.int j)) ≤ 64 := by simp [PyData.depth]
  exact if_pos (e := PR.no) h
@[simp] theorem ev_gDEqB (neg : Bool) (i j : Bool) : gDEq neg [.bl i, .bl j] = .d (.bl (if neg = true then !decide (i = j) else decide (i = j))) := by
  cases neg <;> cases i <;> cases j <;> rfl
@[simp] theorem ev_gDEqS (neg : Bool) (s t : Str) : gDEq neg [.str s, .str t] = .d (.bl (if neg = true then !(s == t) else s == t)) := by
  have h : min (PyData.depth (.str s)) (PyData.depth (.str t)) ≤ 64 := by simp [PyData.depth]
  exact if_pos (e := PR.no) h
def ixO {α : Type} (f : α → PR) : Option α → PR
  | some x => f x
  | none => .no
@[simp] theorem ev_ixO {α : Type} (f : α → PR) (x : α) : ixO f (some x) = f x := rfl
@[simp] theorem ev_gIxL (xs : List D) (i : Int) : gIx [.lst xs, .int i] = ixO .d (atI xs i) := by
  unfold gIx ixO; dsimp only; cases atI xs i <;> rfl
@[simp] theorem ev_gIxT (xs : List D) (i : Int) : gIx [.tup xs, .int i] = ixO .d (atI xs i) := by
  unfold gIx ixO; dsimp only; cases atI xs i <;> rfl
theorem ev_atI {α : Type} (xs : List α) (i : Int) (h0 : 0 ≤ i) : atI xs i = xs[i.toNat]? := by
  unfold atI ixN
  rw [if_pos h0]
  by_cases h : i < (xs.length : Int)
  · rw [if_pos h]; rfl
  · rw [if_neg h, List.getElem?_eq_none (by omega)]; rfl
@[simp] theorem ev_at0 {α : Type} (xs : List α) : atI xs 0 = xs[0]? := ev_atI xs 0 (by decide)
@[simp] theorem ev_at1 {α : Type} (xs : List α) : atI xs 1 = xs[1]? := ev_atI xs 1 (by decide)
@[simp] theorem ev_at2 {α : Type} (xs : List α) : atI xs 2 = xs[2]? := ev_atI xs 2 (by decide)
@[simp] theorem ev_at3 {α : Type} (xs : List α) : atI xs 3 = xs[3]? := ev_atI xs 3 (by decide)
@[simp] theorem ev_at4 {α : Type} (xs : List α) : atI xs 4 = xs[4]? := ev_atI xs 4 (by decide)
theorem ev_atN {α : Type} (xs : List α) (k : Nat) : atI xs (k : Int) = xs[k]? := by
  rw [ev_atI xs _ (by omega), Int.toNat_natCast]
@[simp] theorem ev_gFld (Cs : List String) (f : Str) (C : String) (fs : List (Str × D)) (h : C ∈ Cs) : gFld Cs f [.obj C fs] = ixO .d (fs.lookup f) := by
  unfold gFld ixO; dsimp only; rw [if_pos h]; cases fs.lookup f <;> rfl
@[simp] theorem ev_ixN0 (n : Nat) : ixN (n + 1) 0 = some 0 := by
  unfold ixN; rw [if_pos (by decide), if_pos (by omega)]; rfl
@[simp] theorem ev_ixN1 (n : Nat) : ixN (n + 1 + 1) 1 = some 1 := by
  unfold ixN; rw [if_pos (by decide), if_pos (by omega)]; rfl
@[simp] theorem ev_slQ (xs : List D) (a b : D) : gSl [.lst xs, a, b] = ixO (fun lo => ixO (fun hi => .f (.lst (cutD xs lo hi))) (endD b)) (endD a) := by
  unfold gSl ixO; dsimp only; cases endD a <;> cases endD b <;> rfl
@[simp] theorem ev_e1 : endD .non = some none := rfl
@[simp] theorem ev_e2 (i : Int) : endD (.int i) = some (some i) := rfl
def partK (r : RV) : Mn RV := fun sl st => match view sl st r with
  | some (.int i) => .ok (.d (.int i)) sl st
  | _ => .no
@[simp] theorem ev_partd (i : Int) (sl : Sls) (st : Sto) : partK (.d (.int i)) sl st = .ok (.d (.int i)) sl st := rfl
@[simp] theorem ev_mPart (m : Mn RV) (sl : Sls) (st : Sto) : mPart m sl st = Res.bind (m sl st) partK := rfl
/-! try -/
section
variable (sl : Sls) (st : Sto)
def wpK (f : Fl) (i : Nat) : Option Sl → Res Fl
  | some (.d _) => match f with
    | .rt (.sl _) => .no
    | f => .ok f (sl.set i .u) st
  | _ => .no
@[simp] theorem ev_wipe (f : Fl) (i : Nat) : wipe1 i (.ok f sl st) = wpK sl st f i (sl[i]?) := by
  unfold wipe1 wpK
  first
  | rfl
  | (dsimp only; done)
  | (dsimp only
     cases sl[i]? with
     | none => rfl
     | some s => cases s <;> rfl)
@[simp] theorem ev_wpN (i : Nat) (x : D) : wpK sl st .nx i (some (.d x)) = .ok .nx (sl.set i .u) st := rfl
@[simp] theorem ev_wpB (i : Nat) (x : D) : wpK sl st .bk i (some (.d x)) = .ok .bk (sl.set i .u) st := rfl
@[simp] theorem ev_wpC (i : Nat) (x : D) : wpK sl st .ct i (some (.d x)) = .ok .ct (sl.set i .u) st := rfl
@[simp] theorem ev_wpRd (i : Nat) (x y : D) : wpK sl st (.rt (.d y)) i (some (.d x)) = .ok (.rt (.d y)) (sl.set i .u) st := rfl
@[simp] theorem ev_wpRf (i : Nat) (x : D) (y : Ob) : wpK sl st (.rt (.f y)) i (some (.d x)) = .ok (.rt (.f y)) (sl.set i .u) st := rfl
open Classical in
noncomputable def tryQ (i : Nat) (ms : Addr → Addr → Mn Fl) (xs : List (Str × D)) : Option Sl → Res Fl
  | some (.lk _) => .no
  | none => .no
  | some _ => if ∀ a dd, wipe1 i (ms a dd (sl.set i (.d (.exn a dd xs))) st) = wipe1 i (ms 0 0 (sl.set i (.d (.exn 0 0 xs))) st) then wipe1 i (ms 0 0 (sl.set i (.d (.exn 0 0 xs))) st) else .no
theorem tryQ_of (i : Nat) (ms : Addr → Addr → Mn Fl) (xs : List (Str × D)) (s : Sl) (hs : s.fr) (q : Res Fl) (w : ∀ a dd, wipe1 i (ms a dd (sl.set i (.d (.exn a dd xs))) st) = q) : tryQ sl st i ms xs (some s) = q := by
  unfold tryQ
  cases s with
  | lk => exact hs.elim
  | _ => dsimp only; rw [if_pos (fun a dd => by rw [w, w]), w]
noncomputable def tryX (i : Nat) (ms : Addr → Addr → Mn Fl) (C : String) (xs : List (Str × D)) : Option Bool → Res Fl
  | some true => tryQ sl st i ms xs (sl[i]?)
  | some false => .exc C xs sl st
  | none => .no
@[simp] theorem ev_tryXT (i : Nat) (ms : Addr → Addr → Mn Fl) (C : String) (xs : List (Str × D)) : tryX sl st i ms C xs (some true) = tryQ sl st i ms xs (sl[i]?) := rfl
@[simp] theorem ev_tryXF (i : Nat) (ms : Addr → Addr → Mn Fl) (C : String) (xs : List (Str × D)) : tryX sl st i ms C xs (some false) = .exc C xs sl st := rfl
noncomputable def tryR (exm : String → Option Bool) (i : Nat) (ms : Addr → Addr → Mn Fl) : Res Fl → Res Fl
  | .exc C xs sl st => tryX sl st i ms C xs (exm C)
  | q => q
@[simp] theorem ev_tryO (exm : String → Option Bool) (i : Nat) (ms : Addr → Addr → Mn Fl) (f : Fl) : tryR exm i ms (.ok f sl st) = .ok f sl st := rfl
@[simp] theorem ev_tryE (exm : String → Option Bool) (i : Nat) (ms : Addr → Addr → Mn Fl) (C : String) (xs : List (Str × D)) : tryR exm i ms (.exc C xs sl st) = tryX sl st i ms C xs (exm C) := rfl
theorem ev_tryC {exm : String → Option Bool} {i : Nat} {ms : Addr → Addr → Mn Fl} {q q' : Res Fl} (h : q = q') : tryR exm i ms q = tryR exm i ms q' := by rw [h]
@[simp] theorem ev_mTry (mb : Mn Fl) (exm : String → Option Bool) (i : Nat) (ms : Addr → Addr → Mn Fl) : mTryAs mb exm i ms sl st = tryR exm i ms (mb sl st) := by
  unfold mTryAs tryR
  cases mb sl st with
  | no => rfl
  | ok => rfl
  | exc C xs s t =>
    dsimp only
    unfold tryX tryQ
    cases exm C with
    | none => rfl
    | some b => cases b with
      | false => rfl
      | true =>
        first
        | rfl
        | (dsimp only; done)
        | (dsimp only
           cases s[i]? with
           | none => rfl
           | some x => cases x <;> rfl)
end
end MP

set_option Elab.async false
set_option linter.all false
set_option maxRecDepth 100000
set_option maxHeartbeats 4000000
/-! EV2: the forms of MP27 to MP32, and comprehensions, run by simp. -/
namespace MP
open PySem PySem.Spec PyProof.Rows L2
section
variable (sl : Sls) (st : Sto)
def enumR (b : Bool) (k : Int) (r : RV) (p : List D × Hd) : Mn (List D × Hd) := fun sl st => if b = true ∨ isTup r = false then .ok (enumD k p.1, p.2) sl st else .no
@[simp] theorem ev_enumR (b : Bool) (k : Int) (r : RV) (xs : List D) (h : Hd) (hb : b = true ∨ isTup r = false) : enumR b k r (xs, h) sl st = .ok (enumD k xs, h) sl st := if_pos hb
theorem src_noexc (r : RV) (C : String) (ys : List (Str × D)) (s : Sls) (t : Sto) : srcOf r sl st ≠ .exc C ys s t := by
  intro z
  unfold srcOf at z
  repeat' split at z
  all_goals cases z
@[simp] theorem ev_enumOf (b : Bool) (k : Int) (r : RV) : enumOf b k [r] sl st = Res.bind (srcOf r sl st) (enumR b k r) := by
  unfold enumOf
  dsimp only
  cases e : srcOf r sl st with
  | no => rfl
  | exc C ys s t => exact (src_noexc sl st r C ys s t e).elim
  | ok p s t => rfl
@[simp] theorem ev_mEnum (b : Bool) (k : Int) (m : Mn (List RV)) : mEnum b k m sl st = Res.bind (m sl st) (enumOf b k) := rfl
@[simp] theorem ev_isTl (xs : List D) : isTup (.d (.lst xs)) = false := by simp [isTup]
@[simp] theorem ev_isTc (i : Nat) : isTup (.d (.cell i)) = false := by simp [isTup]
@[simp] theorem ev_isTf (b : Ob) : isTup (.f b) = false := by simp [isTup]
@[simp] theorem ev_isTs (i : Nat) : isTup (.sl i) = false := by simp [isTup]
def zipK (rs : List RV) : Mn (List D × Hd) := bnd (escs rs) zipOf
@[simp] theorem ev_zipK (rs : List RV) : zipK rs sl st = Res.bind (escs rs sl st) zipOf := rfl
@[simp] theorem ev_mZip (m : Mn (List RV)) : mZip m sl st = Res.bind (m sl st) zipK := rfl
@[simp] theorem ev_zipL (xs ys : List D) : zipOf [.lst xs, .lst ys] sl st = .ok (zipD xs ys, .none) sl st := rfl
@[simp] theorem ev_zipT (xs ys : List D) : zipOf [.tup xs, .tup ys] sl st = .ok (zipD xs ys, .none) sl st := rfl
@[simp] theorem ev_repL (xs : List D) (k : Int) (h : -(2 ^ 63) ≤ k ∧ k < 2 ^ 63 ∧ xs.length * k.toNat ≤ sizeLine) : mRepL [.f (.lst xs), .d (.int k)] sl st = .ok (.f (.lst (List.replicate k.toNat xs).flatten)) sl st := if_pos h
@[simp] theorem ev_gRev (xs : List D) : gRev [.lst xs] = .f (.lst xs.reverse) := rfl
theorem ev_gEqLne (neg : Bool) (xs ys : List D) (h : xs.length ≠ ys.length) : gEqL neg [.lst xs, .lst ys] = .d (.bl neg) := if_neg h
@[simp] theorem ev_gEqL0 (neg : Bool) : gEqL neg [.lst [], .lst []] = .d (.bl (!neg)) := by cases neg <;> rfl
@[simp] theorem ev_gEqL1 (neg : Bool) (x : D) (xs : List D) : gEqL neg [.lst (x :: xs), .lst []] = .d (.bl neg) := ev_gEqLne neg _ _ (by simp)
def sumOK (C : String) (fa fr : Fn) (ds : List D) : Mn RV := fun sl st => match ds with
  | [.lst xs] => match sumG C fa fr true (.int 0) xs st with
    | some (t, st') => .ok (.d t) sl st'
    | none => .no
  | _ => .no
@[simp] theorem ev_mSumO (C : String) (fa fr : Fn) (rs : List RV) : mSumO C fa fr rs sl st = Res.bind (escs rs sl st) (sumOK C fa fr) := rfl
theorem ev_sumOK (C : String) (fa fr : Fn) (xs : List D) (t : D) (st' : Sto) (h : sumG C fa fr true (.int 0) xs st = some (t, st')) : sumOK C fa fr [.lst xs] sl st = .ok (.d t) sl st' := by
  unfold sumOK; dsimp only; rw [h]
/-! comprehensions -/
def compR (vs : List Nat) (h : Hd) (sl0 : Sls) (st0 : Sto) : Res (List D) → Res RV
  | .ok ys sl' st' => .ok (.f (.lst ys)) (unlS h sl0 (backS (lockS h sl0) sl' vs)) (unlC h st0 st')
  | _ => .no
@[simp] theorem ev_compR (vs : List Nat) (h : Hd) (sl0 : Sls) (st0 : Sto) (ys : List D) : compR vs h sl0 st0 (.ok ys sl st) = .ok (.f (.lst ys)) (unlS h sl0 (backS (lockS h sl0) sl vs)) (unlC h st0 st) := rfl
def compK (vs : List Nat) (t : Tgt) (tt : Mn Bool) (te : Mn RV) (p : List D × Hd) : Mn RV := fun sl st => if noLk (lockS p.2 sl) vs = true then compR vs p.2 sl st (compL t tt te vs p.1 [] (wipeS (lockS p.2 sl) vs) (lockC p.2 st)) else .no
theorem ev_compK (vs : List Nat) (t : Tgt) (tt : Mn Bool) (te : Mn RV) (xs : List D) (h : Hd) (hn : noLk (lockS h sl) vs = true) : compK vs t tt te (xs, h) sl st = compR vs h sl st (compL t tt te vs xs [] (wipeS (lockS h sl) vs) (lockC h st)) := if_pos hn
@[simp] theorem ev_mComp (vs : List Nat) (mi : Mn (List D × Hd)) (t : Tgt) (tt : Mn Bool) (te : Mn RV) : mComp vs mi t tt te sl st = Res.bind (mi sl st) (compK vs t tt te) := by
  unfold mComp bnd Res.bind
  cases mi sl st with
  | no => rfl
  | exc => rfl
  | ok p s t' =>
    dsimp only
    unfold compK
    by_cases c : noLk (lockS p.2 s) vs = true
    · rw [if_pos c, if_pos c]
      unfold compR
      cases compL t tt te vs p.1 [] (wipeS (lockS p.2 s) vs) (lockC p.2 t') <;> rfl
    · rw [if_neg c, if_neg c]
/-- one item of a comprehension -/
theorem comp_yes {t : Tgt} {tt : Mn Bool} {te : Mn RV} {vs : List Nat} {x : D} {xs acc : List D} {sl1 sl2 sl3 sl4 : Sls} {st1 st2 st3 st4 : Sto} {r : RV} {y : D} (h1 : mTgt t x sl st = .ok .nx sl1 st1) (h2 : tt sl1 st1 = .ok true sl2 st2) (h3 : te sl2 st2 = .ok r sl3 st3) (h4 : esc r sl3 st3 = .ok y sl4 st4) (hl : acc.length < 100000) (hn : noLk sl4 vs = true) :
    compL t tt te vs (x :: xs) acc sl st = compL t tt te vs xs (acc ++ [y]) (wipeS sl4 vs) st4 := by
  conv => lhs; unfold compL
  simp only [h1, h2, h3, h4]
  rw [if_pos ⟨hl, hn⟩]
theorem comp_no {t : Tgt} {tt : Mn Bool} {te : Mn RV} {vs : List Nat} {x : D} {xs acc : List D} {sl1 sl2 : Sls} {st1 st2 : Sto} (h1 : mTgt t x sl st = .ok .nx sl1 st1) (h2 : tt sl1 st1 = .ok false sl2 st2) (hn : noLk sl2 vs = true) :
    compL t tt te vs (x :: xs) acc sl st = compL t tt te vs xs acc (wipeS sl2 vs) st2 := by
  conv => lhs; unfold compL
  simp only [h1, h2]
  rw [if_pos hn]
theorem comp_nil {t : Tgt} {tt : Mn Bool} {te : Mn RV} {vs : List Nat} {acc : List D} : compL t tt te vs [] acc sl st = .ok acc sl st := rfl
@[simp] theorem ev_wipe0 : wipeS sl [] = sl := rfl
@[simp] theorem ev_wipe1 (v : Nat) (vs : List Nat) : wipeS sl (v :: vs) = (wipeS sl vs).set v .u := rfl
def bkS (s : Sls) (v : Nat) : Option Sl → Sls
  | some x => s.set v x
  | none => s
@[simp] theorem ev_bkS (s : Sls) (v : Nat) (x : Sl) : bkS s v (some x) = s.set v x := rfl
@[simp] theorem ev_back0 (sl' : Sls) : backS sl sl' [] = sl' := rfl
@[simp] theorem ev_back1 (sl' : Sls) (v : Nat) (vs : List Nat) : backS sl sl' (v :: vs) = bkS (backS sl sl' vs) v (sl[v]?) := by
  show (match sl[v]? with | some s => _ | none => _) = _
  cases sl[v]? <;> rfl
@[simp] theorem ev_noLk0 : noLk sl [] = true := rfl
def frB : Option Sl → Bool
  | some (.lk _) => false
  | _ => true
@[simp] theorem ev_noLk1 (v : Nat) (vs : List Nat) : noLk sl (v :: vs) = (frB (sl[v]?) && noLk sl vs) := by
  show ((match sl[v]? with | some (.lk _) => false | _ => true) && noLk sl vs) = _
  cases e : sl[v]? with
  | none => rfl
  | some s => cases s <;> rfl
@[simp] theorem ev_frBu : frB (some .u) = true := by simp [frB]
@[simp] theorem ev_frBd (x : D) : frB (some (.d x)) = true := by simp [frB]
@[simp] theorem ev_frBo (x : Ob) : frB (some (.o x)) = true := by simp [frB]
theorem ev_frBf (s : Sl) (h : s.fr) : frB (some s) = true := by
  cases s with
  | lk => exact h.elim
  | _ => rfl
/-! locks -/
@[simp] theorem ev_lsl (j : Nat) (b : Ob) (h : sl[j]? = some (.o b)) : lockS (.sl j) sl = sl.set j (.lk b) := by
  unfold lockS; dsimp only; rw [h]
@[simp] theorem ev_lce (i : Nat) (b : Ob) (h : st[i]? = some (.c b)) : lockC (.ce i) st = st.set i (.lk b) := by
  unfold lockC; dsimp only; rw [h]
theorem ev_uce (i : Nat) (b b' : Ob) (st' : Sto) (h : st[i]? = some (.c b)) (h' : st'[i]? = some (.lk b')) : unlC (.ce i) st st' = st'.set i (.c b') := by
  unfold unlC; dsimp only; rw [h, h']
theorem ev_usl (j : Nat) (b b' : Ob) (sl' : Sls) (h : sl[j]? = some (.o b)) (h' : sl'[j]? = some (.lk b')) : unlS (.sl j) sl sl' = sl'.set j (.o b') := by
  unfold unlS; dsimp only; rw [h, h']
end
@[simp] theorem ev_slT (xs : List D) (a b : D) : gSl [.tup xs, a, b] = ixO (fun lo => ixO (fun hi => .t (cutD xs lo hi)) (endD b)) (endD a) := by
  unfold gSl ixO; dsimp only; cases endD a <;> cases endD b <;> rfl
theorem popAt {xs : List D} {i : Int} {k : Nat} {y : D} (h : ixN xs.length i = some k) (hy : xs[k]? = some y) (hi : -(2 ^ 63) ≤ i ∧ i < 2 ^ 63) : gPopAt (.lst xs) [.int i] = some (.lst (xs.eraseIdx k), y) := by
  unfold gPopAt
  dsimp only
  rw [h]; dsimp only
  rw [hy]; dsimp only
  rw [if_pos hi]
end MP

set_option Elab.async false
set_option linter.all false
set_option maxRecDepth 100000
set_option maxHeartbeats 4000000
/-! EV3: the forms of MP33 to MP44, walks and comprehensions in general, run by simp. -/
namespace MP
open PySem PySem.Spec PyProof.Rows L2
section
variable (sl : Sls) (st : Sto)
/-! calls of values -/
def glX (nm : String) (r : RV) : D → Res RV
  | .gl m => if m = nm then .ok r sl st else .no
  | _ => .no
@[simp] theorem ev_glX (nm : String) (r : RV) : glX sl st nm r (.gl nm) = .ok r sl st := if_pos rfl
def glK (nm : String) (r : RV) : Mn RV := fun sl st => see1 (glX sl st nm r) (view sl st r)
@[simp] theorem ev_glK (nm : String) (r : RV) : glK nm r sl st = see1 (glX sl st nm r) (view sl st r) := rfl
@[simp] theorem ev_mGl (nm : String) (mo : Mn RV) : mGl nm mo sl st = Res.bind (mo sl st) (glK nm) := by
  unfold mGl bnd Res.bind
  cases mo sl st with
  | no => rfl
  | exc => rfl
  | ok r s t =>
    dsimp only; unfold glK see1
    cases view s t r with
    | none => rfl
    | some x => cases x <;> rfl
def callTK (φ : Fn) (n : Nat) (ds : List D) : Mn RV := fun sl st => match ds with
  | _ :: ds => if ds.length = n then ofC sl (φ ds st) else .no
  | [] => .no
@[simp] theorem ev_callTK (φ : Fn) (n : Nat) (d : D) (ds : List D) (h : ds.length = n) : callTK φ n (d :: ds) sl st = ofC sl (φ ds st) := if_pos h
@[simp] theorem ev_callT (φ : Fn) (n : Nat) (rs : List RV) : callT φ n rs sl st = Res.bind (escs rs sl st) (callTK φ n) := by
  unfold callT bnd Res.bind
  cases escs rs sl st with
  | no => rfl
  | exc => rfl
  | ok ds s t => cases ds <;> rfl
def onFn (k : Fn → Nat → Res RV) : Option (Fn × Nat) → Res RV
  | some p => k p.1 p.2
  | none => .no
@[simp] theorem ev_onFn (k : Fn → Nat → Res RV) (φ : Fn) (n : Nat) : onFn k (some (φ, n)) = k φ n := rfl
def callX2 (tf tc : List (String × Fn × Nat)) (mo : Mn RV) (ma : Mn (List RV)) : D → Res RV
  | .gl nm => onFn (fun φ n => mOp (callT φ n) (mCons (mGl nm mo) ma) sl st) (List.lookup nm tf)
  | .obj C _ => onFn (fun φ n => mOp (mGuard (gHead C) (callF φ n)) (mCons (mIns C "__call__" mo) ma) sl st) (List.lookup C tc)
  | _ => .no
@[simp] theorem ev_callX2f (tf tc : List (String × Fn × Nat)) (mo : Mn RV) (ma : Mn (List RV)) (nm : String) : callX2 sl st tf tc mo ma (.gl nm) = onFn (fun φ n => mOp (callT φ n) (mCons (mGl nm mo) ma) sl st) (List.lookup nm tf) := rfl
@[simp] theorem ev_callX2o (tf tc : List (String × Fn × Nat)) (mo : Mn RV) (ma : Mn (List RV)) (C : String) (fs : List (Str × D)) : callX2 sl st tf tc mo ma (.obj C fs) = onFn (fun φ n => mOp (mGuard (gHead C) (callF φ n)) (mCons (mIns C "__call__" mo) ma) sl st) (List.lookup C tc) := rfl
def callX1 (tf tc : List (String × Fn × Nat)) (mo : Mn RV) (ma : Mn (List RV)) : Res RV → Res RV
  | .ok r sl1 st1 => see1 (callX2 sl st tf tc mo ma) (view sl1 st1 r)
  | _ => .no
@[simp] theorem ev_callX1 (tf tc : List (String × Fn × Nat)) (mo : Mn RV) (ma : Mn (List RV)) (r : RV) (sl1 : Sls) (st1 : Sto) : callX1 sl st tf tc mo ma (.ok r sl1 st1) = see1 (callX2 sl st tf tc mo ma) (view sl1 st1 r) := rfl
@[simp] theorem ev_mCallX (tf tc : List (String × Fn × Nat)) (mo : Mn RV) (ma : Mn (List RV)) : mCallX tf tc mo ma sl st = callX1 sl st tf tc mo ma (mo sl st) := by
  unfold mCallX callX1
  cases mo sl st with
  | no => rfl
  | exc => rfl
  | ok r s t =>
    dsimp only; unfold see1
    cases view s t r with
    | none => rfl
    | some x => cases x with
      | gl nm =>
        dsimp only [callX2]; unfold onFn
        cases List.lookup nm tf <;> rfl
      | obj C fs =>
        dsimp only [callX2]; unfold onFn
        cases List.lookup C tc <;> rfl
      | _ => rfl
@[simp] theorem ev_gHead (C : String) (fs : List (Str × D)) (xs : List D) : gHead C (.obj C fs :: xs) = true := by simp [gHead]
/-! stars -/
def starK2 (xs : List D) (rs : List RV) : Mn (List RV) := unit (xs.map RV.d ++ rs)
@[simp] theorem ev_starK2 (xs : List D) (rs : List RV) : starK2 xs rs sl st = .ok (xs.map RV.d ++ rs) sl st := rfl
def starK (b : Mn (List RV)) : RV → Mn (List RV)
  | .d (.tup xs) => bnd b (starK2 xs)
  | _ => mNo
@[simp] theorem ev_starK (b : Mn (List RV)) (xs : List D) : starK b (.d (.tup xs)) sl st = Res.bind (b sl st) (starK2 xs) := rfl
@[simp] theorem ev_mStar (a : Mn RV) (b : Mn (List RV)) : mStar a b sl st = Res.bind (a sl st) (starK b) := by
  unfold mStar bnd Res.bind
  cases a sl st with
  | no => rfl
  | exc => rfl
  | ok r s t => cases r with
    | d x => cases x <;> rfl
    | _ => rfl
theorem ev_escD : ∀ xs : List D, escs (xs.map RV.d) sl st = .ok xs sl st
  | [] => rfl
  | x :: xs => by
    rw [List.map_cons, ev_escc, ev_ed, ev_bok, ev_escK1, ev_escD xs, ev_bok, ev_escK2]
/-! texts as walks -/
@[simp] theorem ev_gListS (x : Str) (h : x.cps.size ≤ sizeLine) : gListS [.str x] = .f (.lst (chars x)) := if_pos h
def srcX : D → Res (List D × Hd)
  | .str x => .ok (chars x, .none) sl st
  | _ => .no
@[simp] theorem ev_srcX (x : Str) : srcX sl st (.str x) = .ok (chars x, .none) sl st := rfl
@[simp] theorem ev_srcS (r : RV) : srcS r sl st = see1 (srcX sl st) (view sl st r) := by
  unfold srcS see1
  cases view sl st r with
  | none => rfl
  | some x => cases x <;> rfl
@[simp] theorem ev_mSrcS (m : Mn RV) : mSrcS m sl st = Res.bind (m sl st) srcS := rfl
@[simp] theorem ev_gLr2 (i j : Int) (h : (-(2 ^ 62) ≤ i ∧ i < 2 ^ 62 ∧ -(2 ^ 62) ≤ j ∧ j < 2 ^ 62) ∧ (j - i).toNat ≤ 2 ^ 24) : gLr [.int i, .int j] = .f (.lst (upto i j)) := if_pos h
/-! sorted -/
def srtK (xs ks : List D) (st' : Sto) : Option (List PyData) → Res RV
  | some kz => if srtOk kz = true then .ok (.f (.lst (srtV kz xs))) sl st' else .no
  | none => .no
def srtK1 (xs : List D) : Option (List D × Sto) → Res RV
  | some (ks, st') => srtK sl xs ks st' (dats ks)
  | none => .no
def srtK0 (φ : Fn) (ds : List D) : Mn RV := fun sl st => match ds with
  | [.lst xs] => srtK1 sl xs (keysL φ xs st)
  | _ => .no
theorem ev_srtK0 (φ : Fn) (xs ks : List D) (kz : List PyData) (h1 : keysL φ xs st = some (ks, st)) (h2 : dats ks = some kz) (h3 : srtOk kz = true) : srtK0 φ [.lst xs] sl st = .ok (.f (.lst (srtV kz xs))) sl st := by
  show srtK1 sl xs (keysL φ xs st) = _
  rw [h1]
  show srtK sl xs ks st (dats ks) = _
  rw [h2]
  exact if_pos h3
@[simp] theorem ev_mSortK (φ : Fn) (rs : List RV) : mSortK φ rs sl st = Res.bind (escs rs sl st) (srtK0 φ) := by
  unfold mSortK bnd Res.bind
  cases escs rs sl st with
  | no => rfl
  | exc => rfl
  | ok ds s t =>
    dsimp only
    unfold srtK0
    split
    · rename_i xs
      try dsimp only
      unfold srtK1
      cases keysL φ xs t with
      | none => rfl
      | some p =>
        obtain ⟨ks, st'⟩ := p
        try dsimp only
        unfold srtK
        cases dats ks <;> rfl
    · first
        | rfl
        | (rename_i h
           split
           · exact (h _ rfl).elim
           · rfl)
theorem keysL_all {φ : Fn} {g : D → D} : ∀ {xs : List D}, (∀ x ∈ xs, φ [x] st = .ok (.d (g x)) st) → keysL φ xs st = some (xs.map g, st)
  | [], _ => rfl
  | x :: xs, h => by
    unfold keysL
    rw [h x (by simp)]
    dsimp only
    rw [keysL_all fun y hy => h y (by simp [hy])]
    rfl
/-! repr -/
theorem ev_gRepr (x : D) (d : PyData) (h : dat x = some d) (h1 : d.showable = true) (h2 : d.depth ≤ 60) (h3 : d.shown.length ≤ sizeLine) : gRepr [x] = .d (.str d.shown) := by
  show (match dat x with | some d => _ | none => _) = _
  rw [h]
  exact if_pos ⟨h1, h2, h3⟩
/-! comprehensions, walks -/
theorem comp_all {t : Tgt} {tt : Mn Bool} {te : Mn RV} {vs : List Nat} (p : D → Bool) (g : D → D) (s1 : D → Sls) : ∀ (xs acc : List D), (∀ x ∈ xs, mTgt t x sl st = .ok .nx (s1 x) st ∧ tt (s1 x) st = .ok (p x) (s1 x) st ∧ (p x = true → Res.bind (te (s1 x) st) (fun r sl st => esc r sl st) = .ok (g x) (s1 x) st) ∧ wipeS (s1 x) vs = sl ∧ noLk (s1 x) vs = true) → acc.length + xs.length < 100000 →
    compL t tt te vs xs acc sl st = .ok (acc ++ (xs.filter p).map g) sl st
  | [], acc, _, _ => by simp [comp_nil]
  | x :: xs, acc, h, hl => by
    obtain ⟨h1, h2, h3, h4, h5⟩ := h x (by simp)
    have hl' : acc.length < 100000 := by simp at hl; omega
    cases hp : p x with
    | true =>
      have h3 := h3 hp
      cases e : te (s1 x) st with
      | no => rw [e] at h3; cases h3
      | exc => rw [e] at h3; cases h3
      | ok r s t' =>
        rw [e] at h3
        rw [hp] at h2
        rw [comp_yes sl st h1 h2 e h3 hl' h5, h4, comp_all p g s1 xs (acc ++ [g x]) (fun y hy => h y (by simp [hy])) (by simp at hl ⊢; omega)]
        simp [hp]
    | false =>
      rw [hp] at h2
      rw [comp_no sl st h1 h2 h5, h4, comp_all p g s1 xs acc (fun y hy => h y (by simp [hy])) (by simp at hl ⊢; omega)]
      simp [hp]
end
section
variable (sl : Sls) (st : Sto)
def chK4 (g' : List D → PR) (b c : RV) : Mn RV := mPure g' [b, c]
@[simp] theorem ev_chK4 (g' : List D → PR) (b c : RV) : chK4 g' b c sl st = mPure g' [b, c] sl st := rfl
def chK3 (g' : List D → PR) (mc : Mn RV) (b : RV) : PR → Res RV
  | .d (.bl true) => Res.bind (mc sl st) (chK4 g' b)
  | .d (.bl false) => .ok (.d (.bl false)) sl st
  | _ => .no
@[simp] theorem ev_chK3t (g' : List D → PR) (mc : Mn RV) (b : RV) : chK3 sl st g' mc b (.d (.bl true)) = Res.bind (mc sl st) (chK4 g' b) := rfl
@[simp] theorem ev_chK3f (g' : List D → PR) (mc : Mn RV) (b : RV) : chK3 sl st g' mc b (.d (.bl false)) = .ok (.d (.bl false)) sl st := rfl
def chK2 (g g' : List D → PR) (mc : Mn RV) (a b : RV) : Mn RV := fun sl st => seen (fun xs => chK3 sl st g' mc b (g xs)) (views sl st [a, b])
@[simp] theorem ev_chK2 (g g' : List D → PR) (mc : Mn RV) (a b : RV) : chK2 g g' mc a b sl st = seen (fun xs => chK3 sl st g' mc b (g xs)) (views sl st [a, b]) := rfl
def chK1 (g g' : List D → PR) (mb mc : Mn RV) (a : RV) : Mn RV := bnd mb (chK2 g g' mc a)
@[simp] theorem ev_chK1 (g g' : List D → PR) (mb mc : Mn RV) (a : RV) : chK1 g g' mb mc a sl st = Res.bind (mb sl st) (chK2 g g' mc a) := rfl
@[simp] theorem ev_mChain (g g' : List D → PR) (ma mb mc : Mn RV) : mChain g g' ma mb mc sl st = Res.bind (ma sl st) (chK1 g g' mb mc) := by
  unfold mChain bnd Res.bind
  cases ma sl st with
  | no => rfl
  | exc => rfl
  | ok a s t =>
    dsimp only
    unfold chK1 bnd
    cases mb s t with
    | no => rfl
    | exc => rfl
    | ok b s2 t2 =>
      dsimp only
      unfold chK2 seen
      cases views s2 t2 [a, b] with
      | none => rfl
      | some xs =>
        dsimp only
        cases e : g xs with
        | d x => cases x with
          | bl b' => cases b' <;> rfl
          | _ => rfl
        | _ => rfl
end
@[simp] theorem ev_isN0 (neg : Bool) : gIsN neg [.non, .non] = .d (.bl (!neg)) := rfl
@[simp] theorem ev_isN1 (neg : Bool) (i : Int) : gIsN neg [.int i, .non] = .d (.bl neg) := rfl
@[simp] theorem ev_isN2 (neg : Bool) (i : List D) : gIsN neg [.tup i, .non] = .d (.bl neg) := rfl
@[simp] theorem ev_isN3 (neg : Bool) (i : Str) : gIsN neg [.str i, .non] = .d (.bl neg) := rfl
@[simp] theorem ev_isN4 (neg : Bool) (i : String) : gIsN neg [.gl i, .non] = .d (.bl neg) := rfl
@[simp] theorem ev_isN5 (neg : Bool) (C : String) (i : List (Str × D)) : gIsN neg [.obj C i, .non] = .d (.bl neg) := rfl
@[simp] theorem ev_isN6 (neg : Bool) (i : List D) : gIsN neg [.lst i, .non] = .d (.bl neg) := rfl
theorem set_back {α : Type} {l : List α} {i : Nat} {x y : α} (h : l[i]? = some x) : (l.set i y).set i x = l := by
  apply List.ext_getElem?
  intro j
  by_cases c : i = j
  · subst c
    rw [List.set_set, h, List.getElem?_set_self (List.getElem?_eq_some_iff.mp h).1]
  · rw [List.getElem?_set_ne c, List.getElem?_set_ne c]
section
variable {v : Nat} {tt : Mn Bool} {te : Mn RV} {sl : Sls} {st : Sto} {xs : List D} {s : Sl}
/-- what the test and the item do with one value -/
def CompAt (v : Nat) (tt : Mn Bool) (te : Mn RV) (p : D → Bool) (g : D → D) (sl : Sls) (st : Sto) (x : D) : Prop := tt (sl.set v (.d x)) st = .ok (p x) (sl.set v (.d x)) st ∧ (p x = true → Res.bind (te (sl.set v (.d x)) st) (fun r sl st => esc r sl st) = .ok (g x) (sl.set v (.d x)) st)
theorem noLk_set {sl : Sls} {v : Nat} {x : Sl} (h : v < sl.length) (hx : x.fr) : noLk (sl.set v x) [v] = true := by
  simp only [ev_noLk1, ev_noLk0, Bool.and_true, List.getElem?_set_self h]
  exact ev_frBf x hx
theorem noLk_at {sl : Sls} {v : Nat} {s : Sl} (h : sl[v]? = some s) (hx : s.fr) : noLk sl [v] = true := by
  simp only [ev_noLk1, ev_noLk0, Bool.and_true, h]
  exact ev_frBf s hx
theorem comp_core (p : D → Bool) (g : D → D) (hs : sl[v]? = some s) (H : ∀ x ∈ xs, CompAt v tt te p g sl st x) (hl : xs.length < 100000) : compL (.nm v) tt te [v] xs [] (sl.set v .u) st = .ok ((xs.filter p).map g) (sl.set v .u) st := by
  have lt := (List.getElem?_eq_some_iff.mp hs).1
  have lt2 : v < (sl.set v .u).length := by simpa using lt
  refine (comp_all (sl.set v .u) st p g (fun x => sl.set v (.d x)) xs [] (fun x hx => ?_) (by simpa using hl)).trans (by simp)
  obtain ⟨h1, h2⟩ := H x hx
  refine ⟨?_, h1, h2, ?_, noLk_set lt trivial⟩
  · rw [ev_tnm, ev_assign, List.getElem?_set_self lt, ev_asgU, ev_pd, List.set_set]
  · rw [ev_wipe1, ev_wipe0, List.set_set]
theorem comp1 (p : D → Bool) (g : D → D) (hs : sl[v]? = some s) (fr : s.fr) (H : ∀ x ∈ xs, CompAt v tt te p g sl st x) (hl : xs.length < 100000) : compK [v] (.nm v) tt te (xs, .none) sl st = .ok (.f (.lst ((xs.filter p).map g))) sl st := by
  rw [ev_compK sl st [v] _ tt te xs .none (noLk_at hs fr), ev_ls0, ev_lc0, ev_wipe1, ev_wipe0, comp_core p g hs H hl, ev_compR, ev_us0, ev_uc0, ev_ls0, ev_back1, ev_back0, hs, ev_bkS, set_back hs]
theorem comp1S {j : Nat} (p : D → Bool) (g : D → D) (hs : sl[v]? = some s) (fr : s.fr) (hj : sl[j]? = some (.o (.lst xs))) (ne : v ≠ j) (H : ∀ x ∈ xs, CompAt v tt te p g (sl.set j (.lk (.lst xs))) st x) (hl : xs.length < 100000) : compK [v] (.nm v) tt te (xs, .sl j) sl st = .ok (.f (.lst ((xs.filter p).map g))) sl st := by
  have hs2 : (sl.set j (.lk (.lst xs)))[v]? = some s := by rw [List.getElem?_set_ne (Ne.symm ne)]; exact hs
  have lj := (List.getElem?_eq_some_iff.mp hj).1
  have el := ev_lsl sl j _ hj
  rw [ev_compK sl st [v] _ tt te xs (.sl j) (by rw [el]; exact noLk_at hs2 fr), el, ev_lc1, ev_wipe1, ev_wipe0, comp_core p g hs2 H hl, ev_compR, ev_uc1, el, ev_back1, ev_back0, hs2, ev_bkS, set_back hs2]
  rw [ev_usl sl j (.lst xs) (.lst xs) _ hj (List.getElem?_set_self lj), set_back hj]
theorem comp1C {i : Nat} (p : D → Bool) (g : D → D) (hs : sl[v]? = some s) (fr : s.fr) (hi : st[i]? = some (.c (.lst xs))) (H : ∀ x ∈ xs, CompAt v tt te p g sl (st.set i (.lk (.lst xs))) x) (hl : xs.length < 100000) : compK [v] (.nm v) tt te (xs, .ce i) sl st = .ok (.f (.lst ((xs.filter p).map g))) sl st := by
  have li := (List.getElem?_eq_some_iff.mp hi).1
  have el := ev_lce st i _ hi
  rw [ev_compK sl st [v] _ tt te xs (.ce i) (by rw [ev_ls1]; exact noLk_at hs fr), el, ev_ls1, ev_wipe1, ev_wipe0, comp_core p g hs H hl, ev_compR, ev_us1, ev_ls1, ev_back1, ev_back0, hs, ev_bkS, set_back hs]
  rw [ev_uce st i (.lst xs) (.lst xs) _ hi (List.getElem?_set_self li), set_back hi]
end
theorem forL_inv {t : Tgt} {b : Mn Fl} (I : List D → Sls → Sto → Prop) (hs : ∀ x xs sl st, I (x :: xs) sl st → ∃ sl' st', I xs sl' st' ∧ Res.bind (mTgt t x sl st) (seqK b) = .ok .nx sl' st') : ∀ xs sl st, I xs sl st → ∃ sl' st', I [] sl' st' ∧ forL t b xs sl st = .ok .nx sl' st' := by
  intro xs
  induction xs with
  | nil => exact fun sl st h => ⟨sl, st, h, rfl⟩
  | cons x xs ih =>
    intro sl st h
    obtain ⟨sl1, st1, h1, e1⟩ := hs x xs sl st h
    obtain ⟨sl2, st2, h2, e2⟩ := ih sl1 st1 h1
    refine ⟨sl2, st2, h2, ?_⟩
    rw [ev_forc]
    cases et : mTgt t x sl st with
    | no => rw [et] at e1; cases e1
    | exc => rw [et] at e1; cases e1
    | ok f s1 t1 =>
      rw [et] at e1
      rw [ev_bok] at e1 ⊢
      cases f with
      | nx =>
        rw [ev_seqN] at e1 ⊢
        rw [ev_bodyK, e1, ev_bok, ev_stepN]
        exact e2
      | _ => cases e1
theorem while_step {t : Mn Bool} {b : Mn Fl} {n : Nat} {sl sl1 sl2 : Sls} {st st1 st2 : Sto} (h : t sl st = .ok true sl1 st1) (hb : b sl1 st1 = .ok .nx sl2 st2) : mWhile t b (n + 1) sl st = mWhile t b n sl2 st2 := by
  show bnd t _ sl st = _
  unfold bnd; rw [h]; dsimp only
  show bnd b _ sl1 st1 = _
  unfold bnd; rw [hb]
theorem while_end {t : Mn Bool} {b : Mn Fl} {n : Nat} {sl sl1 : Sls} {st st1 : Sto} (h : t sl st = .ok false sl1 st1) : mWhile t b (n + 1) sl st = .ok .nx sl1 st1 := by
  show bnd t _ sl st = _
  unfold bnd; rw [h]; rfl
theorem seq_step {a b : Mn Fl} {sl sl' : Sls} {st st' : Sto} {r : Res Fl} (h : a sl st = .ok .nx sl' st') (k : b sl' st' = r) : mSeq a b sl st = r := by
  rw [ev_mSeq, h]; exact k
theorem bind_ok {α β : Type} {q : Res α} {k : α → Mn β} {a : α} {sl : Sls} {st : Sto} {r : Res β} (h : q = .ok a sl st) (e : k a sl st = r) : Res.bind q k = r := by
  rw [h]; exact e
theorem eraseIdx_map' {α β : Type} (f : α → β) : ∀ (xs : List α) (k : Nat), (xs.map f).eraseIdx k = (xs.eraseIdx k).map f
  | [], _ => rfl
  | x :: xs, 0 => rfl
  | x :: xs, k + 1 => congrArg (List.cons (f x)) (eraseIdx_map' f xs k)
/-- popping by a number that is an index -/
theorem pop_nth {α : Type} (f : α → D) (xs : List α) (r : Int) (h0 : 0 ≤ r) (h1 : r < xs.length) (hb : xs.length ≤ 100000) : ∃ y, y ∈ xs ∧ gPopAt (.lst (xs.map f)) [.int r] = some (.lst ((xs.eraseIdx r.toNat).map f), f y) := by
  have hk : r.toNat < xs.length := by omega
  refine ⟨xs[r.toNat], List.getElem_mem hk, ?_⟩
  have ix : ixN (xs.map f).length r = some r.toNat := by
    unfold ixN
    rw [if_pos h0, if_pos (by simpa using h1)]
  rw [popAt ix (y := f xs[r.toNat]) (by simp [hk]) (by omega)]
  rw [eraseIdx_map']
/-! data whose repr is short -/
def Fit (k w : Nat) (x : D) : Prop := ∃ d, dat x = some d ∧ d.showable = true ∧ d.leavesShort 13 = true ∧ d.depth ≤ k ∧ d.weight ≤ w
def Fits (k w : Nat) (xs : List D) : Prop := ∃ ds, dats xs = some ds ∧ PyData.showableAll ds = true ∧ PyData.leavesShortAll 13 ds = true ∧ PyData.depthAll ds ≤ k ∧ PyData.weightAll ds ≤ w
theorem Fit.mono {k w k' w' : Nat} {x : D} (h : Fit k w x) (hk : k ≤ k') (hw : w ≤ w') : Fit k' w' x := by
  obtain ⟨d, h1, h2, h3, h4, h5⟩ := h
  exact ⟨d, h1, h2, h3, Nat.le_trans h4 hk, Nat.le_trans h5 hw⟩
theorem Fits.mono {k w k' w' : Nat} {x : List D} (h : Fits k w x) (hk : k ≤ k') (hw : w ≤ w') : Fits k' w' x := by
  obtain ⟨d, h1, h2, h3, h4, h5⟩ := h
  exact ⟨d, h1, h2, h3, Nat.le_trans h4 hk, Nat.le_trans h5 hw⟩
theorem fit_non {k : Nat} : Fit k 0 .non := ⟨.none, rfl, rfl, rfl, Nat.zero_le _, Nat.le_refl _⟩
theorem fit_bl {k : Nat} (b : Bool) : Fit k 0 (.bl b) := ⟨.bool b, rfl, rfl, rfl, Nat.zero_le _, Nat.le_refl _⟩
theorem fit_int {k : Nat} {i : Int} (h : i.natAbs < 10 ^ 12) : Fit k 41 (.int i) := by
  have hl : i.natAbs.log2 < 40 := by
    by_cases z : i.natAbs = 0
    · rw [z]; decide
    · exact (Nat.log2_lt z).mpr (Nat.lt_of_lt_of_le h (by decide))
  refine ⟨.int i, rfl, ?_, ?_, Nat.zero_le _, ?_⟩
  · simp only [PyData.showable, decide_eq_true_eq]; omega
  · simp only [PyData.leavesShort, decide_eq_true_eq]; exact PyData.shown_int_le h
  · simp only [PyData.weight]; split <;> omega
theorem fit_str {k n : Nat} {s : Str} (h : s.cps.size ≤ n) (hc : ∀ c ∈ s.cps.toList, c < 1000) : Fit k n (.str s) := by
  refine ⟨.str s, rfl, rfl, ?_, Nat.zero_le _, h⟩
  simp only [PyData.leavesShort, List.all_eq_true, decide_eq_true_eq]
  intro c hm
  exact Nat.lt_of_lt_of_le (hc c hm) (by decide)
theorem fits_nil {k : Nat} : Fits k 0 [] := ⟨[], rfl, rfl, rfl, Nat.zero_le _, Nat.le_refl _⟩
theorem fits_cons {k w w' : Nat} {x : D} {xs : List D} (h : Fit k w x) (t : Fits k w' xs) : Fits k (w + 1 + w') (x :: xs) := by
  obtain ⟨d, h1, h2, h3, h4, h5⟩ := h
  obtain ⟨ds, t1, t2, t3, t4, t5⟩ := t
  refine ⟨d :: ds, ?_, ?_, ?_, ?_, ?_⟩
  · show (match dat x, dats xs with | some d, some ds => some (d :: ds) | _, _ => none) = _
    rw [h1, t1]
  · simp only [PyData.showableAll, h2, t2, Bool.and_self]
  · simp only [PyData.leavesShortAll, h3, t3, Bool.and_self]
  · simp only [PyData.depthAll]; omega
  · simp only [PyData.weightAll]; omega
theorem fits_all {k w : Nat} : ∀ {xs : List D}, (∀ x ∈ xs, Fit k w x) → Fits k ((w + 1) * xs.length) xs
  | [], _ => fits_nil.mono (Nat.le_refl _) (Nat.zero_le _)
  | x :: xs, h => (fits_cons (h x (by simp)) (fits_all fun y hy => h y (by simp [hy]))).mono (Nat.le_refl _) (by rw [List.length_cons, Nat.mul_add]; omega)
theorem fit_tup {k w : Nat} {xs : List D} (h : Fits k w xs) : Fit (k + 1) w (.tup xs) := by
  obtain ⟨ds, t1, t2, t3, t4, t5⟩ := h
  refine ⟨.tuple ds, ?_, ?_, ?_, ?_, ?_⟩
  · show (match dats xs with | some ds => some (PyData.tuple ds) | none => none) = _
    rw [t1]
  · simp only [PyData.showable, t2]
  · simp only [PyData.leavesShort, t3]
  · simp only [PyData.depth]; omega
  · simp only [PyData.weight]; exact t5
theorem fit_lst {k w : Nat} {xs : List D} (h : Fits k w xs) : Fit (k + 1) w (.lst xs) := by
  obtain ⟨ds, t1, t2, t3, t4, t5⟩ := h
  refine ⟨.list ds, ?_, ?_, ?_, ?_, ?_⟩
  · show (match dats xs with | some ds => some (PyData.list ds) | none => none) = _
    rw [t1]
  · simp only [PyData.showable, t2]
  · simp only [PyData.leavesShort, t3]
  · simp only [PyData.depth]; omega
  · simp only [PyData.weight]; exact t5
theorem fit_repr {k w : Nat} {x : D} (h : Fit k w x) (hk : k ≤ 60) (hw : w ≤ 2 ^ 20) : ∃ t, gRepr [x] = .d (.str t) := by
  obtain ⟨d, h1, h2, h3, h4, h5⟩ := h
  exact ⟨_, ev_gRepr x d h1 h2 (Nat.le_trans h4 hk) (PyData.shown_fits (B := 13) (by decide) (by decide) h3 (Nat.le_trans h5 hw))⟩
end MP

set_option Elab.async false
set_option linter.all false
set_option maxRecDepth 100000
set_option maxHeartbeats 4000000
namespace MP
namespace Law
open PySem PySem.Spec PyProof.Rows L2
open He
def top (i : Nat) : Stmt := PySem.Challenge.pw_noworsecache_k02_whole_traces_joined.main.body.getD i (.Pass ⟨0, 0, 0, 0⟩)
abbrev s__law_hand : Stmt := top 28
abbrev s__law_draw : Stmt := top 29
abbrev s__law_trace : Stmt := top 30
abbrev s_is_integer : Stmt := top 12
abbrev s_is_between : Stmt := top 13
abbrev s_is_text_of : Stmt := top 14
abbrev s_is_name : Stmt := top 16
abbrev s_is_path : Stmt := top 17
abbrev s_is_page : Stmt := top 15
abbrev s_is_request : Stmt := top 21
abbrev s_check_requests : Stmt := top 22
abbrev s_Trace_D_init_D : Stmt := inClass (top 24) 0
abbrev s_check_number : Stmt := top 19
abbrev s_Trace_end : Stmt := inClass (top 24) 1
abbrev s_Trace_later : Stmt := inClass (top 24) 5
abbrev s_Trace_D_add_D : Stmt := inClass (top 24) 14
abbrev s_Trace_rows : Stmt := inClass (top 24) 2
abbrev s__law_added : Stmt := top 31
abbrev s_moment_of : Stmt := top 26
abbrev s_merged : Stmt := top 25
abbrev s_Trace_D_or_D : Stmt := inClass (top 24) 15
abbrev s__law_merged : Stmt := top 32
abbrev s_Trace_D_eq_D : Stmt := inClass (top 24) 13
abbrev s_Trace_pages : Stmt := inClass (top 24) 6
abbrev s_Trace_D_len_D : Stmt := inClass (top 24) 9
abbrev s_Trace_paths : Stmt := inClass (top 24) 7
abbrev s_check_path : Stmt := top 18
abbrev s_is_below : Stmt := top 23
abbrev s_Trace_of : Stmt := inClass (top 24) 3
abbrev s_Trace_part : Stmt := inClass (top 24) 4
abbrev s_law : Stmt := top 33
def ownCs : List String := ["Trace"]
def fnL : List String := []
def isaL : List ((String × String) × Bool) := [(("NoneType", "int"), false), (("NoneType", "bool"), false), (("NoneType", "str"), false), (("NoneType", "list"), false), (("NoneType", "tuple"), false), (("NoneType", "Trace"), false), (("bool", "int"), true), (("bool", "bool"), true), (("bool", "str"), false), (("bool", "list"), false), (("bool", "tuple"), false), (("bool", "Trace"), false), (("int", "int"), true), (("int", "bool"), false), (("int", "str"), false), (("int", "list"), false), (("int", "tuple"), false), (("int", "Trace"), false), (("str", "int"), false), (("str", "bool"), false), (("str", "str"), true), (("str", "list"), false), (("str", "tuple"), false), (("str", "Trace"), false), (("list", "int"), false), (("list", "bool"), false), (("list", "str"), false), (("list", "list"), true), (("list", "tuple"), false), (("list", "Trace"), false), (("tuple", "int"), false), (("tuple", "bool"), false), (("tuple", "str"), false), (("tuple", "list"), false), (("tuple", "tuple"), true), (("tuple", "Trace"), false), (("dict", "int"), false), (("dict", "bool"), false), (("dict", "str"), false), (("dict", "list"), false), (("dict", "tuple"), false), (("dict", "Trace"), false), (("Trace", "int"), false), (("Trace", "bool"), false), (("Trace", "str"), false), (("Trace", "list"), false), (("Trace", "tuple"), false), (("Trace", "Trace"), true)]
def isaT : String → String → Option Bool := fun a b => List.lookup (a, b) isaL
def lawFile : Str := "/claim/cut.py"
theorem exm_eq {C D : String} (h : (fun C => if C = D then some true else (none : Option Bool)) C = some true) : C = D := by
  dsimp only at h
  split at h
  · assumption
  · cases h
theorem exm_one {K : PySem.W.Frag} {cn : String → Addr} {D : String} (h : PySem.W.exmOne K (.ref (cn D)) (.ref (cn D)) = some true) : ∀ C b, (fun C => if C = D then some true else (none : Option Bool)) C = some b → PySem.W.exmOne K (.ref (cn C)) (.ref (cn D)) = some b := by
  intro C b e
  dsimp only at e
  split at e
  · rename_i q; cases e; rw [q]; exact h
  · cases e
/-! _law_hand(_law_script, _law_k): _law_script 0, _law_k 1, _law_cell 2, _law_seed 3 -/
noncomputable def m__law_hand : Mn Fl := (mSeq (mSet 2 (mOp (mPure gIx) (mCons (mOp (mPure gAdd) (mCons (mOp (mPure gSl) (mCons (mVar 0) (mCons (mPart (mVar 1)) (mCons (mPart (mOp (mPure gAdd) (mCons (mVar 1) (mCons (mC (.int 1)) mNil)))) mNil)))) (mCons (mOp dispL (mCons (mC (.int 0)) mNil)) mNil))) (mCons (mC (.int 0)) mNil))))
  (mSeq (mSet 3 (mOp (mPure gMod) (mCons (mOp (mPure gMulU) (mCons (mOp (mPure gAdd) (mCons (mOp (mPure gAdd) (mCons (mOp (mPure gMod) (mCons (mVar 2) (mCons (mC (.int 2147483647)) mNil))) (mCons (mOp (mPure gMulU) (mCons (mC (.int 7919)) (mCons (mVar 1) mNil))) mNil))) (mCons (mC (.int 1)) mNil))) (mCons (mC (.int 48271)) mNil))) (mCons (mC (.int 2147483629)) mNil))))
  (mRet (mOp dispL (mCons (mOp (mPure gMulU) (mCons (mOp (mPure gInt) (mCons (mOp (mPure gGe) (mCons (mVar 2) (mCons (mOp (mPure gPow) (mCons (mC (.int 10)) (mCons (mC (.int 18)) mNil))) mNil))) mNil)) (mCons (mVar 2) mNil))) (mCons (mVar 3) mNil))))))
noncomputable def f__law_hand : Fn := runB m__law_hand 4
/-! _law_draw(_law_pool, _law_size): _law_pool 0, _law_size 1, _law_found 2 -/
noncomputable def m__law_draw : Mn Fl := (mSeq (mIf (mTB (mOp (mPure gGt) (mCons (mOp (mPure gIx) (mCons (mVar 0) (mCons (mC (.int 0)) mNil))) (mCons (mC (.int 0)) mNil))))
  (mSeq (mSet 2 (mOp (mPure gMod) (mCons (mOp (mPure gIx) (mCons (mVar 0) (mCons (mC (.int 0)) mNil))) (mCons (mVar 1) mNil))))
  (mSeq (mAsg (mOp (mPure gDiv) (mCons (mOp (mPure gIx) (mCons (mVar 0) (mCons (mC (.int 0)) mNil))) (mCons (mVar 1) mNil))) (.ot (setIx (mVar 0) (mC (.int 0)))))
  (mRet (mVar 2))))
  mSkip)
  (mSeq (mAsg (mOp (mPure gMod) (mCons (mOp (mPure gAdd) (mCons (mOp (mPure gMulU) (mCons (mOp (mPure gIx) (mCons (mVar 0) (mCons (mC (.int 1)) mNil))) (mCons (mC (.int 48271)) mNil))) (mCons (mC (.int 11)) mNil))) (mCons (mC (.int 2147483647)) mNil))) (.ot (setIx (mVar 0) (mC (.int 1)))))
  (mRet (mOp (mPure gMod) (mCons (mOp (mPure gDiv) (mCons (mOp (mPure gMod) (mCons (mOp (mPure gMulU) (mCons (mOp (mPure gIx) (mCons (mVar 0) (mCons (mC (.int 1)) mNil))) (mCons (mOp (mPure gIx) (mCons (mVar 0) (mCons (mC (.int 1)) mNil))) mNil))) (mCons (mC (.int 2147483629)) mNil))) (mCons (mC (.int 64)) mNil))) (mCons (mVar 1) mNil))))))
noncomputable def f__law_draw : Fn := runB m__law_draw 3
/-! _law_trace(_law_pool, _law_paths, _law_most, _law_names): _law_pool 0, _law_paths 1, _law_most 2, _law_names 3, _law_found 4, _law_at 5, _law_turn 6, _law_kind 7, _law_path 8 -/
noncomputable abbrev b0__law_trace : Mn Fl := (mSeq (mSet 5 (mOp (mPure gAdd) (mCons (mVar 5) (mCons (mOp (mPure gIx) (mCons (mOp dispL (mCons (mC (.int 0)) (mCons (mC (.int 0)) (mCons (mC (.int 1)) (mCons (mC (.int 3)) (mCons (mC (.int 12)) mNil)))))) (mCons (mOp (callF f__law_draw 2) (mCons (mVar 0) (mCons (mC (.int 5)) mNil))) mNil))) mNil))))
  (mSeq (mPar [7, 8] (mCons (mOp (mPure gIx) (mCons (mOp dispL (mCons (mC (.str "read")) (mCons (mC (.str "read")) (mCons (mC (.str "write")) mNil)))) (mCons (mOp (callF f__law_draw 2) (mCons (mVar 0) (mCons (mC (.int 3)) mNil))) mNil))) (mCons (mOp (mPure gIx) (mCons (mVar 1) (mCons (mOp (callF f__law_draw 2) (mCons (mVar 0) (mCons (mOp (mPure gLen) (mCons (mVar 1) mNil)) mNil))) mNil))) mNil)))
  (mDo (mOp (mMut gAppend) (mCons (mTy "list" (mVar 4)) (mCons (mOp dispT (mCons (mVar 5) (mCons (mVar 7) (mCons (mVar 8) (mCons (mOp (mPure gIx) (mCons (mVar 3) (mCons (mOp (callF f__law_draw 2) (mCons (mVar 0) (mCons (mOp (mPure gLen) (mCons (mVar 3) mNil)) mNil))) mNil))) mNil))))) mNil))))))
noncomputable def m__law_trace : Mn Fl := (mSeq (mPar [4, 5] (mCons (mOp dispL mNil) (mCons (mC (.int 0)) mNil)))
  (mSeq (mFor (mRng (mCons (mOp (callF f__law_draw 2) (mCons (mVar 0) (mCons (mOp (mPure gAdd) (mCons (mVar 2) (mCons (mC (.int 1)) mNil))) mNil))) mNil)) (.nm 6)
  b0__law_trace)
  (mRet (mVar 4))))
noncomputable def f__law_trace : Fn := runB m__law_trace 9
/-! is_integer(value): value 0 -/
noncomputable def m_is_integer : Mn Fl := (mRet (mAndV (mOp (mPure (gIsiC ownCs isaT)) (mCons (mVar 0) (mCons (mC (.ty "int")) mNil))) (mNotV (mOp (mPure (gIsiC ownCs isaT)) (mCons (mVar 0) (mCons (mC (.ty "bool")) mNil))))))
noncomputable def f_is_integer : Fn := runB m_is_integer 1
/-! is_between(value, least, most): value 0, least 1, most 2 -/
noncomputable def m_is_between : Mn Fl := (mRet (mAndV (mOp (callF f_is_integer 1) (mCons (mVar 0) mNil)) (mChain gLe gLe (mVar 1) (mVar 0) (mVar 2))))
noncomputable def f_is_between : Fn := runB m_is_between 3
/-! is_text_of(value, letters, most): value 0, letters 1, most 2, letter 3 -/
noncomputable abbrev t0_is_text_of : Mn Bool := (unit true)
noncomputable abbrev e1_is_text_of : Mn RV := (mOp (mPure (gDIn false)) (mCons (mVar 3) (mCons (mVar 1) mNil)))
noncomputable def m_is_text_of : Mn Fl := (mRet (mAndV (mOp (mPure (gIsiC ownCs isaT)) (mCons (mVar 0) (mCons (mC (.ty "str")) mNil))) (mAndV (mChain gLe gLe (mC (.int 1)) (mOp (mPure gLen) (mCons (mVar 0) mNil)) (mVar 2)) (mOp (mPure (gAll false)) (mCons (mComp [3] (mSrcS (mVar 0)) (.nm 3) t0_is_text_of e1_is_text_of) mNil)))))
noncomputable def f_is_text_of : Fn := runB m_is_text_of 4
/-! is_name(value): value 0 -/
noncomputable def m_is_name : Mn Fl := (mRet (mOp (callF f_is_text_of 3) (mCons (mVar 0) (mCons (mC (.str "abcdefghijklmnopqrstuvwxyz")) (mCons (mC (.int 8)) mNil)))))
noncomputable def f_is_name : Fn := runB m_is_name 1
/-! is_path(value): value 0, names 1, name 2 -/
noncomputable abbrev t0_is_path : Mn Bool := (unit true)
noncomputable abbrev e1_is_path : Mn RV := (mOp (callF f_is_name 1) (mCons (mVar 2) mNil))
noncomputable def m_is_path : Mn Fl := (mSeq (mIf (mNot (mTB (mOp (mPure (gIsiC ownCs isaT)) (mCons (mVar 0) (mCons (mC (.ty "str")) mNil)))))
  (mRet (mC (.bl false)))
  mSkip)
  (mSeq (mSet 1 (mOp (mPure gSplit) (mCons (mTy "str" (mVar 0)) (mCons (mC (.str "/")) mNil))))
  (mRet (mAndV (mOp (mPure gLe) (mCons (mOp (mPure gLen) (mCons (mVar 1) mNil)) (mCons (mC (.int 3)) mNil))) (mOp (mPure (gAll false)) (mCons (mComp [2] (mSrc (mVar 1)) (.nm 2) t0_is_path e1_is_path) mNil))))))
noncomputable def f_is_path : Fn := runB m_is_path 3
/-! is_page(value): value 0 -/
noncomputable def m_is_page : Mn Fl := (mRet (mOp (callF f_is_text_of 3) (mCons (mVar 0) (mCons (mOp (mPure gAdd) (mCons (mC (.str "abcdefghijklmnopqrstuvwxyz")) (mCons (mC (.str "0123456789")) mNil))) (mCons (mC (.int 12)) mNil)))))
noncomputable def f_is_page : Fn := runB m_is_page 1
/-! is_request(value): value 0 -/
noncomputable def m_is_request : Mn Fl := (mSeq (mIf (mOr (mNot (mTB (mOp (mPure (gIsiC ownCs isaT)) (mCons (mVar 0) (mCons (mC (.ty "tuple")) mNil))))) (mOr (mTB (mOp (mPure (gDEq true)) (mCons (mOp (mPure gLen) (mCons (mVar 0) mNil)) (mCons (mC (.int 4)) mNil)))) (mNot (mTB (mOp (callF f_is_between 3) (mCons (mOp (mPure gIx) (mCons (mVar 0) (mCons (mC (.int 0)) mNil))) (mCons (mC (.int 0)) (mCons (mC (.int 1000000000)) mNil))))))))
  (mRet (mC (.bl false)))
  mSkip)
  (mRet (mAndV (mOp (mPure (gIsiC ownCs isaT)) (mCons (mOp (mPure gIx) (mCons (mVar 0) (mCons (mC (.int 1)) mNil))) (mCons (mC (.ty "str")) mNil))) (mAndV (mOp (mPure (gDIn false)) (mCons (mOp (mPure gIx) (mCons (mVar 0) (mCons (mC (.int 1)) mNil))) (mCons (mC (.tup [.str "read", .str "write"])) mNil))) (mAndV (mOp (callF f_is_path 1) (mCons (mOp (mPure gIx) (mCons (mVar 0) (mCons (mC (.int 2)) mNil))) mNil)) (mOp (callF f_is_page 1) (mCons (mOp (mPure gIx) (mCons (mVar 0) (mCons (mC (.int 3)) mNil))) mNil)))))))
noncomputable def f_is_request : Fn := runB m_is_request 1
/-! check_requests(value): value 0, last 1, position 2, request 3 -/
noncomputable abbrev b0_check_requests : Mn Fl := (mSeq (mIf (mOr (mNot (mTB (mOp (callF f_is_request 1) (mCons (mVar 3) mNil)))) (mTB (mOp (mPure gLt) (mCons (mOp (mPure gIx) (mCons (mVar 3) (mCons (mC (.int 0)) mNil))) (mCons (mVar 1) mNil)))))
  (mRaise "InvalidTrace" "position" (mVar 2))
  mSkip)
  (mSet 1 (mOp (mPure gIx) (mCons (mVar 3) (mCons (mC (.int 0)) mNil)))))
noncomputable def m_check_requests : Mn Fl := (mSeq (mIf (mNot (mTB (mOp (mPure (gIsiT ownCs isaT)) (mCons (mVar 0) (mCons (mOp dispT (mCons (mC (.ty "list")) (mCons (mC (.ty "tuple")) mNil))) mNil)))))
  (mRaise "InvalidTrace" "position" (mC .non))
  mSkip)
  (mSeq (mSet 1 (mC (.int 0)))
  (mFor (mEnum true 0 (mCons (mVar 0) mNil)) (.tp [(.nm 2), (.nm 3)])
  b0_check_requests)))
noncomputable def f_check_requests : Fn := runB m_check_requests 4
/-! Trace.__init__(self, requests): self 0, requests 1 -/
noncomputable def m_Trace_D_init_D : Mn Fl := (mSeq (mDo (mOp (callF f_check_requests 1) (mCons (mVar 1) mNil)))
  (mSetFld ["Trace"] "own_requests" (mVar 0) (mOp (mPure gTupleOf) (mCons (mVar 1) mNil))))
noncomputable def f_Trace_D_init_D : Fn := runI "Trace" m_Trace_D_init_D 2
/-! check_number(value, least, most): value 0, least 1, most 2 -/
noncomputable def m_check_number : Mn Fl := (mIf (mNot (mTB (mOp (callF f_is_between 3) (mCons (mVar 0) (mCons (mVar 1) (mCons (mVar 2) mNil))))))
  (mRaise "InvalidNumber" "value" (mVar 0))
  mSkip)
noncomputable def f_check_number : Fn := runB m_check_number 3
/-! Trace.end(self): self 0 -/
noncomputable def m_Trace_end : Mn Fl := (mRet (mIfE (mTB (mOp (mPure (gDEq true)) (mCons (mOp (mPure (gFld ["Trace"] "own_requests")) (mCons (mVar 0) mNil)) (mCons (mOp dispT mNil) mNil)))) (mOp (mPure gIx) (mCons (mOp (mPure gIx) (mCons (mOp (mPure (gFld ["Trace"] "own_requests")) (mCons (mVar 0) mNil)) (mCons (mOp (mPure gNeg) (mCons (mC (.int 1)) mNil)) mNil))) (mCons (mC (.int 0)) mNil))) (mC (.int 0))))
noncomputable def f_Trace_end : Fn := runB m_Trace_end 1
/-! Trace.later(self, ticks): self 0, ticks 1, at 2, kind 3, path 4, page 5 -/
noncomputable abbrev t0_Trace_later : Mn Bool := (unit true)
noncomputable abbrev e1_Trace_later : Mn RV := (mOp dispT (mCons (mOp (mPure gAdd) (mCons (mVar 2) (mCons (mVar 1) mNil))) (mCons (mVar 3) (mCons (mVar 4) (mCons (mVar 5) mNil)))))
noncomputable def m_Trace_later : Mn Fl := (mSeq (mDo (mOp (callF f_check_number 3) (mCons (mVar 1) (mCons (mC (.int 0)) (mCons (mOp (mPure gSub) (mCons (mC (.int 1000000000)) (mCons (mOp (callF (fun ds st => noEx (f_Trace_end ds st)) 1) (mCons (mIns "Trace" Str.empty (mVar 0)) mNil)) mNil))) mNil)))))
  (mRet (mOp (mkF f_Trace_D_init_D 2 []) (mCons (mComp [2, 3, 4, 5] (mSrc (mOp (mPure (gFld ["Trace"] "own_requests")) (mCons (mVar 0) mNil))) (.tp [(.nm 2), (.nm 3), (.nm 4), (.nm 5)]) t0_Trace_later e1_Trace_later) mNil))))
noncomputable def f_Trace_later : Fn := runB m_Trace_later 6
/-! Trace.__add__(self, other): self 0, other 1 -/
noncomputable def m_Trace_D_add_D : Mn Fl := (mSeq (mIf (mNot (mTB (mOp (mPure (gIsiC ownCs isaT)) (mCons (mVar 1) (mCons (mC (.gl "Trace")) mNil)))))
  mNo
  mSkip)
  (mSeq (mDo (mOp (callF f_check_number 3) (mCons (mOp (mPure gAdd) (mCons (mOp (callF (fun ds st => noEx (f_Trace_end ds st)) 1) (mCons (mIns "Trace" Str.empty (mVar 0)) mNil)) (mCons (mOp (callF (fun ds st => noEx (f_Trace_end ds st)) 1) (mCons (mIns "Trace" Str.empty (mVar 1)) mNil)) mNil))) (mCons (mC (.int 0)) (mCons (mC (.int 1000000000)) mNil)))))
  (mRet (mOp (mkF f_Trace_D_init_D 2 []) (mCons (mOp (mPure gAdd) (mCons (mOp (mPure (gFld ["Trace"] "own_requests")) (mCons (mVar 0) mNil)) (mCons (mOp (mPure (gFld ["Trace"] "own_requests")) (mCons (mOp (callD f_Trace_later 2 []) (mCons (mIns "Trace" "later" (mVar 1)) (mCons (mOp (callF (fun ds st => noEx (f_Trace_end ds st)) 1) (mCons (mIns "Trace" Str.empty (mVar 0)) mNil)) mNil))) mNil)) mNil))) mNil)))))
noncomputable def f_Trace_D_add_D : Fn := runB m_Trace_D_add_D 2
/-! Trace.rows(self): self 0 -/
noncomputable def m_Trace_rows : Mn Fl := (mRet (mOp (mPure gList) (mCons (mOp (mPure (gFld ["Trace"] "own_requests")) (mCons (mVar 0) mNil)) mNil)))
noncomputable def f_Trace_rows : Fn := runB m_Trace_rows 1
/-! _law_added(_law_one, _law_other): _law_one 0, _law_other 1, _law_end 2, _law_row 3 -/
noncomputable abbrev t0__law_added : Mn Bool := (unit true)
noncomputable abbrev e1__law_added : Mn RV := (mOp (mPure gIx) (mCons (mVar 3) (mCons (mC (.int 0)) mNil)))
noncomputable abbrev t2__law_added : Mn Bool := (unit true)
noncomputable abbrev e3__law_added : Mn RV := (mOp dispT (mCons (mOp (mPure gAdd) (mCons (mOp (mPure gIx) (mCons (mVar 3) (mCons (mC (.int 0)) mNil))) (mCons (mVar 2) mNil))) (mCons (mOp (mPure gIx) (mCons (mVar 3) (mCons (mC (.int 1)) mNil))) (mCons (mOp (mPure gIx) (mCons (mVar 3) (mCons (mC (.int 2)) mNil))) (mCons (mOp (mPure gIx) (mCons (mVar 3) (mCons (mC (.int 3)) mNil))) mNil)))))
noncomputable def m__law_added : Mn Fl := (mSeq (mSet 2 (mOp (mPure gIx) (mCons (mOp (mPure gAdd) (mCons (mOp dispL (mCons (mC (.int 0)) mNil)) (mCons (mComp [3] (mSrc (mVar 0)) (.nm 3) t0__law_added e1__law_added) mNil))) (mCons (mOp (mPure gNeg) (mCons (mC (.int 1)) mNil)) mNil))))
  (mRet (mOp (mPure gAdd) (mCons (mVar 0) (mCons (mComp [3] (mSrc (mVar 1)) (.nm 3) t2__law_added e3__law_added) mNil)))))
noncomputable def f__law_added : Fn := runB m__law_added 4
/-! moment_of(request): request 0 -/
noncomputable def m_moment_of : Mn Fl := (mRet (mOp (mPure gIx) (mCons (mVar 0) (mCons (mC (.int 0)) mNil))))
noncomputable def f_moment_of : Fn := runB m_moment_of 1
/-! merged(one, other): one 0, other 1 -/
noncomputable def m_merged : Mn Fl := (mRet (mOp (mSortK f_moment_of) (mCons (mOp dispL (mStar (mVar 0) (mStar (mVar 1) mNil))) mNil)))
noncomputable def f_merged : Fn := runB m_merged 2
/-! Trace.__or__(self, other): self 0, other 1 -/
noncomputable def m_Trace_D_or_D : Mn Fl := (mSeq (mIf (mNot (mTB (mOp (mPure (gIsiC ownCs isaT)) (mCons (mVar 1) (mCons (mC (.gl "Trace")) mNil)))))
  mNo
  mSkip)
  (mRet (mOp (mkF f_Trace_D_init_D 2 []) (mCons (mOp (callF f_merged 2) (mCons (mOp (mPure (gFld ["Trace"] "own_requests")) (mCons (mVar 0) mNil)) (mCons (mOp (mPure (gFld ["Trace"] "own_requests")) (mCons (mVar 1) mNil)) mNil))) mNil))))
noncomputable def f_Trace_D_or_D : Fn := runB m_Trace_D_or_D 2
/-! _law_merged(_law_one, _law_other): _law_one 0, _law_other 1, _law_left 2, _law_found 3, _law_row 4 -/
noncomputable abbrev t0__law_merged : Mn Bool := (mAnd (mTB (mOp (mPure (gDEq true)) (mCons (mVar 2) (mCons (mOp dispL mNil) mNil)))) (mTB (mOp (mPure gLe) (mCons (mOp (mPure gIx) (mCons (mOp (mPure gIx) (mCons (mVar 2) (mCons (mC (.int 0)) mNil))) (mCons (mC (.int 0)) mNil))) (mCons (mOp (mPure gIx) (mCons (mVar 4) (mCons (mC (.int 0)) mNil))) mNil)))))
noncomputable abbrev b1__law_merged : Mn Fl := (mDo (mOp (mMut gAppend) (mCons (mTy "list" (mVar 3)) (mCons (mOp (mMut gPopAt) (mCons (mTy "list" (mVar 2)) (mCons (mC (.int 0)) mNil))) mNil))))
noncomputable abbrev b2__law_merged : Mn Fl := (mSeq (mWhile t0__law_merged b1__law_merged (10 ^ 300))
  (mDo (mOp (mMut gAppend) (mCons (mTy "list" (mVar 3)) (mCons (mVar 4) mNil)))))
noncomputable def m__law_merged : Mn Fl := (mSeq (mPar [2, 3] (mCons (mOp (mPure gList) (mCons (mVar 0) mNil)) (mCons (mOp dispL mNil) mNil)))
  (mSeq (mFor (mSrc (mVar 1)) (.nm 4)
  b2__law_merged)
  (mRet (mOp (mPure gAdd) (mCons (mVar 3) (mCons (mVar 2) mNil))))))
noncomputable def f__law_merged : Fn := runB m__law_merged 5
/-! Trace.__eq__(self, other): self 0, other 1 -/
noncomputable def m_Trace_D_eq_D : Mn Fl := (mRet (mAndV (mOp (mPure (gIsiC ownCs isaT)) (mCons (mVar 1) (mCons (mC (.gl "Trace")) mNil))) (mOp (mPure (gDEq false)) (mCons (mOp (mPure (gFld ["Trace"] "own_requests")) (mCons (mVar 0) mNil)) (mCons (mOp (mPure (gFld ["Trace"] "own_requests")) (mCons (mVar 1) mNil)) mNil)))))
noncomputable def f_Trace_D_eq_D : Fn := runB m_Trace_D_eq_D 2
/-! Trace.pages(self): self 0, request 1 -/
noncomputable abbrev t0_Trace_pages : Mn Bool := (unit true)
noncomputable abbrev e1_Trace_pages : Mn RV := (mOp (mPure gIx) (mCons (mVar 1) (mCons (mC (.int 3)) mNil)))
noncomputable def m_Trace_pages : Mn Fl := (mRet (mSortSC [1] (mSrc (mOp (mPure (gFld ["Trace"] "own_requests")) (mCons (mVar 0) mNil))) (.nm 1) t0_Trace_pages e1_Trace_pages))
noncomputable def f_Trace_pages : Fn := runB m_Trace_pages 2
/-! Trace.__len__(self): self 0 -/
noncomputable def m_Trace_D_len_D : Mn Fl := (mRet (mOp (mPure gLen) (mCons (mOp (mPure (gFld ["Trace"] "own_requests")) (mCons (mVar 0) mNil)) mNil)))
noncomputable def f_Trace_D_len_D : Fn := runB m_Trace_D_len_D 1
/-! Trace.paths(self): self 0, request 1 -/
noncomputable abbrev t0_Trace_paths : Mn Bool := (unit true)
noncomputable abbrev e1_Trace_paths : Mn RV := (mOp (mPure gIx) (mCons (mVar 1) (mCons (mC (.int 2)) mNil)))
noncomputable def m_Trace_paths : Mn Fl := (mRet (mSortSC [1] (mSrc (mOp (mPure (gFld ["Trace"] "own_requests")) (mCons (mVar 0) mNil))) (.nm 1) t0_Trace_paths e1_Trace_paths))
noncomputable def f_Trace_paths : Fn := runB m_Trace_paths 2
/-! check_path(value): value 0 -/
noncomputable def m_check_path : Mn Fl := (mIf (mNot (mTB (mOp (callF f_is_path 1) (mCons (mVar 0) mNil))))
  (mRaise "InvalidName" "value" (mVar 0))
  mSkip)
noncomputable def f_check_path : Fn := runB m_check_path 1
/-! is_below(path, above): path 0, above 1 -/
noncomputable def m_is_below : Mn Fl := (mRet (mOrV (mOp (mPure (gDEq false)) (mCons (mVar 0) (mCons (mVar 1) mNil))) (mOp (mPure gStarts) (mCons (mTy "str" (mVar 0)) (mCons (mOp (mPure gAdd) (mCons (mVar 1) (mCons (mC (.str "/")) mNil))) mNil)))))
noncomputable def f_is_below : Fn := runB m_is_below 2
/-! Trace.of(self, path): self 0, path 1, request 2 -/
noncomputable abbrev t0_Trace_of : Mn Bool := (mTB (mOp (callF f_is_below 2) (mCons (mOp (mPure gIx) (mCons (mVar 2) (mCons (mC (.int 2)) mNil))) (mCons (mVar 1) mNil))))
noncomputable abbrev e1_Trace_of : Mn RV := (mVar 2)
noncomputable def m_Trace_of : Mn Fl := (mSeq (mDo (mOp (callF f_check_path 1) (mCons (mVar 1) mNil)))
  (mRet (mOp (mkF f_Trace_D_init_D 2 []) (mCons (mComp [2] (mSrc (mOp (mPure (gFld ["Trace"] "own_requests")) (mCons (mVar 0) mNil))) (.nm 2) t0_Trace_of e1_Trace_of) mNil))))
noncomputable def f_Trace_of : Fn := runB m_Trace_of 3
/-! Trace.part(self, start, end): self 0, start 1, end 2 -/
noncomputable def m_Trace_part : Mn Fl := (mSeq (mDo (mOp (callF f_check_number 3) (mCons (mVar 1) (mCons (mC (.int 0)) (mCons (mOp (mPure gLen) (mCons (mOp (mPure (gFld ["Trace"] "own_requests")) (mCons (mVar 0) mNil)) mNil)) mNil)))))
  (mSeq (mDo (mOp (callF f_check_number 3) (mCons (mVar 2) (mCons (mVar 1) (mCons (mOp (mPure gLen) (mCons (mOp (mPure (gFld ["Trace"] "own_requests")) (mCons (mVar 0) mNil)) mNil)) mNil)))))
  (mRet (mOp (mkF f_Trace_D_init_D 2 []) (mCons (mOp (mPure gSl) (mCons (mOp (mPure (gFld ["Trace"] "own_requests")) (mCons (mVar 0) mNil)) (mCons (mPart (mVar 1)) (mCons (mPart (mVar 2)) mNil)))) mNil)))))
noncomputable def f_Trace_part : Fn := runB m_Trace_part 3
/-! law(_law_script): _law_script 0, _law_k 1, _law_pool 2, _law_some 3, _law_turn 4, _law_one 5, _law_two 6, _law_three 7, _law_rows 8, _law_both 9, _law_path 10 -/
noncomputable abbrev t0_law : Mn Bool := (unit true)
noncomputable abbrev e1_law : Mn RV := (mOp (callF f__law_trace 4) (mCons (mVar 2) (mCons (mOp dispL (mCons (mC (.str "ann")) (mCons (mC (.str "bob")) (mCons (mC (.str "team/cy")) mNil)))) (mCons (mC (.int 12)) (mCons (mC (.str "abcd")) mNil)))))
noncomputable abbrev t2_law : Mn Bool := (unit true)
noncomputable abbrev e3_law : Mn RV := (mOp (mkF f_Trace_D_init_D 2 []) (mCons (mVar 8) mNil))
noncomputable abbrev b4_law : Mn Fl := (mIf (mOr (mTB (mOp (mGuard (cOO "Trace") (callD (fun ds st => negEx (f_Trace_D_eq_D ds st)) 2 [])) (mCons (mOp (callD f_Trace_of 2 []) (mCons (mIns "Trace" "of" (mVar 9)) (mCons (mVar 10) mNil))) (mCons (mOp (mGuard (cOO "Trace") (callD f_Trace_D_or_D 2 [])) (mCons (mOp (callD f_Trace_of 2 []) (mCons (mIns "Trace" "of" (mVar 5)) (mCons (mVar 10) mNil))) (mCons (mOp (callD f_Trace_of 2 []) (mCons (mIns "Trace" "of" (mVar 6)) (mCons (mVar 10) mNil))) mNil))) mNil)))) (mTB (mOp (mGuard (cOO "Trace") (callD (fun ds st => negEx (f_Trace_D_eq_D ds st)) 2 [])) (mCons (mOp (callD f_Trace_part 3 []) (mCons (mIns "Trace" "part" (mOp (mGuard (cOO "Trace") (callD f_Trace_D_add_D 2 [])) (mCons (mVar 5) (mCons (mVar 6) mNil)))) (mCons (mC (.int 0)) (mCons (mOp (mGuard (gObj "Trace") (callF (fun ds st => lenEx (f_Trace_D_len_D ds st)) 1)) (mCons (mVar 5) mNil)) mNil)))) (mCons (mVar 5) mNil)))))
  (mRet (mC (.bl false)))
  mSkip)
noncomputable abbrev b5_law : Mn Fl := (mSeq (mSet 2 (mCell (mOp (callF f__law_hand 2) (mCons (mVar 0) (mCons (mVar 1) mNil)))))
  (mSeq (mSet 3 (mComp [4] (mRng (mCons (mC (.int 3)) mNil)) (.nm 4) t0_law e1_law))
  (mSeq (mAsg (mComp [8] (mSrc (mVar 3)) (.nm 8) t2_law e3_law) (.ot (tpL [(.nm 5), (.nm 6), (.nm 7)])))
  (mSeq (mIf (mOr (mTB (mOp (mPure (gDEq true)) (mCons (mOp (callD f_Trace_rows 1 []) (mCons (mIns "Trace" "rows" (mOp (mGuard (cOO "Trace") (callD f_Trace_D_add_D 2 [])) (mCons (mVar 5) (mCons (mVar 6) mNil)))) mNil)) (mCons (mOp (callF f__law_added 2) (mCons (mOp (mPure gIx) (mCons (mVar 3) (mCons (mC (.int 0)) mNil))) (mCons (mOp (mPure gIx) (mCons (mVar 3) (mCons (mC (.int 1)) mNil))) mNil))) mNil)))) (mTB (mOp (mPure (gDEq true)) (mCons (mOp (callD f_Trace_rows 1 []) (mCons (mIns "Trace" "rows" (mOp (mGuard (cOO "Trace") (callD f_Trace_D_or_D 2 [])) (mCons (mVar 5) (mCons (mVar 6) mNil)))) mNil)) (mCons (mOp (callF f__law_merged 2) (mCons (mOp (mPure gIx) (mCons (mVar 3) (mCons (mC (.int 0)) mNil))) (mCons (mOp (mPure gIx) (mCons (mVar 3) (mCons (mC (.int 1)) mNil))) mNil))) mNil)))))
  (mRet (mC (.bl false)))
  mSkip)
  (mSeq (mIf (mOr (mTB (mOp (mGuard (cOO "Trace") (callD (fun ds st => negEx (f_Trace_D_eq_D ds st)) 2 [])) (mCons (mOp (mGuard (cOO "Trace") (callD f_Trace_D_add_D 2 [])) (mCons (mOp (mGuard (cOO "Trace") (callD f_Trace_D_add_D 2 [])) (mCons (mVar 5) (mCons (mVar 6) mNil))) (mCons (mVar 7) mNil))) (mCons (mOp (mGuard (cOO "Trace") (callD f_Trace_D_add_D 2 [])) (mCons (mVar 5) (mCons (mOp (mGuard (cOO "Trace") (callD f_Trace_D_add_D 2 [])) (mCons (mVar 6) (mCons (mVar 7) mNil))) mNil))) mNil)))) (mTB (mOp (mGuard (cOO "Trace") (callD (fun ds st => negEx (f_Trace_D_eq_D ds st)) 2 [])) (mCons (mOp (mGuard (cOO "Trace") (callD f_Trace_D_or_D 2 [])) (mCons (mOp (mGuard (cOO "Trace") (callD f_Trace_D_or_D 2 [])) (mCons (mVar 5) (mCons (mVar 6) mNil))) (mCons (mVar 7) mNil))) (mCons (mOp (mGuard (cOO "Trace") (callD f_Trace_D_or_D 2 [])) (mCons (mVar 5) (mCons (mOp (mGuard (cOO "Trace") (callD f_Trace_D_or_D 2 [])) (mCons (mVar 6) (mCons (mVar 7) mNil))) mNil))) mNil)))))
  (mRet (mC (.bl false)))
  mSkip)
  (mSeq (mIf (mOr (mTB (mOp (mGuard (cOO "Trace") (callD (fun ds st => negEx (f_Trace_D_eq_D ds st)) 2 [])) (mCons (mOp (mGuard (cOO "Trace") (callD f_Trace_D_add_D 2 [])) (mCons (mVar 5) (mCons (mOp (mkF f_Trace_D_init_D 2 [.tup []]) mNil) mNil))) (mCons (mVar 5) mNil)))) (mOr (mTB (mOp (mGuard (cOO "Trace") (callD (fun ds st => negEx (f_Trace_D_eq_D ds st)) 2 [])) (mCons (mOp (mGuard (cOO "Trace") (callD f_Trace_D_add_D 2 [])) (mCons (mOp (mkF f_Trace_D_init_D 2 [.tup []]) mNil) (mCons (mVar 5) mNil))) (mCons (mVar 5) mNil)))) (mOr (mTB (mOp (mGuard (cOO "Trace") (callD (fun ds st => negEx (f_Trace_D_eq_D ds st)) 2 [])) (mCons (mOp (mGuard (cOO "Trace") (callD f_Trace_D_or_D 2 [])) (mCons (mVar 5) (mCons (mOp (mkF f_Trace_D_init_D 2 [.tup []]) mNil) mNil))) (mCons (mVar 5) mNil)))) (mTB (mOp (mGuard (cOO "Trace") (callD (fun ds st => negEx (f_Trace_D_eq_D ds st)) 2 [])) (mCons (mOp (mGuard (cOO "Trace") (callD f_Trace_D_or_D 2 [])) (mCons (mOp (mkF f_Trace_D_init_D 2 [.tup []]) mNil) (mCons (mVar 5) mNil))) (mCons (mVar 5) mNil)))))))
  (mRet (mC (.bl false)))
  mSkip)
  (mSeq (mIf (mTB (mOp (mPure (gDEq true)) (mCons (mOp dispL (mCons (mOp (callD f_Trace_rows 1 []) (mCons (mIns "Trace" "rows" (mVar 5)) mNil)) (mCons (mOp (callD f_Trace_rows 1 []) (mCons (mIns "Trace" "rows" (mVar 6)) mNil)) (mCons (mOp (callD f_Trace_rows 1 []) (mCons (mIns "Trace" "rows" (mVar 7)) mNil)) mNil)))) (mCons (mVar 3) mNil))))
  (mRet (mC (.bl false)))
  mSkip)
  (mSeq (mSet 9 (mOp (mGuard (cOO "Trace") (callD f_Trace_D_or_D 2 [])) (mCons (mVar 5) (mCons (mVar 6) mNil))))
  (mSeq (mIf (mOr (mTB (mOp (mPure (gDEq true)) (mCons (mOp (callD f_Trace_pages 1 []) (mCons (mIns "Trace" "pages" (mVar 9)) mNil)) (mCons (mOp mSortSet (mCons (mOp (mPure gAdd) (mCons (mOp (callD f_Trace_pages 1 []) (mCons (mIns "Trace" "pages" (mVar 5)) mNil)) (mCons (mOp (callD f_Trace_pages 1 []) (mCons (mIns "Trace" "pages" (mVar 6)) mNil)) mNil))) mNil)) mNil)))) (mTB (mOp (mPure (gDEq true)) (mCons (mOp (mGuard (gObj "Trace") (callF (fun ds st => lenEx (f_Trace_D_len_D ds st)) 1)) (mCons (mVar 9) mNil)) (mCons (mOp (mPure gAdd) (mCons (mOp (mGuard (gObj "Trace") (callF (fun ds st => lenEx (f_Trace_D_len_D ds st)) 1)) (mCons (mVar 5) mNil)) (mCons (mOp (mGuard (gObj "Trace") (callF (fun ds st => lenEx (f_Trace_D_len_D ds st)) 1)) (mCons (mVar 6) mNil)) mNil))) mNil)))))
  (mRet (mC (.bl false)))
  mSkip)
  (mSeq (mIf (mTB (mOp (mPure (gDEq true)) (mCons (mOp (callD f_Trace_paths 1 []) (mCons (mIns "Trace" "paths" (mVar 9)) mNil)) (mCons (mOp mSortSet (mCons (mOp (mPure gAdd) (mCons (mOp (callD f_Trace_paths 1 []) (mCons (mIns "Trace" "paths" (mVar 5)) mNil)) (mCons (mOp (callD f_Trace_paths 1 []) (mCons (mIns "Trace" "paths" (mVar 6)) mNil)) mNil))) mNil)) mNil))))
  (mRet (mC (.bl false)))
  mSkip)
  (mFor (mSrc (mOp dispL (mCons (mC (.str "ann")) (mCons (mC (.str "bob")) (mCons (mC (.str "team")) mNil))))) (.nm 10)
  b4_law)))))))))))
noncomputable def m_law : Mn Fl := (mSeq (mFor (mRng (mCons (mOp (mPure gMax) (mCons (mC (.int 2)) (mCons (mOp (mPure gMin) (mCons (mOp (mPure gLen) (mCons (mVar 0) mNil)) (mCons (mC (.int 12)) mNil))) mNil))) mNil)) (.nm 1)
  b5_law)
  (mRet (mC (.bl true))))
noncomputable def f_law : Fn := runB m_law 11
abbrev ad__law_hand (K : PySem.W.Frag) : Addr := ga K "_law_hand"
abbrev ad__law_trace (K : PySem.W.Frag) : Addr := ga K "_law_trace"
abbrev ad_Trace_D_init_D (K : PySem.W.Frag) : Addr := ma K (ga K "Trace") "__init__"
abbrev ad_Trace_D_add_D (K : PySem.W.Frag) : Addr := ma K (ga K "Trace") "__add__"
abbrev ad_Trace_rows (K : PySem.W.Frag) : Addr := ma K (ga K "Trace") "rows"
abbrev ad__law_added (K : PySem.W.Frag) : Addr := ga K "_law_added"
abbrev ad_Trace_D_or_D (K : PySem.W.Frag) : Addr := ma K (ga K "Trace") "__or__"
abbrev ad__law_merged (K : PySem.W.Frag) : Addr := ga K "_law_merged"
abbrev ad_Trace_D_eq_D (K : PySem.W.Frag) : Addr := ma K (ga K "Trace") "__eq__"
abbrev ad_Trace_pages (K : PySem.W.Frag) : Addr := ma K (ga K "Trace") "pages"
abbrev ad_Trace_D_len_D (K : PySem.W.Frag) : Addr := ma K (ga K "Trace") "__len__"
abbrev ad_Trace_paths (K : PySem.W.Frag) : Addr := ma K (ga K "Trace") "paths"
abbrev ad_Trace_of (K : PySem.W.Frag) : Addr := ma K (ga K "Trace") "of"
abbrev ad_Trace_part (K : PySem.W.Frag) : Addr := ma K (ga K "Trace") "part"
abbrev ad__law_draw (K : PySem.W.Frag) : Addr := ga K "_law_draw"
abbrev ad_check_requests (K : PySem.W.Frag) : Addr := ga K "check_requests"
abbrev ad_InvalidTrace_D_init_D (K : PySem.W.Frag) : Addr := ma K (ga K "InvalidTrace") "__init__"
abbrev ad_is_request (K : PySem.W.Frag) : Addr := ga K "is_request"
abbrev ad_is_between (K : PySem.W.Frag) : Addr := ga K "is_between"
abbrev ad_is_path (K : PySem.W.Frag) : Addr := ga K "is_path"
abbrev ad_is_page (K : PySem.W.Frag) : Addr := ga K "is_page"
abbrev ad_is_integer (K : PySem.W.Frag) : Addr := ga K "is_integer"
abbrev ad_is_name (K : PySem.W.Frag) : Addr := ga K "is_name"
abbrev ad_is_text_of (K : PySem.W.Frag) : Addr := ga K "is_text_of"
abbrev adp_Trace_end (K : PySem.W.Frag) : Addr := ma K (ga K "Trace") "end"
abbrev ad_Trace_end (K : PySem.W.Frag) : Addr := pgA K (ga K "Trace") "end"
abbrev ad_check_number (K : PySem.W.Frag) : Addr := ga K "check_number"
abbrev ad_Trace_later (K : PySem.W.Frag) : Addr := ma K (ga K "Trace") "later"
abbrev ad_InvalidNumber_D_init_D (K : PySem.W.Frag) : Addr := ma K (ga K "InvalidNumber") "__init__"
abbrev ad_merged (K : PySem.W.Frag) : Addr := ga K "merged"
abbrev ad_moment_of (K : PySem.W.Frag) : Addr := ga K "moment_of"
abbrev ad_check_path (K : PySem.W.Frag) : Addr := ga K "check_path"
abbrev ad_is_below (K : PySem.W.Frag) : Addr := ga K "is_below"
abbrev ad_InvalidName_D_init_D (K : PySem.W.Frag) : Addr := ma K (ga K "InvalidName") "__init__"
abbrev ad_law (K : PySem.W.Frag) : Addr := ga K "law"
def df__law_hand : He5.DefA := ⟨ad__law_hand, "_law_hand", "_law_hand", defArgs s__law_hand, defBody s__law_hand, defScope s__law_hand, [], []⟩
def df__law_draw : He5.DefA := ⟨ad__law_draw, "_law_draw", "_law_draw", defArgs s__law_draw, defBody s__law_draw, defScope s__law_draw, [], []⟩
def df__law_trace : He5.DefA := ⟨ad__law_trace, "_law_trace", "_law_trace", defArgs s__law_trace, defBody s__law_trace, defScope s__law_trace, [], []⟩
def df_is_integer : He5.DefA := ⟨ad_is_integer, "is_integer", "is_integer", defArgs s_is_integer, defBody s_is_integer, defScope s_is_integer, [], []⟩
def df_is_between : He5.DefA := ⟨ad_is_between, "is_between", "is_between", defArgs s_is_between, defBody s_is_between, defScope s_is_between, [], []⟩
def df_is_text_of : He5.DefA := ⟨ad_is_text_of, "is_text_of", "is_text_of", defArgs s_is_text_of, defBody s_is_text_of, defScope s_is_text_of, [], []⟩
def df_is_name : He5.DefA := ⟨ad_is_name, "is_name", "is_name", defArgs s_is_name, defBody s_is_name, defScope s_is_name, [], []⟩
def df_is_path : He5.DefA := ⟨ad_is_path, "is_path", "is_path", defArgs s_is_path, defBody s_is_path, defScope s_is_path, [], []⟩
def df_is_page : He5.DefA := ⟨ad_is_page, "is_page", "is_page", defArgs s_is_page, defBody s_is_page, defScope s_is_page, [], []⟩
def df_is_request : He5.DefA := ⟨ad_is_request, "is_request", "is_request", defArgs s_is_request, defBody s_is_request, defScope s_is_request, [], []⟩
def df_check_requests : He5.DefA := ⟨ad_check_requests, "check_requests", "check_requests", defArgs s_check_requests, defBody s_check_requests, defScope s_check_requests, [], []⟩
def df_Trace_D_init_D : He5.DefA := ⟨ad_Trace_D_init_D, "__init__", "Trace.__init__", defArgs s_Trace_D_init_D, defBody s_Trace_D_init_D, defScope s_Trace_D_init_D, [.adr (He.dflAt ("Trace", some "__init__") 0)], []⟩
def df_check_number : He5.DefA := ⟨ad_check_number, "check_number", "check_number", defArgs s_check_number, defBody s_check_number, defScope s_check_number, [], []⟩
def df_Trace_end : He5.DefA := ⟨ad_Trace_end, "end", "Trace.end", defArgs s_Trace_end, defBody s_Trace_end, defScope s_Trace_end, [], []⟩
def df_Trace_later : He5.DefA := ⟨ad_Trace_later, "later", "Trace.later", defArgs s_Trace_later, defBody s_Trace_later, defScope s_Trace_later, [], []⟩
def df_Trace_D_add_D : He5.DefA := ⟨ad_Trace_D_add_D, "__add__", "Trace.__add__", defArgs s_Trace_D_add_D, defBody s_Trace_D_add_D, defScope s_Trace_D_add_D, [], []⟩
def df_Trace_rows : He5.DefA := ⟨ad_Trace_rows, "rows", "Trace.rows", defArgs s_Trace_rows, defBody s_Trace_rows, defScope s_Trace_rows, [], []⟩
def df__law_added : He5.DefA := ⟨ad__law_added, "_law_added", "_law_added", defArgs s__law_added, defBody s__law_added, defScope s__law_added, [], []⟩
def df_moment_of : He5.DefA := ⟨ad_moment_of, "moment_of", "moment_of", defArgs s_moment_of, defBody s_moment_of, defScope s_moment_of, [], []⟩
def df_merged : He5.DefA := ⟨ad_merged, "merged", "merged", defArgs s_merged, defBody s_merged, defScope s_merged, [], []⟩
def df_Trace_D_or_D : He5.DefA := ⟨ad_Trace_D_or_D, "__or__", "Trace.__or__", defArgs s_Trace_D_or_D, defBody s_Trace_D_or_D, defScope s_Trace_D_or_D, [], []⟩
def df__law_merged : He5.DefA := ⟨ad__law_merged, "_law_merged", "_law_merged", defArgs s__law_merged, defBody s__law_merged, defScope s__law_merged, [], []⟩
def df_Trace_D_eq_D : He5.DefA := ⟨ad_Trace_D_eq_D, "__eq__", "Trace.__eq__", defArgs s_Trace_D_eq_D, defBody s_Trace_D_eq_D, defScope s_Trace_D_eq_D, [], []⟩
def df_Trace_pages : He5.DefA := ⟨ad_Trace_pages, "pages", "Trace.pages", defArgs s_Trace_pages, defBody s_Trace_pages, defScope s_Trace_pages, [], []⟩
def df_Trace_D_len_D : He5.DefA := ⟨ad_Trace_D_len_D, "__len__", "Trace.__len__", defArgs s_Trace_D_len_D, defBody s_Trace_D_len_D, defScope s_Trace_D_len_D, [], []⟩
def df_Trace_paths : He5.DefA := ⟨ad_Trace_paths, "paths", "Trace.paths", defArgs s_Trace_paths, defBody s_Trace_paths, defScope s_Trace_paths, [], []⟩
def df_check_path : He5.DefA := ⟨ad_check_path, "check_path", "check_path", defArgs s_check_path, defBody s_check_path, defScope s_check_path, [], []⟩
def df_is_below : He5.DefA := ⟨ad_is_below, "is_below", "is_below", defArgs s_is_below, defBody s_is_below, defScope s_is_below, [], []⟩
def df_Trace_of : He5.DefA := ⟨ad_Trace_of, "of", "Trace.of", defArgs s_Trace_of, defBody s_Trace_of, defScope s_Trace_of, [], []⟩
def df_Trace_part : He5.DefA := ⟨ad_Trace_part, "part", "Trace.part", defArgs s_Trace_part, defBody s_Trace_part, defScope s_Trace_part, [], []⟩
def df_law : He5.DefA := ⟨ad_law, "law", "law", defArgs s_law, defBody s_law, defScope s_law, [], []⟩
structure Txt (P : Program) (w : World) (K : PySem.W.Frag) (mg : Str → Option Value) (cn : String → Addr) : Prop where
  b_range : mg "range" = none
  b_len : mg "len" = none
  b_min : mg "min" = none
  b_max : mg "max" = none
  g__law_hand : mg "_law_hand" = some (.ref (ad__law_hand K))
  k__law_hand : PySem.W.keepIn K (.ref (ad__law_hand K)) = true
  g__law_trace : mg "_law_trace" = some (.ref (ad__law_trace K))
  k__law_trace : PySem.W.keepIn K (.ref (ad__law_trace K)) = true
  gC_Trace : mg "Trace" = some (.ref (cn "Trace"))
  mk_Trace : Mk K (cn "Trace") (ad_Trace_D_init_D K)
  m_Trace_D_add_D : PySem.W.isFn K (.ref (ad_Trace_D_add_D K)) = true
  sf_Trace : PySem.W.selfFirst K (cn "Trace") = true
  d_Trace_D_add_D : PySem.W.findIn K (.ref (cn "Trace")) (PySem.dunder (Operator.info .Add).2) = some (some (.ref (ad_Trace_D_add_D K)))
  cl_Trace : Cls K (cn "Trace")
  mt_Trace_rows : Meth K (cn "Trace") "rows" (ad_Trace_rows K)
  g__law_added : mg "_law_added" = some (.ref (ad__law_added K))
  k__law_added : PySem.W.keepIn K (.ref (ad__law_added K)) = true
  m_Trace_D_or_D : PySem.W.isFn K (.ref (ad_Trace_D_or_D K)) = true
  d_Trace_D_or_D : PySem.W.findIn K (.ref (cn "Trace")) (PySem.dunder (Operator.info .BitOr).2) = some (some (.ref (ad_Trace_D_or_D K)))
  g__law_merged : mg "_law_merged" = some (.ref (ad__law_merged K))
  k__law_merged : PySem.W.keepIn K (.ref (ad__law_merged K)) = true
  m_Trace_D_eq_D : PySem.W.isFn K (.ref (ad_Trace_D_eq_D K)) = true
  e_Trace : PySem.W.findIn K (.ref (cn "Trace")) "__eq__" = some (some (.ref (ad_Trace_D_eq_D K)))
  ne_Trace : PySem.W.findIn K (.ref (cn "Trace")) "__ne__" = some (some (.builtin "object.__ne__"))
  ob_Trace : PySem.W.mroIn K (cn "Trace") (.type "object") = some true
  kd0_Trace_D_init_D : KTup K (He.dflAt ("Trace", some "__init__") 0 K) []
  mt_Trace_pages : Meth K (cn "Trace") "pages" (ad_Trace_pages K)
  b_sorted : mg "sorted" = none
  b_set : mg "set" = none
  d_Trace_D_len_D : PySem.W.findIn K (.ref (cn "Trace")) "__len__" = some (some (.ref (ad_Trace_D_len_D K)))
  m_Trace_D_len_D : PySem.W.isFn K (.ref (ad_Trace_D_len_D K)) = true
  mt_Trace_paths : Meth K (cn "Trace") "paths" (ad_Trace_paths K)
  mt_Trace_of : Meth K (cn "Trace") "of" (ad_Trace_of K)
  mt_Trace_part : Meth K (cn "Trace") "part" (ad_Trace_part K)
  b_int : mg "int" = none
  g__law_draw : mg "_law_draw" = some (.ref (ad__law_draw K))
  k__law_draw : PySem.W.keepIn K (.ref (ad__law_draw K)) = true
  g_check_requests : mg "check_requests" = some (.ref (ad_check_requests K))
  k_check_requests : PySem.W.keepIn K (.ref (ad_check_requests K)) = true
  b_tuple : mg "tuple" = none
  fl_own_requests : ∀ C ∈ (["Trace"] : List String), Cls K (cn C) ∧ NoAttr K (cn C) "own_requests"
  b_list : mg "list" = none
  b_isinstance : mg "isinstance" = none
  isa : IsaOk K cn ownCs isaT
  er_InvalidTrace : ErrTxt P K mg "InvalidTrace" "position" "position" (cn "InvalidTrace") (ad_InvalidTrace_D_init_D K)
  b_enumerate : mg "enumerate" = none
  g_is_request : mg "is_request" = some (.ref (ad_is_request K))
  k_is_request : PySem.W.keepIn K (.ref (ad_is_request K)) = true
  ki_MOST_NUMBER : ∃ t, mg "MOST_NUMBER" = some (.int 1000000000 t)
  g_is_between : mg "is_between" = some (.ref (ad_is_between K))
  k_is_between : PySem.W.keepIn K (.ref (ad_is_between K)) = true
  b_str : mg "str" = none
  gC_KINDS : mg "KINDS" = some (.ref (cn "KINDS"))
  kt_KINDS : KTup K (cn "KINDS") ["read", "write"]
  g_is_path : mg "is_path" = some (.ref (ad_is_path K))
  k_is_path : PySem.W.keepIn K (.ref (ad_is_path K)) = true
  g_is_page : mg "is_page" = some (.ref (ad_is_page K))
  k_is_page : PySem.W.keepIn K (.ref (ad_is_page K)) = true
  g_is_integer : mg "is_integer" = some (.ref (ad_is_integer K))
  k_is_integer : PySem.W.keepIn K (.ref (ad_is_integer K)) = true
  b_bool : mg "bool" = none
  ki_MOST_LEVELS : ∃ t, mg "MOST_LEVELS" = some (.int 3 t)
  g_is_name : mg "is_name" = some (.ref (ad_is_name K))
  k_is_name : PySem.W.keepIn K (.ref (ad_is_name K)) = true
  b_all : mg "all" = none
  ks_LETTERS : ∃ t, mg "LETTERS" = some (.str "abcdefghijklmnopqrstuvwxyz" t)
  g_is_text_of : mg "is_text_of" = some (.ref (ad_is_text_of K))
  k_is_text_of : PySem.W.keepIn K (.ref (ad_is_text_of K)) = true
  ks_DIGITS : ∃ t, mg "DIGITS" = some (.str "0123456789" t)
  p_Trace_end : PropOf K (cn "Trace") "end" (adp_Trace_end K) (ad_Trace_end K)
  g_check_number : mg "check_number" = some (.ref (ad_check_number K))
  k_check_number : PySem.W.keepIn K (.ref (ad_check_number K)) = true
  mt_Trace_later : Meth K (cn "Trace") "later" (ad_Trace_later K)
  er_InvalidNumber : ErrTxt P K mg "InvalidNumber" "value" "value" (cn "InvalidNumber") (ad_InvalidNumber_D_init_D K)
  g_merged : mg "merged" = some (.ref (ad_merged K))
  k_merged : PySem.W.keepIn K (.ref (ad_merged K)) = true
  g_moment_of : mg "moment_of" = some (.ref (ad_moment_of K))
  g_check_path : mg "check_path" = some (.ref (ad_check_path K))
  k_check_path : PySem.W.keepIn K (.ref (ad_check_path K)) = true
  g_is_below : mg "is_below" = some (.ref (ad_is_below K))
  k_is_below : PySem.W.keepIn K (.ref (ad_is_below K)) = true
  er_InvalidName : ErrTxt P K mg "InvalidName" "value" "value" (cn "InvalidName") (ad_InvalidName_D_init_D K)
  F__law_hand : FunD K "_law_hand" "_law_hand" (defArgs s__law_hand) (defBody s__law_hand) (defScope s__law_hand) (df__law_hand.dvs K) (df__law_hand.kws K) (ad__law_hand K) (fdA K (ad__law_hand K))
  B__law_hand : Binds K (fdA K (ad__law_hand K)) ["_law_script", "_law_k"] []
  F__law_draw : FunD K "_law_draw" "_law_draw" (defArgs s__law_draw) (defBody s__law_draw) (defScope s__law_draw) (df__law_draw.dvs K) (df__law_draw.kws K) (ad__law_draw K) (fdA K (ad__law_draw K))
  B__law_draw : Binds K (fdA K (ad__law_draw K)) ["_law_pool", "_law_size"] []
  F__law_trace : FunD K "_law_trace" "_law_trace" (defArgs s__law_trace) (defBody s__law_trace) (defScope s__law_trace) (df__law_trace.dvs K) (df__law_trace.kws K) (ad__law_trace K) (fdA K (ad__law_trace K))
  B__law_trace : Binds K (fdA K (ad__law_trace K)) ["_law_pool", "_law_paths", "_law_most", "_law_names"] []
  F_is_integer : FunD K "is_integer" "is_integer" (defArgs s_is_integer) (defBody s_is_integer) (defScope s_is_integer) (df_is_integer.dvs K) (df_is_integer.kws K) (ad_is_integer K) (fdA K (ad_is_integer K))
  B_is_integer : Binds K (fdA K (ad_is_integer K)) ["value"] []
  F_is_between : FunD K "is_between" "is_between" (defArgs s_is_between) (defBody s_is_between) (defScope s_is_between) (df_is_between.dvs K) (df_is_between.kws K) (ad_is_between K) (fdA K (ad_is_between K))
  B_is_between : Binds K (fdA K (ad_is_between K)) ["value", "least", "most"] []
  F_is_text_of : FunD K "is_text_of" "is_text_of" (defArgs s_is_text_of) (defBody s_is_text_of) (defScope s_is_text_of) (df_is_text_of.dvs K) (df_is_text_of.kws K) (ad_is_text_of K) (fdA K (ad_is_text_of K))
  B_is_text_of : Binds K (fdA K (ad_is_text_of K)) ["value", "letters", "most"] []
  F_is_name : FunD K "is_name" "is_name" (defArgs s_is_name) (defBody s_is_name) (defScope s_is_name) (df_is_name.dvs K) (df_is_name.kws K) (ad_is_name K) (fdA K (ad_is_name K))
  B_is_name : Binds K (fdA K (ad_is_name K)) ["value"] []
  F_is_path : FunD K "is_path" "is_path" (defArgs s_is_path) (defBody s_is_path) (defScope s_is_path) (df_is_path.dvs K) (df_is_path.kws K) (ad_is_path K) (fdA K (ad_is_path K))
  B_is_path : Binds K (fdA K (ad_is_path K)) ["value"] []
  F_is_page : FunD K "is_page" "is_page" (defArgs s_is_page) (defBody s_is_page) (defScope s_is_page) (df_is_page.dvs K) (df_is_page.kws K) (ad_is_page K) (fdA K (ad_is_page K))
  B_is_page : Binds K (fdA K (ad_is_page K)) ["value"] []
  F_is_request : FunD K "is_request" "is_request" (defArgs s_is_request) (defBody s_is_request) (defScope s_is_request) (df_is_request.dvs K) (df_is_request.kws K) (ad_is_request K) (fdA K (ad_is_request K))
  B_is_request : Binds K (fdA K (ad_is_request K)) ["value"] []
  F_check_requests : FunD K "check_requests" "check_requests" (defArgs s_check_requests) (defBody s_check_requests) (defScope s_check_requests) (df_check_requests.dvs K) (df_check_requests.kws K) (ad_check_requests K) (fdA K (ad_check_requests K))
  B_check_requests : Binds K (fdA K (ad_check_requests K)) ["value"] []
  F_Trace_D_init_D : FunD K "__init__" "Trace.__init__" (defArgs s_Trace_D_init_D) (defBody s_Trace_D_init_D) (defScope s_Trace_D_init_D) (df_Trace_D_init_D.dvs K) (df_Trace_D_init_D.kws K) (ad_Trace_D_init_D K) (fdA K (ad_Trace_D_init_D K))
  B_Trace_D_init_D : Binds K (fdA K (ad_Trace_D_init_D K)) ["self", "requests"] []
  F_check_number : FunD K "check_number" "check_number" (defArgs s_check_number) (defBody s_check_number) (defScope s_check_number) (df_check_number.dvs K) (df_check_number.kws K) (ad_check_number K) (fdA K (ad_check_number K))
  B_check_number : Binds K (fdA K (ad_check_number K)) ["value", "least", "most"] []
  F_Trace_end : FunD K "end" "Trace.end" (defArgs s_Trace_end) (defBody s_Trace_end) (defScope s_Trace_end) (df_Trace_end.dvs K) (df_Trace_end.kws K) (ad_Trace_end K) (fdA K (ad_Trace_end K))
  B_Trace_end : Binds K (fdA K (ad_Trace_end K)) ["self"] []
  F_Trace_later : FunD K "later" "Trace.later" (defArgs s_Trace_later) (defBody s_Trace_later) (defScope s_Trace_later) (df_Trace_later.dvs K) (df_Trace_later.kws K) (ad_Trace_later K) (fdA K (ad_Trace_later K))
  B_Trace_later : Binds K (fdA K (ad_Trace_later K)) ["self", "ticks"] []
  F_Trace_D_add_D : FunD K "__add__" "Trace.__add__" (defArgs s_Trace_D_add_D) (defBody s_Trace_D_add_D) (defScope s_Trace_D_add_D) (df_Trace_D_add_D.dvs K) (df_Trace_D_add_D.kws K) (ad_Trace_D_add_D K) (fdA K (ad_Trace_D_add_D K))
  B_Trace_D_add_D : Binds K (fdA K (ad_Trace_D_add_D K)) ["self", "other"] []
  F_Trace_rows : FunD K "rows" "Trace.rows" (defArgs s_Trace_rows) (defBody s_Trace_rows) (defScope s_Trace_rows) (df_Trace_rows.dvs K) (df_Trace_rows.kws K) (ad_Trace_rows K) (fdA K (ad_Trace_rows K))
  B_Trace_rows : Binds K (fdA K (ad_Trace_rows K)) ["self"] []
  F__law_added : FunD K "_law_added" "_law_added" (defArgs s__law_added) (defBody s__law_added) (defScope s__law_added) (df__law_added.dvs K) (df__law_added.kws K) (ad__law_added K) (fdA K (ad__law_added K))
  B__law_added : Binds K (fdA K (ad__law_added K)) ["_law_one", "_law_other"] []
  F_moment_of : FunD K "moment_of" "moment_of" (defArgs s_moment_of) (defBody s_moment_of) (defScope s_moment_of) (df_moment_of.dvs K) (df_moment_of.kws K) (ad_moment_of K) (fdA K (ad_moment_of K))
  B_moment_of : Binds K (fdA K (ad_moment_of K)) ["request"] []
  F_merged : FunD K "merged" "merged" (defArgs s_merged) (defBody s_merged) (defScope s_merged) (df_merged.dvs K) (df_merged.kws K) (ad_merged K) (fdA K (ad_merged K))
  B_merged : Binds K (fdA K (ad_merged K)) ["one", "other"] []
  F_Trace_D_or_D : FunD K "__or__" "Trace.__or__" (defArgs s_Trace_D_or_D) (defBody s_Trace_D_or_D) (defScope s_Trace_D_or_D) (df_Trace_D_or_D.dvs K) (df_Trace_D_or_D.kws K) (ad_Trace_D_or_D K) (fdA K (ad_Trace_D_or_D K))
  B_Trace_D_or_D : Binds K (fdA K (ad_Trace_D_or_D K)) ["self", "other"] []
  F__law_merged : FunD K "_law_merged" "_law_merged" (defArgs s__law_merged) (defBody s__law_merged) (defScope s__law_merged) (df__law_merged.dvs K) (df__law_merged.kws K) (ad__law_merged K) (fdA K (ad__law_merged K))
  B__law_merged : Binds K (fdA K (ad__law_merged K)) ["_law_one", "_law_other"] []
  F_Trace_D_eq_D : FunD K "__eq__" "Trace.__eq__" (defArgs s_Trace_D_eq_D) (defBody s_Trace_D_eq_D) (defScope s_Trace_D_eq_D) (df_Trace_D_eq_D.dvs K) (df_Trace_D_eq_D.kws K) (ad_Trace_D_eq_D K) (fdA K (ad_Trace_D_eq_D K))
  B_Trace_D_eq_D : Binds K (fdA K (ad_Trace_D_eq_D K)) ["self", "other"] []
  F_Trace_pages : FunD K "pages" "Trace.pages" (defArgs s_Trace_pages) (defBody s_Trace_pages) (defScope s_Trace_pages) (df_Trace_pages.dvs K) (df_Trace_pages.kws K) (ad_Trace_pages K) (fdA K (ad_Trace_pages K))
  B_Trace_pages : Binds K (fdA K (ad_Trace_pages K)) ["self"] []
  F_Trace_D_len_D : FunD K "__len__" "Trace.__len__" (defArgs s_Trace_D_len_D) (defBody s_Trace_D_len_D) (defScope s_Trace_D_len_D) (df_Trace_D_len_D.dvs K) (df_Trace_D_len_D.kws K) (ad_Trace_D_len_D K) (fdA K (ad_Trace_D_len_D K))
  B_Trace_D_len_D : Binds K (fdA K (ad_Trace_D_len_D K)) ["self"] []
  F_Trace_paths : FunD K "paths" "Trace.paths" (defArgs s_Trace_paths) (defBody s_Trace_paths) (defScope s_Trace_paths) (df_Trace_paths.dvs K) (df_Trace_paths.kws K) (ad_Trace_paths K) (fdA K (ad_Trace_paths K))
  B_Trace_paths : Binds K (fdA K (ad_Trace_paths K)) ["self"] []
  F_check_path : FunD K "check_path" "check_path" (defArgs s_check_path) (defBody s_check_path) (defScope s_check_path) (df_check_path.dvs K) (df_check_path.kws K) (ad_check_path K) (fdA K (ad_check_path K))
  B_check_path : Binds K (fdA K (ad_check_path K)) ["value"] []
  F_is_below : FunD K "is_below" "is_below" (defArgs s_is_below) (defBody s_is_below) (defScope s_is_below) (df_is_below.dvs K) (df_is_below.kws K) (ad_is_below K) (fdA K (ad_is_below K))
  B_is_below : Binds K (fdA K (ad_is_below K)) ["path", "above"] []
  F_Trace_of : FunD K "of" "Trace.of" (defArgs s_Trace_of) (defBody s_Trace_of) (defScope s_Trace_of) (df_Trace_of.dvs K) (df_Trace_of.kws K) (ad_Trace_of K) (fdA K (ad_Trace_of K))
  B_Trace_of : Binds K (fdA K (ad_Trace_of K)) ["self", "path"] []
  F_Trace_part : FunD K "part" "Trace.part" (defArgs s_Trace_part) (defBody s_Trace_part) (defScope s_Trace_part) (df_Trace_part.dvs K) (df_Trace_part.kws K) (ad_Trace_part K) (fdA K (ad_Trace_part K))
  B_Trace_part : Binds K (fdA K (ad_Trace_part K)) ["self", "start", "end"] []
  F_law : FunD K "law" "law" (defArgs s_law) (defBody s_law) (defScope s_law) (df_law.dvs K) (df_law.kws K) (ad_law K) (fdA K (ad_law K))
  B_law : Binds K (fdA K (ad_law K)) ["_law_script"] []
  B_Trace_D_init_D_1 : ∃ ds, Binds K (fdA K (ad_Trace_D_init_D K)) ["self", "requests"] ds ∧ Vals [.ref (He.dflAt ("Trace", some "__init__") 0 K)] ds
section
variable {P : Program} {w : World} {K : PySem.W.Frag} {mg : Str → Option Value} {base : Heap} {cn : String → Addr}
theorem sc__law_hand : FnScope ["_law_script", "_law_k", "_law_cell", "_law_seed"] ["_law_script", "_law_k"] (defScope s__law_hand) := ⟨rfl, rfl, rfl, by decide +kernel, rfl, by decide +kernel, by decide +kernel⟩
theorem ok__law_hand (T : Txt P w K mg cn) : FnOk P w K mg base (L2.CX P w) 1 (ad__law_hand K) (fdA K (ad__law_hand K)) ["_law_script", "_law_k"] (spM K cn f__law_hand 2) := fn_bodyD T.F__law_hand sc__law_hand fun cdv A outer s H E g =>
  (mss_cons (ms_set (i := 2) sc__law_hand.nd rfl (Or.inl rfl) (me_ix ix_seq ok_ix.op (me_bin op_addU ok_addU.op (me_sl (me_var (i := 0)) (po_some (me_var (i := 1))) (po_some (me_bin op_addU ok_addU.op (me_var (i := 1)) me_int)) part_some part_some) (me_lst (ma_cons me_int ma_nil))) me_int (fun _ _ => rfl)))
  (mss_cons (ms_set (i := 3) sc__law_hand.nd rfl (Or.inl rfl) (me_bin op_mod ok_mod.op (me_bin op_mulU ok_mulU.op (me_bin op_addU ok_addU.op (me_bin op_addU ok_addU.op (me_bin op_mod ok_mod.op (me_var (i := 2)) me_int) (me_bin op_mulU ok_mulU.op me_int (me_var (i := 1)))) me_int) me_int) me_int))
  (mss_one (ms_ret (me_lst (ma_cons (me_bin op_mulU ok_mulU.op (me_bty call_int1 ok_int.op rfl T.b_int rfl (ma_cons (me_cmp op_ge ok_ge.op (me_var (i := 2)) (me_bin op_pow ok_pow.op me_int me_int) (nomark _)) ma_nil)) (me_var (i := 2))) (ma_cons (me_var (i := 3)) ma_nil)))))))
theorem sc__law_draw : FnScope ["_law_pool", "_law_size", "_law_found"] ["_law_pool", "_law_size"] (defScope s__law_draw) := ⟨rfl, rfl, rfl, by decide +kernel, rfl, by decide +kernel, by decide +kernel⟩
theorem ok__law_draw (T : Txt P w K mg cn) : FnOk P w K mg base (L2.CX P w) 1 (ad__law_draw K) (fdA K (ad__law_draw K)) ["_law_pool", "_law_size"] (spM K cn f__law_draw 2) := fn_bodyD T.F__law_draw sc__law_draw fun cdv A outer s H E g =>
  (mss_cons (ms_if (mt_cmp op_gt ok_gt.op (me_ix ix_seq ok_ix.op (me_var (i := 0)) me_int (fun _ _ => rfl)) me_int (nomark _))
  (mss_cons (ms_set (i := 2) sc__law_draw.nd rfl (Or.inl rfl) (me_bin op_mod ok_mod.op (me_ix ix_seq ok_ix.op (me_var (i := 0)) me_int (fun _ _ => rfl)) (me_var (i := 1))))
  (mss_cons (ms_asg (me_bin op_fdivW ok_fdiv.op (me_ix ix_seq ok_ix.op (me_var (i := 0)) me_int (fun _ _ => rfl)) (me_var (i := 1))) (pg_sub (me_var (i := 0)) me_int set_list) gok_ix)
  (mss_one (ms_ret (me_var (i := 2))))))
  mss_nil)
  (mss_cons (ms_asg (me_bin op_mod ok_mod.op (me_bin op_addU ok_addU.op (me_bin op_mulU ok_mulU.op (me_ix ix_seq ok_ix.op (me_var (i := 0)) me_int (fun _ _ => rfl)) me_int) me_int) me_int) (pg_sub (me_var (i := 0)) me_int set_list) gok_ix)
  (mss_one (ms_ret (me_bin op_mod ok_mod.op (me_bin op_fdivW ok_fdiv.op (me_bin op_mod ok_mod.op (me_bin op_mulU ok_mulU.op (me_ix ix_seq ok_ix.op (me_var (i := 0)) me_int (fun _ _ => rfl)) (me_ix ix_seq ok_ix.op (me_var (i := 0)) me_int (fun _ _ => rfl))) me_int) me_int) (me_var (i := 1)))))))
theorem sc__law_trace : FnScope ["_law_pool", "_law_paths", "_law_most", "_law_names", "_law_found", "_law_at", "_law_turn", "_law_kind", "_law_path"] ["_law_pool", "_law_paths", "_law_most", "_law_names"] (defScope s__law_trace) := ⟨rfl, rfl, rfl, by decide +kernel, rfl, by decide +kernel, by decide +kernel⟩
theorem ok__law_trace (T : Txt P w K mg cn) : FnOk P w K mg base (L2.CX P w) 2 (ad__law_trace K) (fdA K (ad__law_trace K)) ["_law_pool", "_law_paths", "_law_most", "_law_names"] (spM K cn f__law_trace 4) := fn_bodyD T.F__law_trace sc__law_trace fun cdv A outer s H E g =>
  (mss_cons (ms_par (i := 4) (j := 5) g.calm sc__law_trace.nd rfl rfl (by decide) rfl rfl (ma_cons (me_lst ma_nil) (ma_cons me_int ma_nil)) (by rfl))
  (mss_cons (ms_for g.hp g.calm (mi_range1 rfl T.b_range (me_call (ok__law_draw T) g.tk (g.hr.mono (by decide)) rfl T.g__law_draw T.k__law_draw T.B__law_draw (ma_cons (me_var (i := 0)) (ma_cons (me_bin op_addU ok_addU.op (me_var (i := 2)) me_int) ma_nil)))) (pg_name (i := 6) sc__law_trace.nd rfl (Or.inl rfl)) gok_nm
  (mss_cons (ms_set (i := 5) sc__law_trace.nd rfl (Or.inl rfl) (me_bin op_addU ok_addU.op (me_var (i := 5)) (me_ix ix_seq ok_ix.op (me_lst (ma_cons me_int (ma_cons me_int (ma_cons me_int (ma_cons me_int (ma_cons me_int ma_nil)))))) (me_call (ok__law_draw T) g.tk (g.hr.mono (by decide)) rfl T.g__law_draw T.k__law_draw T.B__law_draw (ma_cons (me_var (i := 0)) (ma_cons me_int ma_nil))) (fun _ _ => rfl))))
  (mss_cons (ms_par (i := 7) (j := 8) g.calm sc__law_trace.nd rfl rfl (by decide) rfl rfl (ma_cons (me_ix ix_seq ok_ix.op (me_lst (ma_cons me_str (ma_cons me_str (ma_cons me_str ma_nil)))) (me_call (ok__law_draw T) g.tk (g.hr.mono (by decide)) rfl T.g__law_draw T.k__law_draw T.B__law_draw (ma_cons (me_var (i := 0)) (ma_cons me_int ma_nil))) (fun _ _ => rfl)) (ma_cons (me_ix ix_seq ok_ix.op (me_var (i := 1)) (me_call (ok__law_draw T) g.tk (g.hr.mono (by decide)) rfl T.g__law_draw T.k__law_draw T.B__law_draw (ma_cons (me_var (i := 0)) (ma_cons (me_blt cr_lenU ok_len.op rfl T.b_len rfl (ma_cons (me_var (i := 1)) ma_nil)) ma_nil))) (fun _ _ => rfl)) ma_nil)) (by rfl))
  (mss_one (ms_do (me_meth (by decide) PySem.F.plainAttrs_list PySem.F.slot_list_append PySem.F.type_list_append mt_append (mut_op mu_append) rfl (me_var (i := 4)) (ma_cons (me_tup (ma_cons (me_var (i := 5)) (ma_cons (me_var (i := 7)) (ma_cons (me_var (i := 8)) (ma_cons (me_ix ix_seq ok_ix.op (me_var (i := 3)) (me_call (ok__law_draw T) g.tk (g.hr.mono (by decide)) rfl T.g__law_draw T.k__law_draw T.B__law_draw (ma_cons (me_var (i := 0)) (ma_cons (me_blt cr_lenU ok_len.op rfl T.b_len rfl (ma_cons (me_var (i := 3)) ma_nil)) ma_nil))) (fun _ _ => rfl)) ma_nil))))) ma_nil)))))))
  (mss_one (ms_ret (me_var (i := 4))))))
theorem sc_is_integer : FnScope ["value"] ["value"] (defScope s_is_integer) := ⟨rfl, rfl, rfl, by decide +kernel, rfl, by decide +kernel, by decide +kernel⟩
theorem ok_is_integer (T : Txt P w K mg cn) : FnOk P w K mg base (L2.CX P w) 1 (ad_is_integer K) (fdA K (ad_is_integer K)) ["value"] (spM K cn f_is_integer 1) := fn_bodyD T.F_is_integer sc_is_integer fun cdv A outer s H E g =>
  (mss_one (ms_ret (me_and (me_blt call_isi (ok_isi T.isa).op rfl T.b_isinstance rfl (ma_cons (me_var (i := 0)) (ma_cons (me_ty (n := "int") rfl T.b_int rfl) ma_nil))) (me_one (me_not (me_blt call_isi (ok_isi T.isa).op rfl T.b_isinstance rfl (ma_cons (me_var (i := 0)) (ma_cons (me_ty (n := "bool") rfl T.b_bool rfl) ma_nil))))))))
theorem sc_is_between : FnScope ["value", "least", "most"] ["value", "least", "most"] (defScope s_is_between) := ⟨rfl, rfl, rfl, by decide +kernel, rfl, by decide +kernel, by decide +kernel⟩
theorem ok_is_between (T : Txt P w K mg cn) : FnOk P w K mg base (L2.CX P w) 2 (ad_is_between K) (fdA K (ad_is_between K)) ["value", "least", "most"] (spM K cn f_is_between 3) := fn_bodyD T.F_is_between sc_is_between fun cdv A outer s H E g =>
  (mss_one (ms_ret (me_and (me_call (ok_is_integer T) g.tk (g.hr.mono (by decide)) rfl T.g_is_integer T.k_is_integer T.B_is_integer (ma_cons (me_var (i := 0)) ma_nil)) (me_one (me_chain op_le op_le ok_le ok_le (me_var (i := 1)) (me_var (i := 0)) (me_var (i := 2)))))))
theorem sc_is_text_of : FnScope ["value", "letters", "most", "letter"] ["value", "letters", "most"] (defScope s_is_text_of) := ⟨rfl, rfl, rfl, by decide +kernel, rfl, by decide +kernel, by decide +kernel⟩
theorem ok_is_text_of (T : Txt P w K mg cn) : FnOk P w K mg base (L2.CX P w) 1 (ad_is_text_of K) (fdA K (ad_is_text_of K)) ["value", "letters", "most"] (spM K cn f_is_text_of 3) := fn_bodyD T.F_is_text_of sc_is_text_of fun cdv A outer s H E g =>
  (mss_one (ms_ret (me_and (me_blt call_isi (ok_isi T.isa).op rfl T.b_isinstance rfl (ma_cons (me_var (i := 0)) (ma_cons (me_ty (n := "str") rfl T.b_str rfl) ma_nil))) (me_and (me_chain op_le op_le ok_le ok_le me_int (me_blt cr_lenU ok_len.op rfl T.b_len rfl (ma_cons (me_var (i := 0)) ma_nil)) (me_var (i := 2))) (me_one (me_blt (cr_all g.calm) ok_all.op rfl T.b_all rfl (ma_cons (me_comp (own := [("letter", 3)]) g.calm sc_is_text_of.nd (mi_str (me_var (i := 0))) (blkOk_by (N := ["value", "letters", "most", "letter"]) (sc := defScope s_is_text_of) (own := [("letter", 3)]) (by decide +kernel)) (fun _ _ _ _ _ => (pg_name (i := 3) sc_is_text_of.nd rfl (Or.inl rfl))) (fun _ _ _ _ _ => mp_yes) (fun _ _ _ _ _ => (me_cmp (op_inU (hu64 g.hr)) ok_din.op (me_var (i := 3)) (me_var (i := 1)) (by rfl))) gok_nm (gin_nm (by decide))) ma_nil)))))))
theorem sc_is_name : FnScope ["value"] ["value"] (defScope s_is_name) := ⟨rfl, rfl, rfl, by decide +kernel, rfl, by decide +kernel, by decide +kernel⟩
theorem ok_is_name (T : Txt P w K mg cn) : FnOk P w K mg base (L2.CX P w) 2 (ad_is_name K) (fdA K (ad_is_name K)) ["value"] (spM K cn f_is_name 1) := fn_bodyD T.F_is_name sc_is_name fun cdv A outer s H E g =>
  (mss_one (ms_ret (me_call (ok_is_text_of T) g.tk (g.hr.mono (by decide)) rfl T.g_is_text_of T.k_is_text_of T.B_is_text_of (ma_cons (me_var (i := 0)) (ma_cons (me_glS rfl T.ks_LETTERS) (ma_cons me_int ma_nil))))))
theorem sc_is_path : FnScope ["value", "names", "name"] ["value"] (defScope s_is_path) := ⟨rfl, rfl, rfl, by decide +kernel, rfl, by decide +kernel, by decide +kernel⟩
theorem ok_is_path (T : Txt P w K mg cn) : FnOk P w K mg base (L2.CX P w) 3 (ad_is_path K) (fdA K (ad_is_path K)) ["value"] (spM K cn f_is_path 1) := fn_bodyD T.F_is_path sc_is_path fun cdv A outer s H E g =>
  (mss_cons (ms_if (mt_not (mt_val (me_blt call_isi (ok_isi T.isa).op rfl T.b_isinstance rfl (ma_cons (me_var (i := 0)) (ma_cons (me_ty (n := "str") rfl T.b_str rfl) ma_nil)))))
  (mss_one (ms_ret me_bl))
  mss_nil)
  (mss_cons (ms_set (i := 1) sc_is_path.nd rfl (Or.inl rfl) (me_meth (by decide) PySem.F.plainAttrs_str PySem.F.slot_str_split PySem.F.type_str_split mt_split ok_split.op rfl (me_var (i := 0)) (ma_cons me_str ma_nil)))
  (mss_one (ms_ret (me_and (me_cmp op_le ok_le.op (me_blt cr_lenU ok_len.op rfl T.b_len rfl (ma_cons (me_var (i := 1)) ma_nil)) (me_glI rfl T.ki_MOST_LEVELS) (nomark _)) (me_one (me_blt (cr_all g.calm) ok_all.op rfl T.b_all rfl (ma_cons (me_comp (own := [("name", 2)]) g.calm sc_is_path.nd (mi_seq (me_var (i := 1))) (blkOk_by (N := ["value", "names", "name"]) (sc := defScope s_is_path) (own := [("name", 2)]) (by decide +kernel)) (fun _ _ _ _ _ => (pg_name (i := 2) sc_is_path.nd rfl (Or.inl rfl))) (fun _ _ _ _ _ => mp_yes) (fun _ _ _ _ _ => (me_call (ok_is_name T) takes0 (g.hr.mono (by decide)) rfl T.g_is_name T.k_is_name T.B_is_name (ma_cons (me_var (i := 2)) ma_nil))) gok_nm (gin_nm (by decide))) ma_nil))))))))
theorem sc_is_page : FnScope ["value"] ["value"] (defScope s_is_page) := ⟨rfl, rfl, rfl, by decide +kernel, rfl, by decide +kernel, by decide +kernel⟩
theorem ok_is_page (T : Txt P w K mg cn) : FnOk P w K mg base (L2.CX P w) 2 (ad_is_page K) (fdA K (ad_is_page K)) ["value"] (spM K cn f_is_page 1) := fn_bodyD T.F_is_page sc_is_page fun cdv A outer s H E g =>
  (mss_one (ms_ret (me_call (ok_is_text_of T) g.tk (g.hr.mono (by decide)) rfl T.g_is_text_of T.k_is_text_of T.B_is_text_of (ma_cons (me_var (i := 0)) (ma_cons (me_bin op_addU ok_addU.op (me_glS rfl T.ks_LETTERS) (me_glS rfl T.ks_DIGITS)) (ma_cons me_int ma_nil))))))
theorem sc_is_request : FnScope ["value"] ["value"] (defScope s_is_request) := ⟨rfl, rfl, rfl, by decide +kernel, rfl, by decide +kernel, by decide +kernel⟩
theorem ok_is_request (T : Txt P w K mg cn) : FnOk P w K mg base (L2.CX P w) 4 (ad_is_request K) (fdA K (ad_is_request K)) ["value"] (spM K cn f_is_request 1) := fn_bodyD T.F_is_request sc_is_request fun cdv A outer s H E g =>
  (mss_cons (ms_if (PW.pt (mw_or (mt_not (mt_val (me_blt call_isi (ok_isi T.isa).op rfl T.b_isinstance rfl (ma_cons (me_var (i := 0)) (ma_cons (me_ty (n := "tuple") rfl T.b_tuple rfl) ma_nil))))) (mw_or (mt_cmp (op_dne (hu64 g.hr)) ok_deq.op (me_blt cr_lenU ok_len.op rfl T.b_len rfl (ma_cons (me_var (i := 0)) ma_nil)) me_int (nomark _)) (mw_or1 (mt_not (mt_val (me_call (ok_is_between T) g.tk (g.hr.mono (by decide)) rfl T.g_is_between T.k_is_between T.B_is_between (ma_cons (me_ix ix_seq ok_ix.op (me_var (i := 0)) me_int (fun _ _ => rfl)) (ma_cons me_int (ma_cons (me_glI rfl T.ki_MOST_NUMBER) ma_nil))))))))))
  (mss_one (ms_ret me_bl))
  mss_nil)
  (mss_one (ms_ret (me_and (me_blt call_isi (ok_isi T.isa).op rfl T.b_isinstance rfl (ma_cons (me_ix ix_seq ok_ix.op (me_var (i := 0)) me_int (fun _ _ => rfl)) (ma_cons (me_ty (n := "str") rfl T.b_str rfl) ma_nil))) (me_and (me_cmp (op_inU (hu64 g.hr)) ok_din.op (me_ix ix_seq ok_ix.op (me_var (i := 0)) me_int (fun _ _ => rfl)) (me_glT (xs := ["read", "write"]) rfl T.gC_KINDS T.kt_KINDS) (by rfl)) (me_and (me_call (ok_is_path T) g.tk (g.hr.mono (by decide)) rfl T.g_is_path T.k_is_path T.B_is_path (ma_cons (me_ix ix_seq ok_ix.op (me_var (i := 0)) me_int (fun _ _ => rfl)) ma_nil)) (me_one (me_call (ok_is_page T) g.tk (g.hr.mono (by decide)) rfl T.g_is_page T.k_is_page T.B_is_page (ma_cons (me_ix ix_seq ok_ix.op (me_var (i := 0)) me_int (fun _ _ => rfl)) ma_nil)))))))))
theorem sc_check_requests : FnScope ["value", "last", "position", "request"] ["value"] (defScope s_check_requests) := ⟨rfl, rfl, rfl, by decide +kernel, rfl, by decide +kernel, by decide +kernel⟩
theorem ok_check_requests (T : Txt P w K mg cn) : FnOk P w K mg base (L2.CX P w) 5 (ad_check_requests K) (fdA K (ad_check_requests K)) ["value"] (spM K cn f_check_requests 1) := fn_bodyD T.F_check_requests sc_check_requests fun cdv A outer s H E g =>
  (mss_cons (ms_if (mt_not (mt_val (me_blt call_isiU (ok_isiT T.isa).op rfl T.b_isinstance rfl (ma_cons (me_var (i := 0)) (ma_cons (me_tup (ma_cons (me_ty (n := "list") rfl T.b_list rfl) (ma_cons (me_ty (n := "tuple") rfl T.b_tuple rfl) ma_nil))) ma_nil)))))
  (mss_one (ms_raise g.calm T.er_InvalidTrace g.hr g.tk me_non))
  mss_nil)
  (mss_cons (ms_set (i := 1) sc_check_requests.nd rfl (Or.inl rfl) me_int)
  (mss_one (ms_for g.hp g.calm (mi_enum1 rfl T.b_enumerate (me_var (i := 0))) (pg_tup g.calm (pgs_cons (pg_name (i := 2) sc_check_requests.nd rfl (Or.inl rfl)) (pgs_cons (pg_name (i := 3) sc_check_requests.nd rfl (Or.inl rfl)) pgs_nil))) (gok_tp (gsok_cons gok_nm (gsok_cons gok_nm gsok_nil)) rfl)
  (mss_cons (ms_if (PW.pt (mw_or (mt_not (mt_val (me_call (ok_is_request T) g.tk (g.hr.mono (by decide)) rfl T.g_is_request T.k_is_request T.B_is_request (ma_cons (me_var (i := 3)) ma_nil)))) (mw_or1 (mt_cmp op_lt ok_lt.op (me_ix ix_seq ok_ix.op (me_var (i := 3)) me_int (fun _ _ => rfl)) (me_var (i := 1)) (nomark _)))))
  (mss_one (ms_raise g.calm T.er_InvalidTrace g.hr g.tk (me_var (i := 2))))
  mss_nil)
  (mss_one (ms_set (i := 1) sc_check_requests.nd rfl (Or.inl rfl) (me_ix ix_seq ok_ix.op (me_var (i := 3)) me_int (fun _ _ => rfl)))))))))
theorem sc_Trace_D_init_D : FnScope ["self", "requests"] ["self", "requests"] (defScope s_Trace_D_init_D) := ⟨rfl, rfl, rfl, by decide +kernel, rfl, by decide +kernel, by decide +kernel⟩
theorem ok_Trace_D_init_D (T : Txt P w K mg cn) : FnOk P w K mg base (L2.CX P w) 6 (ad_Trace_D_init_D K) (fdA K (ad_Trace_D_init_D K)) ["self", "requests"] (spI K cn "Trace" f_Trace_D_init_D 2) := init_bodyD T.F_Trace_D_init_D sc_Trace_D_init_D fun cdv A outer s H E g =>
  (mss_cons (ms_do (me_call (ok_check_requests T) g.tk (g.hr.mono (by decide)) rfl T.g_check_requests T.k_check_requests T.B_check_requests (ma_cons (me_var (i := 1)) ma_nil)))
  (mss_one (ms_fld T.fl_own_requests (me_var (i := 0)) (me_bty call_tuple_of ok_tupleOf.op rfl T.b_tuple rfl (ma_cons (me_var (i := 1)) ma_nil)))))
theorem sc_check_number : FnScope ["value", "least", "most"] ["value", "least", "most"] (defScope s_check_number) := ⟨rfl, rfl, rfl, by decide +kernel, rfl, by decide +kernel, by decide +kernel⟩
theorem ok_check_number (T : Txt P w K mg cn) : FnOk P w K mg base (L2.CX P w) 3 (ad_check_number K) (fdA K (ad_check_number K)) ["value", "least", "most"] (spM K cn f_check_number 3) := fn_bodyD T.F_check_number sc_check_number fun cdv A outer s H E g =>
  (mss_one (ms_if (mt_not (mt_val (me_call (ok_is_between T) g.tk (g.hr.mono (by decide)) rfl T.g_is_between T.k_is_between T.B_is_between (ma_cons (me_var (i := 0)) (ma_cons (me_var (i := 1)) (ma_cons (me_var (i := 2)) ma_nil))))))
  (mss_one (ms_raise g.calm T.er_InvalidNumber g.hr g.tk (me_var (i := 0))))
  mss_nil))
theorem sc_Trace_end : FnScope ["self"] ["self"] (defScope s_Trace_end) := ⟨rfl, rfl, rfl, by decide +kernel, rfl, by decide +kernel, by decide +kernel⟩
theorem ok_Trace_end (T : Txt P w K mg cn) : FnOk P w K mg base (L2.CX P w) 1 (ad_Trace_end K) (fdA K (ad_Trace_end K)) ["self"] (spM K cn f_Trace_end 1) := fn_bodyD T.F_Trace_end sc_Trace_end fun cdv A outer s H E g =>
  (mss_one (ms_ret (me_ifE (mt_cmp (op_dne (hu64 g.hr)) ok_deq.op (me_fld T.fl_own_requests (me_var (i := 0))) (me_tup ma_nil) (nomark _)) (me_ix ix_seq ok_ix.op (me_ix ix_seq ok_ix.op (me_fld T.fl_own_requests (me_var (i := 0))) (me_un un_neg ok_neg.op me_int) (fun _ _ => rfl)) me_int (fun _ _ => rfl)) me_int)))
theorem sc_Trace_later : FnScope ["self", "ticks", "at", "kind", "path", "page"] ["self", "ticks"] (defScope s_Trace_later) := ⟨rfl, rfl, rfl, by decide +kernel, rfl, by decide +kernel, by decide +kernel⟩
theorem ok_Trace_later (T : Txt P w K mg cn) : FnOk P w K mg base (L2.CX P w) 8 (ad_Trace_later K) (fdA K (ad_Trace_later K)) ["self", "ticks"] (spM K cn f_Trace_later 2) := fn_bodyD T.F_Trace_later sc_Trace_later fun cdv A outer s H E g =>
  (mss_cons (ms_do (me_call (ok_check_number T) g.tk (g.hr.mono (by decide)) rfl T.g_check_number T.k_check_number T.B_check_number (ma_cons (me_var (i := 1)) (ma_cons me_int (ma_cons (me_bin op_sub ok_sub.op (me_glI rfl T.ki_MOST_NUMBER) (me_prop T.cl_Trace T.p_Trace_end (ok_Trace_end T) (g.hr.mono (by decide)) T.B_Trace_end noX (me_var (i := 0)))) ma_nil)))))
  (mss_one (ms_ret (me_make T.mk_Trace (ok_Trace_D_init_D T) g.tk (g.hr.mono (by decide)) rfl T.gC_Trace T.B_Trace_D_init_D .nil cld_nil (ma_cons (me_comp (own := [("at", 2), ("kind", 3), ("path", 4), ("page", 5)]) g.calm sc_Trace_later.nd (mi_seq (me_fld T.fl_own_requests (me_var (i := 0)))) (blkOk_by (N := ["self", "ticks", "at", "kind", "path", "page"]) (sc := defScope s_Trace_later) (own := [("at", 2), ("kind", 3), ("path", 4), ("page", 5)]) (by decide +kernel)) (fun _ _ _ _ _ => (pg_tup rfl (pgs_cons (pg_name (i := 2) sc_Trace_later.nd rfl (Or.inl rfl)) (pgs_cons (pg_name (i := 3) sc_Trace_later.nd rfl (Or.inl rfl)) (pgs_cons (pg_name (i := 4) sc_Trace_later.nd rfl (Or.inl rfl)) (pgs_cons (pg_name (i := 5) sc_Trace_later.nd rfl (Or.inl rfl)) pgs_nil)))))) (fun _ _ _ _ _ => mp_yes) (fun _ _ _ _ _ => (me_tup (ma_cons (me_bin op_addU ok_addU.op (me_var (i := 2)) (me_var (i := 1))) (ma_cons (me_var (i := 3)) (ma_cons (me_var (i := 4)) (ma_cons (me_var (i := 5)) ma_nil)))))) (gok_tp (gsok_cons gok_nm (gsok_cons gok_nm (gsok_cons gok_nm (gsok_cons gok_nm gsok_nil)))) rfl) (gin_tp (gsin_cons (gin_nm (by decide)) (gsin_cons (gin_nm (by decide)) (gsin_cons (gin_nm (by decide)) (gsin_cons (gin_nm (by decide)) gsin_nil)))))) ma_nil)))))
theorem sc_Trace_D_add_D : FnScope ["self", "other"] ["self", "other"] (defScope s_Trace_D_add_D) := ⟨rfl, rfl, rfl, by decide +kernel, rfl, by decide +kernel, by decide +kernel⟩
theorem ok_Trace_D_add_D (T : Txt P w K mg cn) : FnOk P w K mg base (L2.CX P w) 9 (ad_Trace_D_add_D K) (fdA K (ad_Trace_D_add_D K)) ["self", "other"] (spM K cn f_Trace_D_add_D 2) := fn_bodyD T.F_Trace_D_add_D sc_Trace_D_add_D fun cdv A outer s H E g =>
  (mss_cons (ms_if (mt_not (mt_val (me_blt call_isi (ok_isi T.isa).op rfl T.b_isinstance rfl (ma_cons (me_var (i := 1)) (ma_cons (me_gl (n := "Trace") rfl T.gC_Trace) ma_nil)))))
  (mss_one ms_never)
  mss_nil)
  (mss_cons (ms_do (me_call (ok_check_number T) g.tk (g.hr.mono (by decide)) rfl T.g_check_number T.k_check_number T.B_check_number (ma_cons (me_bin op_addU ok_addU.op (me_prop T.cl_Trace T.p_Trace_end (ok_Trace_end T) (g.hr.mono (by decide)) T.B_Trace_end noX (me_var (i := 0))) (me_prop T.cl_Trace T.p_Trace_end (ok_Trace_end T) (g.hr.mono (by decide)) T.B_Trace_end noX (me_var (i := 1)))) (ma_cons me_int (ma_cons (me_glI rfl T.ki_MOST_NUMBER) ma_nil)))))
  (mss_one (ms_ret (me_make T.mk_Trace (ok_Trace_D_init_D T) g.tk (g.hr.mono (by decide)) rfl T.gC_Trace T.B_Trace_D_init_D .nil cld_nil (ma_cons (me_bin op_addU ok_addU.op (me_fld T.fl_own_requests (me_var (i := 0))) (me_fld T.fl_own_requests (me_ometh T.cl_Trace T.mt_Trace_later (ok_Trace_later T) g.tk (g.hr.mono (by decide)) T.B_Trace_later .nil cld_nil (me_var (i := 1)) (ma_cons (me_prop T.cl_Trace T.p_Trace_end (ok_Trace_end T) (g.hr.mono (by decide)) T.B_Trace_end noX (me_var (i := 0))) ma_nil)))) ma_nil))))))
theorem sc_Trace_rows : FnScope ["self"] ["self"] (defScope s_Trace_rows) := ⟨rfl, rfl, rfl, by decide +kernel, rfl, by decide +kernel, by decide +kernel⟩
theorem ok_Trace_rows (T : Txt P w K mg cn) : FnOk P w K mg base (L2.CX P w) 1 (ad_Trace_rows K) (fdA K (ad_Trace_rows K)) ["self"] (spM K cn f_Trace_rows 1) := fn_bodyD T.F_Trace_rows sc_Trace_rows fun cdv A outer s H E g =>
  (mss_one (ms_ret (me_bty call_list_of ok_list.op rfl T.b_list rfl (ma_cons (me_fld T.fl_own_requests (me_var (i := 0))) ma_nil))))
theorem sc__law_added : FnScope ["_law_one", "_law_other", "_law_end", "_law_row"] ["_law_one", "_law_other"] (defScope s__law_added) := ⟨rfl, rfl, rfl, by decide +kernel, rfl, by decide +kernel, by decide +kernel⟩
theorem ok__law_added (T : Txt P w K mg cn) : FnOk P w K mg base (L2.CX P w) 1 (ad__law_added K) (fdA K (ad__law_added K)) ["_law_one", "_law_other"] (spM K cn f__law_added 2) := fn_bodyD T.F__law_added sc__law_added fun cdv A outer s H E g =>
  (mss_cons (ms_set (i := 2) sc__law_added.nd rfl (Or.inr rfl) (me_ix ix_seq ok_ix.op (me_bin op_addU ok_addU.op (me_lst (ma_cons me_int ma_nil)) (me_comp (own := [("_law_row", 3)]) g.calm sc__law_added.nd (mi_seq (me_var (i := 0))) (blkOk_by (N := ["_law_one", "_law_other", "_law_end", "_law_row"]) (sc := defScope s__law_added) (own := [("_law_row", 3)]) (by decide +kernel)) (fun _ _ _ _ _ => (pg_name (i := 3) sc__law_added.nd rfl (Or.inl rfl))) (fun _ _ _ _ _ => mp_yes) (fun _ _ _ _ _ => (me_ix ix_seq ok_ix.op (me_var (i := 3)) me_int (fun _ _ => rfl))) gok_nm (gin_nm (by decide)))) (me_un un_neg ok_neg.op me_int) (fun _ _ => rfl)))
  (mss_one (ms_ret (me_bin op_addU ok_addU.op (me_var (i := 0)) (me_comp (own := [("_law_row", 3)]) g.calm sc__law_added.nd (mi_seq (me_var (i := 1))) (blkOk_by (N := ["_law_one", "_law_other", "_law_end", "_law_row"]) (sc := defScope s__law_added) (own := [("_law_row", 3)]) (by decide +kernel)) (fun _ _ _ _ _ => (pg_name (i := 3) sc__law_added.nd rfl (Or.inl rfl))) (fun _ _ _ _ _ => mp_yes) (fun _ _ _ _ _ => (me_tup (ma_cons (me_bin op_addU ok_addU.op (me_ix ix_seq ok_ix.op (me_var (i := 3)) me_int (fun _ _ => rfl)) (me_var (i := 2))) (ma_cons (me_ix ix_seq ok_ix.op (me_var (i := 3)) me_int (fun _ _ => rfl)) (ma_cons (me_ix ix_seq ok_ix.op (me_var (i := 3)) me_int (fun _ _ => rfl)) (ma_cons (me_ix ix_seq ok_ix.op (me_var (i := 3)) me_int (fun _ _ => rfl)) ma_nil)))))) gok_nm (gin_nm (by decide)))))))
theorem sc_moment_of : FnScope ["request"] ["request"] (defScope s_moment_of) := ⟨rfl, rfl, rfl, by decide +kernel, rfl, by decide +kernel, by decide +kernel⟩
theorem ok_moment_of (T : Txt P w K mg cn) : FnOk P w K mg base (L2.CX P w) 1 (ad_moment_of K) (fdA K (ad_moment_of K)) ["request"] (spM K cn f_moment_of 1) := fn_bodyD T.F_moment_of sc_moment_of fun cdv A outer s H E g =>
  (mss_one (ms_ret (me_ix ix_seq ok_ix.op (me_var (i := 0)) me_int (fun _ _ => rfl))))
theorem sc_merged : FnScope ["one", "other"] ["one", "other"] (defScope s_merged) := ⟨rfl, rfl, rfl, by decide +kernel, rfl, by decide +kernel, by decide +kernel⟩
theorem ok_merged (T : Txt P w K mg cn) : FnOk P w K mg base (L2.CX P w) 4 (ad_merged K) (fdA K (ad_merged K)) ["one", "other"] (spM K cn f_merged 2) := fn_bodyD T.F_merged sc_merged fun cdv A outer s H E g =>
  (mss_one (ms_ret (me_sortK (ok_moment_of T) (g.hr.mono (by decide)) T.B_moment_of rfl T.g_moment_of rfl T.b_sorted rfl (ma_cons (me_lst (ma_star (me_var (i := 0)) (ma_star (me_var (i := 1)) ma_nil))) ma_nil))))
theorem sc_Trace_D_or_D : FnScope ["self", "other"] ["self", "other"] (defScope s_Trace_D_or_D) := ⟨rfl, rfl, rfl, by decide +kernel, rfl, by decide +kernel, by decide +kernel⟩
theorem ok_Trace_D_or_D (T : Txt P w K mg cn) : FnOk P w K mg base (L2.CX P w) 8 (ad_Trace_D_or_D K) (fdA K (ad_Trace_D_or_D K)) ["self", "other"] (spM K cn f_Trace_D_or_D 2) := fn_bodyD T.F_Trace_D_or_D sc_Trace_D_or_D fun cdv A outer s H E g =>
  (mss_cons (ms_if (mt_not (mt_val (me_blt call_isi (ok_isi T.isa).op rfl T.b_isinstance rfl (ma_cons (me_var (i := 1)) (ma_cons (me_gl (n := "Trace") rfl T.gC_Trace) ma_nil)))))
  (mss_one ms_never)
  mss_nil)
  (mss_one (ms_ret (me_make T.mk_Trace (ok_Trace_D_init_D T) g.tk (g.hr.mono (by decide)) rfl T.gC_Trace T.B_Trace_D_init_D .nil cld_nil (ma_cons (me_call (ok_merged T) g.tk (g.hr.mono (by decide)) rfl T.g_merged T.k_merged T.B_merged (ma_cons (me_fld T.fl_own_requests (me_var (i := 0))) (ma_cons (me_fld T.fl_own_requests (me_var (i := 1))) ma_nil))) ma_nil)))))
theorem sc__law_merged : FnScope ["_law_one", "_law_other", "_law_left", "_law_found", "_law_row"] ["_law_one", "_law_other"] (defScope s__law_merged) := ⟨rfl, rfl, rfl, by decide +kernel, rfl, by decide +kernel, by decide +kernel⟩
theorem ok__law_merged (T : Txt P w K mg cn) : FnOk P w K mg base (L2.CX P w) 1 (ad__law_merged K) (fdA K (ad__law_merged K)) ["_law_one", "_law_other"] (spM K cn f__law_merged 2) := fn_bodyD T.F__law_merged sc__law_merged fun cdv A outer s H E g =>
  (mss_cons (ms_par (i := 2) (j := 3) g.calm sc__law_merged.nd rfl rfl (by decide) rfl rfl (ma_cons (me_bty call_list_of ok_list.op rfl T.b_list rfl (ma_cons (me_var (i := 0)) ma_nil)) (ma_cons (me_lst ma_nil) ma_nil)) (by rfl))
  (mss_cons (ms_for g.hp g.calm (mi_seq (me_var (i := 1))) (pg_name (i := 4) sc__law_merged.nd rfl (Or.inl rfl)) gok_nm
  (mss_cons (ms_while (10 ^ 300) g.hp (PW.pt (mw_and (mt_cmp (op_dne (hu64 g.hr)) ok_deq.op (me_var (i := 2)) (me_lst ma_nil) (nomark _)) (mw_and1 (mt_cmp op_le ok_le.op (me_ix ix_seq ok_ix.op (me_ix ix_seq ok_ix.op (me_var (i := 2)) me_int (fun _ _ => rfl)) me_int (fun _ _ => rfl)) (me_ix ix_seq ok_ix.op (me_var (i := 4)) me_int (fun _ _ => rfl)) (nomark _))))) (mss_one (ms_do (me_meth (by decide) PySem.F.plainAttrs_list PySem.F.slot_list_append PySem.F.type_list_append mt_append (mut_op mu_append) rfl (me_var (i := 3)) (ma_cons (me_meth (by decide) PySem.F.plainAttrs_list PySem.F.slot_list_pop PySem.F.type_list_pop mt_popAt (mut_op mu_popAt) rfl (me_var (i := 2)) (ma_cons me_int ma_nil)) ma_nil)))))
  (mss_one (ms_do (me_meth (by decide) PySem.F.plainAttrs_list PySem.F.slot_list_append PySem.F.type_list_append mt_append (mut_op mu_append) rfl (me_var (i := 3)) (ma_cons (me_var (i := 4)) ma_nil))))))
  (mss_one (ms_ret (me_bin op_addU ok_addU.op (me_var (i := 3)) (me_var (i := 2)))))))
theorem sc_Trace_D_eq_D : FnScope ["self", "other"] ["self", "other"] (defScope s_Trace_D_eq_D) := ⟨rfl, rfl, rfl, by decide +kernel, rfl, by decide +kernel, by decide +kernel⟩
theorem ok_Trace_D_eq_D (T : Txt P w K mg cn) : FnOk P w K mg base (L2.CX P w) 1 (ad_Trace_D_eq_D K) (fdA K (ad_Trace_D_eq_D K)) ["self", "other"] (spM K cn f_Trace_D_eq_D 2) := fn_bodyD T.F_Trace_D_eq_D sc_Trace_D_eq_D fun cdv A outer s H E g =>
  (mss_one (ms_ret (me_and (me_blt call_isi (ok_isi T.isa).op rfl T.b_isinstance rfl (ma_cons (me_var (i := 1)) (ma_cons (me_gl (n := "Trace") rfl T.gC_Trace) ma_nil))) (me_one (me_cmp (op_deq (hu64 g.hr)) ok_deq.op (me_fld T.fl_own_requests (me_var (i := 0))) (me_fld T.fl_own_requests (me_var (i := 1))) (nomark _))))))
theorem sc_Trace_pages : FnScope ["self", "request"] ["self"] (defScope s_Trace_pages) := ⟨rfl, rfl, rfl, by decide +kernel, rfl, by decide +kernel, by decide +kernel⟩
theorem ok_Trace_pages (T : Txt P w K mg cn) : FnOk P w K mg base (L2.CX P w) 1 (ad_Trace_pages K) (fdA K (ad_Trace_pages K)) ["self"] (spM K cn f_Trace_pages 1) := fn_bodyD T.F_Trace_pages sc_Trace_pages fun cdv A outer s H E g =>
  (mss_one (ms_ret (me_sortSC (own := [("request", 1)]) (hu80 g.hr) rfl T.b_sorted rfl g.calm sc_Trace_pages.nd (mi_seq (me_fld T.fl_own_requests (me_var (i := 0)))) (blkOk_by (N := ["self", "request"]) (sc := defScope s_Trace_pages) (own := [("request", 1)]) (by decide +kernel)) (fun _ _ _ _ _ => (pg_name (i := 1) sc_Trace_pages.nd rfl (Or.inl rfl))) (fun _ _ _ _ _ => mp_yes) (fun _ _ _ _ _ => (me_ix ix_seq ok_ix.op (me_var (i := 1)) me_int (fun _ _ => rfl))) gok_nm (gin_nm (by decide)))))
theorem sc_Trace_D_len_D : FnScope ["self"] ["self"] (defScope s_Trace_D_len_D) := ⟨rfl, rfl, rfl, by decide +kernel, rfl, by decide +kernel, by decide +kernel⟩
theorem ok_Trace_D_len_D (T : Txt P w K mg cn) : FnOk P w K mg base (L2.CX P w) 1 (ad_Trace_D_len_D K) (fdA K (ad_Trace_D_len_D K)) ["self"] (spM K cn f_Trace_D_len_D 1) := fn_bodyD T.F_Trace_D_len_D sc_Trace_D_len_D fun cdv A outer s H E g =>
  (mss_one (ms_ret (me_blt cr_lenU ok_len.op rfl T.b_len rfl (ma_cons (me_fld T.fl_own_requests (me_var (i := 0))) ma_nil))))
theorem sc_Trace_paths : FnScope ["self", "request"] ["self"] (defScope s_Trace_paths) := ⟨rfl, rfl, rfl, by decide +kernel, rfl, by decide +kernel, by decide +kernel⟩
theorem ok_Trace_paths (T : Txt P w K mg cn) : FnOk P w K mg base (L2.CX P w) 1 (ad_Trace_paths K) (fdA K (ad_Trace_paths K)) ["self"] (spM K cn f_Trace_paths 1) := fn_bodyD T.F_Trace_paths sc_Trace_paths fun cdv A outer s H E g =>
  (mss_one (ms_ret (me_sortSC (own := [("request", 1)]) (hu80 g.hr) rfl T.b_sorted rfl g.calm sc_Trace_paths.nd (mi_seq (me_fld T.fl_own_requests (me_var (i := 0)))) (blkOk_by (N := ["self", "request"]) (sc := defScope s_Trace_paths) (own := [("request", 1)]) (by decide +kernel)) (fun _ _ _ _ _ => (pg_name (i := 1) sc_Trace_paths.nd rfl (Or.inl rfl))) (fun _ _ _ _ _ => mp_yes) (fun _ _ _ _ _ => (me_ix ix_seq ok_ix.op (me_var (i := 1)) me_int (fun _ _ => rfl))) gok_nm (gin_nm (by decide)))))
theorem sc_check_path : FnScope ["value"] ["value"] (defScope s_check_path) := ⟨rfl, rfl, rfl, by decide +kernel, rfl, by decide +kernel, by decide +kernel⟩
theorem ok_check_path (T : Txt P w K mg cn) : FnOk P w K mg base (L2.CX P w) 4 (ad_check_path K) (fdA K (ad_check_path K)) ["value"] (spM K cn f_check_path 1) := fn_bodyD T.F_check_path sc_check_path fun cdv A outer s H E g =>
  (mss_one (ms_if (mt_not (mt_val (me_call (ok_is_path T) g.tk (g.hr.mono (by decide)) rfl T.g_is_path T.k_is_path T.B_is_path (ma_cons (me_var (i := 0)) ma_nil))))
  (mss_one (ms_raise g.calm T.er_InvalidName g.hr g.tk (me_var (i := 0))))
  mss_nil))
theorem sc_is_below : FnScope ["path", "above"] ["path", "above"] (defScope s_is_below) := ⟨rfl, rfl, rfl, by decide +kernel, rfl, by decide +kernel, by decide +kernel⟩
theorem ok_is_below (T : Txt P w K mg cn) : FnOk P w K mg base (L2.CX P w) 1 (ad_is_below K) (fdA K (ad_is_below K)) ["path", "above"] (spM K cn f_is_below 2) := fn_bodyD T.F_is_below sc_is_below fun cdv A outer s H E g =>
  (mss_one (ms_ret (me_or (me_cmp (op_deq (hu64 g.hr)) ok_deq.op (me_var (i := 0)) (me_var (i := 1)) (nomark _)) (me_one (me_meth (by decide) PySem.F.plainAttrs_str PySem.F.slot_str_startswith PySem.F.type_str_startswith mt_startswith ok_starts.op rfl (me_var (i := 0)) (ma_cons (me_bin op_addU ok_addU.op (me_var (i := 1)) me_str) ma_nil))))))
theorem sc_Trace_of : FnScope ["self", "path", "request"] ["self", "path"] (defScope s_Trace_of) := ⟨rfl, rfl, rfl, by decide +kernel, rfl, by decide +kernel, by decide +kernel⟩
theorem ok_Trace_of (T : Txt P w K mg cn) : FnOk P w K mg base (L2.CX P w) 8 (ad_Trace_of K) (fdA K (ad_Trace_of K)) ["self", "path"] (spM K cn f_Trace_of 2) := fn_bodyD T.F_Trace_of sc_Trace_of fun cdv A outer s H E g =>
  (mss_cons (ms_do (me_call (ok_check_path T) g.tk (g.hr.mono (by decide)) rfl T.g_check_path T.k_check_path T.B_check_path (ma_cons (me_var (i := 1)) ma_nil)))
  (mss_one (ms_ret (me_make T.mk_Trace (ok_Trace_D_init_D T) g.tk (g.hr.mono (by decide)) rfl T.gC_Trace T.B_Trace_D_init_D .nil cld_nil (ma_cons (me_comp (own := [("request", 2)]) g.calm sc_Trace_of.nd (mi_seq (me_fld T.fl_own_requests (me_var (i := 0)))) (blkOk_by (N := ["self", "path", "request"]) (sc := defScope s_Trace_of) (own := [("request", 2)]) (by decide +kernel)) (fun _ _ _ _ _ => (pg_name (i := 2) sc_Trace_of.nd rfl (Or.inl rfl))) (fun _ _ _ _ _ => (mp_one (mt_val (me_call (ok_is_below T) takes0 (g.hr.mono (by decide)) rfl T.g_is_below T.k_is_below T.B_is_below (ma_cons (me_ix ix_seq ok_ix.op (me_var (i := 2)) me_int (fun _ _ => rfl)) (ma_cons (me_var (i := 1)) ma_nil)))))) (fun _ _ _ _ _ => (me_var (i := 2))) gok_nm (gin_nm (by decide))) ma_nil)))))
theorem sc_Trace_part : FnScope ["self", "start", "end"] ["self", "start", "end"] (defScope s_Trace_part) := ⟨rfl, rfl, rfl, by decide +kernel, rfl, by decide +kernel, by decide +kernel⟩
theorem ok_Trace_part (T : Txt P w K mg cn) : FnOk P w K mg base (L2.CX P w) 8 (ad_Trace_part K) (fdA K (ad_Trace_part K)) ["self", "start", "end"] (spM K cn f_Trace_part 3) := fn_bodyD T.F_Trace_part sc_Trace_part fun cdv A outer s H E g =>
  (mss_cons (ms_do (me_call (ok_check_number T) g.tk (g.hr.mono (by decide)) rfl T.g_check_number T.k_check_number T.B_check_number (ma_cons (me_var (i := 1)) (ma_cons me_int (ma_cons (me_blt cr_lenU ok_len.op rfl T.b_len rfl (ma_cons (me_fld T.fl_own_requests (me_var (i := 0))) ma_nil)) ma_nil)))))
  (mss_cons (ms_do (me_call (ok_check_number T) g.tk (g.hr.mono (by decide)) rfl T.g_check_number T.k_check_number T.B_check_number (ma_cons (me_var (i := 2)) (ma_cons (me_var (i := 1)) (ma_cons (me_blt cr_lenU ok_len.op rfl T.b_len rfl (ma_cons (me_fld T.fl_own_requests (me_var (i := 0))) ma_nil)) ma_nil)))))
  (mss_one (ms_ret (me_make T.mk_Trace (ok_Trace_D_init_D T) g.tk (g.hr.mono (by decide)) rfl T.gC_Trace T.B_Trace_D_init_D .nil cld_nil (ma_cons (me_sl (me_fld T.fl_own_requests (me_var (i := 0))) (po_some (me_var (i := 1))) (po_some (me_var (i := 2))) part_some part_some) ma_nil))))))
theorem sc_law : FnScope ["_law_script", "_law_k", "_law_pool", "_law_some", "_law_turn", "_law_one", "_law_two", "_law_three", "_law_rows", "_law_both", "_law_path"] ["_law_script"] (defScope s_law) := ⟨rfl, rfl, rfl, by decide +kernel, rfl, by decide +kernel, by decide +kernel⟩
theorem ok_law (T : Txt P w K mg cn) : FnOk P w K mg base (L2.CX P w) 10 (ad_law K) (fdA K (ad_law K)) ["_law_script"] (spM K cn f_law 1) := fn_bodyD T.F_law sc_law fun cdv A outer s H E g =>
  (mss_cons (ms_for g.hp g.calm (mi_range1 rfl T.b_range (me_blt (cr_maxU g.calm) ok_max.op rfl T.b_max rfl (ma_cons me_int (ma_cons (me_blt (cr_minU g.calm) ok_min.op rfl T.b_min rfl (ma_cons (me_blt cr_lenU ok_len.op rfl T.b_len rfl (ma_cons (me_var (i := 0)) ma_nil)) (ma_cons me_int ma_nil))) ma_nil)))) (pg_name (i := 1) sc_law.nd rfl (Or.inl rfl)) gok_nm
  (mss_cons (ms_set (i := 2) sc_law.nd rfl (Or.inr rfl) (me_cell (me_call (ok__law_hand T) g.tk (g.hr.mono (by decide)) rfl T.g__law_hand T.k__law_hand T.B__law_hand (ma_cons (me_var (i := 0)) (ma_cons (me_var (i := 1)) ma_nil)))))
  (mss_cons (ms_setLc (i := 3) (own := [("_law_turn", 4)]) g.calm sc_law.nd rfl rfl (sw_true rfl rfl rfl (by decide +kernel)) (mi_range1 rfl T.b_range me_int) (blkOk_by (N := ["_law_script", "_law_k", "_law_pool", "_law_some", "_law_turn", "_law_one", "_law_two", "_law_three", "_law_rows", "_law_both", "_law_path"]) (sc := defScope s_law) (own := [("_law_turn", 4)]) (by decide +kernel)) (fun _ _ _ _ _ => (pg_name (i := 4) sc_law.nd rfl (Or.inl rfl))) (fun _ _ _ _ _ => mp_yes) (fun _ _ _ _ _ => (me_call (ok__law_trace T) takes0 (g.hr.mono (by decide)) rfl T.g__law_trace T.k__law_trace T.B__law_trace (ma_cons (me_var (i := 2)) (ma_cons (me_lst (ma_cons me_str (ma_cons me_str (ma_cons me_str ma_nil)))) (ma_cons me_int (ma_cons me_str ma_nil)))))) gok_nm (gin_nm (by decide)))
  (mss_cons (ms_asg (me_comp (own := [("_law_rows", 8)]) g.calm sc_law.nd (mi_seq (me_var (i := 3))) (blkOk_by (N := ["_law_script", "_law_k", "_law_pool", "_law_some", "_law_turn", "_law_one", "_law_two", "_law_three", "_law_rows", "_law_both", "_law_path"]) (sc := defScope s_law) (own := [("_law_rows", 8)]) (by decide +kernel)) (fun _ _ _ _ _ => (pg_name (i := 8) sc_law.nd rfl (Or.inl rfl))) (fun _ _ _ _ _ => mp_yes) (fun _ _ _ _ _ => (me_make T.mk_Trace (ok_Trace_D_init_D T) takes0 (g.hr.mono (by decide)) rfl T.gC_Trace T.B_Trace_D_init_D .nil cld_nil (ma_cons (me_var (i := 8)) ma_nil))) gok_nm (gin_nm (by decide))) (pg_unl g.calm (pgs_cons (pg_name (i := 5) sc_law.nd rfl (Or.inl rfl)) (pgs_cons (pg_name (i := 6) sc_law.nd rfl (Or.inl rfl)) (pgs_cons (pg_name (i := 7) sc_law.nd rfl (Or.inl rfl)) pgs_nil)))) (gok_tpL (gsok_cons gok_nm (gsok_cons gok_nm (gsok_cons gok_nm gsok_nil))) rfl))
  (mss_cons (ms_if (PW.pt (mw_or (mt_cmp (op_dne (hu64 g.hr)) ok_deq.op (me_ometh0 T.cl_Trace T.mt_Trace_rows (ok_Trace_rows T) g.tk (g.hr.mono (by decide)) T.B_Trace_rows .nil cld_nil (me_binS (ops_oo (ok_Trace_D_add_D T) g.tk (g.hr.mono (by decide)) T.B_Trace_D_add_D T.sf_Trace T.d_Trace_D_add_D T.m_Trace_D_add_D) (guard_ok oo_ok) (me_var (i := 5)) (me_var (i := 6)))) (me_call (ok__law_added T) g.tk (g.hr.mono (by decide)) rfl T.g__law_added T.k__law_added T.B__law_added (ma_cons (me_ix ix_seq ok_ix.op (me_var (i := 3)) me_int (fun _ _ => rfl)) (ma_cons (me_ix ix_seq ok_ix.op (me_var (i := 3)) me_int (fun _ _ => rfl)) ma_nil))) (nomark _)) (mw_or1 (mt_cmp (op_dne (hu64 g.hr)) ok_deq.op (me_ometh0 T.cl_Trace T.mt_Trace_rows (ok_Trace_rows T) g.tk (g.hr.mono (by decide)) T.B_Trace_rows .nil cld_nil (me_binS (ops_oo (ok_Trace_D_or_D T) g.tk (g.hr.mono (by decide)) T.B_Trace_D_or_D T.sf_Trace T.d_Trace_D_or_D T.m_Trace_D_or_D) (guard_ok oo_ok) (me_var (i := 5)) (me_var (i := 6)))) (me_call (ok__law_merged T) g.tk (g.hr.mono (by decide)) rfl T.g__law_merged T.k__law_merged T.B__law_merged (ma_cons (me_ix ix_seq ok_ix.op (me_var (i := 3)) me_int (fun _ _ => rfl)) (ma_cons (me_ix ix_seq ok_ix.op (me_var (i := 3)) me_int (fun _ _ => rfl)) ma_nil))) (nomark _)))))
  (mss_one (ms_ret me_bl))
  mss_nil)
  (mss_cons (ms_if (PW.pt (mw_or (mt_cmpS (nes_oo (ok_Trace_D_eq_D T) (g.hr.mono (by decide)) T.B_Trace_D_eq_D T.ne_Trace T.e_Trace T.m_Trace_D_eq_D T.ob_Trace) (guard_ok oo_ok) (me_binS (ops_oo (ok_Trace_D_add_D T) g.tk (g.hr.mono (by decide)) T.B_Trace_D_add_D T.sf_Trace T.d_Trace_D_add_D T.m_Trace_D_add_D) (guard_ok oo_ok) (me_binS (ops_oo (ok_Trace_D_add_D T) g.tk (g.hr.mono (by decide)) T.B_Trace_D_add_D T.sf_Trace T.d_Trace_D_add_D T.m_Trace_D_add_D) (guard_ok oo_ok) (me_var (i := 5)) (me_var (i := 6))) (me_var (i := 7))) (me_binS (ops_oo (ok_Trace_D_add_D T) g.tk (g.hr.mono (by decide)) T.B_Trace_D_add_D T.sf_Trace T.d_Trace_D_add_D T.m_Trace_D_add_D) (guard_ok oo_ok) (me_var (i := 5)) (me_binS (ops_oo (ok_Trace_D_add_D T) g.tk (g.hr.mono (by decide)) T.B_Trace_D_add_D T.sf_Trace T.d_Trace_D_add_D T.m_Trace_D_add_D) (guard_ok oo_ok) (me_var (i := 6)) (me_var (i := 7)))) (nomark _)) (mw_or1 (mt_cmpS (nes_oo (ok_Trace_D_eq_D T) (g.hr.mono (by decide)) T.B_Trace_D_eq_D T.ne_Trace T.e_Trace T.m_Trace_D_eq_D T.ob_Trace) (guard_ok oo_ok) (me_binS (ops_oo (ok_Trace_D_or_D T) g.tk (g.hr.mono (by decide)) T.B_Trace_D_or_D T.sf_Trace T.d_Trace_D_or_D T.m_Trace_D_or_D) (guard_ok oo_ok) (me_binS (ops_oo (ok_Trace_D_or_D T) g.tk (g.hr.mono (by decide)) T.B_Trace_D_or_D T.sf_Trace T.d_Trace_D_or_D T.m_Trace_D_or_D) (guard_ok oo_ok) (me_var (i := 5)) (me_var (i := 6))) (me_var (i := 7))) (me_binS (ops_oo (ok_Trace_D_or_D T) g.tk (g.hr.mono (by decide)) T.B_Trace_D_or_D T.sf_Trace T.d_Trace_D_or_D T.m_Trace_D_or_D) (guard_ok oo_ok) (me_var (i := 5)) (me_binS (ops_oo (ok_Trace_D_or_D T) g.tk (g.hr.mono (by decide)) T.B_Trace_D_or_D T.sf_Trace T.d_Trace_D_or_D T.m_Trace_D_or_D) (guard_ok oo_ok) (me_var (i := 6)) (me_var (i := 7)))) (nomark _)))))
  (mss_one (ms_ret me_bl))
  mss_nil)
  (mss_cons (ms_if (PW.pt (mw_or (mt_cmpS (nes_oo (ok_Trace_D_eq_D T) (g.hr.mono (by decide)) T.B_Trace_D_eq_D T.ne_Trace T.e_Trace T.m_Trace_D_eq_D T.ob_Trace) (guard_ok oo_ok) (me_binS (ops_oo (ok_Trace_D_add_D T) g.tk (g.hr.mono (by decide)) T.B_Trace_D_add_D T.sf_Trace T.d_Trace_D_add_D T.m_Trace_D_add_D) (guard_ok oo_ok) (me_var (i := 5)) (me_make0 T.mk_Trace (ok_Trace_D_init_D T) g.tk (g.hr.mono (by decide)) rfl T.gC_Trace T.B_Trace_D_init_D_1.choose_spec.1 T.B_Trace_D_init_D_1.choose_spec.2 (cld_cons (fun _ _ => .tup (.inr T.kd0_Trace_D_init_D) .nil) cld_nil))) (me_var (i := 5)) (nomark _)) (mw_or (mt_cmpS (nes_oo (ok_Trace_D_eq_D T) (g.hr.mono (by decide)) T.B_Trace_D_eq_D T.ne_Trace T.e_Trace T.m_Trace_D_eq_D T.ob_Trace) (guard_ok oo_ok) (me_binS (ops_oo (ok_Trace_D_add_D T) g.tk (g.hr.mono (by decide)) T.B_Trace_D_add_D T.sf_Trace T.d_Trace_D_add_D T.m_Trace_D_add_D) (guard_ok oo_ok) (me_make0 T.mk_Trace (ok_Trace_D_init_D T) g.tk (g.hr.mono (by decide)) rfl T.gC_Trace T.B_Trace_D_init_D_1.choose_spec.1 T.B_Trace_D_init_D_1.choose_spec.2 (cld_cons (fun _ _ => .tup (.inr T.kd0_Trace_D_init_D) .nil) cld_nil)) (me_var (i := 5))) (me_var (i := 5)) (nomark _)) (mw_or (mt_cmpS (nes_oo (ok_Trace_D_eq_D T) (g.hr.mono (by decide)) T.B_Trace_D_eq_D T.ne_Trace T.e_Trace T.m_Trace_D_eq_D T.ob_Trace) (guard_ok oo_ok) (me_binS (ops_oo (ok_Trace_D_or_D T) g.tk (g.hr.mono (by decide)) T.B_Trace_D_or_D T.sf_Trace T.d_Trace_D_or_D T.m_Trace_D_or_D) (guard_ok oo_ok) (me_var (i := 5)) (me_make0 T.mk_Trace (ok_Trace_D_init_D T) g.tk (g.hr.mono (by decide)) rfl T.gC_Trace T.B_Trace_D_init_D_1.choose_spec.1 T.B_Trace_D_init_D_1.choose_spec.2 (cld_cons (fun _ _ => .tup (.inr T.kd0_Trace_D_init_D) .nil) cld_nil))) (me_var (i := 5)) (nomark _)) (mw_or1 (mt_cmpS (nes_oo (ok_Trace_D_eq_D T) (g.hr.mono (by decide)) T.B_Trace_D_eq_D T.ne_Trace T.e_Trace T.m_Trace_D_eq_D T.ob_Trace) (guard_ok oo_ok) (me_binS (ops_oo (ok_Trace_D_or_D T) g.tk (g.hr.mono (by decide)) T.B_Trace_D_or_D T.sf_Trace T.d_Trace_D_or_D T.m_Trace_D_or_D) (guard_ok oo_ok) (me_make0 T.mk_Trace (ok_Trace_D_init_D T) g.tk (g.hr.mono (by decide)) rfl T.gC_Trace T.B_Trace_D_init_D_1.choose_spec.1 T.B_Trace_D_init_D_1.choose_spec.2 (cld_cons (fun _ _ => .tup (.inr T.kd0_Trace_D_init_D) .nil) cld_nil)) (me_var (i := 5))) (me_var (i := 5)) (nomark _)))))))
  (mss_one (ms_ret me_bl))
  mss_nil)
  (mss_cons (ms_if (mt_cmp (op_dne (hu64 g.hr)) ok_deq.op (me_lst (ma_cons (me_ometh0 T.cl_Trace T.mt_Trace_rows (ok_Trace_rows T) g.tk (g.hr.mono (by decide)) T.B_Trace_rows .nil cld_nil (me_var (i := 5))) (ma_cons (me_ometh0 T.cl_Trace T.mt_Trace_rows (ok_Trace_rows T) g.tk (g.hr.mono (by decide)) T.B_Trace_rows .nil cld_nil (me_var (i := 6))) (ma_cons (me_ometh0 T.cl_Trace T.mt_Trace_rows (ok_Trace_rows T) g.tk (g.hr.mono (by decide)) T.B_Trace_rows .nil cld_nil (me_var (i := 7))) ma_nil)))) (me_var (i := 3)) (nomark _))
  (mss_one (ms_ret me_bl))
  mss_nil)
  (mss_cons (ms_set (i := 9) sc_law.nd rfl (Or.inl rfl) (me_binS (ops_oo (ok_Trace_D_or_D T) g.tk (g.hr.mono (by decide)) T.B_Trace_D_or_D T.sf_Trace T.d_Trace_D_or_D T.m_Trace_D_or_D) (guard_ok oo_ok) (me_var (i := 5)) (me_var (i := 6))))
  (mss_cons (ms_if (PW.pt (mw_or (mt_cmp (op_dne (hu64 g.hr)) ok_deq.op (me_ometh0 T.cl_Trace T.mt_Trace_pages (ok_Trace_pages T) g.tk (g.hr.mono (by decide)) T.B_Trace_pages .nil cld_nil (me_var (i := 9))) (me_sortSet g.calm (hu80 g.hr) rfl T.b_sorted rfl rfl T.b_set rfl (ma_cons (me_bin op_addU ok_addU.op (me_ometh0 T.cl_Trace T.mt_Trace_pages (ok_Trace_pages T) g.tk (g.hr.mono (by decide)) T.B_Trace_pages .nil cld_nil (me_var (i := 5))) (me_ometh0 T.cl_Trace T.mt_Trace_pages (ok_Trace_pages T) g.tk (g.hr.mono (by decide)) T.B_Trace_pages .nil cld_nil (me_var (i := 6)))) ma_nil)) (nomark _)) (mw_or1 (mt_cmp (op_dne (hu64 g.hr)) ok_deq.op (me_blt (cr_olen (ok_Trace_D_len_D T) (g.hr.mono (by decide)) T.B_Trace_D_len_D T.d_Trace_D_len_D T.m_Trace_D_len_D) olen_ok rfl T.b_len rfl (ma_cons (me_var (i := 9)) ma_nil)) (me_bin op_addU ok_addU.op (me_blt (cr_olen (ok_Trace_D_len_D T) (g.hr.mono (by decide)) T.B_Trace_D_len_D T.d_Trace_D_len_D T.m_Trace_D_len_D) olen_ok rfl T.b_len rfl (ma_cons (me_var (i := 5)) ma_nil)) (me_blt (cr_olen (ok_Trace_D_len_D T) (g.hr.mono (by decide)) T.B_Trace_D_len_D T.d_Trace_D_len_D T.m_Trace_D_len_D) olen_ok rfl T.b_len rfl (ma_cons (me_var (i := 6)) ma_nil))) (nomark _)))))
  (mss_one (ms_ret me_bl))
  mss_nil)
  (mss_cons (ms_if (mt_cmp (op_dne (hu64 g.hr)) ok_deq.op (me_ometh0 T.cl_Trace T.mt_Trace_paths (ok_Trace_paths T) g.tk (g.hr.mono (by decide)) T.B_Trace_paths .nil cld_nil (me_var (i := 9))) (me_sortSet g.calm (hu80 g.hr) rfl T.b_sorted rfl rfl T.b_set rfl (ma_cons (me_bin op_addU ok_addU.op (me_ometh0 T.cl_Trace T.mt_Trace_paths (ok_Trace_paths T) g.tk (g.hr.mono (by decide)) T.B_Trace_paths .nil cld_nil (me_var (i := 5))) (me_ometh0 T.cl_Trace T.mt_Trace_paths (ok_Trace_paths T) g.tk (g.hr.mono (by decide)) T.B_Trace_paths .nil cld_nil (me_var (i := 6)))) ma_nil)) (nomark _))
  (mss_one (ms_ret me_bl))
  mss_nil)
  (mss_one (ms_for g.hp g.calm (mi_seq (me_lst (ma_cons me_str (ma_cons me_str (ma_cons me_str ma_nil))))) (pg_name (i := 10) sc_law.nd rfl (Or.inl rfl)) gok_nm
  (mss_one (ms_if (PW.pt (mw_or (mt_cmpS (nes_oo (ok_Trace_D_eq_D T) (g.hr.mono (by decide)) T.B_Trace_D_eq_D T.ne_Trace T.e_Trace T.m_Trace_D_eq_D T.ob_Trace) (guard_ok oo_ok) (me_ometh T.cl_Trace T.mt_Trace_of (ok_Trace_of T) g.tk (g.hr.mono (by decide)) T.B_Trace_of .nil cld_nil (me_var (i := 9)) (ma_cons (me_var (i := 10)) ma_nil)) (me_binS (ops_oo (ok_Trace_D_or_D T) g.tk (g.hr.mono (by decide)) T.B_Trace_D_or_D T.sf_Trace T.d_Trace_D_or_D T.m_Trace_D_or_D) (guard_ok oo_ok) (me_ometh T.cl_Trace T.mt_Trace_of (ok_Trace_of T) g.tk (g.hr.mono (by decide)) T.B_Trace_of .nil cld_nil (me_var (i := 5)) (ma_cons (me_var (i := 10)) ma_nil)) (me_ometh T.cl_Trace T.mt_Trace_of (ok_Trace_of T) g.tk (g.hr.mono (by decide)) T.B_Trace_of .nil cld_nil (me_var (i := 6)) (ma_cons (me_var (i := 10)) ma_nil))) (nomark _)) (mw_or1 (mt_cmpS (nes_oo (ok_Trace_D_eq_D T) (g.hr.mono (by decide)) T.B_Trace_D_eq_D T.ne_Trace T.e_Trace T.m_Trace_D_eq_D T.ob_Trace) (guard_ok oo_ok) (me_ometh T.cl_Trace T.mt_Trace_part (ok_Trace_part T) g.tk (g.hr.mono (by decide)) T.B_Trace_part .nil cld_nil (me_binS (ops_oo (ok_Trace_D_add_D T) g.tk (g.hr.mono (by decide)) T.B_Trace_D_add_D T.sf_Trace T.d_Trace_D_add_D T.m_Trace_D_add_D) (guard_ok oo_ok) (me_var (i := 5)) (me_var (i := 6))) (ma_cons me_int (ma_cons (me_blt (cr_olen (ok_Trace_D_len_D T) (g.hr.mono (by decide)) T.B_Trace_D_len_D T.d_Trace_D_len_D T.m_Trace_D_len_D) olen_ok rfl T.b_len rfl (ma_cons (me_var (i := 5)) ma_nil)) ma_nil))) (me_var (i := 5)) (nomark _)))))
  (mss_one (ms_ret me_bl))
  mss_nil)))))))))))))))
  (mss_one (ms_ret me_bl)))
end
def dfs : List He5.DefA := [df__law_hand, df__law_draw, df__law_trace, df_is_integer, df_is_between, df_is_text_of, df_is_name, df_is_path, df_is_page, df_is_request, df_check_requests, df_Trace_D_init_D, df_check_number, df_Trace_end, df_Trace_later, df_Trace_D_add_D, df_Trace_rows, df__law_added, df_moment_of, df_merged, df_Trace_D_or_D, df__law_merged, df_Trace_D_eq_D, df_Trace_pages, df_Trace_D_len_D, df_Trace_paths, df_check_path, df_is_below, df_Trace_of, df_Trace_part, df_law]
def fas : List Fa := [.free "range", .free "len", .free "min", .free "max", .glo "_law_hand", .glo "_law_trace", .glo "Trace", .mkr "Trace", .cls "Trace", .meth "Trace" "rows", .glo "_law_added", .glo "_law_merged", .meth "Trace" "pages", .free "sorted", .free "set", .meth "Trace" "paths", .meth "Trace" "of", .meth "Trace" "part", .free "int", .glo "_law_draw", .glo "check_requests", .free "tuple", .noat "Trace" "own_requests", .free "list", .free "isinstance", .glo "InvalidTrace", .free "super", .free "enumerate", .glo "is_request", .int "MOST_NUMBER" 1000000000, .glo "is_between", .free "str", .glo "KINDS", .glo "is_path", .glo "is_page", .glo "is_integer", .free "bool", .int "MOST_LEVELS" 3, .glo "is_name", .free "all", .str "LETTERS" "abcdefghijklmnopqrstuvwxyz", .glo "is_text_of", .str "DIGITS" "0123456789", .glo "check_number", .meth "Trace" "later", .glo "InvalidNumber", .glo "merged", .glo "moment_of", .glo "check_path", .glo "is_below", .glo "InvalidName", .glo "law"]
abbrev gloLaw : Nat := 51
def cks : List (PySem.W.Frag → Bool) := [
  fun K => PySem.W.isFn K (.ref (ad_Trace_D_add_D K)),
  fun K => PySem.W.selfFirst K (ga K "Trace"),
  fun K => eqO (PySem.W.findIn K (.ref (ga K "Trace")) (PySem.dunder (Operator.info .Add).2)) (some (some (.ref (ad_Trace_D_add_D K)))),
  fun K => PySem.W.isFn K (.ref (ad_Trace_D_or_D K)),
  fun K => eqO (PySem.W.findIn K (.ref (ga K "Trace")) (PySem.dunder (Operator.info .BitOr).2)) (some (some (.ref (ad_Trace_D_or_D K)))),
  fun K => PySem.W.isFn K (.ref (ad_Trace_D_eq_D K)),
  fun K => eqO (PySem.W.findIn K (.ref (ga K "Trace")) "__eq__") (some (some (.ref (ad_Trace_D_eq_D K)))),
  fun K => eqO (PySem.W.findIn K (.ref (ga K "Trace")) "__ne__") (some (some (.builtin "object.__ne__"))),
  fun K => eqB (PySem.W.mroIn K (ga K "Trace") (.type "object")) (some true),
  fun K => MP.tupB K (He.dflAt ("Trace", some "__init__") 0 K) [],
  fun K => eqO (PySem.W.findIn K (.ref (ga K "Trace")) "__len__") (some (some (.ref (ad_Trace_D_len_D K)))),
  fun K => PySem.W.isFn K (.ref (ad_Trace_D_len_D K)),
  fun K => insB K (ga K "Trace"),
  fun K => isaB K ownCs isaL,
  fun K => erAskB K (ga K "InvalidTrace") "position",
  fun K => erFnB K (ga K "InvalidTrace") lawFile "InvalidTrace.__init__",
  fun K => tupB K (ga K "KINDS") ["read", "write"],
  fun K => propB K (ga K "Trace") "end",
  fun K => erAskB K (ga K "InvalidNumber") "value",
  fun K => erFnB K (ga K "InvalidNumber") lawFile "InvalidNumber.__init__",
  fun K => erAskB K (ga K "InvalidName") "value",
  fun K => erFnB K (ga K "InvalidName") lawFile "InvalidName.__init__"]
def fcs : List ((Str × Option Str) × FnC) := [(("InvalidTrace", some "__init__"), some ("__init__", "InvalidTrace.__init__", defArgs (inClass (top 5) 0), .stmts (defBody (inClass (top 5) 0)), defScope (inClass (top 5) 0), mainGlobals, ["__class__"], .none, .none, builtinsNs)),
  (("InvalidNumber", some "__init__"), some ("__init__", "InvalidNumber.__init__", defArgs (inClass (top 4) 0), .stmts (defBody (inClass (top 4) 0)), defScope (inClass (top 4) 0), mainGlobals, ["__class__"], .none, .none, builtinsNs)),
  (("InvalidName", some "__init__"), some ("__init__", "InvalidName.__init__", defArgs (inClass (top 3) 0), .stmts (defBody (inClass (top 3) 0)), defScope (inClass (top 3) 0), mainGlobals, ["__class__"], .none, .none, builtinsNs))]
def tbs : List He.Tab := []
theorem txt {w : World} {K : PySem.W.Frag} {h : Heap} {mg : Str → Option Value} (X : K.In h) (G : h.Ns mainGlobals mg) (c0 : SaysMT fas cks dfs fcs tbs w K) : Txt (PySem.Challenge.rw_noworsecache_k02_whole_traces_joined).prog w K mg (cnK K) := by
  have c := c0.m
  have h_law_hand := fun_fdA (c.def_ 0 (d := df__law_hand)).choose_spec
  have h_law_draw := fun_fdA (c.def_ 1 (d := df__law_draw)).choose_spec
  have h_law_trace := fun_fdA (c.def_ 2 (d := df__law_trace)).choose_spec
  have his_integer := fun_fdA (c.def_ 3 (d := df_is_integer)).choose_spec
  have his_between := fun_fdA (c.def_ 4 (d := df_is_between)).choose_spec
  have his_text_of := fun_fdA (c.def_ 5 (d := df_is_text_of)).choose_spec
  have his_name := fun_fdA (c.def_ 6 (d := df_is_name)).choose_spec
  have his_path := fun_fdA (c.def_ 7 (d := df_is_path)).choose_spec
  have his_page := fun_fdA (c.def_ 8 (d := df_is_page)).choose_spec
  have his_request := fun_fdA (c.def_ 9 (d := df_is_request)).choose_spec
  have hcheck_requests := fun_fdA (c.def_ 10 (d := df_check_requests)).choose_spec
  have hTrace_D_init_D := fun_fdA (c.def_ 11 (d := df_Trace_D_init_D)).choose_spec
  have hcheck_number := fun_fdA (c.def_ 12 (d := df_check_number)).choose_spec
  have hTrace_end := fun_fdA (c.def_ 13 (d := df_Trace_end)).choose_spec
  have hTrace_later := fun_fdA (c.def_ 14 (d := df_Trace_later)).choose_spec
  have hTrace_D_add_D := fun_fdA (c.def_ 15 (d := df_Trace_D_add_D)).choose_spec
  have hTrace_rows := fun_fdA (c.def_ 16 (d := df_Trace_rows)).choose_spec
  have h_law_added := fun_fdA (c.def_ 17 (d := df__law_added)).choose_spec
  have hmoment_of := fun_fdA (c.def_ 18 (d := df_moment_of)).choose_spec
  have hmerged := fun_fdA (c.def_ 19 (d := df_merged)).choose_spec
  have hTrace_D_or_D := fun_fdA (c.def_ 20 (d := df_Trace_D_or_D)).choose_spec
  have h_law_merged := fun_fdA (c.def_ 21 (d := df__law_merged)).choose_spec
  have hTrace_D_eq_D := fun_fdA (c.def_ 22 (d := df_Trace_D_eq_D)).choose_spec
  have hTrace_pages := fun_fdA (c.def_ 23 (d := df_Trace_pages)).choose_spec
  have hTrace_D_len_D := fun_fdA (c.def_ 24 (d := df_Trace_D_len_D)).choose_spec
  have hTrace_paths := fun_fdA (c.def_ 25 (d := df_Trace_paths)).choose_spec
  have hcheck_path := fun_fdA (c.def_ 26 (d := df_check_path)).choose_spec
  have his_below := fun_fdA (c.def_ 27 (d := df_is_below)).choose_spec
  have hTrace_of := fun_fdA (c.def_ 28 (d := df_Trace_of)).choose_spec
  have hTrace_part := fun_fdA (c.def_ 29 (d := df_Trace_part)).choose_spec
  have hlaw := fun_fdA (c.def_ 30 (d := df_law)).choose_spec
  exact {
    b_range := free_ok X G (c.fact 0 (f := .free "range")),
    b_len := free_ok X G (c.fact 1 (f := .free "len")),
    b_min := free_ok X G (c.fact 2 (f := .free "min")),
    b_max := free_ok X G (c.fact 3 (f := .free "max")),
    g__law_hand := glo_ok X G (c.fact 4 (f := .glo "_law_hand")),
    k__law_hand := h_law_hand.kp,
    g__law_trace := glo_ok X G (c.fact 5 (f := .glo "_law_trace")),
    k__law_trace := h_law_trace.kp,
    gC_Trace := glo_ok X G (c.fact 6 (f := .glo "Trace")),
    mk_Trace := mk_of (c.fact 7 (f := .mkr "Trace")),
    m_Trace_D_add_D := (c.ask 0),
    sf_Trace := (c.ask 1),
    d_Trace_D_add_D := eqO_ok (c.ask 2),
    cl_Trace := cls_of (c.fact 8 (f := .cls "Trace")),
    mt_Trace_rows := meth_of (c.fact 9 (f := .meth "Trace" "rows")),
    g__law_added := glo_ok X G (c.fact 10 (f := .glo "_law_added")),
    k__law_added := h_law_added.kp,
    m_Trace_D_or_D := (c.ask 3),
    d_Trace_D_or_D := eqO_ok (c.ask 4),
    g__law_merged := glo_ok X G (c.fact 11 (f := .glo "_law_merged")),
    k__law_merged := h_law_merged.kp,
    m_Trace_D_eq_D := (c.ask 5),
    e_Trace := eqO_ok (c.ask 6),
    ne_Trace := eqO_ok (c.ask 7),
    ob_Trace := eqB_ok (c.ask 8),
    kd0_Trace_D_init_D := tupB_ok (c.ask 9),
    mt_Trace_pages := meth_of (c.fact 12 (f := .meth "Trace" "pages")),
    b_sorted := free_ok X G (c.fact 13 (f := .free "sorted")),
    b_set := free_ok X G (c.fact 14 (f := .free "set")),
    d_Trace_D_len_D := eqO_ok (c.ask 10),
    m_Trace_D_len_D := (c.ask 11),
    mt_Trace_paths := meth_of (c.fact 15 (f := .meth "Trace" "paths")),
    mt_Trace_of := meth_of (c.fact 16 (f := .meth "Trace" "of")),
    mt_Trace_part := meth_of (c.fact 17 (f := .meth "Trace" "part")),
    b_int := free_ok X G (c.fact 18 (f := .free "int")),
    g__law_draw := glo_ok X G (c.fact 19 (f := .glo "_law_draw")),
    k__law_draw := h_law_draw.kp,
    g_check_requests := glo_ok X G (c.fact 20 (f := .glo "check_requests")),
    k_check_requests := hcheck_requests.kp,
    b_tuple := free_ok X G (c.fact 21 (f := .free "tuple")),
    fl_own_requests := by
      intro C hC
      simp only [List.mem_cons, List.not_mem_nil, or_false] at hC
      subst hC
      · exact ⟨cls_of (c.fact 8 (f := .cls "Trace")), eqO_ok (c.fact 22 (f := .noat "Trace" "own_requests"))⟩,
    b_list := free_ok X G (c.fact 23 (f := .free "list")),
    b_isinstance := free_ok X G (c.fact 24 (f := .free "isinstance")),
    isa := isa_of (by
      intro C hC
      simp only [ownCs, List.mem_cons, List.not_mem_nil, or_false] at hC
      subst hC
      · exact ins_of (cls_of (c.fact 8 (f := .cls "Trace"))) (c.ask 12)) (c.ask 13) (by decide),
    er_InvalidTrace := err_of (glo_ok X G (c.fact 25 (f := .glo "InvalidTrace"))) (free_ok X G (c.fact 26 (f := .free "super"))) (by decide +kernel) (by decide +kernel) (c.ask 14) (file := lawFile) (c.ask 15) (c.clo 0) (by decide +kernel) (fun _ _ _ _ _ _ _ _ _ => .of_eq rfl) (fun _ _ _ _ => ⟨_, rfl⟩),
    b_enumerate := free_ok X G (c.fact 27 (f := .free "enumerate")),
    g_is_request := glo_ok X G (c.fact 28 (f := .glo "is_request")),
    k_is_request := his_request.kp,
    ki_MOST_NUMBER := int_ok X G (c.fact 29 (f := .int "MOST_NUMBER" 1000000000)),
    g_is_between := glo_ok X G (c.fact 30 (f := .glo "is_between")),
    k_is_between := his_between.kp,
    b_str := free_ok X G (c.fact 31 (f := .free "str")),
    gC_KINDS := glo_ok X G (c.fact 32 (f := .glo "KINDS")),
    kt_KINDS := tupB_ok (c.ask 16),
    g_is_path := glo_ok X G (c.fact 33 (f := .glo "is_path")),
    k_is_path := his_path.kp,
    g_is_page := glo_ok X G (c.fact 34 (f := .glo "is_page")),
    k_is_page := his_page.kp,
    g_is_integer := glo_ok X G (c.fact 35 (f := .glo "is_integer")),
    k_is_integer := his_integer.kp,
    b_bool := free_ok X G (c.fact 36 (f := .free "bool")),
    ki_MOST_LEVELS := int_ok X G (c.fact 37 (f := .int "MOST_LEVELS" 3)),
    g_is_name := glo_ok X G (c.fact 38 (f := .glo "is_name")),
    k_is_name := his_name.kp,
    b_all := free_ok X G (c.fact 39 (f := .free "all")),
    ks_LETTERS := str_ok X G (c.fact 40 (f := .str "LETTERS" "abcdefghijklmnopqrstuvwxyz")),
    g_is_text_of := glo_ok X G (c.fact 41 (f := .glo "is_text_of")),
    k_is_text_of := his_text_of.kp,
    ks_DIGITS := str_ok X G (c.fact 42 (f := .str "DIGITS" "0123456789")),
    p_Trace_end := prop_of (c.ask 17),
    g_check_number := glo_ok X G (c.fact 43 (f := .glo "check_number")),
    k_check_number := hcheck_number.kp,
    mt_Trace_later := meth_of (c.fact 44 (f := .meth "Trace" "later")),
    er_InvalidNumber := err_of (glo_ok X G (c.fact 45 (f := .glo "InvalidNumber"))) (free_ok X G (c.fact 26 (f := .free "super"))) (by decide +kernel) (by decide +kernel) (c.ask 18) (file := lawFile) (c.ask 19) (c.clo 1) (by decide +kernel) (fun _ _ _ _ _ _ _ _ _ => .of_eq rfl) (fun _ _ _ _ => ⟨_, rfl⟩),
    g_merged := glo_ok X G (c.fact 46 (f := .glo "merged")),
    k_merged := hmerged.kp,
    g_moment_of := glo_ok X G (c.fact 47 (f := .glo "moment_of")),
    g_check_path := glo_ok X G (c.fact 48 (f := .glo "check_path")),
    k_check_path := hcheck_path.kp,
    g_is_below := glo_ok X G (c.fact 49 (f := .glo "is_below")),
    k_is_below := his_below.kp,
    er_InvalidName := err_of (glo_ok X G (c.fact 50 (f := .glo "InvalidName"))) (free_ok X G (c.fact 26 (f := .free "super"))) (by decide +kernel) (by decide +kernel) (c.ask 20) (file := lawFile) (c.ask 21) (c.clo 2) (by decide +kernel) (fun _ _ _ _ _ _ _ _ _ => .of_eq rfl) (fun _ _ _ _ => ⟨_, rfl⟩),
    F__law_hand := h_law_hand,
    B__law_hand := FunD.bindsN (ps := ["_law_script", "_law_k"]) h_law_hand fun _ _ _ _ _ _ us hl => match us, hl with | [_, _], _ => by kernel_rfl,
    F__law_draw := h_law_draw,
    B__law_draw := FunD.bindsN (ps := ["_law_pool", "_law_size"]) h_law_draw fun _ _ _ _ _ _ us hl => match us, hl with | [_, _], _ => by kernel_rfl,
    F__law_trace := h_law_trace,
    B__law_trace := FunD.bindsN (ps := ["_law_pool", "_law_paths", "_law_most", "_law_names"]) h_law_trace fun _ _ _ _ _ _ us hl => match us, hl with | [_, _, _, _], _ => by kernel_rfl,
    F_is_integer := his_integer,
    B_is_integer := FunD.bindsN (ps := ["value"]) his_integer fun _ _ _ _ _ _ us hl => match us, hl with | [_], _ => by kernel_rfl,
    F_is_between := his_between,
    B_is_between := FunD.bindsN (ps := ["value", "least", "most"]) his_between fun _ _ _ _ _ _ us hl => match us, hl with | [_, _, _], _ => by kernel_rfl,
    F_is_text_of := his_text_of,
    B_is_text_of := FunD.bindsN (ps := ["value", "letters", "most"]) his_text_of fun _ _ _ _ _ _ us hl => match us, hl with | [_, _, _], _ => by kernel_rfl,
    F_is_name := his_name,
    B_is_name := FunD.bindsN (ps := ["value"]) his_name fun _ _ _ _ _ _ us hl => match us, hl with | [_], _ => by kernel_rfl,
    F_is_path := his_path,
    B_is_path := FunD.bindsN (ps := ["value"]) his_path fun _ _ _ _ _ _ us hl => match us, hl with | [_], _ => by kernel_rfl,
    F_is_page := his_page,
    B_is_page := FunD.bindsN (ps := ["value"]) his_page fun _ _ _ _ _ _ us hl => match us, hl with | [_], _ => by kernel_rfl,
    F_is_request := his_request,
    B_is_request := FunD.bindsN (ps := ["value"]) his_request fun _ _ _ _ _ _ us hl => match us, hl with | [_], _ => by kernel_rfl,
    F_check_requests := hcheck_requests,
    B_check_requests := FunD.bindsN (ps := ["value"]) hcheck_requests fun _ _ _ _ _ _ us hl => match us, hl with | [_], _ => by kernel_rfl,
    F_Trace_D_init_D := hTrace_D_init_D,
    B_Trace_D_init_D := by
      obtain ⟨ds, h1, h2⟩ := FunD.binds1 (ps := ["self", "requests"]) hTrace_D_init_D 2 1 (List.cons_ne_nil _ _) rfl fun _ _ _ _ _ _ _ us its h1 h2 => match us, its, h1, h2 with | [_, _], [_], _, _ => ⟨_, rfl, rfl⟩
      cases h1
      exact h2,
    F_check_number := hcheck_number,
    B_check_number := FunD.bindsN (ps := ["value", "least", "most"]) hcheck_number fun _ _ _ _ _ _ us hl => match us, hl with | [_, _, _], _ => by kernel_rfl,
    F_Trace_end := hTrace_end,
    B_Trace_end := FunD.bindsN (ps := ["self"]) hTrace_end fun _ _ _ _ _ _ us hl => match us, hl with | [_], _ => by kernel_rfl,
    F_Trace_later := hTrace_later,
    B_Trace_later := FunD.bindsN (ps := ["self", "ticks"]) hTrace_later fun _ _ _ _ _ _ us hl => match us, hl with | [_, _], _ => by kernel_rfl,
    F_Trace_D_add_D := hTrace_D_add_D,
    B_Trace_D_add_D := FunD.bindsN (ps := ["self", "other"]) hTrace_D_add_D fun _ _ _ _ _ _ us hl => match us, hl with | [_, _], _ => by kernel_rfl,
    F_Trace_rows := hTrace_rows,
    B_Trace_rows := FunD.bindsN (ps := ["self"]) hTrace_rows fun _ _ _ _ _ _ us hl => match us, hl with | [_], _ => by kernel_rfl,
    F__law_added := h_law_added,
    B__law_added := FunD.bindsN (ps := ["_law_one", "_law_other"]) h_law_added fun _ _ _ _ _ _ us hl => match us, hl with | [_, _], _ => by kernel_rfl,
    F_moment_of := hmoment_of,
    B_moment_of := FunD.bindsN (ps := ["request"]) hmoment_of fun _ _ _ _ _ _ us hl => match us, hl with | [_], _ => by kernel_rfl,
    F_merged := hmerged,
    B_merged := FunD.bindsN (ps := ["one", "other"]) hmerged fun _ _ _ _ _ _ us hl => match us, hl with | [_, _], _ => by kernel_rfl,
    F_Trace_D_or_D := hTrace_D_or_D,
    B_Trace_D_or_D := FunD.bindsN (ps := ["self", "other"]) hTrace_D_or_D fun _ _ _ _ _ _ us hl => match us, hl with | [_, _], _ => by kernel_rfl,
    F__law_merged := h_law_merged,
    B__law_merged := FunD.bindsN (ps := ["_law_one", "_law_other"]) h_law_merged fun _ _ _ _ _ _ us hl => match us, hl with | [_, _], _ => by kernel_rfl,
    F_Trace_D_eq_D := hTrace_D_eq_D,
    B_Trace_D_eq_D := FunD.bindsN (ps := ["self", "other"]) hTrace_D_eq_D fun _ _ _ _ _ _ us hl => match us, hl with | [_, _], _ => by kernel_rfl,
    F_Trace_pages := hTrace_pages,
    B_Trace_pages := FunD.bindsN (ps := ["self"]) hTrace_pages fun _ _ _ _ _ _ us hl => match us, hl with | [_], _ => by kernel_rfl,
    F_Trace_D_len_D := hTrace_D_len_D,
    B_Trace_D_len_D := FunD.bindsN (ps := ["self"]) hTrace_D_len_D fun _ _ _ _ _ _ us hl => match us, hl with | [_], _ => by kernel_rfl,
    F_Trace_paths := hTrace_paths,
    B_Trace_paths := FunD.bindsN (ps := ["self"]) hTrace_paths fun _ _ _ _ _ _ us hl => match us, hl with | [_], _ => by kernel_rfl,
    F_check_path := hcheck_path,
    B_check_path := FunD.bindsN (ps := ["value"]) hcheck_path fun _ _ _ _ _ _ us hl => match us, hl with | [_], _ => by kernel_rfl,
    F_is_below := his_below,
    B_is_below := FunD.bindsN (ps := ["path", "above"]) his_below fun _ _ _ _ _ _ us hl => match us, hl with | [_, _], _ => by kernel_rfl,
    F_Trace_of := hTrace_of,
    B_Trace_of := FunD.bindsN (ps := ["self", "path"]) hTrace_of fun _ _ _ _ _ _ us hl => match us, hl with | [_, _], _ => by kernel_rfl,
    F_Trace_part := hTrace_part,
    B_Trace_part := FunD.bindsN (ps := ["self", "start", "end"]) hTrace_part fun _ _ _ _ _ _ us hl => match us, hl with | [_, _, _], _ => by kernel_rfl,
    F_law := hlaw,
    B_law := FunD.bindsN (ps := ["_law_script"]) hlaw fun _ _ _ _ _ _ us hl => match us, hl with | [_], _ => by kernel_rfl,
    B_Trace_D_init_D_1 := by
      obtain ⟨ds, h1, h2⟩ := FunD.binds1 (ps := ["self", "requests"]) hTrace_D_init_D 1 0 (List.cons_ne_nil _ _) rfl fun _ _ _ _ _ _ _ us its h1 h2 => match us, its, h1, h2 with | [_], [_], _, _ => ⟨_, rfl, rfl⟩
      exact ⟨ds, h2, h1⟩
  }
-- _law_hand room 1
-- _law_draw room 1
-- _law_trace room 2
-- is_integer room 1
-- is_between room 2
-- is_text_of room 1
-- is_name room 2
-- is_path room 3
-- is_page room 2
-- is_request room 4
-- check_requests room 5
-- Trace.__init__ room 6
-- check_number room 3
-- Trace.end room 1
-- Trace.later room 8
-- Trace.__add__ room 9
-- Trace.rows room 1
-- _law_added room 1
-- moment_of room 1
-- merged room 4
-- Trace.__or__ room 8
-- _law_merged room 1
-- Trace.__eq__ room 1
-- Trace.pages room 1
-- Trace.__len__ room 1
-- Trace.paths room 1
-- check_path room 4
-- is_below room 1
-- Trace.of room 8
-- Trace.part room 8
-- law room 10
end Law
end MP

set_option Elab.async false
set_option linter.all false
set_option maxRecDepth 100000
set_option maxHeartbeats 0
namespace MP
namespace Law
open PySem PySem.Spec PyProof.Rows L2
open He
def looseN : List PySem.Str := (["_wall", "is_integer", "is_between", "is_text_of", "is_page", "is_name", "is_path", "check_path", "check_number", "is_request", "check_requests", "is_below", "merged", "moment_of", "_law_hand", "_law_draw", "_law_trace", "_law_added", "_law_merged", "PoolError", "InvalidName", "InvalidNumber", "InvalidTrace", "Trace", "LETTERS", "DIGITS", "MOST_NUMBER", "MOST_LEVELS", "KINDS"] : List PySem.Str)
abbrev RW : PySem.W.OpenRow := PySem.W.OpenLaw.row PySem.Challenge.rw_noworsecache_k02_whole_traces_joined
def hk : PySem.W.Hook := hookMT 6 fas cks dfs fcs tbs
def ob (s : PySem.W.SharedT) : AlMT := obsMTG 6 fas cks dfs fcs tbs (HandSHeadRun.getT s)
theorem ob_eq (s : PySem.W.SharedT) : ob s = hk.obs s.abs := obsMTG_eq (HandSHeadRun.getT_eq s)
theorem run (w : World) : HandSHeadRun.RunEq RW (PySem.W.view RW.prog [33]) hk ob 4000 looseN w := by
  intro os
  kernel_rfl
end Law
end MP
open PySem PySem.W PySem.Calls PyProof.Rows
theorem MP.Law.holds_of (hp : MP.okLaw MP.Law.f_law) : PySem.Challenge.rw_noworsecache_k02_whole_traces_joined.Holds := by
  w_on; o_law
  refine HandSHeadRun.head_any (r := OpenLaw.row PySem.Challenge.rw_noworsecache_k02_whole_traces_joined) (q := PySem.W.view (OpenLaw.row PySem.Challenge.rw_noworsecache_k02_whole_traces_joined).prog [33]) (H := MP.Law.hk) (ob := MP.Law.ob) (M := 4000) (loose := MP.Law.looseN) (d := HandSHeadRun.topDef (OpenLaw.row PySem.Challenge.rw_noworsecache_k02_whole_traces_joined).prog 33) (kwd := []) MP.Law.ob_eq
    (by kernel_rfl) (fun s => by kernel_rfl) MP.Law.run (by kernel_rfl) (by kernel_rfl) (by kernel_rfl) (by rfl) (by first | assumption | decide +kernel) (by decide +kernel) ⟨rfl, rfl, rfl, rfl, rfl, by decide +kernel⟩ ?hw ?hc
  case hw => w_witness2
  case hc =>
    refine MP.walkCX (l := PySem.Challenge.rw_noworsecache_k02_whole_traces_joined) (m := 63) (k := 10) (par := "_law_script") rfl (by decide) (by kernel_rfl) ⟨rfl, by decide, by decide⟩ ?F
    intro w mg at0 h Y G hmg0
    obtain ⟨K, KX, c⟩ := Y
    have hmg : mg ("law" : PySem.Str) = some (.ref at0) := by
      have e : (HandSHeadRun.topDef (OpenLaw.row PySem.Challenge.rw_noworsecache_k02_whole_traces_joined).prog 33).name = ("law" : PySem.Str) := by kernel_rfl
      rw [← e]
      exact hmg0
    have T := MP.Law.txt KX G c (w := w)
    have e := hmg.symm.trans (He.glo_ok KX G (c.m.fact MP.Law.gloLaw (f := .glo "law")))
    cases e
    refine ⟨K, _, _, KX, fun s v => ?_, fun H a ns hl hS => MP.law_sp (cn := MP.cnK K) hp hl hS, fun base _ _ => MP.Law.ok_law T⟩
    exact L2.FunD.bindsA (ps := ["_law_script"]) T.F_law (fun _ _ _ _ _ _ us hl => match us, hl with | [_], _ => rfl) s [v] rfl

set_option Elab.async false
set_option linter.all false
set_option maxRecDepth 100000
set_option maxHeartbeats 4000000
namespace MP
/-! two lists in order put together, the first one's ahead -/
section
variable {α : Type} (k : α → Int)
def mrg : List α → List α → List α
  | [], ys => ys
  | x :: xs, [] => x :: xs
  | x :: xs, y :: ys => if k x ≤ k y then x :: mrg xs (y :: ys) else y :: mrg (x :: xs) ys
termination_by xs ys => xs.length + ys.length
theorem mrg_nl (ys : List α) : mrg k [] ys = ys := by unfold mrg; rfl
theorem mrg_nr (xs : List α) : mrg k xs [] = xs := by
  cases xs with
  | nil => exact mrg_nl k []
  | cons x xs => unfold mrg; rfl
theorem mrg_c (x y : α) (xs ys : List α) : mrg k (x :: xs) (y :: ys) = if k x ≤ k y then x :: mrg k xs (y :: ys) else y :: mrg k (x :: xs) ys := by
  conv => lhs; unfold mrg
theorem mrg_h1 {x : α} {xs ys : List α} (h : ∀ z ∈ ys, k x ≤ k z) : mrg k (x :: xs) ys = x :: mrg k xs ys := by
  cases ys with
  | nil => rw [mrg_nr, mrg_nr]
  | cons y ys => rw [mrg_c, if_pos (h y (by simp))]
theorem mrg_h2 {y : α} {xs ys : List α} (h : ∀ z ∈ xs, k y < k z) : mrg k xs (y :: ys) = y :: mrg k xs ys := by
  cases xs with
  | nil => rw [mrg_nl, mrg_nl]
  | cons x xs =>
    have := h x (by simp)
    rw [mrg_c, if_neg (by omega)]
abbrev Ord (xs : List α) : Prop := xs.Pairwise fun x y => k x ≤ k y
theorem mrg_perm : ∀ (n : Nat) (xs ys : List α), xs.length + ys.length ≤ n → (mrg k xs ys).Perm (xs ++ ys)
  | _, [], ys, _ => by rw [mrg_nl]; exact List.Perm.refl _
  | _, x :: xs, [], _ => by rw [mrg_nr, List.append_nil]
  | 0, x :: xs, y :: ys, h => by simp at h
  | n + 1, x :: xs, y :: ys, h => by
    rw [mrg_c]
    split
    · exact (mrg_perm n xs (y :: ys) (by simp at h ⊢; omega)).cons x
    · refine ((mrg_perm n (x :: xs) ys (by simp at h ⊢; omega)).cons y).trans ?_
      exact (List.perm_middle (l₁ := x :: xs) (a := y) (l₂ := ys)).symm
theorem mrg_p (xs ys : List α) : (mrg k xs ys).Perm (xs ++ ys) := mrg_perm k _ xs ys (Nat.le_refl _)
theorem mrg_rel {R : α → α → Prop} (hxy : ∀ x y, k x ≤ k y → True) : ∀ (n : Nat) (xs ys : List α), xs.length + ys.length ≤ n → xs.Pairwise R → ys.Pairwise R → Ord k xs → Ord k ys → (∀ x ∈ xs, ∀ y ∈ ys, (k x ≤ k y → R x y) ∧ (k y < k x → R y x)) → (mrg k xs ys).Pairwise R
  | _, [], ys, _, _, h2, _, _, _ => by rw [mrg_nl]; exact h2
  | _, x :: xs, [], _, h1, _, _, _, _ => by rw [mrg_nr]; exact h1
  | 0, x :: xs, y :: ys, h, _, _, _, _, _ => by simp at h
  | n + 1, x :: xs, y :: ys, h, h1, h2, o1, o2, hr => by
    obtain ⟨a1, a2⟩ := List.pairwise_cons.mp h1
    obtain ⟨b1, b2⟩ := List.pairwise_cons.mp h2
    obtain ⟨c1, c2⟩ := List.pairwise_cons.mp o1
    obtain ⟨d1, d2⟩ := List.pairwise_cons.mp o2
    rw [mrg_c]
    split
    · rename_i le
      refine List.pairwise_cons.mpr ⟨fun z hz => ?_, mrg_rel hxy n xs (y :: ys) (by simp at h ⊢; omega) a2 h2 c2 o2 fun u hu v hv => hr u (by simp [hu]) v hv⟩
      rcases List.mem_append.mp ((mrg_p k _ _).subset hz) with q | q
      · exact a1 z q
      · refine (hr x (by simp) z q).1 ?_
        rcases List.mem_cons.mp q with rfl | q
        · exact le
        · have := d1 z q; omega
    · rename_i lt
      refine List.pairwise_cons.mpr ⟨fun z hz => ?_, mrg_rel hxy n (x :: xs) ys (by simp at h ⊢; omega) h1 b2 o1 d2 fun u hu v hv => hr u hu v (by simp [hv])⟩
      rcases List.mem_append.mp ((mrg_p k _ _).subset hz) with q | q
      · refine (hr z q y (by simp)).2 ?_
        rcases List.mem_cons.mp q with rfl | q
        · omega
        · have := c1 z q; omega
      · exact b1 z q
theorem mrg_ord {xs ys : List α} (h1 : Ord k xs) (h2 : Ord k ys) : Ord k (mrg k xs ys) :=
  mrg_rel k (fun _ _ _ => trivial) _ xs ys (Nat.le_refl _) h1 h2 h1 h2 fun x _ y _ => ⟨id, fun h => by omega⟩
theorem mrg_assoc : ∀ (n : Nat) (xs ys zs : List α), xs.length + ys.length + zs.length ≤ n → mrg k (mrg k xs ys) zs = mrg k xs (mrg k ys zs)
  | _, [], ys, zs, _ => by rw [mrg_nl, mrg_nl]
  | _, x :: xs, [], zs, _ => by rw [mrg_nr, mrg_nl]
  | _, x :: xs, y :: ys, [], _ => by rw [mrg_nr, mrg_nr]
  | 0, x :: xs, y :: ys, z :: zs, h => by simp at h
  | n + 1, x :: xs, y :: ys, z :: zs, h => by
    simp only [List.length_cons] at h
    have i1 := mrg_assoc n xs (y :: ys) (z :: zs) (by simp only [List.length_cons]; omega)
    have i2 := mrg_assoc n (x :: xs) ys (z :: zs) (by simp only [List.length_cons]; omega)
    have i3 := mrg_assoc n (x :: xs) (y :: ys) zs (by simp only [List.length_cons]; omega)
    by_cases c1 : k x ≤ k y
    · by_cases c2 : k x ≤ k z
      · rw [mrg_c k x y, if_pos c1, mrg_c k x z, if_pos c2, i1, mrg_c k y z]
        by_cases c3 : k y ≤ k z
        · rw [if_pos c3, mrg_c k x y, if_pos c1]
        · rw [if_neg c3, mrg_c k x z, if_pos c2]
      · have c3 : ¬ k y ≤ k z := by omega
        have e : mrg k (mrg k (x :: xs) (y :: ys)) (z :: zs) = z :: mrg k (mrg k (x :: xs) (y :: ys)) zs := by
          rw [mrg_c k x y, if_pos c1, mrg_c k x z, if_neg c2]
        rw [e, i3, mrg_c k y z, if_neg c3, mrg_c k x z, if_neg c2]
    · by_cases c2 : k y ≤ k z
      · rw [mrg_c k x y, if_neg c1, mrg_c k y z, if_pos c2, i2, mrg_c k y z, if_pos c2, mrg_c k x y, if_neg c1]
      · have c3 : ¬ k x ≤ k z := by omega
        have e : mrg k (mrg k (x :: xs) (y :: ys)) (z :: zs) = z :: mrg k (mrg k (x :: xs) (y :: ys)) zs := by
          rw [mrg_c k x y, if_neg c1, mrg_c k y z, if_neg c2]
        rw [e, i3, mrg_c k y z, if_neg c2, mrg_c k x z, if_neg c3]
theorem mrg_filter (p : α → Bool) : ∀ (n : Nat) (xs ys : List α), xs.length + ys.length ≤ n → Ord k xs → Ord k ys → (mrg k xs ys).filter p = mrg k (xs.filter p) (ys.filter p)
  | _, [], ys, _, _, _ => by rw [mrg_nl, List.filter_nil, mrg_nl]
  | _, x :: xs, [], _, _, _ => by rw [mrg_nr, List.filter_nil, mrg_nr]
  | 0, x :: xs, y :: ys, h, _, _ => by simp at h
  | n + 1, x :: xs, y :: ys, h, h1, h2 => by
    simp only [List.length_cons] at h
    obtain ⟨a1, a2⟩ := List.pairwise_cons.mp h1
    obtain ⟨b1, b2⟩ := List.pairwise_cons.mp h2
    rw [mrg_c]
    split
    · rename_i le
      have ih := mrg_filter p n xs (y :: ys) (by simp only [List.length_cons]; omega) a2 h2
      rw [List.filter_cons, List.filter_cons (x := x), ih]
      split
      · rw [mrg_h1]
        intro z hz
        rcases List.mem_cons.mp (List.mem_filter.mp hz).1 with rfl | q
        · exact le
        · have := b1 z q; omega
      · rfl
    · rename_i lt
      have ih := mrg_filter p n (x :: xs) ys (by simp only [List.length_cons]; omega) h1 b2
      rw [List.filter_cons, List.filter_cons (x := y), ih]
      split
      · rw [mrg_h2]
        intro z hz
        rcases List.mem_cons.mp (List.mem_filter.mp hz).1 with rfl | q
        · omega
        · have := a1 z q; omega
      · rfl
theorem mrg_map {β : Type} (f : β → α) : ∀ (n : Nat) (xs ys : List β), xs.length + ys.length ≤ n → (mrg (fun b => k (f b)) xs ys).map f = mrg k (xs.map f) (ys.map f)
  | _, [], ys, _ => by rw [mrg_nl, List.map_nil, mrg_nl]
  | _, x :: xs, [], _ => by rw [mrg_nr, List.map_nil, mrg_nr]
  | 0, x :: xs, y :: ys, h => by simp at h
  | n + 1, x :: xs, y :: ys, h => by
    simp only [List.length_cons] at h
    rw [mrg_c, List.map_cons, List.map_cons, mrg_c]
    split
    · rw [List.map_cons, mrg_map f n xs (y :: ys) (by simp only [List.length_cons]; omega), List.map_cons]
    · rw [List.map_cons, mrg_map f n (x :: xs) ys (by simp only [List.length_cons]; omega), List.map_cons]
/-! sorted by the key, put together -/
theorem uniq_by {R : α → α → Prop} : ∀ {xs ys : List α}, (∀ x ∈ xs, ∀ y ∈ xs, R x y → R y x → x = y) → xs.Perm ys → xs.Pairwise R → ys.Pairwise R → xs = ys
  | [], ys, _, p, _, _ => (List.nil_perm.mp p).symm
  | x :: xs, [], _, p, _, _ => absurd p.length_eq (by simp)
  | x :: xs, y :: ys, ha, p, hx, hy => by
    have h1 := List.pairwise_cons.mp hx
    have h2 := List.pairwise_cons.mp hy
    have e : x = y := by
      have m1 : x ∈ y :: ys := p.subset (List.mem_cons_self ..)
      have m2 : y ∈ x :: xs := p.symm.subset (List.mem_cons_self ..)
      rcases List.mem_cons.mp m1 with q | q
      · exact q
      · rcases List.mem_cons.mp m2 with r | r
        · exact r.symm
        · exact ha x (by simp) y (by simp [r]) (h1.1 y r) (h2.1 x q)
    subst e
    rw [uniq_by (fun u hu v hv => ha u (by simp [hu]) v (by simp [hv])) ((List.perm_cons x).mp p) h1.2 h2.2]
def leK (x y : α) : Bool := decide (k x ≤ k y)
theorem sort_app {xs ys : List α} (h1 : Ord k xs) (h2 : Ord k ys) : (xs ++ ys).mergeSort (leK k) = mrg k xs ys := by
  have z := List.mergeSort_zipIdx (le := leK k) (l := xs ++ ys)
  have ht : ∀ a b c : α × Nat, List.zipIdxLE (leK k) a b = true → List.zipIdxLE (leK k) b c = true → List.zipIdxLE (leK k) a c = true := by
    intro a b c
    simp only [List.zipIdxLE, leK]
    by_cases q1 : k a.1 ≤ k b.1 <;> by_cases q2 : k b.1 ≤ k a.1 <;> by_cases q3 : k b.1 ≤ k c.1 <;> by_cases q4 : k c.1 ≤ k b.1 <;> by_cases q5 : k a.1 ≤ k c.1 <;> by_cases q6 : k c.1 ≤ k a.1 <;> simp [q1, q2, q3, q4, q5, q6] <;> omega
  have hT : ∀ a b : α × Nat, (List.zipIdxLE (leK k) a b || List.zipIdxLE (leK k) b a) = true := by
    intro a b
    simp only [List.zipIdxLE, leK]
    by_cases q1 : k a.1 ≤ k b.1 <;> by_cases q2 : k b.1 ≤ k a.1 <;> simp [q1, q2] <;> omega
  have s1 := List.pairwise_mergeSort (le := List.zipIdxLE (leK k)) ht hT (xs ++ ys).zipIdx
  have p1 := List.mergeSort_perm (xs ++ ys).zipIdx (List.zipIdxLE (leK k))
  have ez : (xs ++ ys).zipIdx = xs.zipIdx ++ ys.zipIdx xs.length := by rw [List.zipIdx_append]; simp
  have m1 := mrg_map k (Prod.fst (α := α) (β := Nat)) _ xs.zipIdx (ys.zipIdx xs.length) (Nat.le_refl _)
  have f1 : xs.zipIdx.map Prod.fst = xs := by simp
  have f2 : (ys.zipIdx xs.length).map Prod.fst = ys := by simp
  rw [f1, f2] at m1
  have o1 : Ord (fun b : α × Nat => k b.1) xs.zipIdx := by
    have : (xs.zipIdx.map Prod.fst).Pairwise fun x y => k x ≤ k y := by rw [f1]; exact h1
    exact (List.pairwise_map (f := Prod.fst) (R := fun x y => k x ≤ k y)).mp this
  have o2 : Ord (fun b : α × Nat => k b.1) (ys.zipIdx xs.length) := by
    have : ((ys.zipIdx xs.length).map Prod.fst).Pairwise fun x y => k x ≤ k y := by rw [f2]; exact h2
    exact (List.pairwise_map (f := Prod.fst) (R := fun x y => k x ≤ k y)).mp this
  have ix : ∀ (l : List α) (n : Nat), (l.zipIdx n).Pairwise fun a b => a.2 < b.2 := by
    intro l
    induction l with
    | nil => intro n; exact List.Pairwise.nil
    | cons x l ih =>
      intro n
      rw [List.zipIdx_cons]
      refine List.pairwise_cons.mpr ⟨fun b hb => ?_, ih _⟩
      have := (List.mem_zipIdx hb).1
      omega
  have r1 : ∀ (l : List α) (n : Nat), Ord (fun b : α × Nat => k b.1) (l.zipIdx n) → (l.zipIdx n).Pairwise fun a b => List.zipIdxLE (leK k) a b = true := by
    intro l n o
    refine List.Pairwise.imp₂ (fun a b q1 q2 => ?_) o (ix l n)
    simp only [List.zipIdxLE, leK]
    by_cases q3 : k b.1 ≤ k a.1 <;> simp [q1, q3] <;> omega
  have s2 : (mrg (fun b : α × Nat => k b.1) xs.zipIdx (ys.zipIdx xs.length)).Pairwise fun a b => List.zipIdxLE (leK k) a b = true := by
    refine mrg_rel (fun b : α × Nat => k b.1) (fun _ _ _ => trivial) _ _ _ (Nat.le_refl _) (r1 _ _ o1) (r1 _ _ o2) o1 o2 fun a ha b hb => ?_
    have a2 := (List.mem_zipIdx ha).2.1
    have b2 := (List.mem_zipIdx hb).1
    simp only [List.zipIdxLE, leK]
    constructor
    · intro q
      by_cases q3 : k b.1 ≤ k a.1 <;> simp [q, q3] <;> omega
    · intro q
      have q1 : k b.1 ≤ k a.1 := by omega
      have q2 : ¬ k a.1 ≤ k b.1 := by omega
      simp [q1, q2]
  have p2 := mrg_p (fun b : α × Nat => k b.1) xs.zipIdx (ys.zipIdx xs.length)
  rw [← ez] at p2
  have e : (xs ++ ys).zipIdx.mergeSort (List.zipIdxLE (leK k)) = mrg (fun b : α × Nat => k b.1) xs.zipIdx (ys.zipIdx xs.length) := by
    refine uniq_by (fun a ha b hb q1 q2 => ?_) (p1.trans p2.symm) s1 s2
    have a1 := List.mem_zipIdx_iff_getElem?.mp (p1.subset ha)
    have b1 := List.mem_zipIdx_iff_getElem?.mp (p1.subset hb)
    have e2 : a.2 = b.2 := by
      simp only [List.zipIdxLE, leK] at q1 q2
      by_cases r1 : k a.1 ≤ k b.1 <;> by_cases r2 : k b.1 ≤ k a.1 <;> simp [r1, r2] at q1 q2 <;> omega
    rw [e2, b1] at a1
    exact Prod.ext (Option.some.inj a1).symm e2
  rw [← z, e, m1]
end
end MP

set_option Elab.async false
set_option linter.all false
set_option maxRecDepth 100000
set_option maxHeartbeats 4000000
namespace MP
namespace Law
open PySem PySem.Spec PyProof.Rows L2
/-! the law's source of numbers -/
theorem divOk_s {j : Int} (h : 0 < j) (hs : j.natAbs ≤ 10 ^ 100) : divOk j = true := by
  have h1 : j.natAbs ≠ 0 := by omega
  have h2 : j.natAbs.log2 < 9000 := by
    rw [Nat.log2_lt h1]
    exact Nat.lt_of_le_of_lt hs (Nat.lt_of_lt_of_le (m := 2 ^ 1000) (by decide +kernel) (Nat.pow_le_pow_right (by decide) (by decide)))
  simp [divOk, h, h2]
theorem gP18 : gPow [.int 10, .int 18] = .d (.int 1000000000000000000) := rfl
structure Src (i : Nat) (st : Sto) : Prop where
  ex : ∃ a b : Int, 0 ≤ b ∧ b < 2147483647 ∧ st[i]? = some (.c (.lst [.int a, .int b]))
/-- what a turn leaves: more cells, the old ones as they were but the source -/
structure Nxt (i : Nat) (st st' : Sto) : Prop where
  src : Src i st'
  len : st.length ≤ st'.length
  oth : ∀ j, j ≠ i → j < st.length → st'[j]? = st[j]?
theorem Src.lt {i : Nat} {st : Sto} (h : Src i st) : i < st.length := by
  obtain ⟨a, b, _, _, e⟩ := h.ex
  exact (List.getElem?_eq_some_iff.mp e).1
theorem Nxt.refl {i : Nat} {st : Sto} (h : Src i st) : Nxt i st st := ⟨h, Nat.le_refl _, fun _ _ _ => rfl⟩
theorem Nxt.trans {i : Nat} {st st' st'' : Sto} (h : Nxt i st st') (k : Nxt i st' st'') : Nxt i st st'' := ⟨k.src, Nat.le_trans h.len k.len, fun j hj hl => (k.oth j hj (Nat.lt_of_lt_of_le hl h.len)).trans (h.oth j hj hl)⟩
theorem nxt_set {i : Nat} {st : Sto} {a b : Int} {c : Cl} (h : st[i]? = some c) (h1 : 0 ≤ b) (h2 : b < 2147483647) : Nxt i st (st.set i (.c (.lst [.int a, .int b]))) := by
  have hl := (List.getElem?_eq_some_iff.mp h).1
  exact ⟨⟨a, b, h1, h2, List.getElem?_set_self hl⟩, by simp, fun j hj _ => List.getElem?_set_ne (Ne.symm hj)⟩
theorem nxt_app {i : Nat} {st : Sto} {c : Cl} (h : Src i st) : Nxt i st (st ++ [c]) := by
  obtain ⟨a, b, h1, h2, e⟩ := h.ex
  exact ⟨⟨a, b, h1, h2, by rw [List.getElem?_append_left h.lt]; exact e⟩, by simp, fun j _ hl => List.getElem?_append_left hl⟩
theorem nxt_cell {i j : Nat} {st : Sto} {c : Cl} (h : Src i st) (hj : j ≠ i) : Src i (st.set j c) := by
  obtain ⟨a, b, h1, h2, e⟩ := h.ex
  exact ⟨a, b, h1, h2, by rw [List.getElem?_set_ne hj]; exact e⟩
theorem draw {i : Nat} {st : Sto} (h : Src i st) (m : Int) (h0 : 0 < m) (hm : m.natAbs ≤ 10 ^ 100) : ∃ r st', 0 ≤ r ∧ r < m ∧ Nxt i st st' ∧ st'.length = st.length ∧ f__law_draw [.cell i, .int m] st = .ok (.d (.int r)) st' := by
  obtain ⟨a, b, b0, b1, e⟩ := h.ex
  have hl := (List.getElem?_eq_some_iff.mp e).1
  have dm := divOk_s h0 hm
  by_cases ha : 0 < a
  · refine ⟨a % m, st.set i (.c (.lst [.int (a / m), .int b])), Int.emod_nonneg a (by omega), Int.emod_lt_of_pos a h0, nxt_set e b0 b1, by simp, ?_⟩
    simp [f__law_draw, ev_runB, m__law_draw, e, ha, h0, dm]
  · have m1 : mulOkU b 48271 = true := mulU_r (by decide)
    have hc0 := Int.emod_nonneg (b * 48271 + 11) (b := 2147483647) (by decide)
    have hc1 := Int.emod_lt_of_pos (b * 48271 + 11) (b := 2147483647) (by decide)
    have m2 : mulOkU ((b * 48271 + 11) % 2147483647) ((b * 48271 + 11) % 2147483647) = true := mulU_r (by omega)
    have d1 : divOk 64 = true := divOk_s (by decide) (by decide)
    have p1 : (0 : Int) < 2147483629 := by decide
    have p2 : (0 : Int) < 2147483647 := by decide
    refine ⟨((b * 48271 + 11) % 2147483647) * ((b * 48271 + 11) % 2147483647) % 2147483629 / 64 % m, st.set i (.c (.lst [.int a, .int ((b * 48271 + 11) % 2147483647)])), Int.emod_nonneg _ (by omega), Int.emod_lt_of_pos _ h0, nxt_set e hc0 hc1, by simp, ?_⟩
    have hl2 : i < (st.set i (.c (.lst [.int a, .int ((b * 48271 + 11) % 2147483647)]))).length := by simpa using hl
    simp [f__law_draw, ev_runB, m__law_draw, e, ha, h0, m1, m2, d1, List.getElem?_set_self hl]
/-- a text's beginning and end -/
theorem sIx_some (n : Nat) (d k : Nat) : HT.sIx n d (some (k : Int)) = min k n := HT.sIx_nat _ _ _
theorem gLt_at (ns : List Int) (k : Nat) : cutD (ns.map D.int) (some (k : Int)) (some ((k : Int) + 1)) = ((ns.map D.int).drop k).take 1 := by
  have e1 : HT.sIx (ns.map D.int).length 0 (some (k : Int)) = min k (ns.map D.int).length := HT.sIx_nat _ _ _
  have e2 : HT.sIx (ns.map D.int).length (ns.map D.int).length (some ((k : Int) + 1)) = min (k + 1) (ns.map D.int).length := HT.sIx_nat _ _ (k + 1)
  show ((ns.map D.int).drop (HT.sIx (ns.map D.int).length 0 (some (k : Int)))).take (HT.sIx (ns.map D.int).length (ns.map D.int).length (some ((k : Int) + 1)) - HT.sIx (ns.map D.int).length 0 (some (k : Int))) = _
  rw [e1, e2]
  by_cases h : k < (ns.map D.int).length
  · rw [Nat.min_eq_left (by omega), Nat.min_eq_left (by omega), Nat.add_sub_cancel_left]
  · have h1 : (ns.map D.int).length ≤ k := by omega
    rw [Nat.min_eq_right h1, List.drop_length, List.drop_eq_nil_of_le h1, List.take_nil, List.take_nil]
theorem hand (ns : List Int) (k : Nat) (hk : k < 1000) (st : Sto) : ∃ a b : Int, 0 ≤ b ∧ b < 2147483647 ∧ f__law_hand [.lst (ns.map D.int), .int k] st = .ok (.f (.lst [.int a, .int b])) st := by
  have key : ∀ c : Int, mulOkU (c % 2147483647 + 7919 * (k : Int) + 1) 48271 = true := fun c => by
    have h0 := Int.emod_nonneg c (b := 2147483647) (by decide)
    have h1 := Int.emod_lt_of_pos c (b := 2147483647) (by decide)
    exact mulU_r (by decide)
  have m1 : mulOkU 7919 (k : Int) = true := mulU_l (by decide)
  have p1 : (0 : Int) < 2147483629 := by decide
  have p2 : (0 : Int) < 2147483647 := by decide
  have cut := gLt_at ns k
  obtain ⟨c, rest, ec, hr⟩ : ∃ (c : Int) (rest : List D), ((ns.map D.int).drop k).take 1 ++ [D.int 0] = .int c :: rest ∧ rest.length ≤ 1 := by
    cases h : ns.drop k with
    | nil => exact ⟨0, [], by rw [← List.map_drop, h]; rfl, by simp⟩
    | cons n r => exact ⟨n, [.int 0], by rw [← List.map_drop, h]; rfl, by simp⟩
  have sz : (((ns.map D.int).drop k).take 1).length + [D.int 0].length ≤ sizeLine := by
    rw [List.length_take, sizeLine_eq]; simp; omega
  have ad := ev_gAddL (((ns.map D.int).drop k).take 1) [D.int 0] sz
  rw [ec] at ad
  generalize ((ns.map D.int).drop k).take 1 = T1 at *
  generalize hC : ns.map D.int = L at *
  have q0 := Int.emod_nonneg ((c % 2147483647 + 7919 * (k : Int) + 1) * 48271) (b := 2147483629) (by decide)
  have q1 := Int.emod_lt_of_pos ((c % 2147483647 + 7919 * (k : Int) + 1) * 48271) (b := 2147483629) (by decide)
  by_cases hc : (1000000000000000000 : Int) ≤ c
  · have m2 : mulOkU 1 c = true := mulU_l (by decide)
    refine ⟨c, (c % 2147483647 + 7919 * (k : Int) + 1) * 48271 % 2147483629, q0, by omega, ?_⟩
    simp [f__law_hand, ev_runB, m__law_hand, cut, ad, gP18, hc, m1, key, m2]
  · have m2 : mulOkU 0 c = true := mulU_l (by decide)
    refine ⟨0, (c % 2147483647 + 7919 * (k : Int) + 1) * 48271 % 2147483629, q0, by omega, ?_⟩
    simp [f__law_hand, ev_runB, m__law_hand, cut, ad, gP18, hc, m1, key, m2]
end Law
end MP

set_option Elab.async false
set_option linter.all false
set_option maxRecDepth 100000
set_option maxHeartbeats 4000000
namespace MP
namespace Law
open PySem PySem.Spec PyProof.Rows L2
/-! rows -/
abbrev Rw := Int × Str × Str × Str
abbrev rD (r : Rw) : D := .tup [.int r.1, .str r.2.1, .str r.2.2.1, .str r.2.2.2]
def kinds : List Str := ["read", "write"]
def pths : List Str := ["ann", "bob", "team/cy"]
def pgs : List Str := ["a", "b", "c", "d"]
structure RwOk (m : Int) (r : Rw) : Prop where
  a0 : 0 ≤ r.1
  a1 : r.1 ≤ m
  kd : r.2.1 ∈ kinds
  pt : r.2.2.1 ∈ pths
  pg : r.2.2.2 ∈ pgs
theorem RwOk.mono {m n : Int} {r : Rw} (h : RwOk m r) (k : m ≤ n) : RwOk n r := ⟨h.a0, Int.le_trans h.a1 k, h.kd, h.pt, h.pg⟩
theorem between (a l m : Int) (st : Sto) : f_is_between [.int a, .int l, .int m] st = .ok (.d (.bl (decide (l ≤ a ∧ a ≤ m)))) st := by
  have e : f_is_integer [.int a] st = .ok (.d (.bl true)) st := by kernel_rfl
  by_cases h1 : l ≤ a
  · by_cases h2 : a ≤ m <;> simp [f_is_between, ev_runB, m_is_between, e, h1, h2]
  · simp [f_is_between, ev_runB, m_is_between, e, h1]
theorem chk_num (a l m : Int) (st : Sto) (h1 : l ≤ a) (h2 : a ≤ m) : f_check_number [.int a, .int l, .int m] st = .ok (.d .non) st := by
  have e := between a l m st
  rw [decide_eq_true ⟨h1, h2⟩] at e
  simp [f_check_number, ev_runB, m_check_number, e]
theorem path1 (st : Sto) : f_is_path [.str "ann"] st = .ok (.d (.bl true)) st := by kernel_rfl
theorem path2 (st : Sto) : f_is_path [.str "bob"] st = .ok (.d (.bl true)) st := by kernel_rfl
theorem path3 (st : Sto) : f_is_path [.str "team/cy"] st = .ok (.d (.bl true)) st := by kernel_rfl
theorem path4 (st : Sto) : f_is_path [.str "team"] st = .ok (.d (.bl true)) st := by kernel_rfl
theorem page1 (st : Sto) : f_is_page [.str "a"] st = .ok (.d (.bl true)) st := by kernel_rfl
theorem page2 (st : Sto) : f_is_page [.str "b"] st = .ok (.d (.bl true)) st := by kernel_rfl
theorem page3 (st : Sto) : f_is_page [.str "c"] st = .ok (.d (.bl true)) st := by kernel_rfl
theorem page4 (st : Sto) : f_is_page [.str "d"] st = .ok (.d (.bl true)) st := by kernel_rfl
theorem is_pth {p : Str} (h : p ∈ pths) (st : Sto) : f_is_path [.str p] st = .ok (.d (.bl true)) st := by
  simp only [pths, List.mem_cons, List.not_mem_nil, or_false] at h
  rcases h with rfl | rfl | rfl
  · exact path1 st
  · exact path2 st
  · exact path3 st
theorem is_pg {p : Str} (h : p ∈ pgs) (st : Sto) : f_is_page [.str p] st = .ok (.d (.bl true)) st := by
  simp only [pgs, List.mem_cons, List.not_mem_nil, or_false] at h
  rcases h with rfl | rfl | rfl | rfl
  · exact page1 st
  · exact page2 st
  · exact page3 st
  · exact page4 st
theorem isi_t (xs : List D) : gIsiC ownCs isaT [.tup xs, .ty "tuple"] = .d (.bl true) := by kernel_rfl
theorem isi_s (s : Str) : gIsiC ownCs isaT [.str s, .ty "str"] = .d (.bl true) := by kernel_rfl
theorem in_kd {k : Str} (h : k ∈ kinds) : gDIn false [.str k, .tup [.str "read", .str "write"]] = .d (.bl true) := by
  simp only [kinds, List.mem_cons, List.not_mem_nil, or_false] at h
  rcases h with rfl | rfl <;> kernel_rfl
theorem is_req {r : Rw} (h : RwOk 1000000000 r) (st : Sto) : f_is_request [rD r] st = .ok (.d (.bl true)) st := by
  obtain ⟨a, k, p, g⟩ := r
  have e1 := between a 0 1000000000 st
  rw [decide_eq_true ⟨h.a0, h.a1⟩] at e1
  have e2 := is_pth h.pt st
  have e3 := is_pg h.pg st
  have e4 := in_kd h.kd
  dsimp only at e1 e2 e3 e4
  simp [f_is_request, ev_runB, m_is_request, isi_t, isi_s, e1, e2, e3, e4]
end Law
end MP

set_option Elab.async false
set_option linter.all false
set_option maxRecDepth 100000
set_option maxHeartbeats 4000000
namespace MP
namespace Law
open PySem PySem.Spec PyProof.Rows L2
abbrev at' : Rw → Int := Prod.fst
abbrev rsD (rs : List Rw) : List D := rs.map rD
/-- the rows of a trace -/
structure RsOk (n : Nat) (m : Int) (rs : List Rw) : Prop where
  ok : ∀ r ∈ rs, RwOk m r
  ord : Ord at' rs
  len : rs.length ≤ n
theorem chk_loop (X : D) (st : Sto) : ∀ (rs : List Rw) (n : Nat) (last : Int) (s2 s3 : Sl), (∀ r ∈ rs, RwOk 1000000000 r) → (∀ r ∈ rs, last ≤ r.1) → Ord at' rs → s2.fr → s3.fr → ∃ (last' : Int) (s2' s3' : Sl), forL (.tp [.nm 2, .nm 3]) b0_check_requests (enumD n (rsD rs)) [.d X, .d (.int last), s2, s3] st = .ok .nx [.d X, .d (.int last'), s2', s3'] st
  | [], n, last, s2, s3, _, _, _, _, _ => ⟨last, s2, s3, by simp [enumD]⟩
  | r :: rs, n, last, s2, s3, h, hl, ho, h2, h3 => by
    obtain ⟨o1, o2⟩ := List.pairwise_cons.mp ho
    obtain ⟨last', s2', s3', k⟩ := chk_loop X st rs (n + 1) r.1 (.d (.int n)) (.d (rD r)) (fun y hy => h y (by simp [hy])) o1 o2 trivial trivial
    have e := is_req (h r (by simp)) st
    have lt : ¬ r.1 < last := by have := hl r (by simp); omega
    refine ⟨last', s2', s3', ?_⟩
    rw [rsD, List.map_cons, show enumD n (rD r :: rs.map rD) = .tup [.int n, rD r] :: enumD (((n + 1 : Nat) : Int)) (rs.map rD) from by simp [enumD], ← k, ev_forc]
    obtain ⟨a, k, p, g⟩ := r
    dsimp only at e lt
    generalize enumD (((n + 1 : Nat) : Int)) (rs.map rD) = EE
    simp [h2, h3, e, lt]
theorem isi_l (xs : List D) : gIsiT ownCs isaT [.lst xs, .tup [.ty "list", .ty "tuple"]] = .d (.bl true) := by kernel_rfl
theorem isi_u (xs : List D) : gIsiT ownCs isaT [.tup xs, .tup [.ty "list", .ty "tuple"]] = .d (.bl true) := by kernel_rfl
theorem chk_l {n : Nat} {rs : List Rw} (h : RsOk n 1000000000 rs) (st : Sto) : f_check_requests [.lst (rsD rs)] st = .ok (.d .non) st := by
  obtain ⟨last', s2', s3', e⟩ := chk_loop (.lst (rsD rs)) st rs 0 0 .u .u h.ok (fun r hr => (h.ok r hr).a0) h.ord trivial trivial
  have e : forL (.tp [.nm 2, .nm 3]) b0_check_requests (enumD 0 (rsD rs)) [.d (.lst (rsD rs)), .d (.int 0), .u, .u] st = _ := e
  generalize rsD rs = X at *
  simp [f_check_requests, ev_runB, m_check_requests, isi_l, e]
theorem chk_t {n : Nat} {rs : List Rw} (h : RsOk n 1000000000 rs) (st : Sto) : f_check_requests [.tup (rsD rs)] st = .ok (.d .non) st := by
  obtain ⟨last', s2', s3', e⟩ := chk_loop (.tup (rsD rs)) st rs 0 0 .u .u h.ok (fun r hr => (h.ok r hr).a0) h.ord trivial trivial
  have e : forL (.tp [.nm 2, .nm 3]) b0_check_requests (enumD 0 (rsD rs)) [.d (.tup (rsD rs)), .d (.int 0), .u, .u] st = _ := e
  generalize rsD rs = X at *
  simp [f_check_requests, ev_runB, m_check_requests, isi_u, e]
abbrev trD (rs : List Rw) : D := .obj "Trace" [("own_requests", .tup (rsD rs))]
abbrev trO (rs : List Rw) : Ob := .ins "Trace" [("own_requests", .tup (rsD rs))]
theorem init_l {n : Nat} {rs : List Rw} (h : RsOk n 1000000000 rs) (hn : n ≤ 1000) (st : Sto) : f_Trace_D_init_D [.lst (rsD rs)] st = .ok (.f (trO rs)) st := by
  show _ = CRes.ok (.f (.ins "Trace" [("own_requests", .tup (rsD rs))])) st
  have e := chk_l h st
  have hl : (rsD rs).length ≤ 1000 := by simp; have := h.len; omega
  generalize rsD rs = X at *
  simp [f_Trace_D_init_D, ev_runI, m_Trace_D_init_D, e]
theorem init_t {n : Nat} {rs : List Rw} (h : RsOk n 1000000000 rs) (hn : n ≤ 1000) (st : Sto) : f_Trace_D_init_D [.tup (rsD rs)] st = .ok (.f (trO rs)) st := by
  show _ = CRes.ok (.f (.ins "Trace" [("own_requests", .tup (rsD rs))])) st
  have e := chk_t h st
  have hl : (rsD rs).length ≤ 1000 := by simp; have := h.len; omega
  generalize rsD rs = X at *
  simp [f_Trace_D_init_D, ev_runI, m_Trace_D_init_D, e]
end Law
end MP

set_option Elab.async false
set_option linter.all false
set_option maxRecDepth 100000
set_option maxHeartbeats 4000000
namespace MP
namespace Law
open PySem PySem.Spec PyProof.Rows L2
/-! data that is as deep as this is equal to itself -/
def Dp (k : Nat) (x : D) : Prop := ∃ d, dat x = some d ∧ d.depth ≤ k
def Dps (k : Nat) (xs : List D) : Prop := ∃ ds, dats xs = some ds ∧ PyData.depthAll ds ≤ k
theorem dps_nil (k : Nat) : Dps k [] := ⟨[], rfl, Nat.zero_le _⟩
theorem dps_cons {k : Nat} {x : D} {xs : List D} (h : Dp k x) (t : Dps k xs) : Dps k (x :: xs) := by
  obtain ⟨d, h1, h2⟩ := h
  obtain ⟨ds, t1, t2⟩ := t
  refine ⟨d :: ds, ?_, ?_⟩
  · show (match dat x, dats xs with | some d, some ds => some (d :: ds) | _, _ => none) = _
    rw [h1, t1]
  · simp only [PyData.depthAll]; omega
theorem dps_all {k : Nat} : ∀ {xs : List D}, (∀ x ∈ xs, Dp k x) → Dps k xs
  | [], _ => dps_nil k
  | x :: xs, h => dps_cons (h x (by simp)) (dps_all fun y hy => h y (by simp [hy]))
theorem dp_int (k : Nat) (i : Int) : Dp k (.int i) := ⟨.int i, rfl, Nat.zero_le _⟩
theorem dp_str (k : Nat) (i : Str) : Dp k (.str i) := ⟨.str i, rfl, Nat.zero_le _⟩
theorem dp_tup {k : Nat} {xs : List D} (h : Dps k xs) : Dp (k + 1) (.tup xs) := by
  obtain ⟨ds, t1, t2⟩ := h
  refine ⟨.tuple ds, ?_, ?_⟩
  · show (match dats xs with | some ds => some (PyData.tuple ds) | none => none) = _
    rw [t1]
  · simp only [PyData.depth]; omega
theorem dp_lst {k : Nat} {xs : List D} (h : Dps k xs) : Dp (k + 1) (.lst xs) := by
  obtain ⟨ds, t1, t2⟩ := h
  refine ⟨.list ds, ?_, ?_⟩
  · show (match dats xs with | some ds => some (PyData.list ds) | none => none) = _
    rw [t1]
  · simp only [PyData.depth]; omega
theorem dp_row (r : Rw) : Dp 1 (rD r) := dp_tup (dps_cons (dp_int 0 _) (dps_cons (dp_str 0 _) (dps_cons (dp_str 0 _) (dps_cons (dp_str 0 _) (dps_nil 0)))))
theorem dps_rows (rs : List Rw) : Dps 1 (rsD rs) := dps_all fun x hx => by
  obtain ⟨r, _, rfl⟩ := List.mem_map.mp hx
  exact dp_row r
theorem eq_same (neg : Bool) {k : Nat} {x : D} (h : Dp k x) (hk : k ≤ 60) : gDEq neg [x, x] = .d (.bl (!neg)) := by
  obtain ⟨d, h1, h4⟩ := h
  have r : PyData.eqv d d = true := PySem.SeqAt.eqv_refl_plain d (dat_plain h1)
  have key : (match dat x, dat x with | some d, some e => if min d.depth e.depth ≤ 64 then PR.d (.bl (if neg = true then !PyData.eqv d e else PyData.eqv d e)) else .no | _, _ => .no) = PR.d (.bl (!neg)) := by
    rw [h1]
    show (if min d.depth d.depth ≤ 64 then PR.d (.bl (if neg = true then !PyData.eqv d d else PyData.eqv d d)) else .no) = _
    rw [if_pos (by omega), r]
    cases neg <;> rfl
  cases x <;> first | exact key | (rw [← key]; rfl) | (simp; done)
theorem eq_rows (neg : Bool) (rs : List Rw) : gDEq neg [.lst (rsD rs), .lst (rsD rs)] = .d (.bl (!neg)) := eq_same neg (dp_lst (dps_rows rs)) (by decide)
theorem eq_rowsT (neg : Bool) (rs : List Rw) : gDEq neg [.tup (rsD rs), .tup (rsD rs)] = .d (.bl (!neg)) := eq_same neg (dp_tup (dps_rows rs)) (by decide)
theorem ne_none (rs : List Rw) : gDEq true [.tup (rsD rs), .tup []] = .d (.bl (!rs.isEmpty)) := by
  obtain ⟨ds, h1, h2⟩ := dps_rows rs
  cases rs with
  | nil => rfl
  | cons r rs =>
    have h3 : ∃ e es, ds = e :: es := by
      cases ds with
      | cons e es => exact ⟨e, es, rfl⟩
      | nil =>
        exfalso
        have h1 : (match dat (rD r), dats (rsD rs) with | some d, some ds => some (d :: ds) | _, _ => none) = some [] := h1
        split at h1 <;> cases h1
    obtain ⟨e, es, rfl⟩ := h3
    have k : dat (.tup (rsD (r :: rs))) = some (.tuple (e :: es)) := by
      show (match dats (rsD (r :: rs)) with | some ds => some (PyData.tuple ds) | none => none) = _
      rw [h1]
    show (match dat (.tup (rsD (r :: rs))), dat (.tup []) with | some d, some e => if min d.depth e.depth ≤ 64 then PR.d (.bl (if true = true then !PyData.eqv d e else PyData.eqv d e)) else .no | _, _ => .no) = _
    rw [k]
    show (if min (PyData.tuple (e :: es)).depth (PyData.tuple []).depth ≤ 64 then _ else _) = _
    have hd : min (PyData.tuple (e :: es)).depth (PyData.tuple []).depth ≤ 64 := Nat.le_trans (Nat.min_le_right _ _) (by decide)
    rw [if_pos hd]
    rfl
/-! a trace's end -/
def endR (rs : List Rw) : Int := ((rs.getLast?).map at').getD 0
theorem endR_nil : endR [] = 0 := rfl
theorem endR_app (rs : List Rw) (r : Rw) : endR (rs ++ [r]) = r.1 := by simp [endR]
theorem at_last (rs : List Rw) (r : Rw) (hl : rs.length ≤ 1000) : atI (rsD (rs ++ [r])) (-1) = some (rD r) := by
  have e : rsD (rs ++ [r]) = rsD rs ++ [rD r] := by simp
  have hh : (rsD rs).length = rs.length := by simp
  rw [e]
  generalize rsD rs = X at *
  unfold atI ixN
  have c : (-1 + ((X.length : Int) + 1)).toNat = X.length := by omega
  have c2 : (1 : Int) ≤ (X.length : Int) + 1 := by omega
  simp [c, c2]
theorem trace_end (rs : List Rw) (hl : rs.length ≤ 1000) (st : Sto) : f_Trace_end [trD rs] st = .ok (.d (.int (endR rs))) st := by
  show f_Trace_end [.obj "Trace" [("own_requests", .tup (rsD rs))]] st = _
  have e := ne_none rs
  rcases List.eq_nil_or_concat rs with rfl | ⟨ys, y, rfl⟩
  · generalize rsD [] = X at *
    simp [f_Trace_end, ev_runB, m_Trace_end, e, endR_nil]
  · rw [List.concat_eq_append] at *
    have a := at_last ys y (by simp at hl; omega)
    rw [endR_app]
    have ne : (ys ++ [y]).isEmpty = false := by simp
    rw [ne] at e
    generalize rsD (ys ++ [y]) = X at *
    simp [f_Trace_end, ev_runB, m_Trace_end, e, a]
end Law
end MP

set_option Elab.async false
set_option linter.all false
set_option maxRecDepth 100000
set_option maxHeartbeats 4000000
namespace MP
namespace Law
open PySem PySem.Spec PyProof.Rows L2
abbrev shR (t : Int) (r : Rw) : Rw := (r.1 + t, r.2)
abbrev shRs (t : Int) (rs : List Rw) : List Rw := rs.map (shR t)
/-! what keeps the rows valid -/
theorem end_ge {rs : List Rw} (h : Ord at' rs) : ∀ r ∈ rs, r.1 ≤ endR rs := by
  rcases List.eq_nil_or_concat rs with rfl | ⟨ys, y, rfl⟩
  · intro r hr; cases hr
  · rw [List.concat_eq_append] at *
    rw [endR_app]
    intro r hr
    obtain ⟨_, _, h3⟩ := List.pairwise_append.mp h
    rcases List.mem_append.mp hr with q | q
    · exact h3 r q y (by simp)
    · rw [List.mem_singleton.mp q]; exact Int.le_refl _
theorem end_bd {n : Nat} {m : Int} {rs : List Rw} (h : RsOk n m rs) (hm : 0 ≤ m) : 0 ≤ endR rs ∧ endR rs ≤ m := by
  rcases List.eq_nil_or_concat rs with rfl | ⟨ys, y, rfl⟩
  · exact ⟨by rw [endR_nil]; decide, by rw [endR_nil]; exact hm⟩
  · rw [List.concat_eq_append] at *
    rw [endR_app]
    have := h.ok y (by simp)
    exact ⟨this.a0, this.a1⟩
theorem RsOk.mono {n n' : Nat} {m m' : Int} {rs : List Rw} (h : RsOk n m rs) (hn : n ≤ n') (hm : m ≤ m') : RsOk n' m' rs := ⟨fun r hr => (h.ok r hr).mono hm, h.ord, Nat.le_trans h.len hn⟩
theorem rs_nil (n : Nat) (m : Int) : RsOk n m [] := ⟨(fun _ h => by cases h), List.Pairwise.nil, Nat.zero_le _⟩
theorem rs_sh {n : Nat} {m t : Int} {rs : List Rw} (h : RsOk n m rs) (ht : 0 ≤ t) : RsOk n (m + t) (shRs t rs) := by
  refine ⟨fun r hr => ?_, ?_, by simpa using h.len⟩
  · obtain ⟨q, hq, rfl⟩ := List.mem_map.mp hr
    have := h.ok q hq
    exact ⟨by have := this.a0; show 0 ≤ q.1 + t; omega, by have := this.a1; show q.1 + t ≤ m + t; omega, this.kd, this.pt, this.pg⟩
  · exact List.pairwise_map.mpr (h.ord.imp fun {a b} q => by show a.1 + t ≤ b.1 + t; have q : a.1 ≤ b.1 := q; omega)
theorem rs_app {n n' : Nat} {m m' : Int} {xs ys : List Rw} (h : RsOk n m xs) (h' : RsOk n' m' ys) (hm : m ≤ m') (k : ∀ x ∈ xs, ∀ y ∈ ys, x.1 ≤ y.1) : RsOk (n + n') m' (xs ++ ys) := by
  refine ⟨fun r hr => ?_, List.pairwise_append.mpr ⟨h.ord, h'.ord, k⟩, by have := h.len; have := h'.len; simp; omega⟩
  rcases List.mem_append.mp hr with q | q
  · exact (h.ok r q).mono hm
  · exact h'.ok r q
theorem rs_mrg {n n' : Nat} {m : Int} {xs ys : List Rw} (h : RsOk n m xs) (h' : RsOk n' m ys) : RsOk (n + n') m (mrg at' xs ys) := by
  refine ⟨fun r hr => ?_, mrg_ord at' h.ord h'.ord, ?_⟩
  · rcases List.mem_append.mp ((mrg_p at' xs ys).subset hr) with q | q
    · exact h.ok r q
    · exact h'.ok r q
  · rw [(mrg_p at' xs ys).length_eq, List.length_append]
    have := h.len; have := h'.len; omega
theorem rs_filter {n : Nat} {m : Int} {xs : List Rw} (h : RsOk n m xs) (p : Rw → Bool) : RsOk n m (xs.filter p) := ⟨fun r hr => h.ok r (List.mem_filter.mp hr).1, List.Pairwise.filter p h.ord, Nat.le_trans (List.length_filter_le _ _) h.len⟩
theorem rs_take {n : Nat} {m : Int} {xs : List Rw} (h : RsOk n m xs) (k : Nat) : RsOk n m (xs.take k) := ⟨fun r hr => h.ok r (List.mem_of_mem_take hr), List.Pairwise.sublist (List.take_sublist _ _) h.ord, by have := h.len; simp; omega⟩
abbrev addR (xs ys : List Rw) : List Rw := xs ++ shRs (endR xs) ys
theorem rs_add {n n' : Nat} {m m' : Int} {xs ys : List Rw} (h : RsOk n m xs) (h' : RsOk n' m' ys) (hm : 0 ≤ m) (hm' : 0 ≤ m') : RsOk (n + n') (m + m') (addR xs ys) := by
  have e := end_bd h hm
  refine rs_app h ((rs_sh h' e.1).mono (Nat.le_refl _) (by omega)) (by omega) fun x hx y hy => ?_
  obtain ⟨q, hq, rfl⟩ := List.mem_map.mp hy
  have a := end_ge h.ord x hx
  have b := (h'.ok q hq).a0
  show x.1 ≤ q.1 + endR xs
  omega
theorem end_add (xs ys : List Rw) : endR (addR xs ys) = endR xs + endR ys := by
  rcases List.eq_nil_or_concat ys with rfl | ⟨zs, z, rfl⟩
  · simp [addR, endR_nil]
  · rw [List.concat_eq_append]
    have : addR xs (zs ++ [z]) = (xs ++ shRs (endR xs) zs) ++ [shR (endR xs) z] := by simp [addR]
    rw [this, endR_app, endR_app]
    show z.1 + endR xs = _
    omega
theorem add_assoc (xs ys zs : List Rw) : addR (addR xs ys) zs = addR xs (addR ys zs) := by
  show (xs ++ shRs (endR xs) ys) ++ shRs (endR (addR xs ys)) zs = xs ++ shRs (endR xs) (ys ++ shRs (endR ys) zs)
  rw [end_add]
  have : shRs (endR xs) (shRs (endR ys) zs) = shRs (endR xs + endR ys) zs := by
    show (zs.map (shR (endR ys))).map (shR (endR xs)) = _
    rw [List.map_map]
    refine List.map_congr_left fun r _ => ?_
    show (r.1 + endR ys + endR xs, r.2) = (r.1 + (endR xs + endR ys), r.2)
    rw [Int.add_assoc, Int.add_comm (endR ys)]
  rw [List.append_assoc, ← this]
  show _ = xs ++ (ys ++ shRs (endR ys) zs).map (shR (endR xs))
  rw [List.map_append]
theorem add_nl (xs : List Rw) : addR [] xs = xs := by
  show shRs (endR []) xs = xs
  have : shR (endR []) = id := by funext r; show (r.1 + 0, r.2) = r; rw [Int.add_zero]
  rw [shRs, this, List.map_id]
theorem add_nr (xs : List Rw) : addR xs [] = xs := by simp [addR]
/-! later -/
def shD (t : Int) : D → D
  | .tup [.int a, k, p, g] => .tup [.int (a + t), k, p, g]
  | x => x
def s4 (s0 s1 : Sl) : D → Sls
  | .tup [a, k, p, g] => [s0, s1, .d a, .d k, .d p, .d g]
  | _ => []
theorem later_comp (s0 : Sl) (t : Int) (st : Sto) (rs : List Rw) (hl : rs.length ≤ 1000) : compL (.tp [.nm 2, .nm 3, .nm 4, .nm 5]) t0_Trace_later e1_Trace_later [2, 3, 4, 5] (rsD rs) [] [s0, .d (.int t), .u, .u, .u, .u] st = .ok (rsD (shRs t rs)) [s0, .d (.int t), .u, .u, .u, .u] st := by
  refine (comp_all _ st (fun _ => true) (shD t) (s4 s0 (.d (.int t))) (rsD rs) [] (fun x hx => ?_) (by simp; omega)).trans ?_
  · obtain ⟨r, _, rfl⟩ := List.mem_map.mp hx
    obtain ⟨a, k, p, g⟩ := r
    refine ⟨?_, ?_, fun _ => ?_, ?_, ?_⟩
    · simp [s4]
    · simp [s4, t0_Trace_later]
    · simp [s4, shD, e1_Trace_later]
    · simp [s4]
    · simp [s4]
  · rw [show (rsD rs).filter (fun _ => true) = rsD rs from List.filter_eq_self.mpr (fun _ _ => rfl), List.nil_append, List.map_map]
    have e : rsD (shRs t rs) = rs.map (shD t ∘ rD) := List.map_map
    rw [e]
end Law
end MP

set_option Elab.async false
set_option linter.all false
set_option maxRecDepth 100000
set_option maxHeartbeats 4000000
namespace MP
namespace Law
open PySem PySem.Spec PyProof.Rows L2
theorem trace_later {n : Nat} {m t : Int} {rs : List Rw} (h : RsOk n m rs) (hn : n ≤ 1000) (hm : 0 ≤ m) (ht : 0 ≤ t) (hb : m + t ≤ 1000000000) (st : Sto) : f_Trace_later [trD rs, .int t] st = .ok (.f (trO (shRs t rs))) st := by
  show f_Trace_later [.obj "Trace" [("own_requests", .tup (rsD rs))], .int t] st = CRes.ok (.f (.ins "Trace" [("own_requests", .tup (rsD (shRs t rs)))])) st
  have hl : rs.length ≤ 1000 := Nat.le_trans h.len hn
  have e1 := trace_end rs hl st
  have e1 : f_Trace_end [.obj "Trace" [("own_requests", .tup (rsD rs))]] st = _ := e1
  have bd := end_bd h hm
  have e2 := chk_num t 0 (1000000000 - endR rs) st ht (by omega)
  have e3 := later_comp (.d (.obj "Trace" [("own_requests", .tup (rsD rs))])) t st rs hl
  have e4 := init_l ((rs_sh h ht).mono (Nat.le_refl _) hb) hn st
  have e4 : f_Trace_D_init_D [.lst (rsD (shRs t rs))] st = CRes.ok (.f (.ins "Trace" [("own_requests", .tup (rsD (shRs t rs)))])) st := e4
  generalize rsD (shRs t rs) = Y at *
  generalize rsD rs = X at *
  generalize endR rs = E at *
  simp [f_Trace_later, ev_runB, m_Trace_later, e1, e2, e3, e4, ev_compK]
theorem isi_tr (xs : List (Str × D)) : gIsiC ownCs isaT [.obj "Trace" xs, .gl "Trace"] = .d (.bl true) := by kernel_rfl
theorem trace_rows (rs : List Rw) (hl : rs.length ≤ 1000) (st : Sto) : f_Trace_rows [trD rs] st = .ok (.f (.lst (rsD rs))) st := by
  show f_Trace_rows [.obj "Trace" [("own_requests", .tup (rsD rs))]] st = _
  have hh : (rsD rs).length ≤ 1000 := by simpa using hl
  generalize rsD rs = X at *
  simp [f_Trace_rows, ev_runB, m_Trace_rows]
theorem trace_len (rs : List Rw) (hl : rs.length ≤ 1000) (st : Sto) : f_Trace_D_len_D [trD rs] st = .ok (.d (.int rs.length)) st := by
  show f_Trace_D_len_D [.obj "Trace" [("own_requests", .tup (rsD rs))]] st = _
  have hh : (rsD rs).length = rs.length := by simp
  rw [← hh]
  rw [← hh] at hl
  generalize rsD rs = X at *
  simp [f_Trace_D_len_D, ev_runB, m_Trace_D_len_D]
theorem trace_eq (rs : List Rw) (st : Sto) : f_Trace_D_eq_D [trD rs, trD rs] st = .ok (.d (.bl true)) st := by
  show f_Trace_D_eq_D [.obj "Trace" [("own_requests", .tup (rsD rs))], .obj "Trace" [("own_requests", .tup (rsD rs))]] st = _
  have e := eq_rowsT false rs
  generalize rsD rs = X at *
  simp [f_Trace_D_eq_D, ev_runB, m_Trace_D_eq_D, isi_tr, e]
theorem trace_add {n n' : Nat} {m m' : Int} {xs ys : List Rw} (h : RsOk n m xs) (h' : RsOk n' m' ys) (hn : n + n' ≤ 1000) (hm : 0 ≤ m) (hm' : 0 ≤ m') (hb : m + m' ≤ 1000000000) (st : Sto) : f_Trace_D_add_D [trD xs, trD ys] st = .ok (.f (trO (addR xs ys))) st := by
  show f_Trace_D_add_D [.obj "Trace" [("own_requests", .tup (rsD xs))], .obj "Trace" [("own_requests", .tup (rsD ys))]] st = CRes.ok (.f (.ins "Trace" [("own_requests", .tup (rsD (addR xs ys)))])) st
  have e1 : f_Trace_end [.obj "Trace" [("own_requests", .tup (rsD xs))]] st = _ := trace_end xs (by have := h.len; omega) st
  have e2 : f_Trace_end [.obj "Trace" [("own_requests", .tup (rsD ys))]] st = _ := trace_end ys (by have := h'.len; omega) st
  have b1 := end_bd h hm
  have b2 := end_bd h' hm'
  have e3 := chk_num (endR xs + endR ys) 0 1000000000 st (by omega) (by omega)
  have e4 : f_Trace_later [.obj "Trace" [("own_requests", .tup (rsD ys))], .int (endR xs)] st = CRes.ok (.f (.ins "Trace" [("own_requests", .tup (rsD (shRs (endR xs) ys)))])) st := trace_later h' (by omega) hm' b1.1 (by omega) st
  have e5 : f_Trace_D_init_D [.tup (rsD (addR xs ys))] st = CRes.ok (.f (.ins "Trace" [("own_requests", .tup (rsD (addR xs ys)))])) st := init_t ((rs_add h h' hm hm').mono (Nat.le_refl _) hb) hn st
  have e6 : rsD (addR xs ys) = rsD xs ++ rsD (shRs (endR xs) ys) := by simp
  have l1 : (rsD xs).length + (rsD (shRs (endR xs) ys)).length ≤ 1000 := by have := h.len; have := h'.len; simp; omega
  rw [e6] at e5 ⊢
  generalize rsD (shRs (endR xs) ys) = Z at *
  generalize rsD xs = X at *
  generalize rsD ys = Y at *
  generalize endR xs = E at *
  generalize endR ys = F at *
  have ad := ev_gAddT X Z (by rw [sizeLine_eq]; omega)
  simp [f_Trace_D_add_D, ev_runB, m_Trace_D_add_D, isi_tr, e1, e2, e3, e4, e5, ad]
end Law
end MP

set_option Elab.async false
set_option linter.all false
set_option maxRecDepth 100000
set_option maxHeartbeats 4000000
namespace MP
namespace Law
open PySem PySem.Spec PyProof.Rows L2
/-! rows in order of their moments -/
theorem srtV_gen {α β : Type} (f : α → β) (kz : α → PyData) (l : List α) : srtV (l.map kz) (l.map f) = (l.mergeSort (PySem.W.dataLe false kz)).map f := by
  have m := List.map_mergeSort (r := PySem.W.dataLe false kz) (s := PySem.W.dataLe false Prod.snd) (f := fun x : α => (f x, kz x)) (l := l) (fun _ _ _ _ => rfl)
  have z : ∀ l : List α, (l.map f).zip (l.map kz) = l.map fun x => (f x, kz x) := by
    intro l
    induction l with
    | nil => rfl
    | cons x l ih => rw [List.map_cons, List.map_cons, List.zip_cons_cons, ih]; rfl
  unfold srtV
  rw [z, ← m, List.map_map]
  rfl
abbrev kI (r : Rw) : PyData := .int r.1
theorem le_int (s t : Rw) : PySem.W.dataLe false kI s t = leK at' s t := by
  have e1 : PySem.W.dataLe false kI s t = !PyProof.Rows.lexLt PyProof.Rows.itemOrd (PySem.W.keyToks (.int t.1)) (PySem.W.keyToks (.int s.1)) := rfl
  rw [e1]
  show (!PyProof.Rows.lexLt PyProof.Rows.itemOrd [.inl t.1] [.inl s.1]) = _
  rw [PyProof.Rows.lex_cons]
  show (!(decide (t.1 < s.1) || (!decide (s.1 < t.1) && false))) = decide (s.1 ≤ t.1)
  by_cases h : t.1 < s.1
  · have : ¬ s.1 ≤ t.1 := by omega
    simp [h, this]
  · have : s.1 ≤ t.1 := by omega
    simp [h, this]
theorem dats_kI : ∀ rs : List Rw, dats (rs.map fun r => D.int r.1) = some (rs.map kI)
  | [] => rfl
  | n :: ns => by
    show (match dat (.int n.1), dats (ns.map fun r => D.int r.1) with | some d, some ds => some (d :: ds) | _, _ => none) = _
    rw [dats_kI ns]; rfl
theorem srtOk_kI (rs : List Rw) : srtOk (rs.map kI) = true := by
  unfold srtOk
  simp only [Bool.and_eq_true, Bool.or_eq_true, List.all_eq_true, List.mem_map, forall_exists_index, and_imp, forall_apply_eq_imp_iff₂, decide_eq_true_eq]
  refine ⟨fun a _ b _ => rfl, Or.inr fun a _ => rfl, fun a _ => Nat.zero_le _⟩
def momD : D → D
  | .tup (x :: _) => x
  | x => x
theorem moment (r : Rw) (st : Sto) : f_moment_of [rD r] st = .ok (.d (.int r.1)) st := by
  obtain ⟨a, k, p, g⟩ := r
  simp [f_moment_of, ev_runB, m_moment_of]
theorem mom_keys (rs : List Rw) (st : Sto) : keysL f_moment_of (rsD rs) st = some (rs.map fun r => D.int r.1, st) := by
  have := keysL_all st (φ := f_moment_of) (g := momD) (xs := rsD rs) fun x hx => by
    obtain ⟨r, _, rfl⟩ := List.mem_map.mp hx
    exact moment r st
  rw [this, List.map_map]
  rfl
theorem merged {n n' : Nat} {m m' : Int} {xs ys : List Rw} (h : RsOk n m xs) (h' : RsOk n' m' ys) (hn : n + n' ≤ 1000) (st : Sto) : f_merged [.tup (rsD xs), .tup (rsD ys)] st = .ok (.f (.lst (rsD (mrg at' xs ys)))) st := by
  have k := mom_keys (xs ++ ys) st
  have hl : (rsD xs).length + (rsD ys).length ≤ 1000 := by have := h.len; have := h'.len; simp; omega
  have s : ∀ sl, srtK0 f_moment_of [.lst (rsD (xs ++ ys))] sl st = .ok (.f (.lst (rsD (mrg at' xs ys)))) sl st := fun sl => by
    rw [ev_srtK0 sl st f_moment_of _ _ _ k (dats_kI _) (srtOk_kI _), srtV_gen rD kI, show PySem.W.dataLe false kI = leK at' from by funext s t; exact le_int s t, sort_app at' h.ord h'.ord]
  rw [show rsD (xs ++ ys) = rsD xs ++ rsD ys from by simp] at s
  generalize rsD (mrg at' xs ys) = Z at *
  have e : ∀ sl, escs ((rsD xs).map RV.d ++ (rsD ys).map RV.d) sl st = .ok (rsD xs ++ rsD ys) sl st := fun sl => by
    rw [← List.map_append]
    exact ev_escD sl st _
  generalize rsD xs = X at *
  generalize rsD ys = Y at *
  have c : X.length + Y.length ≤ 100000 := by omega
  simp [f_merged, ev_runB, m_merged, s, e, c]
end Law
end MP

set_option Elab.async false
set_option linter.all false
set_option maxRecDepth 100000
set_option maxHeartbeats 4000000
namespace MP
namespace Law
open PySem PySem.Spec PyProof.Rows L2
theorem trace_or {n n' : Nat} {m : Int} {xs ys : List Rw} (h : RsOk n m xs) (h' : RsOk n' m ys) (hn : n + n' ≤ 1000) (hb : m ≤ 1000000000) (st : Sto) : f_Trace_D_or_D [trD xs, trD ys] st = .ok (.f (trO (mrg at' xs ys))) st := by
  show f_Trace_D_or_D [.obj "Trace" [("own_requests", .tup (rsD xs))], .obj "Trace" [("own_requests", .tup (rsD ys))]] st = CRes.ok (.f (.ins "Trace" [("own_requests", .tup (rsD (mrg at' xs ys)))])) st
  have e1 := merged h h' hn st
  have e2 : f_Trace_D_init_D [.lst (rsD (mrg at' xs ys))] st = CRes.ok (.f (.ins "Trace" [("own_requests", .tup (rsD (mrg at' xs ys)))])) st := init_l ((rs_mrg h h').mono (Nat.le_refl _) hb) hn st
  generalize rsD (mrg at' xs ys) = Z at *
  generalize rsD xs = X at *
  generalize rsD ys = Y at *
  simp [f_Trace_D_or_D, ev_runB, m_Trace_D_or_D, isi_tr, e1, e2]
/-! of -/
def laws : List Str := ["ann", "bob", "team"]
def belowS (a p : Str) : Bool := p == a || Txt.startswith p (a ++ "/")
abbrev belowR (a : Str) (r : Rw) : Bool := belowS a r.2.2.1
theorem below {p a : Str} (hp : p ∈ pths) (ha : a ∈ laws) (st : Sto) : f_is_below [.str p, .str a] st = .ok (.d (.bl (belowS a p))) st := by
  simp only [pths, laws, List.mem_cons, List.not_mem_nil, or_false] at hp ha
  rcases hp with rfl | rfl | rfl <;> rcases ha with rfl | rfl | rfl <;> kernel_rfl
theorem chk_path {a : Str} (ha : a ∈ laws) (st : Sto) : f_check_path [.str a] st = .ok (.d .non) st := by
  simp only [laws, List.mem_cons, List.not_mem_nil, or_false] at ha
  rcases ha with rfl | rfl | rfl <;> kernel_rfl
def belowD (a : Str) : D → Bool
  | .tup [_, _, .str p, _] => belowS a p
  | _ => false
theorem trace_of {n : Nat} {m : Int} {rs : List Rw} {a : Str} (h : RsOk n m rs) (hn : n ≤ 1000) (hb : m ≤ 1000000000) (ha : a ∈ laws) (st : Sto) : f_Trace_of [trD rs, .str a] st = .ok (.f (trO (rs.filter (belowR a)))) st := by
  show f_Trace_of [.obj "Trace" [("own_requests", .tup (rsD rs))], .str a] st = CRes.ok (.f (.ins "Trace" [("own_requests", .tup (rsD (rs.filter (belowR a))))])) st
  have hl : (rsD rs).length ≤ 1000 := by have := h.len; simp; omega
  have e1 : ∀ s0, compK [2] (.nm 2) t0_Trace_of e1_Trace_of (rsD rs, .none) [s0, .d (.str a), .u] st = .ok (.f (.lst (((rsD rs).filter (belowD a)).map id))) [s0, .d (.str a), .u] st := fun s0 => by
    refine comp1 (s := .u) (belowD a) id (by simp) trivial (fun x hx => ?_) (by omega)
    obtain ⟨r, hr, rfl⟩ := List.mem_map.mp hx
    have e := below (h.ok r hr).pt ha st
    obtain ⟨t, k, p, g⟩ := r
    dsimp only at e
    refine ⟨?_, fun _ => ?_⟩
    · simp [t0_Trace_of, e, belowD]
    · simp [e1_Trace_of]
  have e2 : ((rsD rs).filter (belowD a)).map id = rsD (rs.filter (belowR a)) := by
    rw [List.map_id, rsD, List.filter_map]
    rfl
  rw [e2] at e1
  have e3 := chk_path ha st
  have e4 : f_Trace_D_init_D [.lst (rsD (rs.filter (belowR a)))] st = CRes.ok (.f (.ins "Trace" [("own_requests", .tup (rsD (rs.filter (belowR a))))])) st := init_l ((rs_filter h _).mono (Nat.le_refl _) hb) hn st
  generalize rsD (rs.filter (belowR a)) = Z at *
  generalize rsD rs = X at *
  simp [f_Trace_of, ev_runB, m_Trace_of, e1, e3, e4]
/-! part -/
theorem trace_part {n : Nat} {m : Int} {rs : List Rw} {k : Nat} (h : RsOk n m rs) (hn : n ≤ 1000) (hb : m ≤ 1000000000) (hk : k ≤ rs.length) (st : Sto) : f_Trace_part [trD rs, .int 0, .int k] st = .ok (.f (trO (rs.take k))) st := by
  show f_Trace_part [.obj "Trace" [("own_requests", .tup (rsD rs))], .int 0, .int k] st = CRes.ok (.f (.ins "Trace" [("own_requests", .tup (rsD (rs.take k)))])) st
  have hl : (rsD rs).length = rs.length := by simp
  have e1 := chk_num 0 0 (rsD rs).length st (by decide) (by omega)
  have e2 := chk_num k 0 (rsD rs).length st (by omega) (by omega)
  have e3 : f_Trace_D_init_D [.tup (rsD (rs.take k))] st = CRes.ok (.f (.ins "Trace" [("own_requests", .tup (rsD (rs.take k)))])) st := init_t ((rs_take h k).mono (Nat.le_refl _) hb) hn st
  have e4 : cutD (rsD rs) (some 0) (some (k : Int)) = rsD (rs.take k) := by
    have q1 : HT.sIx (rsD rs).length 0 (some ((0 : Nat) : Int)) = min 0 (rsD rs).length := HT.sIx_nat _ _ _
    have q2 : HT.sIx (rsD rs).length (rsD rs).length (some (k : Int)) = min k (rsD rs).length := HT.sIx_nat _ _ k
    show ((rsD rs).drop (HT.sIx (rsD rs).length 0 (some ((0 : Nat) : Int)))).take (HT.sIx (rsD rs).length (rsD rs).length (some (k : Int)) - HT.sIx (rsD rs).length 0 (some ((0 : Nat) : Int))) = _
    rw [q1, q2, Nat.zero_min, Nat.sub_zero, List.drop_zero, Nat.min_eq_left (by omega)]
    exact List.map_take.symm
  have h5 : (rsD rs).length ≤ 1000 := by have := h.len; omega
  generalize rsD (rs.take k) = Z at *
  generalize rsD rs = X at *
  simp [f_Trace_part, ev_runB, m_Trace_part, e1, e2, e3, e4]
end Law
end MP

set_option Elab.async false
set_option linter.all false
set_option maxRecDepth 100000
set_option maxHeartbeats 4000000
namespace MP
namespace Law
open PySem PySem.Spec PyProof.Rows L2
/-! sorted sets of texts, run by simp -/
def sscR (vs : List Nat) (h : Hd) (sl : Sls) (st : Sto) : Res (List Str) → Res RV
  | .ok ys sl' st' => .ok (.f (.lst ((sortT ys).map D.str))) (unlS h sl (backS (lockS h sl) sl' vs)) (unlC h st st')
  | _ => .no
def sscK (vs : List Nat) (t : Tgt) (tt : Mn Bool) (te : Mn RV) (p : List D × Hd) : Mn RV := fun sl st => if noLk (lockS p.2 sl) vs = true then sscR vs p.2 sl st (compS t tt te vs p.1 [] (wipeS (lockS p.2 sl) vs) (lockC p.2 st)) else .no
theorem ev_mSortSC (vs : List Nat) (mi : Mn (List D × Hd)) (t : Tgt) (tt : Mn Bool) (te : Mn RV) (sl : Sls) (st : Sto) : mSortSC vs mi t tt te sl st = Res.bind (mi sl st) (sscK vs t tt te) := by
  unfold mSortSC bnd Res.bind
  cases mi sl st with
  | no => rfl
  | exc => rfl
  | ok p s t' =>
    dsimp only
    unfold sscK sscR
    split
    · cases compS t tt te vs p.1 [] (wipeS (lockS p.2 s) vs) (lockC p.2 t') <;> rfl
    · rfl
def ssK (ds : List D) : Mn RV := fun sl st => match ds with
  | [.lst xs] => match strsD xs with
    | some ks => if ks.length < 4000 then .ok (.f (.lst ((sortT (dedT ks)).map D.str))) sl st else .no
    | none => .no
  | _ => .no
theorem ev_mSortSet (rs : List RV) (sl : Sls) (st : Sto) : mSortSet rs sl st = Res.bind (escs rs sl st) ssK := by
  unfold mSortSet bnd Res.bind
  cases escs rs sl st <;> rfl
theorem strsD_map : ∀ ks : List Str, strsD (ks.map D.str) = some ks
  | [] => rfl
  | k :: ks => by
    show (match strsD (ks.map D.str) with | some ks => some (k :: ks) | none => none) = _
    rw [strsD_map ks]
theorem ev_ssK (ks : List Str) (hl : ks.length < 4000) (sl : Sls) (st : Sto) : ssK [.lst (ks.map D.str)] sl st = .ok (.f (.lst ((sortT (dedT ks)).map D.str))) sl st := by
  show (match strsD (ks.map D.str) with | some ks => if ks.length < 4000 then Res.ok (RV.f (.lst ((sortT (dedT ks)).map D.str))) sl st else .no | none => .no) = _
  rw [strsD_map]
  exact if_pos hl
theorem addT_len' (ks : List Str) (k : Str) : (addT ks k).length ≤ ks.length + 1 := addT_len ks k
theorem pages_comp (s0 : Sl) (st : Sto) : ∀ (rs : List Rw) (acc : List Str), acc.length + rs.length ≤ 1000 → compS (.nm 1) t0_Trace_pages e1_Trace_pages [1] (rsD rs) acc [s0, .u] st = .ok ((rs.map fun r => r.2.2.2).foldl addT acc) [s0, .u] st
  | [], acc, _ => rfl
  | r :: rs, acc, hl => by
    have ih := pages_comp s0 st rs (addT acc r.2.2.2) (by have := addT_len acc r.2.2.2; simp at hl; omega)
    have e1 : mTgt (.nm 1) (rD r) [s0, .u] st = .ok .nx [s0, .d (rD r)] st := by simp
    have e3 : e1_Trace_pages [s0, .d (rD r)] st = .ok (.d (.str r.2.2.2)) [s0, .d (rD r)] st := by simp [e1_Trace_pages]
    have e4 : acc.length < 4000 ∧ noLk [s0, Sl.d (rD r)] [1] = true := ⟨by simp at hl; omega, by simp⟩
    have e5 : wipeS [s0, Sl.d (rD r)] [1] = [s0, .u] := by simp
    rw [List.map_cons, List.foldl_cons, ← ih, rsD, List.map_cons]
    conv => lhs; unfold compS
    rw [e1]
    show (match e1_Trace_pages [s0, .d (rD r)] st with | .ok (.d (.str y)) sl3 st3 => if acc.length < 4000 ∧ noLk sl3 [1] = true then compS (.nm 1) t0_Trace_pages e1_Trace_pages [1] (rs.map rD) (addT acc y) (wipeS sl3 [1]) st3 else .no | _ => .no) = _
    rw [e3]
    dsimp only
    rw [if_pos e4, e5]
theorem paths_comp (s0 : Sl) (st : Sto) : ∀ (rs : List Rw) (acc : List Str), acc.length + rs.length ≤ 1000 → compS (.nm 1) t0_Trace_paths e1_Trace_paths [1] (rsD rs) acc [s0, .u] st = .ok ((rs.map fun r => r.2.2.1).foldl addT acc) [s0, .u] st
  | [], acc, _ => rfl
  | r :: rs, acc, hl => by
    have ih := paths_comp s0 st rs (addT acc r.2.2.1) (by have := addT_len acc r.2.2.1; simp at hl; omega)
    have e1 : mTgt (.nm 1) (rD r) [s0, .u] st = .ok .nx [s0, .d (rD r)] st := by simp
    have e3 : e1_Trace_paths [s0, .d (rD r)] st = .ok (.d (.str r.2.2.1)) [s0, .d (rD r)] st := by simp [e1_Trace_paths]
    have e4 : acc.length < 4000 ∧ noLk [s0, Sl.d (rD r)] [1] = true := ⟨by simp at hl; omega, by simp⟩
    have e5 : wipeS [s0, Sl.d (rD r)] [1] = [s0, .u] := by simp
    rw [List.map_cons, List.foldl_cons, ← ih, rsD, List.map_cons]
    conv => lhs; unfold compS
    rw [e1]
    show (match e1_Trace_paths [s0, .d (rD r)] st with | .ok (.d (.str y)) sl3 st3 => if acc.length < 4000 ∧ noLk sl3 [1] = true then compS (.nm 1) t0_Trace_paths e1_Trace_paths [1] (rs.map rD) (addT acc y) (wipeS sl3 [1]) st3 else .no | _ => .no) = _
    rw [e3]
    dsimp only
    rw [if_pos e4, e5]
abbrev pagesR (rs : List Rw) : List Str := sortT (dedT (rs.map fun r => r.2.2.2))
abbrev pathsR (rs : List Rw) : List Str := sortT (dedT (rs.map fun r => r.2.2.1))
theorem trace_pages (rs : List Rw) (hl : rs.length ≤ 1000) (st : Sto) : f_Trace_pages [trD rs] st = .ok (.f (.lst ((pagesR rs).map D.str))) st := by
  show f_Trace_pages [.obj "Trace" [("own_requests", .tup (rsD rs))]] st = _
  have e : ∀ s0, sscK [1] (.nm 1) t0_Trace_pages e1_Trace_pages (rsD rs, .none) [s0, .u] st = .ok (.f (.lst ((pagesR rs).map D.str))) [s0, .u] st := fun s0 => by
    have k := pages_comp s0 st rs [] (by simpa using hl)
    show (if noLk [s0, Sl.u] [1] = true then sscR [1] .none [s0, .u] st (compS (.nm 1) t0_Trace_pages e1_Trace_pages [1] (rsD rs) [] (wipeS [s0, .u] [1]) st) else .no) = _
    rw [if_pos (by simp), show wipeS [s0, Sl.u] [1] = [s0, .u] from by simp, k]
    rfl
  generalize pagesR rs = Z at *
  generalize rsD rs = X at *
  simp [f_Trace_pages, ev_runB, m_Trace_pages, ev_mSortSC, e]
theorem trace_paths (rs : List Rw) (hl : rs.length ≤ 1000) (st : Sto) : f_Trace_paths [trD rs] st = .ok (.f (.lst ((pathsR rs).map D.str))) st := by
  show f_Trace_paths [.obj "Trace" [("own_requests", .tup (rsD rs))]] st = _
  have e : ∀ s0, sscK [1] (.nm 1) t0_Trace_paths e1_Trace_paths (rsD rs, .none) [s0, .u] st = .ok (.f (.lst ((pathsR rs).map D.str))) [s0, .u] st := fun s0 => by
    have k := paths_comp s0 st rs [] (by simpa using hl)
    show (if noLk [s0, Sl.u] [1] = true then sscR [1] .none [s0, .u] st (compS (.nm 1) t0_Trace_paths e1_Trace_paths [1] (rsD rs) [] (wipeS [s0, .u] [1]) st) else .no) = _
    rw [if_pos (by simp), show wipeS [s0, Sl.u] [1] = [s0, .u] from by simp, k]
    rfl
  generalize pathsR rs = Z at *
  generalize rsD rs = X at *
  simp [f_Trace_paths, ev_runB, m_Trace_paths, ev_mSortSC, e]
/-! the members of a join -/
theorem mem_addT (ks : List Str) (k x : Str) : x ∈ addT ks k ↔ x ∈ ks ∨ x = k := by
  unfold addT
  split
  · rename_i h
    constructor
    · exact Or.inl
    · rintro (q | rfl)
      · exact q
      · exact h
  · simp
theorem nd_addT {ks : List Str} (k : Str) (h : ks.Nodup) : (addT ks k).Nodup := by
  unfold addT
  split
  · exact h
  · rename_i q
    refine List.nodup_append.mpr ⟨h, by simp, ?_⟩
    intro a ha b hb e
    rw [List.mem_singleton.mp hb] at e
    exact q (e ▸ ha)
theorem mem_fold : ∀ (ks acc : List Str) (x : Str), x ∈ ks.foldl addT acc ↔ x ∈ acc ∨ x ∈ ks
  | [], acc, x => by simp
  | k :: ks, acc, x => by
    rw [List.foldl_cons, mem_fold ks, mem_addT]
    simp [or_assoc]
theorem nd_fold : ∀ (ks acc : List Str), acc.Nodup → (ks.foldl addT acc).Nodup
  | [], _, h => h
  | k :: ks, acc, h => nd_fold ks _ (nd_addT k h)
theorem mem_dedT (ks : List Str) (x : Str) : x ∈ dedT ks ↔ x ∈ ks := by simp [dedT, mem_fold]
theorem nd_dedT (ks : List Str) : (dedT ks).Nodup := nd_fold ks [] List.nodup_nil
theorem mem_sortT (ks : List Str) (x : Str) : x ∈ sortT ks ↔ x ∈ ks := (List.mergeSort_perm _ _).mem_iff
theorem ded_same {as bs : List Str} (h : ∀ x, x ∈ as ↔ x ∈ bs) : sortT (dedT as) = sortT (dedT bs) := sortT_perm ((List.perm_ext_iff_of_nodup (nd_dedT as) (nd_dedT bs)).mpr fun x => by rw [mem_dedT, mem_dedT, h x])
theorem join_set (f : Rw → Str) (xs ys : List Rw) : sortT (dedT (sortT (dedT (xs.map f)) ++ sortT (dedT (ys.map f)))) = sortT (dedT ((mrg at' xs ys).map f)) := by
  refine ded_same fun x => ?_
  rw [List.mem_append, mem_sortT, mem_sortT, mem_dedT, mem_dedT, ((mrg_p at' xs ys).map f).mem_iff, List.map_append, List.mem_append]
end Law
end MP

set_option Elab.async false
set_option linter.all false
set_option maxRecDepth 100000
set_option maxHeartbeats 4000000
namespace MP
namespace Law
open PySem PySem.Spec PyProof.Rows L2
theorem at_end (X : List D) (y : D) : atI (X ++ [y]) (-1) = some y := by
  unfold atI ixN
  have c : (-1 + ((X.length : Int) + 1)).toNat = X.length := by omega
  have c2 : (1 : Int) ≤ (X.length : Int) + 1 := by omega
  simp [c, c2]
theorem at_moms (xs : List Rw) : atI (D.int 0 :: (rsD xs).map momD) (-1) = some (.int (endR xs)) := by
  rcases List.eq_nil_or_concat xs with rfl | ⟨ys, y, rfl⟩
  · exact at_end [] _
  · rw [List.concat_eq_append, endR_app]
    have e : D.int 0 :: (rsD (ys ++ [y])).map momD = (D.int 0 :: (rsD ys).map momD) ++ [.int y.1] := by simp [momD]
    rw [e]
    exact at_end _ _
theorem added {n n' : Nat} {m m' : Int} {xs ys : List Rw} (h : RsOk n m xs) (h' : RsOk n' m' ys) (hn : n + n' ≤ 1000) (st : Sto) : f__law_added [.lst (rsD xs), .lst (rsD ys)] st = .ok (.f (.lst (rsD (addR xs ys)))) st := by
  have l1 : (rsD xs).length + (rsD ys).length ≤ 1000 := by have := h.len; have := h'.len; simp; omega
  have e1 : ∀ s0 s1 s2, compK [3] (.nm 3) t0__law_added e1__law_added (rsD xs, .none) [s0, s1, s2, .u] st = .ok (.f (.lst ((rsD xs).map momD))) [s0, s1, s2, .u] st := fun s0 s1 s2 => by
    have k := comp1 (v := 3) (tt := t0__law_added) (te := e1__law_added) (sl := [s0, s1, s2, .u]) (st := st) (xs := rsD xs) (s := .u) (fun _ => true) momD (by simp) trivial (fun x hx => ?_) (by omega)
    · rw [List.filter_eq_self.mpr (fun _ _ => rfl)] at k
      exact k
    · obtain ⟨r, hr, rfl⟩ := List.mem_map.mp hx
      refine ⟨?_, fun _ => ?_⟩
      · simp [t0__law_added]
      · simp [e1__law_added, momD]
  have e2 : ∀ s0 s1, compK [3] (.nm 3) t2__law_added e3__law_added (rsD ys, .none) [s0, s1, .d (.int (endR xs)), .u] st = .ok (.f (.lst (rsD (shRs (endR xs) ys)))) [s0, s1, .d (.int (endR xs)), .u] st := fun s0 s1 => by
    have k := comp1 (v := 3) (tt := t2__law_added) (te := e3__law_added) (sl := [s0, s1, .d (.int (endR xs)), .u]) (st := st) (xs := rsD ys) (s := .u) (fun _ => true) (shD (endR xs)) (by simp) trivial (fun x hx => ?_) (by omega)
    · rw [List.filter_eq_self.mpr (fun _ _ => rfl), List.map_map] at k
      rw [show rsD (shRs (endR xs) ys) = ys.map (shD (endR xs) ∘ rD) from List.map_map]
      exact k
    · obtain ⟨r, hr, rfl⟩ := List.mem_map.mp hx
      refine ⟨?_, fun _ => ?_⟩
      · simp [t2__law_added]
      · simp [e3__law_added, shD]
  have a := at_moms xs
  have e6 : rsD (addR xs ys) = rsD xs ++ rsD (shRs (endR xs) ys) := by simp
  have l2 : (rsD (shRs (endR xs) ys)).length = (rsD ys).length := by simp
  have l3 : ((rsD xs).map momD).length = (rsD xs).length := by simp
  rw [e6]
  generalize rsD (shRs (endR xs) ys) = Z at *
  generalize (rsD xs).map momD = M at *
  generalize rsD xs = X at *
  generalize rsD ys = Y at *
  generalize endR xs = E at *
  have a1 := ev_gAddL [.int 0] M (by rw [sizeLine_eq]; simp; omega)
  have a2 := ev_gAddL X Z (by rw [sizeLine_eq]; omega)
  simp [f__law_added, ev_runB, m__law_added, e1, e2, a, a1, a2]
/-! _law_merged -/
theorem ne_nil (rs : List Rw) : gDEq true [.lst (rsD rs), .lst []] = .d (.bl (!rs.isEmpty)) := by
  obtain ⟨ds, h1, h2⟩ := dps_rows rs
  cases rs with
  | nil => rfl
  | cons r rs =>
    have h3 : ∃ e es, ds = e :: es := by
      cases ds with
      | cons e es => exact ⟨e, es, rfl⟩
      | nil =>
        exfalso
        have h1 : (match dat (rD r), dats (rsD rs) with | some d, some ds => some (d :: ds) | _, _ => none) = some [] := h1
        split at h1 <;> cases h1
    obtain ⟨e, es, rfl⟩ := h3
    have k : dat (.lst (rsD (r :: rs))) = some (.list (e :: es)) := by
      show (match dats (rsD (r :: rs)) with | some ds => some (PyData.list ds) | none => none) = _
      rw [h1]
    show (match dat (.lst (rsD (r :: rs))), dat (.lst []) with | some d, some e => if min d.depth e.depth ≤ 64 then PR.d (.bl (if true = true then !PyData.eqv d e else PyData.eqv d e)) else .no | _, _ => .no) = _
    rw [k]
    show (if min (PyData.list (e :: es)).depth (PyData.list []).depth ≤ 64 then _ else _) = _
    have hd : min (PyData.list (e :: es)).depth (PyData.list []).depth ≤ 64 := Nat.le_trans (Nat.min_le_right _ _) (by decide)
    rw [if_pos hd]
    rfl
theorem pop0 (x : D) (X : List D) (hl : X.length ≤ 1000) : gPopAt (.lst (x :: X)) [.int 0] = some (.lst X, x) := by
  have ix : ixN (x :: X).length 0 = some 0 := by
    unfold ixN
    rw [if_pos (by decide), if_pos (by simp)]
    rfl
  rw [popAt ix (y := x) (by simp) (by decide)]
  rfl
theorem mrg_while (s0 s1 : Sl) (y : Rw) (st : Sto) : ∀ (L F : List Rw) (n : Nat), L.length < n → F.length + L.length ≤ 1000 → ∃ L' F' : List Rw, mWhile t0__law_merged b1__law_merged n [s0, s1, .o (.lst (rsD L)), .o (.lst (rsD F)), .d (rD y)] st = .ok .nx [s0, s1, .o (.lst (rsD L')), .o (.lst (rsD F')), .d (rD y)] st ∧ F'.length + L'.length = F.length + L.length ∧ ∀ ys, F ++ mrg at' L (y :: ys) = F' ++ y :: mrg at' L' ys
  | [], F, n, hn, _ => by
    obtain ⟨k, rfl⟩ : ∃ k, n = k + 1 := ⟨n - 1, by simp at hn; omega⟩
    refine ⟨[], F, while_end ?_, rfl, fun ys => by rw [mrg_nl, mrg_nl]⟩
    have e := ne_nil []
    have e : gDEq true [.lst [], .lst []] = .d (.bl false) := e
    simp [t0__law_merged, e]
  | l :: L, F, n, hn, hl => by
    obtain ⟨k, rfl⟩ : ∃ k, n = k + 1 := ⟨n - 1, by simp at hn; omega⟩
    have e := ne_nil (l :: L)
    have e : gDEq true [.lst (rD l :: rsD L), .lst []] = .d (.bl true) := e
    have hX : (rsD L).length ≤ 1000 := by simp at hl ⊢; omega
    have hF : (rsD F).length < 1000000 := by simp at hl ⊢; omega
    by_cases c : l.1 ≤ y.1
    · obtain ⟨L', F', k1, k2, k3⟩ := mrg_while s0 s1 y st L (F ++ [l]) k (by simp at hn; omega) (by simp at hl ⊢; omega)
      have p := pop0 (rD l) (rsD L) hX
      refine ⟨L', F', ?_, by simp at k2 ⊢; omega, fun ys => ?_⟩
      · rw [← k1]
        rw [show rsD (l :: L) = rD l :: rsD L from rfl, show rsD (F ++ [l]) = rsD F ++ [rD l] from by simp]
        generalize rsD L = X at *
        generalize rsD F = G at *
        obtain ⟨a, b⟩ := l
        refine while_step (sl1 := [s0, s1, .o (.lst (rD (a, b) :: X)), .o (.lst G), .d (rD y)]) (st1 := st) ?_ ?_
        · simp [t0__law_merged, e, c]
        · simp [b1__law_merged, p, hF]
      · rw [← k3 ys, mrg_c, if_pos c]
        simp
    · refine ⟨l :: L, F, while_end ?_, rfl, fun ys => by rw [mrg_c, if_neg c]⟩
      rw [show rsD (l :: L) = rD l :: rsD L from rfl]
      generalize rsD L = X at *
      generalize rsD F = G at *
      obtain ⟨a, b⟩ := l
      simp [t0__law_merged, e, c]
theorem mrg_for (s0 s1 : Sl) (st : Sto) : ∀ (ys L F : List Rw) (s4 : Sl), s4.fr → F.length + L.length + ys.length ≤ 1000 → ∃ (L' F' : List Rw) (s4' : Sl), s4'.fr ∧ forL (.nm 4) b2__law_merged (rsD ys) [s0, s1, .o (.lst (rsD L)), .o (.lst (rsD F)), s4] st = .ok .nx [s0, s1, .o (.lst (rsD L')), .o (.lst (rsD F')), s4'] st ∧ F' ++ L' = F ++ mrg at' L ys
  | [], L, F, s4, f4, _ => ⟨L, F, s4, f4, rfl, by rw [mrg_nr]⟩
  | y :: ys, L, F, s4, f4, hl => by
    obtain ⟨L1, F1, k1, k2, k3⟩ := mrg_while s0 s1 y st L F (10 ^ 300) (Nat.lt_of_lt_of_le (m := 1001) (by simp at hl; omega) (by decide +kernel)) (by simp at hl; omega)
    obtain ⟨L', F', s4', f4', q1, q2⟩ := mrg_for s0 s1 st ys L1 (F1 ++ [y]) (.d (rD y)) trivial (by simp at hl ⊢; omega)
    rw [show rsD (F1 ++ [y]) = rsD F1 ++ [rD y] from by simp] at q1
    refine ⟨L', F', s4', f4', ?_, by rw [q2, k3 ys]; simp⟩
    have hF : (rsD F1).length < 1000000 := by simp at hl ⊢; omega
    rw [← q1]
    rw [show rsD (y :: ys) = rD y :: rsD ys from rfl, ev_forc]
    generalize rsD F1 = G at *
    generalize rsD L1 = X1 at *
    generalize rsD L = X at *
    generalize rsD F = G0 at *
    generalize rsD ys = Y at *
    generalize rD y = d at *
    simp [f4, k1, hF]
theorem law_mrg {n n' : Nat} {m m' : Int} {xs ys : List Rw} (h : RsOk n m xs) (h' : RsOk n' m' ys) (hn : n + n' ≤ 1000) (st : Sto) : f__law_merged [.lst (rsD xs), .lst (rsD ys)] st = .ok (.f (.lst (rsD (mrg at' xs ys)))) st := by
  have hl : xs.length + ys.length ≤ 1000 := by have := h.len; have := h'.len; omega
  obtain ⟨L', F', s4', f4', q1, q2⟩ := mrg_for (.d (.lst (rsD xs))) (.d (.lst (rsD ys))) st ys xs [] .u trivial (by simpa using hl)
  have hx : (rsD xs).length ≤ 1000 := by simp; omega
  have z : (rsD F').length + (rsD L').length ≤ 1000 := by
    have := congrArg List.length q2
    rw [List.nil_append, (mrg_p at' xs ys).length_eq] at this
    simp at this ⊢; omega
  rw [List.nil_append] at q2
  rw [← q2, show rsD (F' ++ L') = rsD F' ++ rsD L' from by simp]
  have q1 : forL (.nm 4) b2__law_merged (rsD ys) [.d (.lst (rsD xs)), .d (.lst (rsD ys)), .o (.lst (rsD xs)), .o (.lst []), .u] st = _ := q1
  generalize rsD F' = G at *
  generalize rsD L' = X1 at *
  generalize rsD xs = X at *
  generalize rsD ys = Y at *
  have ad := ev_gAddL G X1 (by rw [sizeLine_eq]; omega)
  simp [f__law_merged, ev_runB, m__law_merged, q1, ad]
end Law
end MP

set_option Elab.async false
set_option linter.all false
set_option maxRecDepth 100000
set_option maxHeartbeats 4000000
namespace MP
namespace Law
open PySem PySem.Spec PyProof.Rows L2
/-! the law's traces -/
abbrev P3 : List D := [.str "ann", .str "bob", .str "team/cy"]
theorem five {r : Int} (h : r = 0 ∨ r = 1 ∨ r = 2 ∨ r = 3 ∨ r = 4) : ∃ v : Int, 0 ≤ v ∧ v ≤ 12 ∧ atI [D.int 0, D.int 0, D.int 1, D.int 3, D.int 12] r = some (.int v) := by
  rcases h with rfl | rfl | rfl | rfl | rfl
  · exact ⟨0, by decide, by decide, rfl⟩
  · exact ⟨0, by decide, by decide, rfl⟩
  · exact ⟨1, by decide, by decide, rfl⟩
  · exact ⟨3, by decide, by decide, rfl⟩
  · exact ⟨12, by decide, by decide, rfl⟩
theorem three {r : Int} (h : r = 0 ∨ r = 1 ∨ r = 2) : ∃ v : Str, v ∈ kinds ∧ atI [D.str "read", D.str "read", D.str "write"] r = some (.str v) := by
  rcases h with rfl | rfl | rfl
  · exact ⟨"read", by decide, rfl⟩
  · exact ⟨"read", by decide, rfl⟩
  · exact ⟨"write", by decide, rfl⟩
theorem threeP {r : Int} (h : r = 0 ∨ r = 1 ∨ r = 2) : ∃ v : Str, v ∈ pths ∧ atI P3 r = some (.str v) := by
  rcases h with rfl | rfl | rfl
  · exact ⟨"ann", by decide, rfl⟩
  · exact ⟨"bob", by decide, rfl⟩
  · exact ⟨"team/cy", by decide, rfl⟩
theorem fourP {r : Int} (h : r = 0 ∨ r = 1 ∨ r = 2 ∨ r = 3) : ∃ v : Str, v ∈ pgs ∧ gIx [.str "abcd", .int r] = .d (.str v) := by
  rcases h with rfl | rfl | rfl | rfl
  · exact ⟨"a", by decide, by kernel_rfl⟩
  · exact ⟨"b", by decide, by kernel_rfl⟩
  · exact ⟨"c", by decide, by kernel_rfl⟩
  · exact ⟨"d", by decide, by kernel_rfl⟩
theorem len4 : gLen [.str "abcd"] = .d (.int 4) := by kernel_rfl
def TI (i : Nat) (st0 : Sto) (xs : List D) (sl : Sls) (st : Sto) : Prop := (∀ x ∈ xs, ∃ k : Int, x = .int k) ∧ Nxt i st0 st ∧ ∃ (rs : List Rw) (a : Int) (s6 s7 s8 : Sl), sl = [.d (.cell i), .d (.lst P3), .d (.int 12), .d (.str "abcd"), .o (.lst (rsD rs)), .d (.int a), s6, s7, s8] ∧ RsOk rs.length (12 * rs.length) rs ∧ (∀ r ∈ rs, r.1 ≤ a) ∧ 0 ≤ a ∧ a ≤ 12 * rs.length ∧ rs.length + xs.length ≤ 12 ∧ s6.fr ∧ s7.fr ∧ s8.fr
theorem t_turn {i : Nat} {st0 : Sto} (x : D) (xs : List D) (sl : Sls) (st : Sto) (h : TI i st0 (x :: xs) sl st) : ∃ sl' st', TI i st0 xs sl' st' ∧ Res.bind (mTgt (.nm 6) x sl st) (seqK b0__law_trace) = .ok .nx sl' st' := by
  obtain ⟨hx, nx, rs, a, s6, s7, s8, rfl, ok, le, a0, a1, hl, f6, f7, f8⟩ := h
  obtain ⟨k, rfl⟩ := hx x (by simp)
  obtain ⟨r1, t1, x0, x1, m1, z1, p1⟩ := draw nx.src 5 (by decide) (by decide)
  obtain ⟨r2, t2, y0, y1, m2, z2, p2⟩ := draw m1.src 3 (by decide) (by decide)
  obtain ⟨r3, t3, u0, u1, m3, z3, p3⟩ := draw m2.src 3 (by decide) (by decide)
  obtain ⟨r4, t4, w0, w1, m4, z4, p4⟩ := draw m3.src 4 (by decide) (by decide)
  obtain ⟨v, v0, v1, e1⟩ := five (r := r1) (by omega)
  obtain ⟨kd, hk, e2⟩ := three (r := r2) (by omega)
  obtain ⟨pt, hp, e3⟩ := threeP (r := r3) (by omega)
  obtain ⟨pg, hg, e4⟩ := fourP (r := r4) (by omega)
  have M' := m1.trans (m2.trans (m3.trans m4))
  have hf : (rsD rs).length < 1000000 := by simp at hl ⊢; omega
  refine ⟨[.d (.cell i), .d (.lst P3), .d (.int 12), .d (.str "abcd"), .o (.lst (rsD (rs ++ [(a + v, kd, pt, pg)]))), .d (.int (a + v)), .d (.int k), .d (.str kd), .d (.str pt)], t4, ⟨fun y hy => hx y (by simp [hy]), nx.trans M', rs ++ [(a + v, kd, pt, pg)], a + v, .d (.int k), .d (.str kd), .d (.str pt), rfl, ?_, ?_, by omega, by simp; omega, by simp at hl ⊢; omega, trivial, trivial, trivial⟩, ?_⟩
  · refine ⟨fun r hr => ?_, List.pairwise_append.mpr ⟨ok.ord, List.pairwise_singleton _ _, fun p hp q hq => ?_⟩, Nat.le_refl _⟩
    · rcases List.mem_append.mp hr with q | q
      · exact (ok.ok r q).mono (by simp; omega)
      · rw [List.mem_singleton.mp q]
        exact ⟨by show 0 ≤ a + v; omega, by show a + v ≤ _; simp; omega, hk, hp, hg⟩
    · rw [List.mem_singleton.mp hq]
      have := le p hp
      show p.1 ≤ a + v
      omega
  · intro r hr
    rcases List.mem_append.mp hr with q | q
    · have := le r q; omega
    · rw [List.mem_singleton.mp q]; exact Int.le_refl _
  · rw [show rsD (rs ++ [(a + v, kd, pt, pg)]) = rsD rs ++ [rD (a + v, kd, pt, pg)] from by simp]
    generalize rsD rs = X at *
    simp [f6, f7, f8, p1, p2, p3, p4, e1, e2, e3, e4, len4, hf]
theorem law_trace {i : Nat} {st : Sto} (h : Src i st) : ∃ (rs : List Rw) (st' : Sto), RsOk 12 144 rs ∧ Nxt i st st' ∧ f__law_trace [.cell i, .lst P3, .int 12, .str "abcd"] st = .ok (.f (.lst (rsD rs))) st' := by
  obtain ⟨n, t0, n0, n1, m0, z0, p0⟩ := draw h 13 (by decide) (by decide)
  obtain ⟨sl', st', ⟨_, nx, rs, a, s6, s7, s8, rfl, ok, _, _, _, hl, f6, f7, f8⟩, e⟩ := forL_inv (t := .nm 6) (b := b0__law_trace) (TI i st) t_turn (rngL 0 n.toNat) [.d (.cell i), .d (.lst P3), .d (.int 12), .d (.str "abcd"), .o (.lst (rsD [])), .d (.int 0), .u, .u, .u] t0 ⟨by
      intro x hx
      simp only [rngL, List.mem_map] at hx
      obtain ⟨k, _, rfl⟩ := hx
      exact ⟨_, rfl⟩, m0, [], 0, .u, .u, .u, rfl, rs_nil _ _, (fun r hr => by cases hr), by decide, by decide, by simp [rngL]; omega, trivial, trivial, trivial⟩
  refine ⟨rs, st', ok.mono (by simpa using hl) (by simp at hl; omega), nx, ?_⟩
  have hr := fun sl st => ev_rng1 sl st n (by omega)
  have e : forL (.nm 6) b0__law_trace (rngL 0 n.toNat) [.d (.cell i), .d (.lst P3), .d (.int 12), .d (.str "abcd"), .o (.lst []), .d (.int 0), .u, .u, .u] t0 = _ := e
  generalize rsD rs = X at *
  simp [f__law_trace, ev_runB, m__law_trace, p0, hr, e]
end Law
end MP

set_option Elab.async false
set_option linter.all false
set_option maxRecDepth 100000
set_option maxHeartbeats 4000000
namespace MP
namespace Law
open PySem PySem.Spec PyProof.Rows L2
theorem init_0 (st : Sto) : f_Trace_D_init_D [.tup []] st = CRes.ok (.f (.ins "Trace" [("own_requests", .tup [])])) st := init_t (rs_nil 0 0 |>.mono (Nat.le_refl _) (by decide)) (by decide) st
theorem ev_lenEx (n : Nat) (h : n ≤ 1000) (st : Sto) : lenEx (CRes.ok (.d (.int n)) st) = CRes.ok (.d (.int n)) st := by
  unfold lenEx
  dsimp only
  have h1 : (0 : Int) ≤ n := by omega
  have h2 : (n : Int) < 2 ^ 62 := by omega
  rw [if_pos ⟨h1, h2⟩]
theorem or_skip {t1 t2 : Mn Bool} {a : Mn Fl} {sl : Sls} {st : Sto} (h1 : t1 sl st = .ok false sl st) (h2 : t2 sl st = .ok false sl st) : mIf (mOr t1 t2) a mSkip sl st = .ok .nx sl st := by
  simp [h1, h2]
theorem one_skip {t1 : Mn Bool} {a : Mn Fl} {sl : Sls} {st : Sto} (h1 : t1 sl st = .ok false sl st) : mIf t1 a mSkip sl st = .ok .nx sl st := by
  simp [h1]
theorem or_no {t1 t2 : Mn Bool} {sl : Sls} {st : Sto} (h1 : t1 sl st = .ok false sl st) (h2 : t2 sl st = .ok false sl st) : mOr t1 t2 sl st = .ok false sl st := by
  simp [h1, h2]
abbrev oT (X : List D) : D := .obj "Trace" [("own_requests", .tup X)]
abbrev iT (X : List D) : Ob := .ins "Trace" [("own_requests", .tup X)]
abbrev Gd (rs : List Rw) : Prop := RsOk 12 144 rs
/-- len as a function that simp and the kernel do not look into -/
theorem len_fn : ∃ q : Fn, q = (fun ds st => lenEx (f_Trace_D_len_D ds st)) ∧ ∀ (xs : List Rw) (st : Sto), xs.length ≤ 1000 → q [oT (rsD xs)] st = CRes.ok (.d (.int xs.length)) st :=
  ⟨_, rfl, fun xs st h => by
    show lenEx (f_Trace_D_len_D [oT (rsD xs)] st) = _
    rw [show f_Trace_D_len_D [oT (rsD xs)] st = _ from trace_len xs h st, ev_lenEx _ h]⟩
section
variable {L : Sl} {k : Int} {i : Nat} {s4 s8 s9 s10 : Sl} {xs ys zs : List Rw} (hx : Gd xs) (hy : Gd ys) (hz : Gd zs) (f4 : s4.fr) (f8 : s8.fr) (f9 : s9.fr) (f10 : s10.fr) (st : Sto)
include hx hy hz f4 f8 f9 f10
theorem of_turn {a : Str} (ha : a ∈ laws) : b4_law [L, .d (.int k), .d (.cell i), .o (.lst [.lst (rsD xs), .lst (rsD ys), .lst (rsD zs)]), s4, .d (oT (rsD xs)), .d (oT (rsD ys)), .d (oT (rsD zs)), s8, .d (oT (rsD (mrg at' xs ys))), .d (.str a)] st = .ok .nx [L, .d (.int k), .d (.cell i), .o (.lst [.lst (rsD xs), .lst (rsD ys), .lst (rsD zs)]), s4, .d (oT (rsD xs)), .d (oT (rsD ys)), .d (oT (rsD zs)), s8, .d (oT (rsD (mrg at' xs ys))), .d (.str a)] st := by
  have e1 : f_Trace_of [oT (rsD (mrg at' xs ys)), .str a] st = CRes.ok (.f (iT (rsD ((mrg at' xs ys).filter (belowR a))))) st := trace_of (rs_mrg hx hy) (by decide) (by decide) ha st
  have e2 : f_Trace_of [oT (rsD xs), .str a] st = CRes.ok (.f (iT (rsD (xs.filter (belowR a))))) st := trace_of hx (by decide) (by decide) ha st
  have e3 : f_Trace_of [oT (rsD ys), .str a] st = CRes.ok (.f (iT (rsD (ys.filter (belowR a))))) st := trace_of hy (by decide) (by decide) ha st
  have e4 : f_Trace_D_or_D [oT (rsD (xs.filter (belowR a))), oT (rsD (ys.filter (belowR a)))] st = CRes.ok (.f (iT (rsD (mrg at' (xs.filter (belowR a)) (ys.filter (belowR a)))))) st := trace_or (rs_filter hx _) (rs_filter hy _) (by decide) (by decide) st
  rw [mrg_filter at' _ _ xs ys (Nat.le_refl _) hx.ord hy.ord] at e1
  have e5 : f_Trace_D_eq_D [oT (rsD (mrg at' (xs.filter (belowR a)) (ys.filter (belowR a)))), oT (rsD (mrg at' (xs.filter (belowR a)) (ys.filter (belowR a))))] st = _ := trace_eq _ st
  have e6 : f_Trace_D_add_D [oT (rsD xs), oT (rsD ys)] st = CRes.ok (.f (iT (rsD (addR xs ys)))) st := trace_add hx hy (by decide) (by decide) (by decide) (by decide) st
  obtain ⟨q, hq, hl⟩ := len_fn
  have e7 := hl xs st (by have := hx.len; omega)
  have e9 : f_Trace_part [oT (rsD (addR xs ys)), .int 0, .int xs.length] st = CRes.ok (.f (iT (rsD ((addR xs ys).take xs.length)))) st := trace_part (rs_add hx hy (by decide) (by decide)) (by decide) (by decide) (by simp) st
  rw [List.take_left] at e9
  have e10 : f_Trace_D_eq_D [oT (rsD xs), oT (rsD xs)] st = _ := trace_eq _ st
  generalize rsD (mrg at' (xs.filter (belowR a)) (ys.filter (belowR a))) = O at *
  generalize rsD (xs.filter (belowR a)) = OX at *
  generalize rsD (ys.filter (belowR a)) = OY at *
  generalize rsD (mrg at' xs ys) = M at *
  generalize rsD (addR xs ys) = S at *
  generalize xs.length = n at *
  generalize rsD xs = X at *
  generalize rsD ys = Y at *
  generalize rsD zs = Z at *
  clear hx hy hz hl
  unfold b4_law
  rw [← hq]
  clear hq
  refine or_skip ?_ ?_
  · clear e6 e7 e9 e10
    simp [e1, e2, e3, e4, e5]
  · clear e1 e2 e3 e4 e5
    simp [e6, e7, e9, e10]
end
end Law
end MP

set_option Elab.async false
set_option linter.all false
set_option maxRecDepth 100000
set_option maxHeartbeats 4000000
namespace MP
namespace Law
open PySem PySem.Spec PyProof.Rows L2
section
variable {xs ys zs : List Rw} (hx : Gd xs) (hy : Gd ys) (hz : Gd zs) (st : Sto)
/-! the law's sums and joins -/
abbrev FT (f : Fn) (st : Sto) (A B C : List D) : Prop := f [oT A, oT B] st = CRes.ok (.f (iT C)) st
include hx hy in
theorem ad2 : FT f_Trace_D_add_D st (rsD xs) (rsD ys) (rsD (addR xs ys)) := trace_add hx hy (by decide) (by decide) (by decide) (by decide) st
include hx hy hz in
theorem ad3 : FT f_Trace_D_add_D st (rsD (addR xs ys)) (rsD zs) (rsD (addR (addR xs ys) zs)) := trace_add (rs_add hx hy (by decide) (by decide)) hz (by decide) (by decide) (by decide) (by decide) st
include hx hy hz in
theorem ad3' : FT f_Trace_D_add_D st (rsD xs) (rsD (addR ys zs)) (rsD (addR (addR xs ys) zs)) := by
  rw [add_assoc]
  exact trace_add hx (rs_add hy hz (by decide) (by decide)) (by decide) (by decide) (by decide) (by decide) st
include hx hy in
theorem or2 : FT f_Trace_D_or_D st (rsD xs) (rsD ys) (rsD (mrg at' xs ys)) := trace_or hx hy (by decide) (by decide) st
include hx hy hz in
theorem or3 : FT f_Trace_D_or_D st (rsD (mrg at' xs ys)) (rsD zs) (rsD (mrg at' (mrg at' xs ys) zs)) := trace_or (rs_mrg hx hy) hz (by decide) (by decide) st
include hx hy hz in
theorem or3' : FT f_Trace_D_or_D st (rsD xs) (rsD (mrg at' ys zs)) (rsD (mrg at' (mrg at' xs ys) zs)) := by
  rw [mrg_assoc at' _ xs ys zs (Nat.le_refl _)]
  exact trace_or hx (rs_mrg hy hz) (by decide) (by decide) st
include hx in
theorem ad0 : FT f_Trace_D_add_D st (rsD xs) [] (rsD xs) := by
  have := ad2 hx (rs_nil 12 144) st
  rw [add_nr] at this
  exact this
include hx in
theorem ad0' : FT f_Trace_D_add_D st [] (rsD xs) (rsD xs) := by
  have := ad2 (rs_nil 12 144) hx st
  rw [add_nl] at this
  exact this
include hx in
theorem or0 : FT f_Trace_D_or_D st (rsD xs) [] (rsD xs) := by
  have := or2 hx (rs_nil 12 144) st
  rw [mrg_nr] at this
  exact this
include hx in
theorem or0' : FT f_Trace_D_or_D st [] (rsD xs) (rsD xs) := by
  have := or2 (rs_nil 12 144) hx st
  rw [mrg_nl] at this
  exact this
theorem same (xs : List Rw) (st : Sto) : f_Trace_D_eq_D [oT (rsD xs), oT (rsD xs)] st = .ok (.d (.bl true)) st := trace_eq xs st
theorem tpL3 (a b c : Tgt) (x y z : D) : tpL [a, b, c] (.lst [x, y, z]) = mTgts [a, b, c] [x, y, z] := by
  unfold tpL
  dsimp only
  rw [if_pos (by simp)]
theorem eq_some (A B C : List Rw) : gDEq true [.lst [.lst (rsD A), .lst (rsD B), .lst (rsD C)], .lst [.lst (rsD A), .lst (rsD B), .lst (rsD C)]] = .d (.bl false) := eq_same true (dp_lst (dps_cons (dp_lst (dps_rows A)) (dps_cons (dp_lst (dps_rows B)) (dps_cons (dp_lst (dps_rows C)) (dps_nil 2))))) (by decide)
theorem dps_strs (ks : List Str) : Dps 0 (ks.map D.str) := dps_all fun x hx => by
  obtain ⟨k, _, rfl⟩ := List.mem_map.mp hx
  exact dp_str 0 k
theorem eq_strs (ks : List Str) : gDEq true [.lst (ks.map D.str), .lst (ks.map D.str)] = .d (.bl false) := eq_same true (dp_lst (dps_strs ks)) (by decide)
end
end Law
end MP

set_option Elab.async false
set_option linter.all false
set_option maxRecDepth 100000
set_option maxHeartbeats 4000000
namespace MP
namespace Law
open PySem PySem.Spec PyProof.Rows L2
/-! the statements of the law's turn -/
noncomputable abbrev q1_b5_law : Mn Fl := (mSet 2 (mCell (mOp (callF f__law_hand 2) (mCons (mVar 0) (mCons (mVar 1) mNil)))))
noncomputable abbrev q2_b5_law : Mn Fl := (mSet 3 (mComp [4] (mRng (mCons (mC (.int 3)) mNil)) (.nm 4) t0_law e1_law))
noncomputable abbrev q3_b5_law : Mn Fl := (mAsg (mComp [8] (mSrc (mVar 3)) (.nm 8) t2_law e3_law) (.ot (tpL [(.nm 5), (.nm 6), (.nm 7)])))
noncomputable abbrev q4_b5_law : Mn Fl := (mIf (mOr (mTB (mOp (mPure (gDEq true)) (mCons (mOp (callD f_Trace_rows 1 []) (mCons (mIns "Trace" "rows" (mOp (mGuard (cOO "Trace") (callD f_Trace_D_add_D 2 [])) (mCons (mVar 5) (mCons (mVar 6) mNil)))) mNil)) (mCons (mOp (callF f__law_added 2) (mCons (mOp (mPure gIx) (mCons (mVar 3) (mCons (mC (.int 0)) mNil))) (mCons (mOp (mPure gIx) (mCons (mVar 3) (mCons (mC (.int 1)) mNil))) mNil))) mNil)))) (mTB (mOp (mPure (gDEq true)) (mCons (mOp (callD f_Trace_rows 1 []) (mCons (mIns "Trace" "rows" (mOp (mGuard (cOO "Trace") (callD f_Trace_D_or_D 2 [])) (mCons (mVar 5) (mCons (mVar 6) mNil)))) mNil)) (mCons (mOp (callF f__law_merged 2) (mCons (mOp (mPure gIx) (mCons (mVar 3) (mCons (mC (.int 0)) mNil))) (mCons (mOp (mPure gIx) (mCons (mVar 3) (mCons (mC (.int 1)) mNil))) mNil))) mNil)))))
  (mRet (mC (.bl false)))
  mSkip)
noncomputable abbrev q5_b5_law : Mn Fl := (mIf (mOr (mTB (mOp (mGuard (cOO "Trace") (callD (fun ds st => negEx (f_Trace_D_eq_D ds st)) 2 [])) (mCons (mOp (mGuard (cOO "Trace") (callD f_Trace_D_add_D 2 [])) (mCons (mOp (mGuard (cOO "Trace") (callD f_Trace_D_add_D 2 [])) (mCons (mVar 5) (mCons (mVar 6) mNil))) (mCons (mVar 7) mNil))) (mCons (mOp (mGuard (cOO "Trace") (callD f_Trace_D_add_D 2 [])) (mCons (mVar 5) (mCons (mOp (mGuard (cOO "Trace") (callD f_Trace_D_add_D 2 [])) (mCons (mVar 6) (mCons (mVar 7) mNil))) mNil))) mNil)))) (mTB (mOp (mGuard (cOO "Trace") (callD (fun ds st => negEx (f_Trace_D_eq_D ds st)) 2 [])) (mCons (mOp (mGuard (cOO "Trace") (callD f_Trace_D_or_D 2 [])) (mCons (mOp (mGuard (cOO "Trace") (callD f_Trace_D_or_D 2 [])) (mCons (mVar 5) (mCons (mVar 6) mNil))) (mCons (mVar 7) mNil))) (mCons (mOp (mGuard (cOO "Trace") (callD f_Trace_D_or_D 2 [])) (mCons (mVar 5) (mCons (mOp (mGuard (cOO "Trace") (callD f_Trace_D_or_D 2 [])) (mCons (mVar 6) (mCons (mVar 7) mNil))) mNil))) mNil)))))
  (mRet (mC (.bl false)))
  mSkip)
noncomputable abbrev q6_b5_law : Mn Fl := (mIf (mOr (mTB (mOp (mGuard (cOO "Trace") (callD (fun ds st => negEx (f_Trace_D_eq_D ds st)) 2 [])) (mCons (mOp (mGuard (cOO "Trace") (callD f_Trace_D_add_D 2 [])) (mCons (mVar 5) (mCons (mOp (mkF f_Trace_D_init_D 2 [.tup []]) mNil) mNil))) (mCons (mVar 5) mNil)))) (mOr (mTB (mOp (mGuard (cOO "Trace") (callD (fun ds st => negEx (f_Trace_D_eq_D ds st)) 2 [])) (mCons (mOp (mGuard (cOO "Trace") (callD f_Trace_D_add_D 2 [])) (mCons (mOp (mkF f_Trace_D_init_D 2 [.tup []]) mNil) (mCons (mVar 5) mNil))) (mCons (mVar 5) mNil)))) (mOr (mTB (mOp (mGuard (cOO "Trace") (callD (fun ds st => negEx (f_Trace_D_eq_D ds st)) 2 [])) (mCons (mOp (mGuard (cOO "Trace") (callD f_Trace_D_or_D 2 [])) (mCons (mVar 5) (mCons (mOp (mkF f_Trace_D_init_D 2 [.tup []]) mNil) mNil))) (mCons (mVar 5) mNil)))) (mTB (mOp (mGuard (cOO "Trace") (callD (fun ds st => negEx (f_Trace_D_eq_D ds st)) 2 [])) (mCons (mOp (mGuard (cOO "Trace") (callD f_Trace_D_or_D 2 [])) (mCons (mOp (mkF f_Trace_D_init_D 2 [.tup []]) mNil) (mCons (mVar 5) mNil))) (mCons (mVar 5) mNil)))))))
  (mRet (mC (.bl false)))
  mSkip)
noncomputable abbrev q7_b5_law : Mn Fl := (mIf (mTB (mOp (mPure (gDEq true)) (mCons (mOp dispL (mCons (mOp (callD f_Trace_rows 1 []) (mCons (mIns "Trace" "rows" (mVar 5)) mNil)) (mCons (mOp (callD f_Trace_rows 1 []) (mCons (mIns "Trace" "rows" (mVar 6)) mNil)) (mCons (mOp (callD f_Trace_rows 1 []) (mCons (mIns "Trace" "rows" (mVar 7)) mNil)) mNil)))) (mCons (mVar 3) mNil))))
  (mRet (mC (.bl false)))
  mSkip)
noncomputable abbrev q8_b5_law : Mn Fl := (mSet 9 (mOp (mGuard (cOO "Trace") (callD f_Trace_D_or_D 2 [])) (mCons (mVar 5) (mCons (mVar 6) mNil))))
noncomputable abbrev q9_b5_law : Mn Fl := (mIf (mOr (mTB (mOp (mPure (gDEq true)) (mCons (mOp (callD f_Trace_pages 1 []) (mCons (mIns "Trace" "pages" (mVar 9)) mNil)) (mCons (mOp mSortSet (mCons (mOp (mPure gAdd) (mCons (mOp (callD f_Trace_pages 1 []) (mCons (mIns "Trace" "pages" (mVar 5)) mNil)) (mCons (mOp (callD f_Trace_pages 1 []) (mCons (mIns "Trace" "pages" (mVar 6)) mNil)) mNil))) mNil)) mNil)))) (mTB (mOp (mPure (gDEq true)) (mCons (mOp (mGuard (gObj "Trace") (callF (fun ds st => lenEx (f_Trace_D_len_D ds st)) 1)) (mCons (mVar 9) mNil)) (mCons (mOp (mPure gAdd) (mCons (mOp (mGuard (gObj "Trace") (callF (fun ds st => lenEx (f_Trace_D_len_D ds st)) 1)) (mCons (mVar 5) mNil)) (mCons (mOp (mGuard (gObj "Trace") (callF (fun ds st => lenEx (f_Trace_D_len_D ds st)) 1)) (mCons (mVar 6) mNil)) mNil))) mNil)))))
  (mRet (mC (.bl false)))
  mSkip)
noncomputable abbrev q10_b5_law : Mn Fl := (mIf (mTB (mOp (mPure (gDEq true)) (mCons (mOp (callD f_Trace_paths 1 []) (mCons (mIns "Trace" "paths" (mVar 9)) mNil)) (mCons (mOp mSortSet (mCons (mOp (mPure gAdd) (mCons (mOp (callD f_Trace_paths 1 []) (mCons (mIns "Trace" "paths" (mVar 5)) mNil)) (mCons (mOp (callD f_Trace_paths 1 []) (mCons (mIns "Trace" "paths" (mVar 6)) mNil)) mNil))) mNil)) mNil))))
  (mRet (mC (.bl false)))
  mSkip)
noncomputable abbrev q11_b5_law : Mn Fl := (mFor (mSrc (mOp dispL (mCons (mC (.str "ann")) (mCons (mC (.str "bob")) (mCons (mC (.str "team")) mNil))))) (.nm 10)
  b4_law)
theorem b5_law_eq : b5_law = mSeq q1_b5_law (mSeq q2_b5_law (mSeq q3_b5_law (mSeq q4_b5_law (mSeq q5_b5_law (mSeq q6_b5_law (mSeq q7_b5_law (mSeq q8_b5_law (mSeq q9_b5_law (mSeq q10_b5_law (q11_b5_law)))))))))) := rfl
section
variable {L : Sl} {k : Int} {i : Nat} {s4 s8 s9 s10 : Sl} {xs ys zs : List Rw} (hx : Gd xs) (hy : Gd ys) (hz : Gd zs) (st : Sto)
abbrev SL (L : Sl) (k : Int) (i : Nat) (s4 s8 s9 s10 : Sl) (X Y Z : List D) : Sls := [L, .d (.int k), .d (.cell i), .o (.lst [.lst X, .lst Y, .lst Z]), s4, .d (oT X), .d (oT Y), .d (oT Z), s8, s9, s10]
include hx hy hz in
theorem q5 : q5_b5_law (SL L k i s4 s8 s9 s10 (rsD xs) (rsD ys) (rsD zs)) st = .ok .nx (SL L k i s4 s8 s9 s10 (rsD xs) (rsD ys) (rsD zs)) st := by
  have a1 := ad2 hx hy st
  have a2 := ad3 hx hy hz st
  have a3 := ad2 hy hz st
  have a4 := ad3' hx hy hz st
  have a5 := same (addR (addR xs ys) zs) st
  have b1 := or2 hx hy st
  have b2 := or3 hx hy hz st
  have b3 := or2 hy hz st
  have b4 := or3' hx hy hz st
  have b5 := same (mrg at' (mrg at' xs ys) zs) st
  generalize rsD (addR (addR xs ys) zs) = A3 at *
  generalize rsD (addR xs ys) = A2 at *
  generalize rsD (addR ys zs) = A1 at *
  generalize rsD (mrg at' (mrg at' xs ys) zs) = B3 at *
  generalize rsD (mrg at' xs ys) = B2 at *
  generalize rsD (mrg at' ys zs) = B1 at *
  generalize rsD xs = X at *
  generalize rsD ys = Y at *
  generalize rsD zs = Z at *
  clear hx hy hz
  refine or_skip ?_ ?_
  · simp [a1, a2, a3, a4, a5]
  · simp [b1, b2, b3, b4, b5]
end
end Law
end MP

set_option Elab.async false
set_option linter.all false
set_option maxRecDepth 100000
set_option maxHeartbeats 4000000
namespace MP
namespace Law
open PySem PySem.Spec PyProof.Rows L2
section
variable {L : Sl} {k : Int} {i : Nat} {s4 s8 s9 s10 : Sl} {xs ys zs : List Rw} (hx : Gd xs) (hy : Gd ys) (hz : Gd zs) (st : Sto)
theorem rows_l (xs : List Rw) (h : xs.length ≤ 1000) (st : Sto) : f_Trace_rows [oT (rsD xs)] st = .ok (.f (.lst (rsD xs))) st := trace_rows xs h st
include hx hy in
theorem q4 : q4_b5_law (SL L k i s4 s8 s9 s10 (rsD xs) (rsD ys) (rsD zs)) st = .ok .nx (SL L k i s4 s8 s9 s10 (rsD xs) (rsD ys) (rsD zs)) st := by
  have a1 := ad2 hx hy st
  have a2 := rows_l (addR xs ys) (by have := (rs_add hx hy (by decide) (by decide)).len; omega) st
  have a3 := added hx hy (by decide) st
  have a4 := eq_rows true (addR xs ys)
  have b1 := or2 hx hy st
  have b2 := rows_l (mrg at' xs ys) (by have := (rs_mrg hx hy).len; omega) st
  have b3 := law_mrg hx hy (by decide) st
  have b4 := eq_rows true (mrg at' xs ys)
  generalize rsD (addR xs ys) = A2 at *
  generalize rsD (mrg at' xs ys) = B2 at *
  generalize rsD xs = X at *
  generalize rsD ys = Y at *
  generalize rsD zs = Z at *
  clear hx hy
  refine or_skip ?_ ?_
  · simp [a1, a2, a3, a4]
  · simp [b1, b2, b3, b4]
include hx in
theorem q6 : q6_b5_law (SL L k i s4 s8 s9 s10 (rsD xs) (rsD ys) (rsD zs)) st = .ok .nx (SL L k i s4 s8 s9 s10 (rsD xs) (rsD ys) (rsD zs)) st := by
  have a1 := ad0 hx st
  have a2 := ad0' hx st
  have b1 := or0 hx st
  have b2 := or0' hx st
  have a5 := same xs st
  have z := init_0 st
  generalize rsD xs = X at *
  generalize rsD ys = Y at *
  generalize rsD zs = Z at *
  clear hx
  refine or_skip ?_ (or_no ?_ (or_no ?_ ?_))
  · simp [a1, a5, z]
  · simp [a2, a5, z]
  · simp [b1, a5, z]
  · simp [b2, a5, z]
include hx hy hz in
theorem q7 : q7_b5_law (SL L k i s4 s8 s9 s10 (rsD xs) (rsD ys) (rsD zs)) st = .ok .nx (SL L k i s4 s8 s9 s10 (rsD xs) (rsD ys) (rsD zs)) st := by
  have a1 := rows_l xs (by have := hx.len; omega) st
  have a2 := rows_l ys (by have := hy.len; omega) st
  have a3 := rows_l zs (by have := hz.len; omega) st
  have e := eq_some xs ys zs
  generalize rsD xs = X at *
  generalize rsD ys = Y at *
  generalize rsD zs = Z at *
  clear hx hy hz
  refine one_skip ?_
  simp [a1, a2, a3, e]
include hx hy in
theorem q8 (f9 : s9.fr) : q8_b5_law (SL L k i s4 s8 s9 s10 (rsD xs) (rsD ys) (rsD zs)) st = .ok .nx (SL L k i s4 s8 (.o (iT (rsD (mrg at' xs ys)))) s10 (rsD xs) (rsD ys) (rsD zs)) st := by
  have b1 := or2 hx hy st
  generalize rsD (mrg at' xs ys) = B2 at *
  generalize rsD xs = X at *
  generalize rsD ys = Y at *
  generalize rsD zs = Z at *
  clear hx hy
  simp [b1, f9]
end
end Law
end MP

set_option Elab.async false
set_option linter.all false
set_option maxRecDepth 100000
set_option maxHeartbeats 4000000
namespace MP
namespace Law
open PySem PySem.Spec PyProof.Rows L2
section
variable {L : Sl} {k : Int} {i : Nat} {s4 s8 s9 s10 : Sl} {xs ys zs : List Rw} (hx : Gd xs) (hy : Gd ys) (hz : Gd zs) (st : Sto)
include hx hy in
theorem q10 : q10_b5_law (SL L k i s4 s8 (.d (oT (rsD (mrg at' xs ys)))) s10 (rsD xs) (rsD ys) (rsD zs)) st = .ok .nx (SL L k i s4 s8 (.d (oT (rsD (mrg at' xs ys)))) s10 (rsD xs) (rsD ys) (rsD zs)) st := by
  have lx := hx.len
  have ly := hy.len
  have a1 : f_Trace_paths [oT (rsD (mrg at' xs ys))] st = _ := trace_paths (mrg at' xs ys) (by have := (rs_mrg hx hy).len; omega) st
  have a2 : f_Trace_paths [oT (rsD xs)] st = _ := trace_paths xs (by omega) st
  have a3 : f_Trace_paths [oT (rsD ys)] st = _ := trace_paths ys (by omega) st
  have l2 : (pathsR xs).length ≤ 12 := by rw [sortT_len]; have := foldT_len (xs.map fun r => r.2.2.1) []; simp at this; unfold dedT; omega
  have l3 : (pathsR ys).length ≤ 12 := by rw [sortT_len]; have := foldT_len (ys.map fun r => r.2.2.1) []; simp at this; unfold dedT; omega
  have ss := fun sl => ev_ssK (pathsR xs ++ pathsR ys) (by simp; omega) sl st
  rw [join_set, List.map_append] at ss
  have e := eq_strs (pathsR (mrg at' xs ys))
  have c2 : ((pathsR xs).map D.str).length ≤ 12 := by simpa using l2
  have c3 : ((pathsR ys).map D.str).length ≤ 12 := by simpa using l3
  generalize (pathsR (mrg at' xs ys)).map D.str = M at *
  generalize (pathsR xs).map D.str = M1 at *
  generalize (pathsR ys).map D.str = M2 at *
  generalize rsD (mrg at' xs ys) = B2 at *
  generalize rsD xs = X at *
  generalize rsD ys = Y at *
  generalize rsD zs = Z at *
  have ad := ev_gAddL M1 M2 (by rw [sizeLine_eq]; omega)
  refine one_skip ?_
  simp [a1, a2, a3, ss, e, ad, ev_mSortSet]
end
end Law
end MP

set_option Elab.async false
set_option linter.all false
set_option maxRecDepth 100000
set_option maxHeartbeats 4000000
namespace MP
namespace Law
open PySem PySem.Spec PyProof.Rows L2
section
variable {L : Sl} {k : Int} {i : Nat} {s4 s8 s9 s10 : Sl} {xs ys zs : List Rw} (hx : Gd xs) (hy : Gd ys) (hz : Gd zs) (st : Sto)
theorem or_skip2 {t1 t2 : Mn Bool} {a : Mn Fl} {sl sl1 : Sls} {st : Sto} (h1 : t1 sl st = .ok false sl1 st) (h2 : t2 sl1 st = .ok false sl1 st) : mIf (mOr t1 t2) a mSkip sl st = .ok .nx sl1 st := by
  simp [h1, h2]
include hx hy in
theorem q9 : q9_b5_law (SL L k i s4 s8 (.o (iT (rsD (mrg at' xs ys)))) s10 (rsD xs) (rsD ys) (rsD zs)) st = .ok .nx (SL L k i s4 s8 (.d (oT (rsD (mrg at' xs ys)))) s10 (rsD xs) (rsD ys) (rsD zs)) st := by
  have lx := hx.len
  have ly := hy.len
  have a1 : f_Trace_pages [oT (rsD (mrg at' xs ys))] st = _ := trace_pages (mrg at' xs ys) (by have := (rs_mrg hx hy).len; omega) st
  have a2 : f_Trace_pages [oT (rsD xs)] st = _ := trace_pages xs (by omega) st
  have a3 : f_Trace_pages [oT (rsD ys)] st = _ := trace_pages ys (by omega) st
  have l2 : (pagesR xs).length ≤ 12 := by rw [sortT_len]; have := foldT_len (xs.map fun r => r.2.2.2) []; simp at this; unfold dedT; omega
  have l3 : (pagesR ys).length ≤ 12 := by rw [sortT_len]; have := foldT_len (ys.map fun r => r.2.2.2) []; simp at this; unfold dedT; omega
  have ss := fun sl => ev_ssK (pagesR xs ++ pagesR ys) (by simp; omega) sl st
  rw [join_set, List.map_append] at ss
  obtain ⟨q, hq, hl⟩ := len_fn
  have h1 := hl (mrg at' xs ys) st (by have := (rs_mrg hx hy).len; omega)
  have h2 := hl xs st (by omega)
  have h3 := hl ys st (by omega)
  have hs : ((mrg at' xs ys).length : Int) = xs.length + ys.length := by rw [(mrg_p at' xs ys).length_eq, List.length_append]; simp
  clear hl
  have e := eq_strs (pagesR (mrg at' xs ys))
  have c2 : ((pagesR xs).map D.str).length ≤ 12 := by simpa using l2
  have c3 : ((pagesR ys).map D.str).length ≤ 12 := by simpa using l3
  generalize (pagesR (mrg at' xs ys)).map D.str = M at *
  generalize (pagesR xs).map D.str = M1 at *
  generalize (pagesR ys).map D.str = M2 at *
  generalize rsD (mrg at' xs ys) = B2 at *
  generalize rsD xs = X at *
  generalize rsD ys = Y at *
  generalize rsD zs = Z at *
  have ad := ev_gAddL M1 M2 (by rw [sizeLine_eq]; omega)
  clear hx hy
  unfold q9_b5_law
  rw [← hq]
  clear hq
  refine or_skip2 (sl1 := SL L k i s4 s8 (.d (oT B2)) s10 X Y Z) ?_ ?_
  · simp [a1, a2, a3, ss, e, ad, ev_mSortSet]
  · simp [h1, h2, h3, hs]
end
end Law
end MP

set_option Elab.async false
set_option linter.all false
set_option maxRecDepth 100000
set_option maxHeartbeats 4000000
namespace MP
namespace Law
open PySem PySem.Spec PyProof.Rows L2
theorem q11 {L : Sl} {k : Int} {i : Nat} {s4 s8 s10 : Sl} {xs ys zs : List Rw} (hx : Gd xs) (hy : Gd ys) (hz : Gd zs) (f4 : s4.fr) (f8 : s8.fr) (f10 : s10.fr) (st : Sto) : q11_b5_law (SL L k i s4 s8 (.d (oT (rsD (mrg at' xs ys)))) s10 (rsD xs) (rsD ys) (rsD zs)) st = .ok .nx (SL L k i s4 s8 (.d (oT (rsD (mrg at' xs ys)))) (.d (.str "team")) (rsD xs) (rsD ys) (rsD zs)) st := by
  have o1 := of_turn (L := L) (k := k) (i := i) (s9 := .u) (s10 := .u) hx hy hz f4 f8 trivial trivial st (a := "ann") (by decide)
  have o2 := of_turn (L := L) (k := k) (i := i) (s9 := .u) (s10 := .u) hx hy hz f4 f8 trivial trivial st (a := "bob") (by decide)
  have o3 := of_turn (L := L) (k := k) (i := i) (s9 := .u) (s10 := .u) hx hy hz f4 f8 trivial trivial st (a := "team") (by decide)
  generalize rsD (mrg at' xs ys) = M at *
  generalize rsD xs = X at *
  generalize rsD ys = Y at *
  generalize rsD zs = Z at *
  unfold q11_b5_law
  generalize b4_law = b at *
  simp [f10, ev_forc, o1, o2, o3]
end Law
end MP

set_option Elab.async false
set_option linter.all false
set_option maxRecDepth 100000
set_option maxHeartbeats 4000000
namespace MP
namespace Law
open PySem PySem.Spec PyProof.Rows L2
def mkD : D → D
  | .lst X => oT X
  | x => x
theorem q3 {L s1 s2 s4 s5 s6 s7 s8 s9 s10 : Sl} {xs ys zs : List Rw} (hx : Gd xs) (hy : Gd ys) (hz : Gd zs) (f5 : s5.fr) (f6 : s6.fr) (f7 : s7.fr) (f8 : s8.fr) (st : Sto) : q3_b5_law [L, s1, s2, .o (.lst [.lst (rsD xs), .lst (rsD ys), .lst (rsD zs)]), s4, s5, s6, s7, s8, s9, s10] st = .ok .nx [L, s1, s2, .o (.lst [.lst (rsD xs), .lst (rsD ys), .lst (rsD zs)]), s4, .d (oT (rsD xs)), .d (oT (rsD ys)), .d (oT (rsD zs)), s8, s9, s10] st := by
  have i1 : f_Trace_D_init_D [.lst (rsD xs)] st = CRes.ok (.f (iT (rsD xs))) st := init_l (hx.mono (Nat.le_refl _) (by decide)) (by decide) st
  have i2 : f_Trace_D_init_D [.lst (rsD ys)] st = CRes.ok (.f (iT (rsD ys))) st := init_l (hy.mono (Nat.le_refl _) (by decide)) (by decide) st
  have i3 : f_Trace_D_init_D [.lst (rsD zs)] st = CRes.ok (.f (iT (rsD zs))) st := init_l (hz.mono (Nat.le_refl _) (by decide)) (by decide) st
  generalize rsD xs = X at *
  generalize rsD ys = Y at *
  generalize rsD zs = Z at *
  have e := comp1S (v := 8) (j := 3) (tt := t2_law) (te := e3_law) (sl := [L, s1, s2, .o (.lst [.lst X, .lst Y, .lst Z]), s4, s5, s6, s7, s8, s9, s10]) (st := st) (xs := [.lst X, .lst Y, .lst Z]) (s := s8) (fun _ => true) mkD (by simp) f8 (by simp) (by decide) (fun x hx => by
    simp only [List.mem_cons, List.not_mem_nil, or_false] at hx
    rcases hx with rfl | rfl | rfl
    · exact ⟨by simp [t2_law], fun _ => by simp [e3_law, i1, mkD]⟩
    · exact ⟨by simp [t2_law], fun _ => by simp [e3_law, i2, mkD]⟩
    · exact ⟨by simp [t2_law], fun _ => by simp [e3_law, i3, mkD]⟩) (by simp)
  have e : compK [8] (.nm 8) t2_law e3_law ([.lst X, .lst Y, .lst Z], .sl 3) [L, s1, s2, .o (.lst [.lst X, .lst Y, .lst Z]), s4, s5, s6, s7, s8, s9, s10] st = .ok (.f (.lst [oT X, oT Y, oT Z])) [L, s1, s2, .o (.lst [.lst X, .lst Y, .lst Z]), s4, s5, s6, s7, s8, s9, s10] st := e
  simp [q3_b5_law, e, tpL3, f5, f6, f7]
end Law
end MP

set_option Elab.async false
set_option linter.all false
set_option maxRecDepth 100000
set_option maxHeartbeats 4000000
namespace MP
namespace Law
open PySem PySem.Spec PyProof.Rows L2
theorem tr_step {L s1 s3 s5 s6 s7 s8 s9 s10 : Sl} {i : Nat} {st : Sto} (h : Src i st) (x : D) (xs acc : List D) (hl : acc.length < 100000) : ∃ (rs : List Rw) (st' : Sto), Gd rs ∧ Nxt i st st' ∧ compL (.nm 4) t0_law e1_law [4] (x :: xs) acc [L, s1, .d (.cell i), s3, .u, s5, s6, s7, s8, s9, s10] st = compL (.nm 4) t0_law e1_law [4] xs (acc ++ [.lst (rsD rs)]) [L, s1, .d (.cell i), s3, .u, s5, s6, s7, s8, s9, s10] st' := by
  obtain ⟨rs, st', g, n, e⟩ := law_trace h
  refine ⟨rs, st', g, n, ?_⟩
  generalize rsD rs = X at *
  have k := comp_yes (t := .nm 4) (tt := t0_law) (te := e1_law) (vs := [4]) (x := x) (xs := xs) (acc := acc) (sl := [L, s1, .d (.cell i), s3, .u, s5, s6, s7, s8, s9, s10]) (st := st) (sl1 := [L, s1, .d (.cell i), s3, .d x, s5, s6, s7, s8, s9, s10]) (st1 := st) (sl2 := [L, s1, .d (.cell i), s3, .d x, s5, s6, s7, s8, s9, s10]) (st2 := st) (r := .f (.lst X)) (sl3 := [L, s1, .d (.cell i), s3, .d x, s5, s6, s7, s8, s9, s10]) (st3 := st') (y := .lst X) (sl4 := [L, s1, .d (.cell i), s3, .d x, s5, s6, s7, s8, s9, s10]) (st4 := st') (by simp) rfl (by simp [e1_law, e]) rfl hl (by simp)
  rw [k]
  simp
end Law
end MP

set_option Elab.async false
set_option linter.all false
set_option maxRecDepth 100000
set_option maxHeartbeats 4000000
namespace MP
namespace Law
open PySem PySem.Spec PyProof.Rows L2
theorem q2 {L s1 s3 s4 s5 s6 s7 s8 s9 s10 : Sl} {i : Nat} {st : Sto} (h : Src i st) (f3 : s3.fr) (f4 : s4.fr) : ∃ (xs ys zs : List Rw) (st' : Sto), Gd xs ∧ Gd ys ∧ Gd zs ∧ Nxt i st st' ∧ q2_b5_law [L, s1, .d (.cell i), s3, s4, s5, s6, s7, s8, s9, s10] st = .ok .nx [L, s1, .d (.cell i), .o (.lst [.lst (rsD xs), .lst (rsD ys), .lst (rsD zs)]), s4, s5, s6, s7, s8, s9, s10] st' := by
  obtain ⟨xs, t1, g1, n1, e1⟩ := tr_step (L := L) (s1 := s1) (s3 := s3) (s5 := s5) (s6 := s6) (s7 := s7) (s8 := s8) (s9 := s9) (s10 := s10) h (.int 0) [.int 1, .int 2] [] (by simp)
  obtain ⟨ys, t2, g2, n2, e2⟩ := tr_step (L := L) (s1 := s1) (s3 := s3) (s5 := s5) (s6 := s6) (s7 := s7) (s8 := s8) (s9 := s9) (s10 := s10) n1.src (.int 1) [.int 2] [.lst (rsD xs)] (by simp)
  obtain ⟨zs, t3, g3, n3, e3⟩ := tr_step (L := L) (s1 := s1) (s3 := s3) (s5 := s5) (s6 := s6) (s7 := s7) (s8 := s8) (s9 := s9) (s10 := s10) n2.src (.int 2) [] [.lst (rsD xs), .lst (rsD ys)] (by simp)
  refine ⟨xs, ys, zs, t3, g1, g2, g3, n1.trans (n2.trans n3), ?_⟩
  have e : compL (.nm 4) t0_law e1_law [4] [.int 0, .int 1, .int 2] [] [L, s1, .d (.cell i), s3, .u, s5, s6, s7, s8, s9, s10] st = .ok [.lst (rsD xs), .lst (rsD ys), .lst (rsD zs)] [L, s1, .d (.cell i), s3, .u, s5, s6, s7, s8, s9, s10] t3 := by
    rw [e1]
    refine (show _ = _ from e2).trans ?_
    refine (show _ = _ from e3).trans ?_
    rfl
  generalize rsD xs = X at *
  generalize rsD ys = Y at *
  generalize rsD zs = Z at *
  have hr : rngL 0 3 = [.int 0, .int 1, .int 2] := rfl
  have hg := fun sl st => ev_rng1 sl st 3 (by decide)
  rw [show ((3 : Int).toNat) = 3 from rfl, hr] at hg
  have ck : compK [4] (.nm 4) t0_law e1_law ([.int 0, .int 1, .int 2], Hd.none) [L, s1, .d (.cell i), s3, s4, s5, s6, s7, s8, s9, s10] st = .ok (.f (.lst [.lst X, .lst Y, .lst Z])) [L, s1, .d (.cell i), s3, s4, s5, s6, s7, s8, s9, s10] t3 := by
    have nl := ev_frBf s4 f4
    rw [ev_compK [L, s1, .d (.cell i), s3, s4, s5, s6, s7, s8, s9, s10] st [4] (.nm 4) t0_law e1_law [.int 0, .int 1, .int 2] Hd.none (by simp [nl])]
    simp [e]
  simp [q2_b5_law, hg, ck, f3]
end Law
end MP

set_option Elab.async false
set_option linter.all false
set_option maxRecDepth 100000
set_option maxHeartbeats 4000000
namespace MP
namespace Law
open PySem PySem.Spec PyProof.Rows L2
theorem turn (ns : List Int) (p : Nat) (hp : p < 1000) (st : Sto) {s2 s3 s4 s5 s6 s7 s8 s9 s10 : Sl} (f2 : s2.fr) (f3 : s3.fr) (f4 : s4.fr) (f5 : s5.fr) (f6 : s6.fr) (f7 : s7.fr) (f8 : s8.fr) (f9 : s9.fr) (f10 : s10.fr) :
    ∃ (t2 t3 t4 t5 t6 t7 t8 t9 t10 : Sl) (st' : Sto), (t2.fr ∧ t3.fr ∧ t4.fr ∧ t5.fr ∧ t6.fr ∧ t7.fr ∧ t8.fr ∧ t9.fr ∧ t10.fr) ∧
      b5_law [.d (.lst (ns.map D.int)), .d (.int p), s2, s3, s4, s5, s6, s7, s8, s9, s10] st = .ok .nx [.d (.lst (ns.map D.int)), .d (.int p), t2, t3, t4, t5, t6, t7, t8, t9, t10] st' := by
  obtain ⟨u, v, v0, v1, es⟩ := hand ns p hp st
  have hS : Src st.length (st ++ [.c (.lst [.int u, .int v])]) := ⟨u, v, v0, v1, by simp⟩
  generalize hLL : ns.map D.int = LL at *
  obtain ⟨xs, ys, zs, st1, hx, hy, hz, n1, e2⟩ := q2 (L := .d (.lst LL)) (s1 := .d (.int p)) (s5 := s5) (s6 := s6) (s7 := s7) (s8 := s8) (s9 := s9) (s10 := s10) hS f3 f4
  refine ⟨.d (.cell st.length), .o (.lst [.lst (rsD xs), .lst (rsD ys), .lst (rsD zs)]), s4, .d (oT (rsD xs)), .d (oT (rsD ys)), .d (oT (rsD zs)), s8, .d (oT (rsD (mrg at' xs ys))), .d (.str "team"), st1, ⟨trivial, trivial, f4, trivial, trivial, trivial, f8, trivial, trivial⟩, ?_⟩
  · rw [b5_law_eq]
    refine seq_step (sl' := [.d (.lst LL), .d (.int p), .d (.cell st.length), s3, s4, s5, s6, s7, s8, s9, s10]) (st' := st ++ [.c (.lst [.int u, .int v])]) (by simp [q1_b5_law, f2, es]) ?_
    refine seq_step e2 ?_
    refine seq_step (q3 hx hy hz f5 f6 f7 f8 st1) ?_
    refine seq_step (q4 hx hy st1) ?_
    refine seq_step (q5 hx hy hz st1) ?_
    refine seq_step (q6 hx st1) ?_
    refine seq_step (q7 hx hy hz st1) ?_
    refine seq_step (q8 hx hy st1 f9) ?_
    refine seq_step (q9 hx hy st1) ?_
    refine seq_step (q10 hx hy st1) ?_
    exact q11 hx hy hz f4 f8 f10 st1
end Law
end MP

set_option Elab.async false
set_option linter.all false
set_option maxRecDepth 100000
set_option maxHeartbeats 4000000
namespace MP
namespace Law
open PySem PySem.Spec PyProof.Rows L2
def lawI (ns : List Int) (xs : List D) (sl : Sls) (st : Sto) : Prop := (∀ x ∈ xs, ∃ k : Nat, k < 1000 ∧ x = .int k) ∧ ∃ s1 s2 s3 s4 s5 s6 s7 s8 s9 s10 : Sl, (s1.fr ∧ s2.fr ∧ s3.fr ∧ s4.fr ∧ s5.fr ∧ s6.fr ∧ s7.fr ∧ s8.fr ∧ s9.fr ∧ s10.fr) ∧ sl = [.d (.lst (ns.map D.int)), s1, s2, s3, s4, s5, s6, s7, s8, s9, s10]
theorem plain : okLaw f_law := by
  intro ns hn
  obtain ⟨sl', st', ⟨_, s1, s2, s3, s4, s5, s6, s7, s8, s9, s10, _, hsl⟩, e⟩ := forL_inv (t := .nm 1) (b := b5_law) (lawI ns) (by
    intro x xs sl st h
    obtain ⟨hx, s1, s2, s3, s4, s5, s6, s7, s8, s9, s10, ⟨f1, f2, f3, f4, f5, f6, f7, f8, f9, f10⟩, hq⟩ := h
    subst hq
    obtain ⟨k, hk, rfl⟩ := hx x (by simp)
    obtain ⟨t2, t3, t4, t5, t6, t7, t8, t9, t10, st', g, e⟩ := turn ns k hk st f2 f3 f4 f5 f6 f7 f8 f9 f10
    refine ⟨_, st', ⟨fun y hy => hx y (by simp [hy]), .d (.int k), t2, t3, t4, t5, t6, t7, t8, t9, t10, ⟨trivial, g⟩, rfl⟩, ?_⟩
    rw [← e]
    simp only [ev_tnm, ev_assign, List.getElem?_cons_succ, List.getElem?_cons_zero, ev_asgF _ _ _ _ _ f1, ev_pd, ev_bok, ev_seqN, List.set_cons_succ, List.set_cons_zero]) (rngL 0 (max 2 (min (ns.length : Int) 12)).toNat) [.d (.lst (ns.map D.int)), .u, .u, .u, .u, .u, .u, .u, .u, .u, .u] [] ⟨by
      intro x hx
      simp only [rngL, List.mem_map, List.mem_range] at hx
      obtain ⟨k, hk, rfl⟩ := hx
      exact ⟨k, by omega, by simp⟩, .u, .u, .u, .u, .u, .u, .u, .u, .u, .u, by simp, rfl⟩
  refine ⟨st', ?_⟩
  have hr : -(2 ^ 62) ≤ max 2 (min (ns.length : Int) 12) ∧ max 2 (min (ns.length : Int) 12) < 2 ^ 62 := by omega
  have hr := fun sl st => ev_rng1 sl st _ hr
  generalize hm : max 2 (min (ns.length : Int) 12) = m at *
  subst hsl
  simp [f_law, ev_runB, m_law, hm, hr, e]
end Law
end MP

open PySem PySem.W PyProof.Rows
set_option Elab.async false
set_option maxRecDepth 100000 in
set_option maxHeartbeats 8000000 in
theorem PySem.Challenge.cw_noworsecache_k02_whole_traces_joined_holds : PySem.Challenge.rw_noworsecache_k02_whole_traces_joined.Holds := by
  exact MP.Law.holds_of MP.Law.plain
