import PyProof.Rows.All
import Wide.All
import OpenK.AllK
import Wide.FinOn
import HandS.ForMost
import HandS.Exc
import HandS.Conv
import HandS.Codes
import HandS.IsInst
import HandS.Flow
import HandS.TupAny
import HandS.TupMul
import HandS.Wide
import HandS.WideBits
import HandS.CallSlots
import HandS.WordsExc
import HandS.Defaults
import HandS.Lambda
import HandS.ExcInit
import HandS.ExcField
import KE.KTryMore
import KE.KExcIs
import HandS.ExcIs
import HandS.Iter
import KE.GoesMore
import HandS.Comp
import HandS.SetFor
import HandS.Style
import KE.KRevSl
import HandS.Head0
import HandS.Head1
import HandS.Head2
import HandS.HeadEnd
import HandS.HeadHook1
import HandS.HeadHook2
import HandS.HeadHook3
import HandS.HeadHook4
import HandS.HeadWalk
import HandS.RaiseMore
import HandS.Zip
import PyProof.EqKinds
import PyProof.FactsAll.dict
import PyProof.NeKinds
import PyProof.ReprRoads
import PyProof.StrOps2
import PySem.Challenge.RW_shapekeep_k04_main_whole_values_that_are
set_option Elab.async false
set_option linter.all false
set_option maxRecDepth 100000
set_option maxHeartbeats 0
/-! M1: data values, what represents them in a heap, environments, the transformers. -/
namespace M
open PySem PySem.Spec PyProof.Rows L2

/-- data -/
inductive D where
  | non | bl (b : Bool) | int (i : Int) | str (x : Str) | adr (a : Addr) | ty (n : String)
  | tup (ds : List D) | lst (ds : List D) | rol (ds : List D) | dct (kvs : List (Key × D)) | ins (C : Addr) (fs : List (Str × D))

/-- what is read in F is read in H -/
structure Le (F H : Hp) : Prop where
  rd : ∀ a u, (∀ ps, u ≠ .tbl ps) → Rd F a u → Rd H a u
  th : ∀ a o, F a = some o → ∃ y, H a = some y
  ls : ∀ a xs, F a = some (.lst xs) → H a = some (.lst xs)
  xd : ∀ a xs, F a = some (.xd xs) → H a = some (.xd xs)
  fz : ∀ a o u, F a = some (.frz o u) → H a = some (.frz o u)
theorem Le.refl (F : Hp) : Le F F := ⟨fun _ _ _ h => h, fun _ o h => ⟨o, h⟩, fun _ _ h => h, fun _ _ h => h, fun _ _ _ h => h⟩
theorem Le.trans {F G H : Hp} (a : Le F G) (b : Le G H) : Le F H := ⟨fun x u n h => b.rd x u n (a.rd x u n h), fun x o h => let ⟨y, h1⟩ := a.th x o h; b.th x y h1, fun x u h => b.ls x u (a.ls x u h), fun x u h => b.xd x u (a.xd x u h), fun x o u h => b.fz x o u (a.fz x o u h)⟩

section
variable (K : PySem.W.Frag) (F : Hp)
mutual
inductive Rep : V → D → Prop
  | non : Rep .non .non
  | bl (b : Bool) : Rep (.bl b) (.bl b)
  | int (i : Int) : Rep (.int i) (.int i)
  | str (x : Str) : Rep (.str x) (.str x)
  | adr (a : Addr) : Rep (.ref a) (.adr a)
  | ty (n : String) : Rep (.ty n) (.ty n)
  | tup {a : Addr} {xs : List V} {ds : List D} (h : SqT K F a xs) (r : Reps xs ds) : Rep (.ref a) (.tup ds)
  | lst {a : Addr} {xs : List V} {ds : List D} (h : F a = some (.lst xs)) (r : Reps xs ds) : Rep (.ref a) (.lst ds)
  | rol {a : Addr} {xs : List V} {ds : List D} (h : SqL K F a xs) (r : Reps xs ds) : Rep (.ref a) (.rol ds)
  | dct {a : Addr} {xs : List (Key × V)} {ds : List (Key × D)} (h : ∃ o, F a = some (.frz o (.dK xs))) (r : RepK xs ds) : Rep (.ref a) (.dct ds)
  | ins {a C dx : Addr} {xs : List (Str × V)} {ds : List (Str × D)} (h : Rd F a (.ins C dx xs)) (r : RepF xs ds) : Rep (.ref a) (.ins C ds)
inductive Reps : List V → List D → Prop
  | nil : Reps [] []
  | cons {x : V} {xs : List V} {d : D} {ds : List D} (h : Rep x d) (r : Reps xs ds) : Reps (x :: xs) (d :: ds)
inductive RepK : List (Key × V) → List (Key × D) → Prop
  | nil : RepK [] []
  | cons {k : Key} {x : V} {xs : List (Key × V)} {d : D} {ds : List (Key × D)} (h : Rep x d) (r : RepK xs ds) : RepK ((k, x) :: xs) ((k, d) :: ds)
inductive RepF : List (Str × V) → List (Str × D) → Prop
  | nil : RepF [] []
  | cons {k : Str} {x : V} {xs : List (Str × V)} {d : D} {ds : List (Str × D)} (h : Rep x d) (r : RepF xs ds) : RepF ((k, x) :: xs) ((k, d) :: ds)
end
end

theorem le_d {F H : Hp} {a : Addr} {xs : List (Key × V)} (e : Le F H) (h : Rd F a (.dK xs)) : Rd H a (.dK xs) := e.rd a _ (fun _ z => nomatch z) h
theorem le_i {F H : Hp} {a C dx : Addr} {xs : List (Str × V)} (e : Le F H) (h : Rd F a (.ins C dx xs)) : Rd H a (.ins C dx xs) := e.rd a _ (fun _ z => nomatch z) h
theorem le_l {K : PySem.W.Frag} {F H : Hp} {a : Addr} {xs : List V} (e : Le F H) (h : SqL K F a xs) : SqL K H a xs := by
  rcases h with h | h
  · exact .inl (e.rd a _ (fun _ z => nomatch z) h)
  · exact .inr h
theorem le_t {K : PySem.W.Frag} {F H : Hp} {a : Addr} {xs : List V} (e : Le F H) (h : SqT K F a xs) : SqT K H a xs := by
  rcases h with h | h
  · exact .inl (e.rd a _ (fun _ z => nomatch z) h)
  · exact .inr h

section
variable {K : PySem.W.Frag} {F H : Hp}
mutual
theorem Rep.mono {v : V} {d : D} (e : Le F H) : Rep K F v d → Rep K H v d
  | .non => .non
  | .bl b => .bl b
  | .int i => .int i
  | .str x => .str x
  | .adr a => .adr a
  | .ty n => .ty n
  | .tup h r => .tup (le_t e h) (Reps.mono e r)
  | .lst h r => .lst (e.ls _ _ h) (Reps.mono e r)
  | .rol h r => .rol (le_l e h) (Reps.mono e r)
  | .dct h r => .dct (let ⟨o, q⟩ := h; ⟨o, e.fz _ _ _ q⟩) (RepK.mono e r)
  | .ins h r => .ins (le_i e h) (RepF.mono e r)
theorem Reps.mono {vs : List V} {ds : List D} (e : Le F H) : Reps K F vs ds → Reps K H vs ds
  | .nil => .nil
  | .cons h r => .cons (Rep.mono e h) (Reps.mono e r)
theorem RepK.mono {vs : List (Key × V)} {ds : List (Key × D)} (e : Le F H) : RepK K F vs ds → RepK K H vs ds
  | .nil => .nil
  | .cons h r => .cons (Rep.mono e h) (RepK.mono e r)
theorem RepF.mono {vs : List (Str × V)} {ds : List (Str × D)} (e : Le F H) : RepF K F vs ds → RepF K H vs ds
  | .nil => .nil
  | .cons h r => .cons (Rep.mono e h) (RepF.mono e r)
end
theorem Reps.length : ∀ {vs : List V} {ds : List D}, Reps K F vs ds → vs.length = ds.length
  | _, _, .nil => rfl
  | _, _, .cons _ r => congrArg (· + 1) (Reps.length r)
theorem Reps.get : ∀ {vs : List V} {ds : List D} {i : Nat} {d : D}, Reps K F vs ds → ds[i]? = some d → ∃ v, vs[i]? = some v ∧ Rep K F v d
  | _, _, _, _, .nil, e => by simp at e
  | _, _, 0, _, .cons h _, e => by
    have e' := Option.some.inj e
    subst e'
    exact ⟨_, rfl, h⟩
  | _, _, i + 1, d, .cons _ r, e => by
    obtain ⟨v, h1, h2⟩ := Reps.get (i := i) (d := d) r (by simpa using e)
    exact ⟨v, by simpa using h1, h2⟩
theorem Reps.get' : ∀ {vs : List V} {ds : List D} {i : Nat} {v : V}, Reps K F vs ds → vs[i]? = some v → ∃ d, ds[i]? = some d ∧ Rep K F v d
  | _, _, _, _, .nil, e => by simp at e
  | _, _, 0, _, .cons h _, e => by
    have e' := Option.some.inj e
    subst e'
    exact ⟨_, rfl, h⟩
  | _, _, i + 1, d, .cons _ r, e => by
    obtain ⟨v, h1, h2⟩ := Reps.get' (i := i) (v := d) r (by simpa using e)
    exact ⟨v, by simpa using h1, h2⟩
theorem Reps.append : ∀ {xs ys : List V} {ds es : List D}, Reps K F xs ds → Reps K F ys es → Reps K F (xs ++ ys) (ds ++ es)
  | _, _, _, _, .nil, s => s
  | _, _, _, _, .cons h r, s => .cons h (Reps.append r s)
theorem Reps.take : ∀ {xs : List V} {ds : List D} (n : Nat), Reps K F xs ds → Reps K F (xs.take n) (ds.take n)
  | _, _, 0, _ => .nil
  | _, _, _ + 1, .nil => .nil
  | _, _, n + 1, .cons h r => .cons h (Reps.take n r)
theorem Reps.drop : ∀ {xs : List V} {ds : List D} (n : Nat), Reps K F xs ds → Reps K F (xs.drop n) (ds.drop n)
  | _, _, 0, r => r
  | _, _, _ + 1, .nil => .nil
  | _, _, n + 1, .cons _ r => Reps.drop n r
theorem Reps.set {x : V} {d : D} (h : Rep K F x d) : ∀ {xs : List V} {ds : List D} (n : Nat), Reps K F xs ds → Reps K F (xs.set n x) (ds.set n d)
  | _, _, _, .nil => .nil
  | _, _, 0, .cons _ r => .cons h r
  | _, _, n + 1, .cons q r => .cons q (Reps.set h n r)
theorem Reps.reverse {xs : List V} {ds : List D} (r : Reps K F xs ds) : Reps K F xs.reverse ds.reverse := by
  induction xs generalizing ds with
  | nil => cases r; exact .nil
  | cons x xs ih =>
    cases r with
    | cons h r =>
      rw [List.reverse_cons, List.reverse_cons]
      exact (ih r).append (.cons h .nil)
theorem Reps.flat : ∀ {k : Nat} {xs : List V} {ds : List D}, Reps K F xs ds → Reps K F (List.replicate k xs).flatten (List.replicate k ds).flatten
  | 0, _, _, _ => .nil
  | k + 1, _, _, r => by
    rw [List.replicate_succ, List.replicate_succ, List.flatten_cons, List.flatten_cons]
    exact r.append (Reps.flat (k := k) r)
theorem Reps.eraseIdx : ∀ {xs : List V} {ds : List D} (n : Nat), Reps K F xs ds → Reps K F (xs.eraseIdx n) (ds.eraseIdx n)
  | _, _, _, .nil => .nil
  | _, _, 0, .cons _ r => r
  | _, _, n + 1, .cons h r => .cons h (Reps.eraseIdx n r)
theorem Reps.dropLast {xs : List V} {ds : List D} (r : Reps K F xs ds) : Reps K F xs.dropLast ds.dropLast := by
  rw [List.dropLast_eq_take, List.dropLast_eq_take, r.length]
  exact r.take _
end

/-! ### what may change: a list, a dict -/
inductive Mo where
  | l (ds : List D) | d (kvs : List (Key × D))
def MoAt (K : PySem.W.Frag) (F H : Hp) (a : Addr) : Mo → Prop
  | .l ds => ∃ vs, H a = some (.lst vs) ∧ Reps K F vs ds
  | .d ds => ∃ vs, H a = some (.dK vs) ∧ RepK K F vs ds
theorem MoAt.mono {K : PySem.W.Frag} {F F' H : Hp} {a : Addr} {m : Mo} (e : Le F F') (h : MoAt K F H a m) : MoAt K F' H a m := by
  cases m with
  | l ds => obtain ⟨vs, h1, h2⟩ := h; exact ⟨vs, h1, h2.mono e⟩
  | d ds => obtain ⟨vs, h1, h2⟩ := h; exact ⟨vs, h1, h2.mono e⟩
theorem MoAt.keep {K : PySem.W.Frag} {F H H' : Hp} {a : Addr} {m : Mo} (e : H' a = H a) (h : MoAt K F H a m) : MoAt K F H' a m := by
  cases m with
  | l ds => obtain ⟨vs, h1, h2⟩ := h; exact ⟨vs, e.trans h1, h2⟩
  | d ds => obtain ⟨vs, h1, h2⟩ := h; exact ⟨vs, e.trans h1, h2⟩
theorem MoAt.there {K : PySem.W.Frag} {F H : Hp} {a : Addr} {m : Mo} (h : MoAt K F H a m) : ∃ o, H a = some o := by
  cases m with
  | l ds => obtain ⟨vs, h1, h2⟩ := h; exact ⟨_, h1⟩
  | d ds => obtain ⟨vs, h1, h2⟩ := h; exact ⟨_, h1⟩

theorem MoAt.there' {K : PySem.W.Frag} {F H : Hp} {a : Addr} {m : Mo} (h : MoAt K F H a m) : (∃ xs, H a = some (.lst xs)) ∨ ∃ xs, H a = some (.dK xs) := by
  cases m with
  | l ds => obtain ⟨vs, h1, h2⟩ := h; exact .inl ⟨_, h1⟩
  | d ds => obtain ⟨vs, h1, h2⟩ := h; exact .inr ⟨_, h1⟩
theorem MoAt.ntbl {K : PySem.W.Frag} {F H : Hp} {a : Addr} {m : Mo} {o : HO} (h : MoAt K F H a m) (e : H a = some o) : ∀ ps, o ≠ .tbl ps := fun ps z => by
  rcases h.there' with ⟨xs, q⟩ | ⟨xs, q⟩
  · rw [q, z] at e; cases e
  · rw [q, z] at e; cases e
/-- the tables bear what is laid, what is written -/
theorem tabs_upd {T : List (Addr × Str)} {H : Hp} {p : Addr} {o : HO} (ht : LamX.Tabs T H) (h : H p = none ∨ (∃ xs, H p = some (.lst xs)) ∨ ∃ xs, H p = some (.dK xs)) : LamX.Tabs T (upd H p o) := by
  intro q hq
  obtain ⟨ps, h1, h2, h3⟩ := ht q hq
  have n1 : q.1 ≠ p := fun z => by
    rw [z] at h1
    rcases h with h | ⟨xs, h⟩ | ⟨xs, h⟩ <;> rw [h] at h1 <;> cases h1
  refine ⟨ps, by rw [upd_ne n1]; exact h1, h2, fun pos cv hc => ?_⟩
  obtain ⟨c, e1, e2⟩ := h3 pos cv hc
  have n2 : c ≠ p := fun z => by
    rw [z] at e2
    unfold LamX.CodeO at e2
    rcases h with h | ⟨xs, h⟩ | ⟨xs, h⟩ <;> rw [h] at e2 <;> cases e2
  exact ⟨c, e1, by rw [upd_ne n2]; exact e2⟩

/-! ### environments -/
/-- the heap at the def's entry; the exception that is handled: its place, its class, its dict; the tables of code objects -/
structure HE where
  h : Hp
  ex : Addr → Value → Option Addr → Prop
  T : List (Addr × Str)
instance : CoeFun HE (fun _ => Addr → Option HO) := ⟨fun e => e.h⟩
/-- an exception's dict -/
def ExAt (K : PySem.W.Frag) (F : Hp) (d : Option Addr) (fs : List (Str × D)) : Prop := (d = none ∧ fs = []) ∨ ∃ dx vs, d = some dx ∧ F dx = some (.xd vs) ∧ RepF K F vs fs

inductive Slot where
  | un | val (d : D) | own (m : Mo) | par (m : Mo) | exc (C : Value) (fs : List (Str × D))
abbrev En := List Slot
def Slot.mo? : Slot → Option Mo
  | .own m => some m
  | .par m => some m
  | _ => none
def moAt (ρ : En) (i : Nat) : Option Mo := (ρ[i]?).bind Slot.mo?
def isPar (ρ : En) (i : Nat) : Prop := ∃ m, ρ[i]? = some (.par m)
def OwnA (ρ : En) (A : Nat → Addr) (a : Addr) : Prop := ∃ i m, moAt ρ i = some m ∧ A i = a

theorem ExAt.mono {K : PySem.W.Frag} {F F' : Hp} {d : Option Addr} {fs : List (Str × D)} (e : Le F F') (h : ExAt K F d fs) : ExAt K F' d fs := by
  rcases h with h | ⟨dx, vs, h1, h2, h3⟩
  · exact .inl h
  · exact .inr ⟨dx, vs, h1, e.xd _ _ h2, h3.mono e⟩
def SlotOk (K : PySem.W.Frag) (H0 : HE) (F H : Hp) (σ : L2.St) (A : Nat → Addr) (i : Nat) : Slot → Prop
  | .un => True
  | .val d => ∃ v, σ[i]? = some (some v) ∧ Rep K F v d
  | .own m => σ[i]? = some (some (.ref (A i))) ∧ F (A i) = none ∧ MoAt K F H (A i) m ∧ H0 (A i) = none
  | .par m => σ[i]? = some (some (.ref (A i))) ∧ F (A i) = none ∧ MoAt K F H (A i) m
  | .exc C fs => ∃ a d, σ[i]? = some (some (.ref a)) ∧ H0.ex a C d ∧ ExAt K F d fs

/-- the state: F what is frozen, H the heap, σ the names' values, ρ what they stand for, A where the owned things stand; H0 the heap at the def's entry -/
structure ER (K : PySem.W.Frag) (H0 : HE) (F H : Hp) (σ : L2.St) (ρ : En) (A : Nat → Addr) : Prop where
  len : σ.length = ρ.length
  le : Le F H
  sl : ∀ (i : Nat) (s : Slot), ρ[i]? = some s → SlotOk K H0 F H σ A i s
  inj : ∀ (i j : Nat) (m m' : Mo), moAt ρ i = some m → moAt ρ j = some m' → A i = A j → i = j
  dom : ∀ a x, H0 a = some x → ∃ y, H a = some y
  tabs : LamX.Tabs H0.T H

/-- a step: what is frozen stays, what is not in S stays, what is newly frozen is new -/
structure Tr (S : Addr → Prop) (F H F' H' : Hp) : Prop where
  ff : Le F F'
  keep : ∀ a x, ¬ S a → (∀ ps, x ≠ .tbl ps) → H a = some x → H' a = some x
  fresh : ∀ a x, F' a = some x → (∃ y, F a = some y) ∨ H a = none ∨ S a
  there : ∀ a x, H a = some x → ∃ y, H' a = some y

theorem Tr.refl {S : Addr → Prop} {F H : Hp} : Tr S F H F H := ⟨Le.refl F, fun _ _ _ _ h => h, fun _ x h => .inl ⟨x, h⟩, fun _ x h => ⟨x, h⟩⟩
theorem none_back {H H' : Hp} (t : ∀ a x, H a = some x → ∃ y, H' a = some y) {a : Addr} (h : H' a = none) : H a = none := by
  cases q : H a with
  | none => rfl
  | some o => obtain ⟨y, e⟩ := t a o q; rw [h] at e; cases e
/-- two steps; what the second may change: what the first might, or what was made since -/
theorem Tr.trans {S T : Addr → Prop} {F H F1 H1 F2 H2 : Hp} (a : Tr S F H F1 H1) (b : Tr T F1 H1 F2 H2) (st : ∀ x, T x → S x ∨ H x = none) : Tr S F H F2 H2 where
  ff := a.ff.trans b.ff
  keep := fun x o n nt e => b.keep x o (fun t => by
    rcases st x t with h | h
    · exact n h
    · rw [h] at e; cases e) nt (a.keep x o n nt e)
  fresh := fun x o e => by
    rcases b.fresh x o e with ⟨y, h⟩ | h | h
    · exact a.fresh x y h
    · exact .inr (.inl (none_back a.there h))
    · rcases st x h with q | q
      · exact .inr (.inr q)
      · exact .inr (.inl q)
  there := fun x o e => by
    obtain ⟨y, h⟩ := a.there x o e
    exact b.there x y h
theorem Tr.mono {S T : Addr → Prop} {F H F1 H1 : Hp} (a : Tr S F H F1 H1) (st : ∀ x, S x → T x) : Tr T F H F1 H1 :=
  ⟨a.ff, fun x o n nt e => a.keep x o (fun h => n (st x h)) nt e, fun x o e => (a.fresh x o e).imp_right (.imp_right (st x)), a.there⟩

/-- the slots' sorts behind an expression: owned ones were owned, parameters stay -/
structure Sb (ρ ρ' : En) : Prop where
  own : ∀ (i : Nat) (m' : Mo), moAt ρ' i = some m' → ∃ m, moAt ρ i = some m
  par : ∀ (i : Nat) (m : Mo), ρ[i]? = some (Slot.par m) → ∃ m', ρ'[i]? = some (Slot.par m')
theorem Sb.refl {ρ : En} : Sb ρ ρ := ⟨fun _ m h => ⟨m, h⟩, fun _ m h => ⟨m, h⟩⟩
theorem Sb.trans {ρ ρ1 ρ2 : En} (a : Sb ρ ρ1) (b : Sb ρ1 ρ2) : Sb ρ ρ2 :=
  ⟨fun i m h => let ⟨m1, h1⟩ := b.own i m h; a.own i m1 h1, fun i m h => let ⟨m1, h1⟩ := a.par i m h; b.par i m1 h1⟩
theorem Sb.ownA {ρ ρ' : En} {A : Nat → Addr} (s : Sb ρ ρ') {a : Addr} (h : OwnA ρ' A a) : OwnA ρ A a := by
  obtain ⟨i, m, h1, h2⟩ := h
  obtain ⟨m', h3⟩ := s.own i m h1
  exact ⟨i, m', h3, h2⟩
theorem Tr.then {ρ ρ1 : En} {A : Nat → Addr} {F H F1 H1 F2 H2 : Hp} (a : Tr (OwnA ρ A) F H F1 H1) (s : Sb ρ ρ1) (b : Tr (OwnA ρ1 A) F1 H1 F2 H2) : Tr (OwnA ρ A) F H F2 H2 :=
  a.trans b fun x h => .inl (s.ownA h)

/-! ### results -/
inductive Res where
  | val (d : D) | new (m : Mo) | brw (i : Nat)
def RAt (K : PySem.W.Frag) (H0 : HE) (ok : Addr → Prop) (F H : Hp) (ρ : En) (A : Nat → Addr) (v : V) : Res → Prop
  | .val d => Rep K F v d
  | .new m => ∃ p, v = .ref p ∧ F p = none ∧ ¬ OwnA ρ A p ∧ MoAt K F H p m ∧ H0 p = none ∧ ok p
  | .brw i => (∃ m, moAt ρ i = some m) ∧ v = .ref (A i)

/-- outcomes: a value, or an exception of the class at C with its fields -/
inductive Out (α : Type) where
  | ok (a : α) (ρ : En)
  | ex (C : Value) (fs : List (Str × D)) (ρ : En)
abbrev EM (α : Type) := En → Option (Out α)

section
variable (K : PySem.W.Frag) (H0 : HE) (W : WX)
/-- what a step from here may freeze: what is new, what was owned -/
def Okp (ρ : En) (A : Nat → Addr) (H : Hp) (p : Addr) : Prop := H p = none ∨ OwnA ρ A p
def Post {α β : Type} (R : (Addr → Prop) → Hp → Hp → En → (Nat → Addr) → β → α → Prop) (ok : Addr → Prop) (σ : L2.St) (F H : Hp) (ρ : En) (A : Nat → Addr) (Q : β → Hp → Prop) : Out α → Prop
  | .ok a ρ' => ∀ b F' H', Tr (OwnA ρ A) F H F' H' → ER K H0 F' H' σ ρ' A → Sb ρ ρ' → R ok F' H' ρ' A b a → Q b H'
  | .ex C fs ρ' => ∀ d F' H', Tr (OwnA ρ A) F H F' H' → ER K H0 F' H' σ ρ' A → Sb ρ ρ' → ExAt K F' d fs → W C d σ H'
/-- from the state (F, ρ, A): g's outcome leads to Q; ok: what may be frozen of what comes out -/
def WpAt {α β : Type} (R : (Addr → Prop) → Hp → Hp → En → (Nat → Addr) → β → α → Prop) (ok : Addr → Prop) (F : Hp) (ρ : En) (A : Nat → Addr) (g : EM α) (σ : L2.St) (H : Hp) (Q : β → Hp → Prop) : Prop :=
  ER K H0 F H σ ρ A ∧ (∀ p, Okp ρ A H p → ok p) ∧ ∃ o, g ρ = some o ∧ Post K H0 W R ok σ F H ρ A Q o
def Wp {α β : Type} (R : (Addr → Prop) → Hp → Hp → En → (Nat → Addr) → β → α → Prop) (g : EM α) (σ : L2.St) (H : Hp) (Q : β → Hp → Prop) : Prop := ∃ F ρ A, WpAt K H0 W R (Okp ρ A H) F ρ A g σ H Q
abbrev tE (g : EM Res) : TE := fun σ H Q => Wp K H0 W (RAt K H0) g σ H Q
abbrev tT (g : EM Bool) : TT := fun σ H Q => Wp K H0 W (fun _ _ _ _ _ b a => b = a) g σ H Q
abbrev tO (g : EM (Option Int)) : TO := fun σ H Q => Wp K H0 W (fun _ _ _ _ _ b a => b = a) g σ H Q
end

/-! ### composing -/
def EM.bind {α γ : Type} (g : EM α) (f : α → EM γ) : EM γ := fun ρ => match g ρ with
  | some (.ok a ρ') => f a ρ'
  | some (.ex C fs ρ') => some (.ex C fs ρ')
  | none => none
def EM.pure {α : Type} (a : α) : EM α := fun ρ => some (.ok a ρ)
def EM.lift {α : Type} (o : Option α) : EM α := fun ρ => match o with
  | some a => some (.ok a ρ)
  | none => none
section
variable {K : PySem.W.Frag} {H0 : HE} {W : WX} {α β γ δ : Type} {R : (Addr → Prop) → Hp → Hp → En → (Nat → Addr) → β → α → Prop} {R' : (Addr → Prop) → Hp → Hp → En → (Nat → Addr) → δ → γ → Prop} {σ : L2.St}
def MonoR {β α : Type} (R : (Addr → Prop) → Hp → Hp → En → (Nat → Addr) → β → α → Prop) : Prop := ∀ (ok ok' : Addr → Prop) F H ρ A b a, (∀ p, ok p → ok' p) → R ok F H ρ A b a → R ok' F H ρ A b a
theorem mono_rat : MonoR (RAt K H0) := fun ok ok' F H ρ A b a k h => by
  cases a with
  | val d => exact h
  | new m => obtain ⟨p, h1, h2, h3, h4, h5, h6⟩ := h; exact ⟨p, h1, h2, h3, h4, h5, k p h6⟩
  | brw i => exact h
theorem mono_eq {ε : Type} : MonoR (fun _ _ _ _ _ (b a : ε) => b = a) := fun _ _ _ _ _ _ _ _ _ h => h
theorem Okp.back {ρ ρ1 : En} {A : Nat → Addr} {S : Addr → Prop} {F H F1 H1 : Hp} (tr : Tr S F H F1 H1) (sb : Sb ρ ρ1) (p : Addr) (h : Okp ρ1 A H1 p) : Okp ρ A H p :=
  h.imp (none_back tr.there) sb.ownA
/-- the rule of composition: behind g, from where it leads, f a -/
theorem WpAt.bind {ok okg : Addr → Prop} {g : EM α} {f : α → EM γ} {F H : Hp} {ρ : En} {A : Nat → Addr} {Q : δ → Hp → Prop} {Q1 : β → Hp → Prop} (h : WpAt K H0 W R' ok F ρ A (g.bind f) σ H Q)
    (k : ∀ b a F1 H1 ρ1, Tr (OwnA ρ A) F H F1 H1 → Sb ρ ρ1 → R okg F1 H1 ρ1 A b a → WpAt K H0 W R' ok F1 ρ1 A (f a) σ H1 Q → Q1 b H1) (kg : ∀ p, Okp ρ A H p → okg p := by intro _ h; exact h) : WpAt K H0 W R okg F ρ A g σ H Q1 := by
  obtain ⟨er, kn, o, e, p⟩ := h
  refine ⟨er, kg, ?_⟩
  unfold EM.bind at e
  cases eg : g ρ with
  | none => rw [eg] at e; cases e
  | some og =>
    rw [eg] at e
    cases og with
    | ok a ρ1 =>
      refine ⟨_, rfl, fun b F1 H1 tr er1 sb r => k b a F1 H1 ρ1 tr sb r ⟨er1, fun q z => kn q (z.back tr sb), o, e, ?_⟩⟩
      cases o with
      | ok c ρ2 => exact fun d F2 H2 tr2 er2 sb2 r2 => p d F2 H2 (tr.then sb tr2) er2 (sb.trans sb2) r2
      | ex C fs ρ2 => exact fun d F2 H2 tr2 er2 sb2 r2 => p d F2 H2 (tr.then sb tr2) er2 (sb.trans sb2) r2
    | ex C fs ρ1 =>
      cases e
      exact ⟨_, rfl, p⟩
theorem Wp.at {F H : Hp} {ρ : En} {A : Nat → Addr} {g : EM α} {Q : β → Hp → Prop} (h : WpAt K H0 W R (Okp ρ A H) F ρ A g σ H Q) : Wp K H0 W R g σ H Q := ⟨F, ρ, A, h⟩
/-- the outer wish about what may be frozen is put aside -/
theorem WpAt.own {ok : Addr → Prop} (hm : MonoR R) {F H : Hp} {ρ : En} {A : Nat → Addr} {g : EM α} {Q : β → Hp → Prop} (h : WpAt K H0 W R ok F ρ A g σ H Q) : Wp K H0 W R g σ H Q := by
  obtain ⟨er, kn, o, e, p⟩ := h
  refine ⟨F, ρ, A, er, fun _ z => z, o, e, ?_⟩
  cases o with
  | ok a ρ1 => exact fun b F1 H1 tr er1 sb r => p b F1 H1 tr er1 sb (hm _ _ _ _ _ _ _ _ kn r)
  | ex C fs ρ1 => exact p
/-- an outcome without a step -/
theorem WpAt.ret {ok : Addr → Prop} {F H : Hp} {ρ : En} {A : Nat → Addr} {a : α} {b : β} {Q : β → Hp → Prop} (h : WpAt K H0 W R ok F ρ A (EM.pure a) σ H Q) (r : R ok F H ρ A b a) : Q b H := by
  obtain ⟨er, kn, o, e, p⟩ := h
  cases e
  exact p b F H .refl er .refl r
theorem WpAt.lift {ok : Addr → Prop} {F H : Hp} {ρ : En} {A : Nat → Addr} {o : Option α} {Q : β → Hp → Prop} (h : WpAt K H0 W R ok F ρ A (EM.lift o) σ H Q) : ∃ a, o = some a ∧ WpAt K H0 W R ok F ρ A (EM.pure a) σ H Q := by
  obtain ⟨er, kn, q, e, p⟩ := h
  unfold EM.lift at e
  cases o with
  | none => cases e
  | some a => exact ⟨a, rfl, er, kn, q, e, p⟩
end

/-! ### results persist -/
section
variable {K : PySem.W.Frag} {H0 : HE} {F H F' H' : Hp} {ρ ρ' : En} {A : Nat → Addr} {σ : L2.St} {v : V}
theorem ER.at {i : Nat} {m : Mo} (er : ER K H0 F H σ ρ A) (h : moAt ρ i = some m) : σ[i]? = some (some (.ref (A i))) ∧ F (A i) = none ∧ MoAt K F H (A i) m := by
  unfold moAt at h
  cases e : ρ[i]? with
  | none => rw [e] at h; cases h
  | some s =>
    rw [e] at h
    have q := er.sl i s e
    cases s with
    | un => cases h
    | val d => cases h
    | exc C fs => cases h
    | own m' => cases h; exact ⟨q.1, q.2.1, q.2.2.1⟩
    | par m' => cases h; exact ⟨q.1, q.2.1, q.2.2⟩
/-- an owned thing's place is in the heap -/
theorem ER.ownThere (er : ER K H0 F H σ ρ A) {a : Addr} (h : OwnA ρ A a) : F a = none ∧ ∃ o, H a = some o := by
  obtain ⟨i, m, h1, rfl⟩ := h
  exact ⟨(er.at h1).2.1, (er.at h1).2.2.there⟩
/-- a value goes through a step -/
theorem RAt.val_step {d : D} {ok : Addr → Prop} (h : RAt K H0 ok F H ρ A v (.val d)) (tr : Tr (OwnA ρ A) F H F' H') : RAt K H0 ok F' H' ρ' A v (.val d) := Rep.mono tr.ff h
theorem RAt.new_step {m : Mo} {ok : Addr → Prop} (h : RAt K H0 ok F H ρ A v (.new m)) (tr : Tr (OwnA ρ A) F H F' H') (sb : Sb ρ ρ') : RAt K H0 ok F' H' ρ' A v (.new m) := by
  obtain ⟨p, e, fp, no, mo, h0, hok⟩ := h
  obtain ⟨o, ho⟩ := mo.there
  refine ⟨p, e, ?_, fun q => no (sb.ownA q), (mo.keep ?_).mono tr.ff, h0, hok⟩
  · cases q : F' p with
    | none => rfl
    | some x =>
      rcases tr.fresh p x q with ⟨y, h⟩ | h | h
      · rw [fp] at h; cases h
      · rw [ho] at h; cases h
      · exact absurd h no
  · rw [ho]; exact tr.keep p o no (mo.ntbl ho) ho
end

/-! ### what a result shows: its data, its top in the heap, its parts frozen -/
def Mo.view : Mo → D
  | .l ds => .lst ds
  | .d ds => .dct ds
def view (ρ : En) : Res → Option D
  | .val d => some d
  | .new m => some m.view
  | .brw i => (moAt ρ i).map Mo.view
/-- d stands at v: its top in H, its parts in F -/
def Top (K : PySem.W.Frag) (F H : Hp) (v : V) : D → Prop
  | .lst ds => ∃ a xs, v = .ref a ∧ H a = some (.lst xs) ∧ Reps K F xs ds
  | .dct ds => ∃ a xs, v = .ref a ∧ Rd H a (.dK xs) ∧ RepK K F xs ds
  | d => Rep K F v d
section
variable {K : PySem.W.Frag} {H0 : HE} {F H : Hp} {ρ : En} {A : Nat → Addr} {σ : L2.St} {v : V}
theorem Rep.top {d : D} (e : Le F H) (h : Rep K F v d) : Top K F H v d := by
  cases h with
  | non => exact .non
  | bl b => exact .bl b
  | int i => exact .int i
  | str x => exact .str x
  | adr a => exact .adr a
  | ty n => exact .ty n
  | tup h r => exact .tup h r
  | lst h r => exact ⟨_, _, rfl, e.ls _ _ h, r⟩
  | rol h r => exact .rol h r
  | dct h r => obtain ⟨o, q⟩ := h; exact ⟨_, _, rfl, .inr ⟨o, e.fz _ _ _ q⟩, r⟩
  | ins h r => exact .ins h r
theorem MoAt.top {a : Addr} {m : Mo} (h : MoAt K F H a m) : Top K F H (.ref a) m.view := by
  cases m with
  | l ds => obtain ⟨vs, h1, h2⟩ := h; exact ⟨a, vs, rfl, h1, h2⟩
  | d ds => obtain ⟨vs, h1, h2⟩ := h; exact ⟨a, vs, rfl, Rd.of h1, h2⟩
theorem RAt.top {r : Res} {d : D} {ok : Addr → Prop} (er : ER K H0 F H σ ρ A) (h : RAt K H0 ok F H ρ A v r) (e : view ρ r = some d) : Top K F H v d := by
  cases r with
  | val d' => cases e; exact Rep.top er.le h
  | new m =>
    obtain ⟨p, rfl, _, _, mo, _, _⟩ := h
    cases e
    exact mo.top
  | brw i =>
    obtain ⟨⟨m, hm⟩, rfl⟩ := h
    have e' : (moAt ρ i).map Mo.view = some d := e
    rw [hm] at e'
    cases e'
    exact (er.at hm).2.2.top
/-- through a step: what was borrowed is looked at anew -/
theorem RAt.later {F' H' : Hp} {ρ' : En} {r : Res} {d : D} {ok : Addr → Prop} (er : ER K H0 F' H' σ ρ' A) (h : RAt K H0 ok F H ρ A v r) (tr : Tr (OwnA ρ A) F H F' H') (sb : Sb ρ ρ') (e : view ρ' r = some d) : Top K F' H' v d := by
  cases r with
  | val d' => exact RAt.top (r := .val d') er (RAt.val_step (ρ' := ρ') h tr) e
  | new m => exact RAt.top (r := .new m) er (RAt.new_step h tr sb) e
  | brw i =>
    obtain ⟨_, rfl⟩ := h
    have e' : (moAt ρ' i).map Mo.view = some d := e
    cases hm : moAt ρ' i with
    | none => rw [hm] at e'; cases e'
    | some m =>
      rw [hm] at e'
      cases e'
      exact (er.at hm).2.2.top
end

/-! ### a new thing in the heap -/
section
variable {K : PySem.W.Frag} {H0 : HE} {F H : Hp} {ρ : En} {A : Nat → Addr} {σ : L2.St}
theorem rd_ne {H : Hp} {a p : Addr} {u o : HO} (n : a ≠ p) : Rd (upd H p o) a u ↔ Rd H a u := by
  unfold Rd
  rw [upd_ne n]
theorem rd_there {H : Hp} {a : Addr} {u : HO} (h : Rd H a u) : ∃ o, H a = some o := by
  rcases h with q | ⟨b, q⟩
  · exact ⟨_, q⟩
  · exact ⟨_, q⟩
theorem ne_there {H : Hp} {a p : Addr} {o : HO} (e : H a = some o) (hp : H p = none) : a ≠ p := fun z => by rw [z, hp] at e; cases e
theorem le_new {F H : Hp} {p : Addr} {o : HO} (e : Le F H) (hp : H p = none) : Le F (upd H p o) := by
  refine ⟨fun a u n h => ?_, fun a x h => ?_, fun a xs h => by rw [upd_ne (ne_of_none (e.ls a xs h) hp)]; exact e.ls a xs h, fun a xs h => by rw [upd_ne (ne_of_none (e.xd a xs h) hp)]; exact e.xd a xs h, fun a o u h => by rw [upd_ne (ne_of_none (e.fz a o u h) hp)]; exact e.fz a o u h⟩
  · have q := e.rd a u n h
    obtain ⟨x, hx⟩ := rd_there q
    exact (rd_ne (ne_there hx hp)).mpr q
  · obtain ⟨y, hy⟩ := e.th a x h
    exact ⟨y, by rw [upd_ne (ne_there hy hp)]; exact hy⟩
theorem le_upd {F H : Hp} {p : Addr} {ob : HO} (le : Le F H) (hp : F p = none) : Le F (upd H p ob) := by
  refine ⟨fun a u n z => ?_, fun a x h => ?_, fun a xs z => by rw [upd_ne (ne_there z hp)]; exact le.ls a xs z, fun a xs z => by rw [upd_ne (ne_there z hp)]; exact le.xd a xs z, fun a o u z => by rw [upd_ne (ne_there z hp)]; exact le.fz a o u z⟩
  · obtain ⟨x, hx⟩ := rd_there z
    exact (rd_ne (ne_there hx hp)).mpr (le.rd a u n z)
  · obtain ⟨y, hy⟩ := le.th a x h
    exact ⟨y, by rw [upd_ne (ne_there h hp)]; exact hy⟩
/-- what stands in the heap is frozen -/
theorem le_frz {F H : Hp} {p : Addr} {ob : HO} (e : Le F H) (h : H p = some ob) : Le (upd F p ob) H := by
  refine ⟨fun a u n z => ?_, fun a x z => ?_, fun a xs z => ?_, fun a xs z => ?_, fun a o u z => ?_⟩
  · by_cases ap : a = p
    · subst ap
      rcases z with z | ⟨b, z⟩
      · rw [upd_same] at z; exact .inl (h.trans z)
      · rw [upd_same] at z; exact .inr ⟨b, h.trans z⟩
    · exact e.rd a u n ((rd_ne ap).mp z)
  · by_cases ap : a = p
    · subst ap; exact ⟨_, h⟩
    · rw [upd_ne ap] at z; exact e.th a x z
  · by_cases ap : a = p
    · subst ap; rw [upd_same] at z; exact h.trans z
    · rw [upd_ne ap] at z; exact e.ls a xs z
  · by_cases ap : a = p
    · subst ap; rw [upd_same] at z; exact h.trans z
    · rw [upd_ne ap] at z; exact e.xd a xs z
  · by_cases ap : a = p
    · subst ap; rw [upd_same] at z; exact h.trans z
    · rw [upd_ne ap] at z; exact e.fz a o u z
theorem le_new2 {F H : Hp} {p : Addr} {o : HO} (e : Le F H) (hp : H p = none) : Le (upd F p o) (upd H p o) := le_frz (le_new e hp) upd_same
theorem le_self {F : Hp} {p : Addr} {o : HO} (h : F p = none) : Le F (upd F p o) := le_new (Le.refl F) h
theorem free_F (e : Le F H) {p : Addr} (h : H p = none) : F p = none := by
  cases q : F p with
  | none => rfl
  | some o =>
    obtain ⟨y, z⟩ := e.th p o q
    rw [h] at z; cases z
theorem free_own (er : ER K H0 F H σ ρ A) {p : Addr} (h : H p = none) : ¬ OwnA ρ A p := fun q => by
  obtain ⟨_, o, e⟩ := er.ownThere q
  rw [h] at e; cases e
/-- .. that stays unfrozen -/
theorem ER.laid (er : ER K H0 F H σ ρ A) {p : Addr} {o : HO} (hp : H p = none) : ER K H0 F (upd H p o) σ ρ A := by
  refine ⟨er.len, le_new er.le hp, fun i s e => ?_, er.inj, fun a x e => ?_, tabs_upd er.tabs (.inl hp)⟩
  · have q := er.sl i s e
    have ne : ∀ {m}, MoAt K F H (A i) m → A i ≠ p := fun {m} mo z => by
      obtain ⟨x, hx⟩ := mo.there
      rw [z, hp] at hx; cases hx
    cases s with
    | un => trivial
    | val d => exact q
    | exc C fs => exact q
    | own m => exact ⟨q.1, q.2.1, q.2.2.1.keep (upd_ne (ne q.2.2.1)), q.2.2.2⟩
    | par m => exact ⟨q.1, q.2.1, q.2.2.keep (upd_ne (ne q.2.2))⟩
  · obtain ⟨y, h⟩ := er.dom a x e
    by_cases z : a = p
    · exact ⟨o, by rw [z]; exact upd_same⟩
    · exact ⟨y, by rw [upd_ne z]; exact h⟩
/-- what is frozen grows -/
theorem ER.grow {F' : Hp} (er : ER K H0 F H σ ρ A) (ff : Le F F') (fh : Le F' H) (no : ∀ a, OwnA ρ A a → F' a = none) : ER K H0 F' H σ ρ A := by
  refine ⟨er.len, fh, fun i s e => ?_, er.inj, er.dom, er.tabs⟩
  have q := er.sl i s e
  cases s with
  | un => trivial
  | val d => obtain ⟨v, h1, h2⟩ := q; exact ⟨v, h1, h2.mono ff⟩
  | exc C fs => obtain ⟨a, d, h1, h2, h3⟩ := q; exact ⟨a, d, h1, h2, h3.mono ff⟩
  | own m => exact ⟨q.1, no _ ⟨i, m, by unfold moAt; rw [e]; rfl, rfl⟩, q.2.2.1.mono ff, q.2.2.2⟩
  | par m => exact ⟨q.1, no _ ⟨i, m, by unfold moAt; rw [e]; rfl, rfl⟩, q.2.2.mono ff⟩
/-- .. that is frozen at once -/
theorem ER.laidF (er : ER K H0 F H σ ρ A) {p : Addr} {o : HO} (hp : H p = none) : ER K H0 (upd F p o) (upd H p o) σ ρ A := by
  have fp := free_F er.le hp
  refine (er.laid hp).grow (le_self fp) (le_new2 er.le hp) fun a h => ?_
  have : a ≠ p := fun z => free_own er hp (by rw [← z]; exact h)
  rw [upd_ne this]
  exact (er.ownThere h).1
theorem Tr.laid {S : Addr → Prop} {p : Addr} {o : HO} (hp : H p = none) : Tr S F H F (upd H p o) where
  ff := Le.refl F
  keep := fun a x _ _ e => by rw [upd_ne (ne_of_none e hp)]; exact e
  fresh := fun a x e => .inl ⟨x, e⟩
  there := fun a x e => ⟨x, by rw [upd_ne (ne_of_none e hp)]; exact e⟩
theorem Tr.laidF {S : Addr → Prop} {p : Addr} {o : HO} (fh : Le F H) (hp : H p = none) : Tr S F H (upd F p o) (upd H p o) where
  ff := le_self (free_F fh hp)
  keep := fun a x _ _ e => by rw [upd_ne (ne_of_none e hp)]; exact e
  fresh := fun a x e => by
    by_cases z : a = p
    · rw [z]; exact .inr (.inl hp)
    · rw [upd_ne z] at e; exact .inl ⟨x, e⟩
  there := fun a x e => ⟨x, by rw [upd_ne (ne_of_none e hp)]; exact e⟩
theorem free_0 (er : ER K H0 F H σ ρ A) {p : Addr} (h : H p = none) : H0 p = none := none_back er.dom h
end
section
variable {K : PySem.W.Frag} {H0 : HE} {W : WX} {F H : Hp} {ρ : En} {A : Nat → Addr} {σ : L2.St} {Q : VK}
/-- an outcome: a new tuple -/
theorem WpAt.tup {ok : Addr → Prop} {ds : List D} {vs : List V} {p : Addr} (h : WpAt K H0 W (RAt K H0) ok F ρ A (EM.pure (.val (.tup ds))) σ H Q) (r : Reps K F vs ds) (hp : H p = none) : Q (.ref p) (upd H p (.tup vs)) := by
  obtain ⟨er, kn, o, e, q⟩ := h
  cases e
  refine q (.ref p) (upd F p (.tup vs)) _ (Tr.laidF er.le hp) (er.laidF hp) .refl ?_
  exact Rep.tup (.inl (.inl upd_same)) (r.mono (le_self (free_F er.le hp)))
/-- an outcome: a new list, a new dict -/
theorem WpAt.new {ok : Addr → Prop} {m : Mo} {ob : HO} {p : Addr} (h : WpAt K H0 W (RAt K H0) ok F ρ A (EM.pure (.new m)) σ H Q) (hp : H p = none) (r : MoAt K F (upd H p ob) p m) : Q (.ref p) (upd H p ob) := by
  obtain ⟨er, kn, o, e, q⟩ := h
  cases e
  exact q (.ref p) F _ (Tr.laid hp) (er.laid hp) .refl ⟨p, rfl, free_F er.le hp, free_own er hp, r, free_0 er hp, kn p (.inl hp)⟩
theorem WpAt.lst {ok : Addr → Prop} {ds : List D} {vs : List V} {p : Addr} (h : WpAt K H0 W (RAt K H0) ok F ρ A (EM.pure (.new (.l ds))) σ H Q) (r : Reps K F vs ds) (hp : H p = none) : Q (.ref p) (upd H p (.lst vs)) :=
  h.new hp ⟨vs, upd_same, r⟩
theorem WpAt.dct {ok : Addr → Prop} {ds : List (Key × D)} {vs : List (Key × V)} {p : Addr} (h : WpAt K H0 W (RAt K H0) ok F ρ A (EM.pure (.new (.d ds))) σ H Q) (r : RepK K F vs ds) (hp : H p = none) : Q (.ref p) (upd H p (.dK vs)) :=
  h.new hp ⟨vs, upd_same, r⟩
/-- an outcome: a value that stands -/
theorem WpAt.val {ok : Addr → Prop} {d : D} {v : V} (h : WpAt K H0 W (RAt K H0) ok F ρ A (EM.pure (.val d)) σ H Q) (r : Rep K F v d) : Q v H := h.ret (b := v) r
end
end M

/-! M2: expressions. -/
namespace M
open PySem PySem.Spec PyProof.Rows L2
section
variable {K : PySem.W.Frag} {H0 : HE} {F H : Hp} {σ : L2.St} {ρ : En} {A : Nat → Addr}
/-- what no name holds changes -/
theorem ER.touch {p : Addr} {o : HO} (er : ER K H0 F H σ ρ A) (fp : F p = none) (no : ¬ OwnA ρ A p) (h0 : H0 p = none) (hl : (∃ xs, H p = some (.lst xs)) ∨ ∃ xs, H p = some (.dK xs)) : ER K H0 F (upd H p o) σ ρ A := by
  refine ⟨er.len, le_upd er.le fp, fun i s e => ?_, er.inj, fun a x e => ?_, tabs_upd er.tabs (.inr hl)⟩
  · have q := er.sl i s e
    have ne : ∀ {m}, moAt ρ i = some m → A i ≠ p := fun {m} h z => no ⟨i, m, h, z⟩
    cases s with
    | un => trivial
    | val d => exact q
    | exc C fs => exact q
    | own m => exact ⟨q.1, q.2.1, q.2.2.1.keep (upd_ne (ne (by unfold moAt; rw [e]; rfl))), q.2.2.2⟩
    | par m => exact ⟨q.1, q.2.1, q.2.2.keep (upd_ne (ne (by unfold moAt; rw [e]; rfl)))⟩
  · obtain ⟨y, h⟩ := er.dom a x e
    have : a ≠ p := fun z => by rw [z] at e; rw [h0] at e; cases e
    exact ⟨y, by rw [upd_ne this]; exact h⟩
end

section
variable {X : Cx} {e a b c : Expr} {pos : Pos}
theorem _root_.L2.PE.weak {t t' : TE} (h : PE X e t) (k : ∀ σ H Q, t' σ H Q → t σ H Q) : PE X e t' := ⟨fun pins s σ H Q I q => h.run pins s σ H Q I (k σ H Q q)⟩
theorem _root_.L2.PT.weak {t t' : TT} (h : PT X e t) (k : ∀ σ H Q, t' σ H Q → t σ H Q) : PT X e t' := ⟨fun pins s σ H Q I q => h.run pins s σ H Q I (k σ H Q q)⟩
theorem _root_.L2.PW.weak {t t' : TT} (h : PW X e t) (k : ∀ σ H Q, t' σ H Q → t σ H Q) : PW X e t' := ⟨fun w pins s σ H Q I q => h.run w pins s σ H Q I (k σ H Q q)⟩
theorem _root_.L2.PA.weak {es : List Expr} {t t' : TA} (h : PA X es t) (k : ∀ σ H Q, t' σ H Q → t σ H Q) : PA X es t' := ⟨fun p pins s σ H Q I q => h.run p pins s σ H Q I (k σ H Q q)⟩
theorem _root_.L2.PO.weak {o : Option Expr} {t t' : TO} (h : PO X o t) (k : ∀ σ H Q, t' σ H Q → t σ H Q) : PO X o t' := ⟨fun pins s σ H Q I q => h.run pins s σ H Q I (k σ H Q q)⟩
theorem _root_.L2.PS.weak {st : Stmt} {t t' : TS} (h : PS X st t) (k : ∀ D σ H, t' D σ H → t D σ H) : PS X st t' := ⟨fun pins s σ H D I q => h.run pins s σ H D I (k D σ H q)⟩
theorem _root_.L2.PSs.weak {st : List Stmt} {t t' : TS} (h : PSs X st t) (k : ∀ D σ H, t' D σ H → t D σ H) : PSs X st t' := ⟨fun pins s σ H D I q => h.run pins s σ H D I (k D σ H q)⟩
end

/-! ### mirrors of expressions -/
/-- the data of a result -/
def viewM (r : Res) : EM D := fun ρ => match view ρ r with
  | some d => some (.ok d ρ)
  | none => none
def gVar (i : Nat) : EM Res := fun ρ => match ρ[i]? with
  | some (.val d) => some (.ok (.val d) ρ)
  | some (.own _) => some (.ok (.brw i) ρ)
  | some (.par _) => some (.ok (.brw i) ρ)
  | _ => none
def gC (d : D) : EM Res := EM.pure (.val d)
/-- an owned list leaves its name -/
def gMv (i : Nat) : EM Res := fun ρ => match ρ[i]? with
  | some (.own m) => some (.ok (.new m) (ρ.set i .un))
  | _ => none
/-- a new thing is frozen -/
def gFrz (g : EM Res) : EM Res := g.bind fun r => match r with
  | .val d => EM.pure (.val d)
  | .new m => EM.pure (.val m.view)
  | .brw _ => fun _ => none
def op2 (f : D → D → Option Res) (r1 r2 : Res) : EM Res := fun ρ => match view ρ r1, view ρ r2 with
  | some d1, some d2 => (f d1 d2).map fun r => .ok r ρ
  | _, _ => none
def gOp (f : D → D → Option Res) (ga gb : EM Res) : EM Res := ga.bind fun r1 => gb.bind fun r2 => op2 f r1 r2
def op1 (f : D → Option Res) (r1 : Res) : EM Res := fun ρ => match view ρ r1 with
  | some d1 => (f d1).map fun r => .ok r ρ
  | _ => none
def gUn (f : D → Option Res) (ga : EM Res) : EM Res := ga.bind fun r1 => op1 f r1

section
variable {K : PySem.W.Frag} {H0 : HE} {F H : Hp} {W : WX} {ρ : En} {A : Nat → Addr} {σ : L2.St}
/-- soundness of an operation's reading: what the mirror tells leads to what is asked -/
def Snd1 (K : PySem.W.Frag) (r : V → Hp → VK → Prop) (f : D → Option Res) : Prop :=
  ∀ (H0 : HE) (W : WX) (ok : Addr → Prop) (F H : Hp) (ρ : En) (A : Nat → Addr) (σ : L2.St) (x : V) (d : D) (res : Res) (Q : VK), Top K F H x d → f d = some res → WpAt K H0 W (RAt K H0) ok F ρ A (EM.pure res) σ H Q → r x H Q
def Snd2 (K : PySem.W.Frag) (r : R2) (f : D → D → Option Res) : Prop :=
  ∀ (H0 : HE) (W : WX) (ok : Addr → Prop) (F H : Hp) (ρ : En) (A : Nat → Addr) (σ : L2.St) (x y : V) (d1 d2 : D) (res : Res) (Q : VK), Top K F H x d1 → Top K F H y d2 → f d1 d2 = some res → WpAt K H0 W (RAt K H0) ok F ρ A (EM.pure res) σ H Q → r x y H Q
theorem op1_at {ok : Addr → Prop} {f : D → Option Res} {r1 : Res} {Q : VK} (h : WpAt K H0 W (RAt K H0) ok F ρ A (op1 f r1) σ H Q) : ∃ d res, view ρ r1 = some d ∧ f d = some res ∧ WpAt K H0 W (RAt K H0) ok F ρ A (EM.pure res) σ H Q := by
  obtain ⟨er, kn, o, e, p⟩ := h
  unfold op1 at e
  cases e1 : view ρ r1 with
  | none => rw [e1] at e; cases e
  | some d =>
    rw [e1] at e
    cases e2 : f d with
    | none => simp only [e2, Option.map_none] at e; cases e
    | some res =>
      simp only [e2, Option.map_some] at e
      exact ⟨d, res, rfl, e2, er, kn, o, e, p⟩
theorem op2_at {ok : Addr → Prop} {f : D → D → Option Res} {r1 r2 : Res} {Q : VK} (h : WpAt K H0 W (RAt K H0) ok F ρ A (op2 f r1 r2) σ H Q) :
    ∃ d1 d2 res, view ρ r1 = some d1 ∧ view ρ r2 = some d2 ∧ f d1 d2 = some res ∧ WpAt K H0 W (RAt K H0) ok F ρ A (EM.pure res) σ H Q := by
  obtain ⟨er, kn, o, e, p⟩ := h
  unfold op2 at e
  cases e1 : view ρ r1 with
  | none => rw [e1] at e; cases e
  | some d1 =>
    cases e2 : view ρ r2 with
    | none => rw [e1, e2] at e; cases e
    | some d2 =>
      rw [e1, e2] at e
      cases e3 : f d1 d2 with
      | none => simp only [e3, Option.map_none] at e; cases e
      | some res =>
        simp only [e3, Option.map_some] at e
        exact ⟨d1, d2, res, rfl, rfl, e3, er, kn, o, e, p⟩
/-- the steps of two operands -/
theorem two {f : D → D → Option Res} {ga gb : EM Res} {Q : VK} {R : V → V → Hp → Prop} (h : Wp K H0 W (RAt K H0) (gOp f ga gb) σ H Q)
    (k : ∀ x y ok F2 H2 ρ2 A d1 d2 res, Top K F2 H2 x d1 → Top K F2 H2 y d2 → f d1 d2 = some res → WpAt K H0 W (RAt K H0) ok F2 ρ2 A (EM.pure res) σ H2 Q → R x y H2) :
    Wp K H0 W (RAt K H0) ga σ H fun x H1 => Wp K H0 W (RAt K H0) gb σ H1 fun y H2 => R x y H2 := by
  obtain ⟨F, ρ, A, h⟩ := h
  refine ⟨F, ρ, A, h.bind fun x r1 F1 H1 ρ1 tr1 sb1 ra h1 => ⟨F1, ρ1, A, h1.bind fun y r2 F2 H2 ρ2 tr2 sb2 rb h2 => ?_⟩⟩
  obtain ⟨d1, d2, res, e1, e2, e3, h3⟩ := op2_at h2
  exact k x y _ F2 H2 ρ2 A d1 d2 res (ra.later h3.1 tr2 sb2 e1) (rb.top h3.1 e2) e3 h3
end

section
variable {X : Cx} {H0 : HE} {W : WX} {e a b c : Expr} {pos : Pos}
theorem p_var (i : Nat) {x : Str} (hN : X.N[i]? = some x := by rfl) (hv : Vis X.env.scope x := by first | exact Or.inl rfl | exact Or.inr (Or.inl rfl) | exact Or.inr (Or.inr rfl)) (hd : (x == ("__debug__" : Str)) = false := by decide)
    (hcd : (x == ("__classdict__" : Str)) = false := by decide) : PE X (.Name x pos) (tE X.K H0 W (gVar i)) := by
  refine (pe_var hN hv hd hcd).weak fun σ H Q h => ?_
  obtain ⟨F, ρ, A, er, kn, o, e, p⟩ := h
  unfold gVar at e
  cases q : ρ[i]? with
  | none => rw [q] at e; cases e
  | some s =>
    rw [q] at e
    have so := er.sl i s q
    cases s with
    | un => cases e
    | exc C fs => cases e
    | val d =>
      cases e
      obtain ⟨v, h1, h2⟩ := so
      exact ⟨v, h1, p v F H .refl er .refl h2⟩
    | own m =>
      cases e
      exact ⟨_, so.1, p _ F H .refl er .refl ⟨⟨m, by unfold moAt; rw [q]; rfl⟩, rfl⟩⟩
    | par m =>
      cases e
      exact ⟨_, so.1, p _ F H .refl er .refl ⟨⟨m, by unfold moAt; rw [q]; rfl⟩, rfl⟩⟩
theorem p_mv (i : Nat) {x : Str} (hN : X.N[i]? = some x := by rfl) (hv : Vis X.env.scope x := by first | exact Or.inl rfl | exact Or.inr (Or.inl rfl) | exact Or.inr (Or.inr rfl)) (hd : (x == ("__debug__" : Str)) = false := by decide)
    (hcd : (x == ("__classdict__" : Str)) = false := by decide) : PE X (.Name x pos) (tE X.K H0 W (gMv i)) := by
  refine (pe_var hN hv hd hcd).weak fun σ H Q h => ?_
  obtain ⟨F, ρ, A, er, kn, o, e, p⟩ := h
  unfold gMv at e
  cases q : ρ[i]? with
  | none => rw [q] at e; cases e
  | some s =>
    rw [q] at e
    have so := er.sl i s q
    cases s with
    | un => cases e
    | val d => cases e
    | exc C fs => cases e
    | par m => cases e
    | own m =>
      cases e
      have hi : i < ρ.length := (List.getElem?_eq_some_iff.mp q).1
      have moE : ∀ j, moAt (ρ.set i .un) j = if j = i then none else moAt ρ j := fun j => by
        unfold moAt
        by_cases z : j = i
        · subst z; rw [List.getElem?_set_self hi, if_pos rfl]; rfl
        · rw [List.getElem?_set_ne (Ne.symm z), if_neg z]
      have mi : moAt ρ i = some m := by unfold moAt; rw [q]; rfl
      refine ⟨_, so.1, p _ F H .refl ⟨by simpa using er.len, er.le, fun j s e => ?_, fun j k m1 m2 e1 e2 => ?_, er.dom, er.tabs⟩ ⟨fun j m1 e1 => ?_, fun j m1 e1 => ?_⟩ ⟨_, rfl, so.2.1, fun z => ?_, so.2.2.1, so.2.2.2, .inr ⟨i, m, mi, rfl⟩⟩⟩
      · by_cases z : j = i
        · subst z
          rw [List.getElem?_set_self hi] at e
          cases e
          trivial
        · rw [List.getElem?_set_ne (Ne.symm z)] at e
          exact er.sl j s e
      · rw [moE] at e1 e2
        split at e1
        · cases e1
        · split at e2
          · cases e2
          · exact er.inj j k m1 m2 e1 e2
      · rw [moE] at e1
        split at e1
        · cases e1
        · exact ⟨_, e1⟩
      · by_cases z : j = i
        · subst z; rw [q] at e1; cases e1
        · exact ⟨m1, by rw [List.getElem?_set_ne (Ne.symm z)]; exact e1⟩
      · obtain ⟨j, m1, e1, e2⟩ := z
        rw [moE] at e1
        split at e1
        · cases e1
        · rename_i ne
          exact ne (er.inj j i m1 m e1 mi e2)
/-- behind it what it gave is locked, if it is a dict -/
def tSeal (t : TE) : TE := fun σ H Q => t σ H fun x H1 => (∃ a kvs, x = .ref a ∧ H1 a = some (.dK kvs) ∧ ∀ od, Q x (upd H1 a (.frz od (.dK kvs)))) ∨ Q x H1
theorem pe_seal {t : TE} (h : PE X e t) : PE X e (tSeal t) := by
  refine ⟨fun pins s σ H Q I hw => ?_⟩
  refine thn (h.run pins s σ H _ I hw) fun v s1 ⟨x, H1, I1, r, q⟩ => ?_
  rcases q with ⟨a, kvs, rfl, hd, q⟩ | q
  · obtain ⟨od, I2⟩ := I1.lock hd trivial
    exact ⟨_, _, I2, r, q od⟩
  · exact ⟨_, _, I1, r, q⟩
theorem p_frz {g : EM Res} (h : PE X e (tE X.K H0 W g)) : PE X e (tE X.K H0 W (gFrz g)) := by
  refine (pe_seal h).weak fun σ H Q q => ?_
  obtain ⟨F, ρ, A, er, kn, o, e, p⟩ := q
  unfold gFrz EM.bind at e
  refine ⟨F, ρ, A, er, kn, ?_⟩
  cases eg : g ρ with
  | none => rw [eg] at e; cases e
  | some og =>
    rw [eg] at e
    cases og with
    | ex C fs ρ1 => cases e; exact ⟨_, rfl, p⟩
    | ok r ρ1 =>
      refine ⟨_, rfl, fun v F1 H1 tr er1 sb ra => ?_⟩
      cases r with
      | val d => cases e; exact .inr (p v F1 H1 tr er1 sb ra)
      | brw i => cases e
      | new m =>
        cases e
        obtain ⟨pp, rfl, fp, no, mo, h0, hok⟩ := ra
        cases m with
        | l ds =>
          obtain ⟨ob, hob⟩ := mo.there
          have ff : Le F1 (upd F1 pp ob) := le_self fp
          have fh : Le (upd F1 pp ob) H1 := le_frz er1.le hob
          refine .inr (p _ (upd F1 pp ob) H1 ⟨tr.ff.trans ff, tr.keep, fun a x z => ?_, tr.there⟩ (er1.grow ff fh fun a z => ?_) sb ?_)
          · by_cases ap : a = pp
            · subst ap; exact .inr hok
            · rw [upd_ne ap] at z; exact tr.fresh a x z
          · rw [upd_ne (fun q => no (by rw [← q]; exact z))]
            exact (er1.ownThere z).1
          · obtain ⟨vs, h1, h2⟩ := mo; rw [hob] at h1; cases h1; exact Rep.lst upd_same (h2.mono ff)
        | d ds =>
          obtain ⟨vs, h1, h2⟩ := mo
          refine .inl ⟨pp, vs, rfl, h1, fun od => ?_⟩
          have ff : Le F1 (upd F1 pp (.frz od (.dK vs))) := le_self fp
          have er2 := er1.touch (o := .frz od (.dK vs)) fp no h0 (.inr ⟨vs, h1⟩)
          have fh : Le (upd F1 pp (.frz od (.dK vs))) (upd H1 pp (.frz od (.dK vs))) := le_frz er2.le upd_same
          refine p _ (upd F1 pp (.frz od (.dK vs))) (upd H1 pp (.frz od (.dK vs))) ⟨tr.ff.trans ff, fun a x n nt z => ?_, fun a x z => ?_, fun a x z => ?_⟩ (er2.grow ff fh fun a z => ?_) sb ?_
          · rw [upd_ne (fun q => ?_)]
            · exact tr.keep a x n nt z
            · subst q
              rcases hok with q | q
              · rw [q] at z; cases z
              · exact n q
          · by_cases ap : a = pp
            · subst ap; exact .inr hok
            · rw [upd_ne ap] at z; exact tr.fresh a x z
          · by_cases ap : a = pp
            · subst ap; exact ⟨_, upd_same⟩
            · rw [upd_ne ap]; exact tr.there a x z
          · rw [upd_ne (fun q => no (by rw [← q]; exact z))]
            exact (er1.ownThere z).1
          · exact Rep.dct ⟨od, upd_same⟩ (h2.mono ff)
end
end M

/-! M3: operations on data. -/
namespace M
open PySem PySem.Spec PyProof.Rows L2

abbrev rv (d : D) : Option Res := some (.val d)
/-! ### + -/
def fAdd : D → D → Option Res
  | .int i, .int j => rv (.int (i + j))
  | .str a, .str b => if a.length + b.length ≤ sizeLine then rv (.str (a ++ b)) else none
  | .tup a, .tup b => if a.length + b.length ≤ sizeLine then rv (.tup (a ++ b)) else none
  | .lst a, .lst b => if a.length + b.length ≤ sizeLine then some (.new (.l (a ++ b))) else none
  | _, _ => none
def rAddA (K : PySem.W.Frag) : R2 := fun x y H Q => (rI0 fun i j => .int (i + j)) x y H Q ∨ (∃ i j, x = .str i ∧ y = .str j ∧ i.length + j.length ≤ sizeLine ∧ Q (.str (i ++ j)) H) ∨ rCatA K x y H Q ∨ rCat x y H Q
theorem o_add {X : Cx} : OpR X (binaryOp .Add) (rAddA X.K) := (op_add).or ((op_add_str).or ((op_catA).or op_cat))
theorem top_int {K : PySem.W.Frag} {F H : Hp} {x : V} {i : Int} (h : Top K F H x (.int i)) : x = .int i := by cases h; rfl
theorem top_str {K : PySem.W.Frag} {F H : Hp} {x : V} {i : Str} (h : Top K F H x (.str i)) : x = .str i := by cases h; rfl
theorem top_bl {K : PySem.W.Frag} {F H : Hp} {x : V} {i : Bool} (h : Top K F H x (.bl i)) : x = .bl i := by cases h; rfl
theorem top_non {K : PySem.W.Frag} {F H : Hp} {x : V} (h : Top K F H x .non) : x = .non := by cases h; rfl
theorem top_tup {K : PySem.W.Frag} {F H : Hp} {x : V} {ds : List D} (h : Top K F H x (.tup ds)) : ∃ a xs, x = .ref a ∧ SqT K F a xs ∧ Reps K F xs ds := by
  cases h with
  | tup h r => exact ⟨_, _, rfl, h, r⟩
theorem top_rol {K : PySem.W.Frag} {F H : Hp} {x : V} {ds : List D} (h : Top K F H x (.rol ds)) : ∃ a xs, x = .ref a ∧ SqL K F a xs ∧ Reps K F xs ds := by
  cases h with
  | rol h r => exact ⟨_, _, rfl, h, r⟩
theorem top_ins {K : PySem.W.Frag} {F H : Hp} {x : V} {C : Addr} {ds : List (Str × D)} (h : Top K F H x (.ins C ds)) : ∃ a dx xs, x = .ref a ∧ Rd F a (.ins C dx xs) ∧ RepF K F xs ds := by
  cases h with
  | ins h r => exact ⟨_, _, _, rfl, h, r⟩
theorem ite_some' {α : Type} {c : Prop} [Decidable c] {x : Option α} {z : α} (h : (if c then x else none) = some z) : c ∧ x = some z := by
  by_cases q : c
  · rw [if_pos q] at h; exact ⟨q, h⟩
  · rw [if_neg q] at h; cases h
theorem s_add {K : PySem.W.Frag} : Snd2 K (rAddA K) fAdd := by
  intro H0 W ok F H ρ A σ x y d1 d2 res Q t1 t2 e h
  unfold fAdd at e
  split at e
  · cases e
    cases top_int t1; cases top_int t2
    exact .inl ⟨_, _, rfl, rfl, h.val (.int _)⟩
  · obtain ⟨c, e⟩ := ite_some' e
    cases e
    cases top_str t1; cases top_str t2
    exact .inr (.inl ⟨_, _, rfl, rfl, c, h.val (.str _)⟩)
  · obtain ⟨c, e⟩ := ite_some' e
    cases e
    obtain ⟨a, xs, rfl, s1, r1⟩ := top_tup t1
    obtain ⟨b, ys, rfl, s2, r2⟩ := top_tup t2
    have le := h.1.le
    refine .inr (.inr (.inl ⟨a, b, xs, ys, rfl, rfl, le_t le s1, le_t le s2, by rw [r1.length, r2.length]; exact c, fun z => ?_, fun _ z => ?_, fun _ _ p hp => h.tup (r1.append r2) hp⟩))
    · subst z
      cases r1
      exact h.val (.tup s2 r2)
    · subst z
      cases r2
      refine h.val ?_
      rw [List.append_nil]
      exact .tup s1 r1
  · obtain ⟨c, e⟩ := ite_some' e
    cases e
    obtain ⟨a, xs, rfl, s1, r1⟩ := t1
    obtain ⟨b, ys, rfl, s2, r2⟩ := t2
    exact .inr (.inr (.inr ⟨a, b, xs, ys, rfl, rfl, s1, s2, by rw [r1.length, r2.length]; exact c, fun p hp => h.lst (r1.append r2) hp⟩))
  · cases e

section
variable {X : Cx} {H0 : HE} {W : WX} {a b c : Expr} {pos : Pos} {ga gb gc : EM Res}
theorem p_op {op : Operator} {r : R2} {f : D → D → Option Res} (ho : OpR X (binaryOp op) r) (hs : Snd2 X.K r f) (ha : PE X a (tE X.K H0 W ga)) (hb : PE X b (tE X.K H0 W gb)) : PE X (.BinOp a op b pos) (tE X.K H0 W (gOp f ga gb)) :=
  (pe_op ho ha hb).weak fun σ H Q h => two h fun x y ok F2 H2 ρ2 A d1 d2 res t1 t2 e q => hs H0 W ok F2 H2 ρ2 A σ x y d1 d2 res Q t1 t2 e q
theorem p_cmp {op : CmpOp} {r : R2} {f : D → D → Option Res} (ho : OpR X (compareOp op) r) (hs : Snd2 X.K r f) (ha : PE X a (tE X.K H0 W ga)) (hb : PE X b (tE X.K H0 W gb)) (hm : behindInMarks op b = false) : PE X (.Compare a [op] [b] pos) (tE X.K H0 W (gOp f ga gb)) :=
  (pe_cmpR ho ha hb hm).weak fun σ H Q h => two h fun x y ok F2 H2 ρ2 A d1 d2 res t1 t2 e q => hs H0 W ok F2 H2 ρ2 A σ x y d1 d2 res Q t1 t2 e q
theorem p_un {op : UnaryOp} {r : V → Hp → VK → Prop} {f : D → Option Res} (ho : UnR X (unaryOp op) r) (hs : Snd1 X.K r f) (ha : PE X a (tE X.K H0 W ga)) : PE X (.UnaryOp op a pos) (tE X.K H0 W (gUn f ga)) :=
  (pe_un ho ha).weak fun σ H Q h => by
    obtain ⟨F, ρ, A, h⟩ := h
    refine ⟨F, ρ, A, h.bind fun x r1 F1 H1 ρ1 tr sb ra h1 => ?_⟩
    obtain ⟨d, res, e1, e2, h2⟩ := op1_at h1
    exact hs H0 W _ F1 H1 ρ1 A σ x d res Q (ra.top h2.1 e1) e2 h2
theorem p_add (ha : PE X a (tE X.K H0 W ga)) (hb : PE X b (tE X.K H0 W gb)) : PE X (.BinOp a .Add b pos) (tE X.K H0 W (gOp fAdd ga gb)) := p_op o_add s_add ha hb
theorem p_int {i j} : PE X (.Constant (.int i) j pos) (tE X.K H0 W (gC (.int i))) := pe_int.weak fun σ H Q h => by obtain ⟨F, ρ, A, h⟩ := h; exact h.val (.int i)
theorem p_str {i j} : PE X (.Constant (.str i) j pos) (tE X.K H0 W (gC (.str i))) := pe_str.weak fun σ H Q h => by obtain ⟨F, ρ, A, h⟩ := h; exact h.val (.str i)
theorem p_bl {i j} : PE X (.Constant (.bool i) j pos) (tE X.K H0 W (gC (.bl i))) := pe_bl.weak fun σ H Q h => by obtain ⟨F, ρ, A, h⟩ := h; exact h.val (.bl i)
theorem p_non {j} : PE X (.Constant .none j pos) (tE X.K H0 W (gC .non)) := pe_non.weak fun σ H Q h => by obtain ⟨F, ρ, A, h⟩ := h; exact h.val .non
end

/-! ### - * // % ** -/
def fSub : D → D → Option Res
  | .int i, .int j => rv (.int (i - j))
  | _, _ => none
theorem s_sub {K : PySem.W.Frag} : Snd2 K (rI0 fun i j => .int (i - j)) fSub := by
  intro H0 W ok F H ρ A σ x y d1 d2 res Q t1 t2 e h
  unfold fSub at e
  split at e
  · cases e
    cases top_int t1; cases top_int t2
    exact ⟨_, _, rfl, rfl, h.val (.int _)⟩
  · cases e
/-- a product: within a million bits -/
def fMul : D → D → Option Res
  | .int i, .int j => if i.natAbs.log2 + j.natAbs.log2 < 1000000 then rv (.int (i * j)) else none
  | .tup ds, .int k => if ds ≠ [] ∧ 2 ≤ k ∧ k ≤ 1000 ∧ ds.length ≤ 1000 then rv (.tup (List.replicate k.toNat ds).flatten) else none
  | .lst ds, .int k => if -(2 ^ 63) ≤ k ∧ k < 2 ^ 63 ∧ ds.length * k.toNat ≤ sizeLine then some (.new (.l (List.replicate k.toNat ds).flatten)) else none
  | _, _ => none
def rMulA (K : PySem.W.Frag) : R2 := fun x y H Q => rI CMulW (fun i j => .int (i * j)) x y H Q ∨ rRepT K x y H Q ∨ rRep x y H Q
theorem o_mul {X : Cx} : OpR X (binaryOp .Mult) (rMulA X.K) := (op_mulW).or ((op_repT).or op_rep)
theorem Reps.ne_nil {K : PySem.W.Frag} {F : Hp} {xs : List V} {ds : List D} (r : Reps K F xs ds) (h : ds ≠ []) : xs ≠ [] := fun z => by subst z; cases r; exact h rfl
theorem s_mul {K : PySem.W.Frag} : Snd2 K (rMulA K) fMul := by
  intro H0 W ok F H ρ A σ x y d1 d2 res Q t1 t2 e h
  unfold fMul at e
  split at e
  · obtain ⟨c, e⟩ := ite_some' e
    cases e
    cases top_int t1; cases top_int t2
    exact .inl ⟨_, _, rfl, rfl, c, h.val (.int _)⟩
  · obtain ⟨⟨c1, c2, c3, c4⟩, e⟩ := ite_some' e
    cases e
    obtain ⟨a, xs, rfl, s1, r1⟩ := top_tup t1
    cases top_int t2
    exact .inr (.inl ⟨a, _, xs, rfl, rfl, le_t h.1.le s1, r1.ne_nil c1, c2, c3, by rw [r1.length]; exact c4, fun p hp => h.tup r1.flat hp⟩)
  · obtain ⟨⟨c1, c2, c3⟩, e⟩ := ite_some' e
    cases e
    obtain ⟨a, xs, rfl, s1, r1⟩ := t1
    cases top_int t2
    exact .inr (.inr ⟨a, _, xs, rfl, rfl, s1, c1, c2, by rw [r1.length]; exact c3, fun p hp => h.lst r1.flat hp⟩)
  · cases e
def fFdiv : D → D → Option Res
  | .int i, .int j => if 0 < j ∧ j.natAbs.log2 < 9000 then rv (.int (i / j)) else none
  | _, _ => none
theorem s_fdiv {K : PySem.W.Frag} : Snd2 K (rI CDivW fun i j => .int (i / j)) fFdiv := by
  intro H0 W ok F H ρ A σ x y d1 d2 res Q t1 t2 e h
  unfold fFdiv at e
  split at e
  · obtain ⟨c, e⟩ := ite_some' e
    cases e
    cases top_int t1; cases top_int t2
    exact ⟨_, _, rfl, rfl, c, h.val (.int _)⟩
  · cases e
def fMod : D → D → Option Res
  | .int i, .int j => if 0 < j then rv (.int (i % j)) else none
  | _, _ => none
theorem s_mod {K : PySem.W.Frag} : Snd2 K (rI (fun _ j => 0 < j) fun i j => .int (i % j)) fMod := by
  intro H0 W ok F H ρ A σ x y d1 d2 res Q t1 t2 e h
  unfold fMod at e
  split at e
  · obtain ⟨c, e⟩ := ite_some' e
    cases e
    cases top_int t1; cases top_int t2
    exact ⟨_, _, rfl, rfl, c, h.val (.int _)⟩
  · cases e
def fPow : D → D → Option Res
  | .int i, .int j => if 0 ≤ j ∧ j ≤ 1000000 ∧ i.natAbs < 2 ^ 64 then rv (.int (i ^ j.toNat)) else none
  | _, _ => none
theorem s_pow {K : PySem.W.Frag} : Snd2 K (rI CPow fun i j => .int (i ^ j.toNat)) fPow := by
  intro H0 W ok F H ρ A σ x y d1 d2 res Q t1 t2 e h
  unfold fPow at e
  split at e
  · obtain ⟨c, e⟩ := ite_some' e
    cases e
    cases top_int t1; cases top_int t2
    exact ⟨_, _, rfl, rfl, c, h.val (.int _)⟩
  · cases e
def fNeg : D → Option Res
  | .int i => rv (.int (-i))
  | _ => none
theorem s_neg {K : PySem.W.Frag} : Snd1 K (rU fun i => .int (-i)) fNeg := by
  intro H0 W ok F H ρ A σ x d res Q t e h
  unfold fNeg at e
  split at e
  · cases e
    cases top_int t
    exact ⟨_, rfl, h.val (.int _)⟩
  · cases e

/-! ### order -/
def fLt : D → D → Option Res
  | .int i, .int j => rv (.bl (decide (i < j)))
  | .str a, .str b => rv (.bl (decide (a.cps.toList < b.cps.toList)))
  | _, _ => none
def rLtA : R2 := fun x y H Q => (rI0 fun i j => .bl (decide (i < j))) x y H Q ∨ (∃ i j, x = .str i ∧ y = .str j ∧ Q (.bl (decide (i.cps.toList < j.cps.toList))) H)
theorem o_lt {X : Cx} : OpR X (compareOp .Lt) rLtA := (op_lt).or op_lt_str
theorem s_lt {K : PySem.W.Frag} : Snd2 K rLtA fLt := by
  intro H0 W ok F H ρ A σ x y d1 d2 res Q t1 t2 e h
  unfold fLt at e
  split at e
  · cases e
    cases top_int t1; cases top_int t2
    exact .inl ⟨_, _, rfl, rfl, h.val (.bl _)⟩
  · cases e
    cases top_str t1; cases top_str t2
    exact .inr ⟨_, _, rfl, rfl, h.val (.bl _)⟩
  · cases e
def fII (p : Int → Int → Bool) : D → D → Option Res
  | .int i, .int j => rv (.bl (p i j))
  | _, _ => none
theorem s_ii {K : PySem.W.Frag} {p : Int → Int → Bool} : Snd2 K (rI0 fun i j => .bl (p i j)) (fII p) := by
  intro H0 W ok F H ρ A σ x y d1 d2 res Q t1 t2 e h
  unfold fII at e
  split at e
  · cases e
    cases top_int t1; cases top_int t2
    exact ⟨_, _, rfl, rfl, h.val (.bl _)⟩
  · cases e
abbrev fLe := fII fun i j => decide (i ≤ j)
abbrev fGt := fII fun i j => decide (j < i)
abbrev fGe := fII fun i j => decide (j ≤ i)

/-! ### is None -/
def fIsN (neg : Bool) : D → D → Option Res
  | .non, .non => rv (.bl (!neg))
  | _, .non => rv (.bl neg)
  | _, _ => none
theorem top_ne_non {K : PySem.W.Frag} {F H : Hp} {x : V} {d : D} (h : Top K F H x d) (n : d ≠ .non) : x ≠ .non := by
  rintro rfl
  cases d with
  | lst ds => obtain ⟨a, xs, e, _⟩ := h; cases e
  | dct ds => obtain ⟨a, xs, e, _⟩ := h; cases e
  | non => exact n rfl
  | _ => cases h
theorem s_isN {K : PySem.W.Frag} : Snd2 K (fun x y H Q => y = .non ∧ Q (.bl (decide (x = .non))) H) (fIsN false) := by
  intro H0 W ok F H ρ A σ x y d1 d2 res Q t1 t2 e h
  unfold fIsN at e
  split at e
  · cases e
    cases top_non t1; cases top_non t2
    exact ⟨rfl, h.val (.bl _)⟩
  · rename_i n
    cases e
    cases top_non t2
    refine ⟨rfl, ?_⟩
    rw [decide_eq_false (top_ne_non t1 n)]
    exact h.val (.bl _)
  · cases e
theorem s_notN {K : PySem.W.Frag} : Snd2 K (fun x y H Q => y = .non ∧ Q (.bl (!decide (x = .non))) H) (fIsN true) := by
  intro H0 W ok F H ρ A σ x y d1 d2 res Q t1 t2 e h
  unfold fIsN at e
  split at e
  · cases e
    cases top_non t1; cases top_non t2
    exact ⟨rfl, h.val (.bl _)⟩
  · rename_i n
    cases e
    cases top_non t2
    refine ⟨rfl, ?_⟩
    rw [decide_eq_false (top_ne_non t1 n)]
    exact h.val (.bl _)
  · cases e

/-! ### truth -/
def tru : D → Option Bool
  | .non => some false
  | .bl b => some b
  | .int i => some (i != 0)
  | .str x => if x.length ≤ sizeLine then some ((x.length : Int) != 0) else none
  | .tup ds => some !ds.isEmpty
  | .lst ds => some !ds.isEmpty
  | .rol ds => some !ds.isEmpty
  | _ => none
theorem Reps.isEmpty {K : PySem.W.Frag} {F : Hp} {xs : List V} {ds : List D} (r : Reps K F xs ds) : xs.isEmpty = ds.isEmpty := by cases r <;> rfl
theorem RepK.isEmpty {K : PySem.W.Frag} {F : Hp} {xs : List (Key × V)} {ds : List (Key × D)} (r : RepK K F xs ds) : xs.isEmpty = ds.isEmpty := by cases r <;> rfl

theorem s_tru {K : PySem.W.Frag} {F H : Hp} {x : V} {d : D} {k : Bool} (le : Le F H) (t : Top K F H x d) (e : tru d = some k) : TruV K x H k := by
  unfold tru at e
  split at e
  · cases e; cases top_non t; exact rfl
  · cases e; cases top_bl t; exact rfl
  · cases e; cases top_int t; exact rfl
  · obtain ⟨c, e⟩ := ite_some' e
    cases e; cases top_str t; exact ⟨c, rfl⟩
  · cases e
    obtain ⟨a, xs, rfl, s1, r1⟩ := top_tup t
    exact .inr (.inl ⟨xs, le_t le s1, by rw [r1.isEmpty]⟩)
  · cases e
    obtain ⟨a, xs, rfl, s1, r1⟩ := t
    exact .inl ⟨xs, SqL.of s1, by rw [r1.isEmpty]⟩
  · cases e
    obtain ⟨a, xs, rfl, s1, r1⟩ := top_rol t
    exact .inl ⟨xs, le_l le s1, by rw [r1.isEmpty]⟩
  · cases e
def truM (r : Res) : EM Bool := fun ρ => match view ρ r with
  | some d => (tru d).map fun k => .ok k ρ
  | none => none
section
variable {K : PySem.W.Frag} {H0 : HE} {F H : Hp} {W : WX} {ρ : En} {A : Nat → Addr} {σ : L2.St} {α β : Type} {R : (Addr → Prop) → Hp → Hp → En → (Nat → Addr) → β → α → Prop}
/-- the truth of a result, then -/
theorem truM_at {r : Res} {f : Bool → EM α} {Q : β → Hp → Prop} {v : V} {ok okr : Addr → Prop} (h : WpAt K H0 W R okr F ρ A ((truM r).bind f) σ H Q) (ra : RAt K H0 ok F H ρ A v r) : ∃ k, TruV K v H k ∧ WpAt K H0 W R okr F ρ A (f k) σ H Q := by
  obtain ⟨er, kn, o, e, p⟩ := h
  unfold EM.bind truM at e
  cases e1 : view ρ r with
  | none => rw [e1] at e; cases e
  | some d =>
    rw [e1] at e
    cases e2 : tru d with
    | none => simp only [e2, Option.map_none] at e; cases e
    | some k =>
      simp only [e2, Option.map_some] at e
      exact ⟨k, s_tru er.le (ra.top er e1) e2, er, kn, o, e, p⟩
end
/-! ### tests -/
def gTru (g : EM Res) : EM Bool := g.bind fun r => (truM r).bind EM.pure
def gAnd (a b : EM Bool) : EM Bool := a.bind fun c => if c = true then b else EM.pure false
def gOr (a b : EM Bool) : EM Bool := a.bind fun c => if c = true then EM.pure true else b
def gNot (a : EM Bool) : EM Bool := a.bind fun c => EM.pure (!c)
def gIf (c : EM Bool) (a b : EM Res) : EM Res := c.bind fun k => if k = true then a else b
/-- a result that is no new thing -/
def stays (r : Res) : EM Res := match r with
  | .new _ => fun _ => none
  | r => EM.pure r
def gAndV (a b : EM Res) : EM Res := a.bind fun r => (truM r).bind fun k => if k = true then b else stays r
def gOrV (a b : EM Res) : EM Res := a.bind fun r => (truM r).bind fun k => if k = true then stays r else b
def gNotV (a : EM Res) : EM Res := a.bind fun r => (truM r).bind fun k => EM.pure (.val (.bl (!k)))
section
variable {X : Cx} {H0 : HE} {W : WX} {e a b c : Expr} {rest : List Expr} {pos : Pos} {ga gb : EM Res} {gc ta tb : EM Bool}
theorem p_tru (ha : PE X a (tE X.K H0 W ga)) (he : ∀ whole, isTrue a X.env whole = (do let v ← whole; standAt a.pos; holding [v] (truthy v)) := by intro _; rfl) : PT X a (tT X.K H0 W (gTru ga)) :=
  (pt_truth ha he).weak fun σ H Q h => by
    obtain ⟨F, ρ, A, h⟩ := h
    refine ⟨F, ρ, A, h.bind fun x r F1 H1 ρ1 tr sb ra h1 => ?_⟩
    obtain ⟨k, t, h2⟩ := truM_at h1 ra
    exact ⟨k, t, h2.ret rfl⟩
/-- a comparison's value as a test -/
def gBl (g : EM Res) : EM Bool := g.bind fun r => match r with
  | .val (.bl k) => EM.pure k
  | _ => fun _ => none
theorem bl_at {K : PySem.W.Frag} {F H : Hp} {ρ : En} {A : Nat → Addr} {σ : L2.St} {ok okr : Addr → Prop} {Q : Bool → Hp → Prop} {x : V} {r : Res} (ra : RAt K H0 ok F H ρ A x r)
    (h1 : WpAt K H0 W (fun _ _ _ _ _ b a => b = a) okr F ρ A (match r with | .val (.bl k) => EM.pure k | _ => fun _ => none) σ H Q) : ∃ k, x = .bl k ∧ Q k H := by
  split at h1
  · cases ra
    exact ⟨_, rfl, h1.ret rfl⟩
  · obtain ⟨_, _, _, e, _⟩ := h1; cases e
theorem p_tcmp {op : CmpOp} {r : R2} {f : D → D → Option Res} (ho : OpR X (compareOp op) r) (hs : Snd2 X.K r f) (ha : PE X a (tE X.K H0 W ga)) (hb : PE X b (tE X.K H0 W gb)) (hm : behindInMarks op b = false) : PT X (.Compare a [op] [b] pos) (tT X.K H0 W (gBl (gOp f ga gb))) :=
  (pt_cmpR ho ha hb hm).weak fun σ H Q h => by
    obtain ⟨F, ρ, A, h⟩ := h
    have h' : Wp X.K H0 W (RAt X.K H0) (gOp f ga gb) σ H fun x H' => ∃ k, x = .bl k ∧ Q k H' := ⟨F, ρ, A, h.bind fun x r F1 H1 ρ1 tr sb ra h1 => bl_at ra h1⟩
    exact two h' fun x y ok F2 H2 ρ2 A d1 d2 res t1 t2 e q => hs H0 W ok F2 H2 ρ2 A σ x y d1 d2 res _ t1 t2 e q
theorem w_and1 (ha : PT X a (tT X.K H0 W ta)) : PW X (.BoolOp .And [a] pos) (tT X.K H0 W ta) := pw_and1 ha
theorem w_or1 (ha : PT X a (tT X.K H0 W ta)) : PW X (.BoolOp .Or [a] pos) (tT X.K H0 W ta) := pw_or1 ha
theorem w_and (ha : PT X a (tT X.K H0 W ta)) (hb : PW X (.BoolOp .And (b :: rest) pos) (tT X.K H0 W tb)) : PW X (.BoolOp .And (a :: b :: rest) pos) (tT X.K H0 W (gAnd ta tb)) :=
  (pw_and ha hb).weak fun σ H Q h => by
    obtain ⟨F, ρ, A, h⟩ := h
    refine ⟨F, ρ, A, h.bind fun k k' F1 H1 ρ1 tr sb ra h1 => ?_⟩
    subst ra
    cases k with
    | true => exact h1.own (by first | exact mono_rat | exact mono_eq)
    | false => exact h1.ret (b := false) rfl
theorem w_or (ha : PT X a (tT X.K H0 W ta)) (hb : PW X (.BoolOp .Or (b :: rest) pos) (tT X.K H0 W tb)) : PW X (.BoolOp .Or (a :: b :: rest) pos) (tT X.K H0 W (gOr ta tb)) :=
  (pw_or ha hb).weak fun σ H Q h => by
    obtain ⟨F, ρ, A, h⟩ := h
    refine ⟨F, ρ, A, h.bind fun k k' F1 H1 ρ1 tr sb ra h1 => ?_⟩
    subst ra
    cases k with
    | true => exact h1.ret (b := true) rfl
    | false => exact h1.own (by first | exact mono_rat | exact mono_eq)
theorem t_not (ha : PT X a (tT X.K H0 W ta)) : PT X (.UnaryOp .Not a pos) (tT X.K H0 W (gNot ta)) :=
  (pt_not ha).weak fun σ H Q h => by
    obtain ⟨F, ρ, A, h⟩ := h
    refine ⟨F, ρ, A, h.bind fun k k' F1 H1 ρ1 tr sb ra h1 => ?_⟩
    subst ra
    exact h1.ret rfl
theorem p_if (hc : PT X c (tT X.K H0 W gc)) (ha : PE X a (tE X.K H0 W ga)) (hb : PE X b (tE X.K H0 W gb)) : PE X (.IfExp c a b pos) (tE X.K H0 W (gIf gc ga gb)) :=
  (pe_ifExp hc ha hb).weak fun σ H Q h => by
    obtain ⟨F, ρ, A, h⟩ := h
    refine ⟨F, ρ, A, h.bind fun k k' F1 H1 ρ1 tr sb ra h1 => ?_⟩
    subst ra
    cases k with
    | true => rw [if_pos rfl] at h1 ⊢; exact h1.own (by first | exact mono_rat | exact mono_eq)
    | false => rw [if_neg Bool.false_ne_true] at h1 ⊢; exact h1.own (by first | exact mono_rat | exact mono_eq)
/-- the outcome is the result that stands -/
theorem stays_at {K : PySem.W.Frag} {F H : Hp} {ρ : En} {A : Nat → Addr} {σ : L2.St} {r : Res} {v : V} {Q : VK} {S ok : Addr → Prop} (h : WpAt K H0 W (RAt K H0) ok F ρ A (stays r) σ H Q) (ra : RAt K H0 S F H ρ A v r) : Q v H := by
  cases r with
  | val d => exact h.ret (b := v) ra
  | brw i => exact h.ret (b := v) ra
  | new m => obtain ⟨_, _, _, e, _⟩ := h; cases e
theorem p_and1 (ha : PE X a (tE X.K H0 W ga)) : PE X (.BoolOp .And [a] pos) (tE X.K H0 W ga) := pe_one ha
theorem p_or1 (ha : PE X a (tE X.K H0 W ga)) : PE X (.BoolOp .Or [a] pos) (tE X.K H0 W ga) := pe_one ha
theorem p_and (ha : PE X a (tE X.K H0 W ga)) (hb : PE X (.BoolOp .And (b :: rest) pos) (tE X.K H0 W gb)) : PE X (.BoolOp .And (a :: b :: rest) pos) (tE X.K H0 W (gAndV ga gb)) :=
  (pe_andT ha hb).weak fun σ H Q h => by
    obtain ⟨F, ρ, A, h⟩ := h
    refine ⟨F, ρ, A, h.bind fun x r F1 H1 ρ1 tr sb ra h1 => ?_⟩
    obtain ⟨k, t, h2⟩ := truM_at h1 ra
    refine ⟨k, t, ?_⟩
    cases k with
    | true => rw [if_pos rfl] at h2 ⊢; exact h2.own mono_rat
    | false => rw [if_neg Bool.false_ne_true] at h2 ⊢; exact stays_at h2 ra
theorem p_or (ha : PE X a (tE X.K H0 W ga)) (hb : PE X (.BoolOp .Or (b :: rest) pos) (tE X.K H0 W gb)) : PE X (.BoolOp .Or (a :: b :: rest) pos) (tE X.K H0 W (gOrV ga gb)) :=
  (pe_orT ha hb).weak fun σ H Q h => by
    obtain ⟨F, ρ, A, h⟩ := h
    refine ⟨F, ρ, A, h.bind fun x r F1 H1 ρ1 tr sb ra h1 => ?_⟩
    obtain ⟨k, t, h2⟩ := truM_at h1 ra
    refine ⟨k, t, ?_⟩
    cases k with
    | true => rw [if_pos rfl] at h2 ⊢; exact stays_at h2 ra
    | false => rw [if_neg Bool.false_ne_true] at h2 ⊢; exact h2.own mono_rat
theorem p_not (ha : PE X a (tE X.K H0 W ga)) : PE X (.UnaryOp .Not a pos) (tE X.K H0 W (gNotV ga)) :=
  (pe_notT ha).weak fun σ H Q h => by
    obtain ⟨F, ρ, A, h⟩ := h
    refine ⟨F, ρ, A, h.bind fun x r F1 H1 ρ1 tr sb ra h1 => ?_⟩
    obtain ⟨k, t, h2⟩ := truM_at h1 ra
    exact ⟨k, t, h2.val (.bl _)⟩
end
end M

/-! M4: argument lists, displays, calls of builtins, subscripts, slices. -/
namespace M
open PySem PySem.Spec PyProof.Rows L2

/-! ### argument lists -/
def aliveR (ρ : En) : Res → Bool
  | .brw i => (moAt ρ i).isSome
  | _ => true
def gNil : EM (List Res) := EM.pure []
def consM (r : Res) (rs : List Res) : EM (List Res) := fun ρ => if aliveR ρ r = true then some (.ok (r :: rs) ρ) else none
def gCons (g : EM Res) (gs : EM (List Res)) : EM (List Res) := g.bind fun r => gs.bind fun rs => consM r rs
/-- the new things among them -/
def newAt : List V → List Res → List V
  | v :: vs, .new _ :: rs => v :: newAt vs rs
  | _ :: vs, _ :: rs => newAt vs rs
  | _, _ => []
def RAts (K : PySem.W.Frag) (H0 : HE) (ok : Addr → Prop) (F H : Hp) (ρ : En) (A : Nat → Addr) (vs : List V) (rs : List Res) : Prop := Paired (RAt K H0 ok F H ρ A) vs rs ∧ (newAt vs rs).Nodup
abbrev tA (K : PySem.W.Frag) (H0 : HE) (W : WX) (g : EM (List Res)) : TA := fun σ H Q => Wp K H0 W (RAts K H0) g σ H Q
section
variable {K : PySem.W.Frag} {H0 : HE} {F H : Hp} {W : WX} {ρ : En} {A : Nat → Addr} {σ : L2.St}
theorem mono_rats : MonoR (RAts K H0) := fun ok ok' F H ρ A b a k h => ⟨Paired.mapP h.1 fun v r q => mono_rat ok ok' F H ρ A v r k q, h.2⟩
theorem newAt_ok {ok : Addr → Prop} : ∀ {vs : List V} {rs : List Res}, Paired (RAt K H0 ok F H ρ A) vs rs → ∀ w ∈ newAt vs rs, ∃ q, w = .ref q ∧ ok q
  | _, _, .nil, w, h => by cases h
  | _, .val d :: rs, .cons _ t, w, h => newAt_ok t w h
  | _, .brw i :: rs, .cons _ t, w, h => newAt_ok t w h
  | _, .new m :: rs, .cons a t, w, h => by
    unfold newAt at h
    rcases List.mem_cons.mp h with rfl | h
    · obtain ⟨p, e, _, _, _, _, o⟩ := a
      exact ⟨p, e, o⟩
    · exact newAt_ok t w h
theorem RAt.go {F' H' : Hp} {ρ' : En} {r : Res} {v : V} {ok : Addr → Prop} (h : RAt K H0 ok F H ρ A v r) (tr : Tr (OwnA ρ A) F H F' H') (sb : Sb ρ ρ') (al : aliveR ρ' r = true) : RAt K H0 ok F' H' ρ' A v r := by
  cases r with
  | val d => exact RAt.val_step (ρ' := ρ') h tr
  | new m => exact RAt.new_step h tr sb
  | brw i => exact ⟨Option.isSome_iff_exists.mp al, h.2⟩
end
section
variable {X : Cx} {H0 : HE} {W : WX} {e : Expr} {es : List Expr} {g : EM Res} {gs : EM (List Res)}
theorem a_nil : PA X [] (tA X.K H0 W gNil) := pa_nil.weak fun σ H Q h => by obtain ⟨F, ρ, A, h⟩ := h; exact h.ret (b := []) ⟨.nil, List.nodup_nil⟩
theorem a_cons (he : PE X e (tE X.K H0 W g)) (hr : PA X es (tA X.K H0 W gs)) (hs : starEach (e :: es) X.env = (false, eval e X.env) :: starEach es X.env := by rfl) : PA X (e :: es) (tA X.K H0 W (gCons g gs)) :=
  (pa_cons he hr hs).weak fun σ H Q h => by
    obtain ⟨F, ρ, A, h⟩ := h
    refine ⟨F, ρ, A, h.bind fun x r F1 H1 ρ1 tr1 sb1 ra h1 => ⟨F1, ρ1, A, h1.bind fun xs rs F2 H2 ρ2 tr2 sb2 rb h2 => ?_⟩⟩
    obtain ⟨er, kn, o, e, p⟩ := h2
    unfold consM at e
    obtain ⟨al, e⟩ := ite_some' e
    cases e
    refine p (x :: xs) F2 H2 .refl er .refl ⟨.cons (ra.go tr2 sb2 al) (mono_rats _ _ _ _ _ _ _ _ (fun q z => z.back tr1 sb1) rb).1, ?_⟩
    cases r with
    | val d => exact rb.2
    | brw i => exact rb.2
    | new m =>
      refine List.nodup_cons.mpr ⟨fun hx => ?_, rb.2⟩
      obtain ⟨q, e1, e2⟩ := newAt_ok rb.1 x hx
      obtain ⟨pp, e3, _, no, mo, _, _⟩ := ra
      obtain ⟨ob, hob⟩ := mo.there
      have : q = pp := V.ref.inj (e1.symm.trans e3)
      subst this
      rcases e2 with z | z
      · rw [hob] at z; cases z
      · exact no z
end

/-! ### data of all arguments -/
def views (ρ : En) : List Res → Option (List D)
  | [] => some []
  | r :: rs => match view ρ r, views ρ rs with
    | some d, some ds => some (d :: ds)
    | _, _ => none
abbrev Tops (K : PySem.W.Frag) (F H : Hp) : List V → List D → Prop := Paired (Top K F H)
theorem rats_tops {K : PySem.W.Frag} {H0 : HE} {F H : Hp} {ρ : En} {A : Nat → Addr} {σ : L2.St} {ok : Addr → Prop} (er : ER K H0 F H σ ρ A) : ∀ {vs : List V} {rs : List Res} {ds : List D}, Paired (RAt K H0 ok F H ρ A) vs rs → views ρ rs = some ds → Tops K F H vs ds
  | _, _, _, .nil, e => by cases e; exact .nil
  | _, r :: rs, ds, .cons h t, e => by
    unfold views at e
    cases e1 : view ρ r with
    | none => rw [e1] at e; cases e
    | some d =>
      cases e2 : views ρ rs with
      | none => rw [e1, e2] at e; cases e
      | some ds' =>
        rw [e1, e2] at e
        cases e
        exact .cons (h.top er e1) (rats_tops er t e2)
def opL (f : List D → Option Res) (rs : List Res) : EM Res := fun ρ => match views ρ rs with
  | some ds => (f ds).map fun r => .ok r ρ
  | none => none
def gCall (f : List D → Option Res) (gs : EM (List Res)) : EM Res := gs.bind fun rs => opL f rs
def SndL (K : PySem.W.Frag) (r : List V → Hp → VK → Prop) (f : List D → Option Res) : Prop :=
  ∀ (H0 : HE) (W : WX) (ok : Addr → Prop) (F H : Hp) (ρ : En) (A : Nat → Addr) (σ : L2.St) (xs : List V) (ds : List D) (res : Res) (Q : VK), Tops K F H xs ds → f ds = some res → WpAt K H0 W (RAt K H0) ok F ρ A (EM.pure res) σ H Q → r xs H Q
theorem opL_at {K : PySem.W.Frag} {H0 : HE} {F H : Hp} {W : WX} {ρ : En} {A : Nat → Addr} {σ : L2.St} {ok : Addr → Prop} {f : List D → Option Res} {rs : List Res} {Q : VK} (h : WpAt K H0 W (RAt K H0) ok F ρ A (opL f rs) σ H Q) :
    ∃ ds res, views ρ rs = some ds ∧ f ds = some res ∧ WpAt K H0 W (RAt K H0) ok F ρ A (EM.pure res) σ H Q := by
  obtain ⟨er, kn, o, e, p⟩ := h
  unfold opL at e
  cases e1 : views ρ rs with
  | none => rw [e1] at e; cases e
  | some ds =>
    rw [e1] at e
    cases e2 : f ds with
    | none => simp only [e2, Option.map_none] at e; cases e
    | some res =>
      simp only [e2, Option.map_some] at e
      exact ⟨ds, res, rfl, e2, er, kn, o, e, p⟩
section
variable {X : Cx} {H0 : HE} {W : WX} {e a b : Expr} {es : List Expr} {g ga gb : EM Res} {gs : EM (List Res)} {x : Str} {p pos : Pos}
theorem call_weak {r : List V → Hp → VK → Prop} {f : List D → Option Res} (hs : SndL X.K r f) (σ : L2.St) (H : Hp) (Q : VK) (h : tE X.K H0 W (gCall f gs) σ H Q) : tCB r (tA X.K H0 W gs) σ H Q := by
  obtain ⟨F, ρ, A, h⟩ := h
  refine ⟨F, ρ, A, h.bind fun vs rs F1 H1 ρ1 tr sb ra h1 => ?_⟩
  obtain ⟨ds, res, e1, e2, h2⟩ := opL_at h1
  exact hs H0 W _ F1 H1 ρ1 A σ vs ds res Q (rats_tops h2.1 ra.1 e1) e2 h2
theorem p_callB {id : String} {r : List V → Hp → VK → Prop} {f : List D → Option Res} (hs : SndL X.K r f) (hc : CallR X (.builtin id) r) (hg : Gl X x) (hm : X.mg x = none) (hv : bootBuiltins x = some (.builtin id)) (ha : PA X (e :: es) (tA X.K H0 W gs)) (hn : x ≠ "__name__" := by decide) (hdb : (x == ("__debug__" : Str)) = false := by decide)
    (he : starEach (e :: es) X.env = (false, eval e X.env) :: starEach es X.env := by rfl) (hpl : (backTo pos (starEach es X.env)).any (·.1) = false := by rfl) : PE X (.Call (.Name x p) (e :: es) [] pos) (tE X.K H0 W (gCall f gs)) :=
  (pe_callB hc hg hm hv ha hn hdb he hpl).weak (call_weak hs)
theorem p_callTy {T : String} {r : List V → Hp → VK → Prop} {f : List D → Option Res} (hs : SndL X.K r f) (hc : CallR X (.type T) r) (hg : Gl X x) (hm : X.mg x = none) (hv : bootBuiltins x = some (.type T)) (ha : PA X (e :: es) (tA X.K H0 W gs)) (hn : x ≠ "__name__" := by decide) (hdb : (x == ("__debug__" : Str)) = false := by decide)
    (he : starEach (e :: es) X.env = (false, eval e X.env) :: starEach es X.env := by rfl) (hpl : (backTo pos (starEach es X.env)).any (·.1) = false := by rfl) : PE X (.Call (.Name x p) (e :: es) [] pos) (tE X.K H0 W (gCall f gs)) :=
  (pe_callTy hc hg hm hv ha hn hdb he hpl).weak (call_weak hs)

/-! ### displays -/
def valsR : List Res → Option (List D)
  | [] => some []
  | .val d :: rs => (valsR rs).map (d :: ·)
  | _ => none
theorem rats_reps {K : PySem.W.Frag} {H0 : HE} {F H : Hp} {ρ : En} {A : Nat → Addr} {ok : Addr → Prop} : ∀ {vs : List V} {rs : List Res} {ds : List D}, Paired (RAt K H0 ok F H ρ A) vs rs → valsR rs = some ds → Reps K F vs ds
  | _, _, _, .nil, e => by cases e; exact .nil
  | _, .val d :: rs, ds, .cons h t, e => by
    unfold valsR at e
    cases e2 : valsR rs with
    | none => simp only [e2, Option.map_none] at e; cases e
    | some ds' =>
      simp only [e2, Option.map_some] at e
      cases e
      exact .cons h (rats_reps t e2)
  | _, .new _ :: _, _, .cons _ _, e => by cases e
  | _, .brw _ :: _, _, .cons _ _, e => by cases e
def gTup (gs : EM (List Res)) : EM Res := gs.bind fun rs => EM.lift ((valsR rs).bind fun ds => if ds.length ≤ sizeLine then some (.val (.tup ds)) else none)
def gLst (gs : EM (List Res)) : EM Res := gs.bind fun rs => EM.lift ((valsR rs).bind fun ds => if ds.length ≤ sizeLine then some (.new (.l ds)) else none)
theorem lift_sz {α : Type} {o : Option (List D)} {f : List D → α} {c : α} (e : (o.bind fun ds => if ds.length ≤ sizeLine then some (f ds) else none) = some c) : ∃ ds, o = some ds ∧ ds.length ≤ sizeLine ∧ f ds = c := by
  cases o with
  | none => cases e
  | some ds =>
    obtain ⟨q, e⟩ := ite_some' (show (if ds.length ≤ sizeLine then some (f ds) else none) = some c from e)
    cases e
    exact ⟨ds, rfl, q, rfl⟩
theorem p_tup {x1} (h : PA X es (tA X.K H0 W gs)) : PE X (.Tuple es x1 pos) (tE X.K H0 W (gTup gs)) := (pe_tup h).weak fun σ H Q h => by
  obtain ⟨F, ρ, A, h⟩ := h
  refine ⟨F, ρ, A, h.bind fun vs rs F1 H1 ρ1 tr sb ra h1 => ?_⟩
  obtain ⟨c, e, h2⟩ := h1.lift
  obtain ⟨ds, e1, sz, rfl⟩ := lift_sz e
  have r := rats_reps ra.1 e1
  exact ⟨by rw [r.length]; exact sz, fun q hq => h2.tup r hq⟩
theorem p_lst (h : PA X es (tA X.K H0 W gs)) : PE X (.List es pos) (tE X.K H0 W (gLst gs)) := (pe_lst h).weak fun σ H Q h => by
  obtain ⟨F, ρ, A, h⟩ := h
  refine ⟨F, ρ, A, h.bind fun vs rs F1 H1 ρ1 tr sb ra h1 => ?_⟩
  obtain ⟨c, e, h2⟩ := h1.lift
  obtain ⟨ds, e1, sz, rfl⟩ := lift_sz e
  have r := rats_reps ra.1 e1
  exact ⟨by rw [r.length]; exact sz, fun q hq => h2.lst r hq⟩

/-! ### subscripts -/
def keyD : D → Option Key
  | .int i => some (.inl i)
  | .str x => some (.inr x)
  | _ => none
def lookD (kvs : List (Key × D)) (k : Key) : Option D := (kvs.find? fun kv => decide (kv.1 = k)).map (·.2)
theorem RepK.look {K : PySem.W.Frag} {F : Hp} {k : Key} : ∀ {xs : List (Key × V)} {ds : List (Key × D)}, RepK K F xs ds → (∀ d, lookD ds k = some d → ∃ v, valV xs k = some v ∧ Rep K F v d) ∧ (lookD ds k = none → valV xs k = none)
  | _, _, .nil => ⟨fun d e => (by cases e), fun _ => rfl⟩
  | _, _, .cons (k := j) (x := x) (xs := xs) (d := d0) (ds := ds) h r => by
    obtain ⟨i1, i2⟩ := RepK.look (k := k) r
    by_cases z : j = k
    · have e1 : lookD ((j, d0) :: ds) k = some d0 := by simp [lookD, z]
      have e2 : valV ((j, x) :: xs) k = some x := valV_pos z
      rw [e1, e2]
      exact ⟨fun d e => (by cases e; exact ⟨_, rfl, h⟩), fun e => (by cases e)⟩
    · have e1 : lookD ((j, d0) :: ds) k = lookD ds k := by simp [lookD, z]
      have e2 : valV ((j, x) :: xs) k = valV xs k := valV_neg z
      rw [e1, e2]
      exact ⟨i1, i2⟩
theorem RepK.keys {K : PySem.W.Frag} {F : Hp} : ∀ {xs : List (Key × V)} {ds : List (Key × D)}, RepK K F xs ds → xs.map (·.1) = ds.map (·.1)
  | _, _, .nil => rfl
  | _, _, .cons h r => by rw [List.map_cons, List.map_cons, RepK.keys r]
theorem RepK.length {K : PySem.W.Frag} {F : Hp} {xs : List (Key × V)} {ds : List (Key × D)} (r : RepK K F xs ds) : xs.length = ds.length := by
  have := congrArg List.length r.keys
  simpa using this
theorem key_top {K : PySem.W.Frag} {F H : Hp} {x : V} {d : D} {k : Key} (t : Top K F H x d) (e : keyD d = some k) : x = kV k := by
  unfold keyD at e
  split at e
  · cases e; exact top_int t
  · cases e; exact top_str t
  · cases e
def fIx : D → D → Option Res
  | .tup ds, .int i => (atI ds i).map .val
  | .lst ds, .int i => (atI ds i).map .val
  | .rol ds, .int i => (atI ds i).map .val
  | .str z, .int i => if z.length ≤ sizeLine then (atI z.cps.toList i).map fun c => .val (.str ⟨#[c]⟩) else none
  | .dct kvs, k => (keyD k).bind fun k => (lookD kvs k).map .val
  | _, _ => none
def rIxDc : R2 := fun x y H Q => ∃ a v, x = .ref a ∧ DGet H a y (some v) ∧ Q v H
theorem ix_dct (hu : X.A.units + 1 < cLine) : IxR X rIxDc := by
  intro value slice pins s σ H x y v u Q I rx ry h hs
  obtain ⟨a, z, rfl, g, q⟩ := h
  obtain rfl : v = Value.ref a := rx
  exact tail_any (dict_typeIs I g) PySem.F.slot_dict_getitem.lookup (d_getItem hu I g ry fun w' s3 I3 rw' => ⟨z, H, I3, rw', q⟩) hs
def rIxA (K : PySem.W.Frag) : R2 := fun x y H Q => rIx K x y H Q ∨ rIxDc x y H Q
theorem ix_all (hu : X.A.units + 1 < cLine) : IxR X (rIxA X.K) := ix_seq.or (ix_dct hu)
theorem Reps.atI {K : PySem.W.Frag} {F : Hp} {xs : List V} {ds : List D} {i : Int} {d : D} (r : Reps K F xs ds) (e : L2.atI ds i = some d) : ∃ v, L2.atI xs i = some v ∧ Rep K F v d := by
  unfold L2.atI at e ⊢
  rw [r.length]
  cases q : ixN ds.length i with
  | none => rw [q] at e; cases e
  | some j =>
    rw [q] at e
    obtain ⟨v, h1, h2⟩ := r.get e
    exact ⟨v, h1, h2⟩
theorem map_some' {α β : Type} {f : α → β} {o : Option α} {c : β} (e : o.map f = some c) : ∃ a, o = some a ∧ f a = c := by
  cases o with
  | none => cases e
  | some a => cases e; exact ⟨a, rfl, rfl⟩
theorem s_ix {K : PySem.W.Frag} : Snd2 K (rIxA K) fIx := by
  intro H0 W ok F H ρ A σ x y d1 d2 res Q t1 t2 e h
  have le := h.1.le
  unfold fIx at e
  split at e
  · obtain ⟨d, e', rfl⟩ := map_some' e
    obtain ⟨a, xs, rfl, s1, r1⟩ := top_tup t1
    cases top_int t2
    obtain ⟨v, ev, rv⟩ := r1.atI e'
    exact .inl (.inr (.inl ⟨a, xs, _, v, rfl, rfl, le_t le s1, ev, h.val rv⟩))
  · obtain ⟨d, e', rfl⟩ := map_some' e
    obtain ⟨a, xs, rfl, s1, r1⟩ := t1
    cases top_int t2
    obtain ⟨v, ev, rv⟩ := r1.atI e'
    exact .inl (.inl ⟨a, xs, _, v, rfl, rfl, SqL.of s1, ev, h.val rv⟩)
  · obtain ⟨d, e', rfl⟩ := map_some' e
    obtain ⟨a, xs, rfl, s1, r1⟩ := top_rol t1
    cases top_int t2
    obtain ⟨v, ev, rv⟩ := r1.atI e'
    exact .inl (.inl ⟨a, xs, _, v, rfl, rfl, le_l le s1, ev, h.val rv⟩)
  · obtain ⟨c, e⟩ := ite_some' e
    obtain ⟨d, e', rfl⟩ := map_some' e
    cases top_str t1; cases top_int t2
    exact .inl (.inr (.inr ⟨_, _, d, rfl, rfl, c, e', h.val (.str _)⟩))
  · cases ek : keyD d2 with
    | none => rw [ek] at e; cases e
    | some k =>
      rw [ek] at e
      obtain ⟨d, e', rfl⟩ := map_some' e
      obtain ⟨a, xs, rfl, s1, r1⟩ := t1
      obtain ⟨v, ev, rv⟩ := (RepK.look (k := k) r1).1 d e'
      exact .inr ⟨a, v, rfl, .inl ⟨xs, k, s1, key_top t2 ek, ev.symm⟩, h.val rv⟩
  · cases e
theorem p_ix (hu : X.A.units + 1 < cLine) (ha : PE X a (tE X.K H0 W ga)) (hb : PE X b (tE X.K H0 W gb)) (hs : PlainIx b := by intro _ _; rfl) : PE X (.Subscript a b pos) (tE X.K H0 W (gOp fIx ga gb)) :=
  (pe_ix (ix_all hu) ha hb hs).weak fun σ H Q h => two h fun x y ok F2 H2 ρ2 A d1 d2 res t1 t2 e q => s_ix H0 W ok F2 H2 ρ2 A σ x y d1 d2 res Q t1 t2 e q

/-! ### slices -/
def cutD (xs : List D) (lo hi : Option Int) : List D := (xs.drop (HT.sIx xs.length 0 lo)).take (HT.sIx xs.length xs.length hi - HT.sIx xs.length 0 lo)
theorem Reps.cut {K : PySem.W.Frag} {F : Hp} {xs : List V} {ds : List D} (lo hi : Option Int) (r : Reps K F xs ds) : Reps K F (cutV xs lo hi) (cutD ds lo hi) := by
  unfold cutV cutD
  rw [r.length]
  exact (r.drop _).take _
def fSl : D → Option Int → Option Int → Option Res
  | .tup ds, lo, hi => some (.val (.tup (cutD ds lo hi)))
  | .lst ds, lo, hi => some (.new (.l (cutD ds lo hi)))
  | .rol ds, lo, hi => some (.new (.l (cutD ds lo hi)))
  | .str z, lo, hi => if z.length ≤ sizeLine then some (.val (.str (cutS z lo hi))) else none
  | _, _, _ => none
def gNoP : EM (Option Int) := EM.pure none
def gPt (g : EM Res) : EM (Option Int) := g.bind fun r => match r with
  | .val (.int i) => EM.pure (some i)
  | _ => fun _ => none
def slM (r : Res) (lo hi : Option Int) : EM Res := fun ρ => match view ρ r with
  | some d => (fSl d lo hi).map fun r => .ok r ρ
  | none => none
def gSl (g : EM Res) (gl gh : EM (Option Int)) : EM Res := g.bind fun r => gl.bind fun lo => gh.bind fun hi => slM r lo hi
def rSlAll (K : PySem.W.Frag) : V → Option Int → Option Int → Hp → VK → Prop := fun x lo hi H Q => rSlL K x lo hi H Q ∨ rSlA K x lo hi H Q ∨ rSlS x lo hi H Q
theorem sl_all : SlR X (rSlAll X.K) := sl_list.or (sl_tupA.or sl_str)
theorem o_none : PO X none (tO X.K H0 W gNoP) := po_none.weak fun σ H Q h => by obtain ⟨F, ρ, A, h⟩ := h; exact h.ret rfl
theorem o_some (h : PE X e (tE X.K H0 W g)) : PO X (some e) (tO X.K H0 W (gPt g)) := (po_some h).weak fun σ H Q h => by
  obtain ⟨F, ρ, A, h⟩ := h
  refine ⟨F, ρ, A, h.bind fun v r F1 H1 ρ1 tr sb ra h1 => ?_⟩
  split at h1
  · cases ra
    exact ⟨_, rfl, h1.ret rfl⟩
  · obtain ⟨_, _, _, e, _⟩ := h1; cases e
theorem cutD_whole {ds : List D} {lo hi : Option Int} (z : HT.sIx ds.length 0 lo = 0 ∧ HT.sIx ds.length ds.length hi = ds.length) : cutD ds lo hi = ds := by
  unfold cutD
  rw [z.1, z.2, List.drop_zero, Nat.sub_zero, List.take_length]
theorem p_sl {lo hi : Option Expr} {gl gh : EM (Option Int)} {p2 : Pos} (he : PE X e (tE X.K H0 W g)) (hl : PO X lo (tO X.K H0 W gl)) (hu : PO X hi (tO X.K H0 W gh)) : PE X (.Subscript e (.Slice lo hi none p2) pos) (tE X.K H0 W (gSl g gl gh)) :=
  (pe_slice sl_all he hl hu).weak fun σ H Q h => by
    obtain ⟨F, ρ, A, h⟩ := h
    refine ⟨F, ρ, A, h.bind fun x r F1 H1 ρ1 tr1 sb1 ra h1 => ⟨F1, ρ1, A, h1.bind fun l l' F2 H2 ρ2 tr2 sb2 rb h2 => ⟨F2, ρ2, A, h2.bind fun u u' F3 H3 ρ3 tr3 sb3 rc h3 => ?_⟩⟩⟩
    subst rb rc
    obtain ⟨er, kn, o, e, p⟩ := h3
    unfold slM at e
    cases e1 : view ρ3 r with
    | none => rw [e1] at e; cases e
    | some d =>
      rw [e1] at e
      obtain ⟨res, e2, rfl⟩ := map_some' e
      have h4 : WpAt X.K H0 W (RAt X.K H0) _ F3 ρ3 A (EM.pure res) σ H3 Q := ⟨er, kn, _, rfl, p⟩
      have t := ra.later er (tr2.then sb2 tr3) (sb2.trans sb3) e1
      have le := er.le
      unfold fSl at e2
      split at e2
      · cases e2
        obtain ⟨a, xs, rfl, s1, r1⟩ := top_tup t
        refine .inr (.inl ⟨a, xs, rfl, le_t le s1, fun z => ?_, fun _ q hq => h4.tup (r1.cut _ _) hq⟩)
        rw [r1.length] at z
        refine h4.val ?_
        rw [cutD_whole z]
        exact .tup s1 r1
      · cases e2
        obtain ⟨a, xs, rfl, s1, r1⟩ := t
        exact .inl ⟨a, xs, rfl, SqL.of s1, fun q hq => h4.lst (r1.cut _ _) hq⟩
      · cases e2
        obtain ⟨a, xs, rfl, s1, r1⟩ := top_rol t
        exact .inl ⟨a, xs, rfl, le_l le s1, fun q hq => h4.lst (r1.cut _ _) hq⟩
      · obtain ⟨c, e2⟩ := ite_some' e2
        cases e2
        cases top_str t
        exact .inr (.inr ⟨_, rfl, c, h4.val (.str _)⟩)
      · cases e2
end
end M

/-! M5: statements. -/
namespace M
open PySem PySem.Spec PyProof.Rows L2

inductive Fl where
  | nx | bk | ct | rt (r : Res)
/-- the names' sorts behind a statement -/
structure StepS (ρ : En) (A : Nat → Addr) (ρ' : En) (A' : Nat → Addr) (H : Hp) : Prop where
  own : ∀ a, OwnA ρ' A' a → OwnA ρ A a ∨ H a = none
  par : ∀ (i : Nat) (m : Mo), ρ[i]? = some (Slot.par m) → ∃ m', ρ'[i]? = some (Slot.par m') ∧ A' i = A i
theorem StepS.refl {ρ : En} {A : Nat → Addr} {H : Hp} : StepS ρ A ρ A H := ⟨fun _ h => .inl h, fun _ m h => ⟨m, h, rfl⟩⟩
theorem StepS.of {ρ ρ1 ρ2 : En} {A A2 : Nat → Addr} {S : Addr → Prop} {F H F1 H1 : Hp} (tr : Tr S F H F1 H1) (sb : Sb ρ ρ1) (s : StepS ρ1 A ρ2 A2 H1) : StepS ρ A ρ2 A2 H :=
  ⟨fun a h => (s.own a h).imp sb.ownA (none_back tr.there), fun i m h => let ⟨m1, h1⟩ := sb.par i m h; s.par i m1 h1⟩
theorem StepS.trans {ρ ρ1 ρ2 : En} {A A1 A2 : Nat → Addr} {S : Addr → Prop} {F H F1 H1 : Hp} (s1 : StepS ρ A ρ1 A1 H) (tr : Tr S F H F1 H1) (s2 : StepS ρ1 A1 ρ2 A2 H1) : StepS ρ A ρ2 A2 H :=
  ⟨fun a h => (s2.own a h).elim (s1.own a) fun q => .inr (none_back tr.there q), fun i m h => let ⟨m1, h1, e1⟩ := s1.par i m h; let ⟨m2, h2, e2⟩ := s2.par i m1 h1; ⟨m2, h2, e2.trans e1⟩⟩
theorem Sb.step {ρ ρ' : En} {A : Nat → Addr} {H : Hp} (s : Sb ρ ρ') : StepS ρ A ρ' A H := ⟨fun a h => .inl (s.ownA h), fun i m h => let ⟨m', h'⟩ := s.par i m h; ⟨m', h', rfl⟩⟩

section
variable (K : PySem.W.Frag) (H0 : HE) (W : WX)
def PostS (D : Ends) (F H : Hp) (ρ : En) (A : Nat → Addr) : Out Fl → Prop
  | .ok .nx ρ' => ∀ σ' F' H' A', Tr (OwnA ρ A) F H F' H' → ER K H0 F' H' σ' ρ' A' → StepS ρ A ρ' A' H → D.nx σ' H'
  | .ok .bk ρ' => ∀ σ' F' H' A', Tr (OwnA ρ A) F H F' H' → ER K H0 F' H' σ' ρ' A' → StepS ρ A ρ' A' H → D.bk σ' H'
  | .ok .ct ρ' => ∀ σ' F' H' A', Tr (OwnA ρ A) F H F' H' → ER K H0 F' H' σ' ρ' A' → StepS ρ A ρ' A' H → D.ct σ' H'
  | .ok (.rt r) ρ' => ∀ v σ' F' H' A', Tr (OwnA ρ A) F H F' H' → ER K H0 F' H' σ' ρ' A' → StepS ρ A ρ' A' H → RAt K H0 (fun _ => True) F' H' ρ' A' v r → D.rt v H'
  | .ex C fs ρ' => ∀ d σ' F' H' A', Tr (OwnA ρ A) F H F' H' → ER K H0 F' H' σ' ρ' A' → StepS ρ A ρ' A' H → ExAt K F' d fs → W C d σ' H'
def StAt (F : Hp) (ρ : En) (A : Nat → Addr) (g : EM Fl) (D : Ends) (σ : L2.St) (H : Hp) : Prop := ER K H0 F H σ ρ A ∧ ∃ o, g ρ = some o ∧ PostS K H0 W D F H ρ A o
def tSt (g : EM Fl) : TS := fun D σ H => ∃ F ρ A, StAt K H0 W F ρ A g D σ H
end

section
variable {K : PySem.W.Frag} {H0 : HE} {W : WX} {σ : L2.St} {G : Ends} {α β : Type} {R : (Addr → Prop) → Hp → Hp → En → (Nat → Addr) → β → α → Prop}
/-- the end's wish, seen from a later state -/
theorem PostS.later {F H F1 H1 : Hp} {ρ ρ1 : En} {A A1 : Nat → Addr} {o : Out Fl} (p : PostS K H0 W G F H ρ A o) (tr : Tr (OwnA ρ A) F H F1 H1) (st : StepS ρ A ρ1 A1 H) : PostS K H0 W G F1 H1 ρ1 A1 o := by
  have tt : ∀ {F2 H2}, Tr (OwnA ρ1 A1) F1 H1 F2 H2 → Tr (OwnA ρ A) F H F2 H2 := fun t => tr.trans t st.own
  cases o with
  | ok fl ρ2 =>
    cases fl with
    | nx => exact fun σ' F' H' A' t e s => p σ' F' H' A' (tt t) e (st.trans tr s)
    | bk => exact fun σ' F' H' A' t e s => p σ' F' H' A' (tt t) e (st.trans tr s)
    | ct => exact fun σ' F' H' A' t e s => p σ' F' H' A' (tt t) e (st.trans tr s)
    | rt r => exact fun v σ' F' H' A' t e s r => p v σ' F' H' A' (tt t) e (st.trans tr s) r
  | ex C fs ρ2 => exact fun d σ' F' H' A' t e s r => p d σ' F' H' A' (tt t) e (st.trans tr s) r
theorem StAt.bind0 {okg : Addr → Prop} {g : EM α} {f : α → EM Fl} {F H : Hp} {ρ : En} {A : Nat → Addr} {Q1 : β → Hp → Prop} (h : StAt K H0 W F ρ A (g.bind f) G σ H)
    (k : ∀ b a F1 H1 ρ1 o, Tr (OwnA ρ A) F H F1 H1 → Sb ρ ρ1 → ER K H0 F1 H1 σ ρ1 A → R okg F1 H1 ρ1 A b a → f a ρ1 = some o → PostS K H0 W G F H ρ A o → Q1 b H1) (kg : ∀ p, Okp ρ A H p → okg p := by intro _ h; exact h) : WpAt K H0 W R okg F ρ A g σ H Q1 := by
  obtain ⟨er, o, e, p⟩ := h
  refine ⟨er, kg, ?_⟩
  unfold EM.bind at e
  cases eg : g ρ with
  | none => rw [eg] at e; cases e
  | some og =>
    rw [eg] at e
    cases og with
    | ok a ρ1 => exact ⟨_, rfl, fun b F1 H1 tr er1 sb r => k b a F1 H1 ρ1 o tr sb er1 r e p⟩
    | ex C fs ρ1 =>
      cases e
      exact ⟨_, rfl, fun dx F1 H1 tr er1 sb x => p dx σ F1 H1 A tr er1 sb.step x⟩
theorem StAt.bind {okg : Addr → Prop} {g : EM α} {f : α → EM Fl} {F H : Hp} {ρ : En} {A : Nat → Addr} {Q1 : β → Hp → Prop} (h : StAt K H0 W F ρ A (g.bind f) G σ H)
    (k : ∀ b a F1 H1 ρ1, Tr (OwnA ρ A) F H F1 H1 → Sb ρ ρ1 → R okg F1 H1 ρ1 A b a → StAt K H0 W F1 ρ1 A (f a) G σ H1 → Q1 b H1) (kg : ∀ p, Okp ρ A H p → okg p := by intro _ h; exact h) : WpAt K H0 W R okg F ρ A g σ H Q1 :=
  h.bind0 (fun b a F1 H1 ρ1 o tr sb er r e p => k b a F1 H1 ρ1 tr sb r ⟨er, o, e, p.later tr sb.step⟩) kg
theorem StAt.nx {F H : Hp} {ρ : En} {A : Nat → Addr} (h : StAt K H0 W F ρ A (EM.pure .nx) G σ H) : G.nx σ H := by
  obtain ⟨er, o, e, p⟩ := h
  cases e
  exact p σ F H A .refl er .refl
end

/-! ### blocks -/
def gSeq (g1 g2 : EM Fl) : EM Fl := fun ρ => match g1 ρ with
  | some (.ok .nx ρ1) => g2 ρ1
  | o => o
def gPass : EM Fl := EM.pure .nx
section
variable {X : Cx} {H0 : HE} {W : WX} {st : Stmt} {rest a b : List Stmt} {e : Expr} {g g1 g2 : EM Fl} {ge : EM Res} {gc : EM Bool} {pos : Pos}
theorem seq_weak {G : Ends} {σ : L2.St} {H : Hp} (h : tSt X.K H0 W (gSeq g1 g2) G σ H) : tSt X.K H0 W g1 { G with nx := tSt X.K H0 W g2 G } σ H := by
  obtain ⟨F, ρ, A, er, o, e, p⟩ := h
  unfold gSeq at e
  refine ⟨F, ρ, A, er, ?_⟩
  cases eg : g1 ρ with
  | none => rw [eg] at e; cases e
  | some og =>
    rw [eg] at e
    refine ⟨_, rfl, ?_⟩
    cases og with
    | ok fl ρ1 =>
      cases fl with
      | nx => exact fun σ' F' H' A' tr er' s => ⟨F', ρ1, A', er', o, e, p.later tr s⟩
      | bk => cases e; exact p
      | ct => cases e; exact p
      | rt r => cases e; exact p
    | ex C fs ρ1 => cases e; exact p
theorem b_nil : PSs X [] (tSt X.K H0 W gPass) := pss_nil.weak fun D σ H h => by obtain ⟨F, ρ, A, h⟩ := h; exact h.nx
theorem b_cons (h1 : PS X st (tSt X.K H0 W g1)) (h2 : PSs X rest (tSt X.K H0 W g2)) : PSs X (st :: rest) (tSt X.K H0 W (gSeq g1 g2)) := (pss_cons h1 h2).weak fun _ _ _ h => seq_weak h
theorem b_one (h1 : PS X st (tSt X.K H0 W g1)) : PSs X [st] (tSt X.K H0 W g1) := pss_one h1
/-- what is never run -/
def gNever {α : Type} : EM α := fun _ => none
theorem b_never {sts : List Stmt} : PSs X sts (tSt X.K H0 W gNever) := pss_never.weak fun D σ H h => by obtain ⟨F, ρ, A, _, _, e, _⟩ := h; cases e
theorem c_never : PS X st (tSt X.K H0 W gNever) := ps_never.weak fun D σ H h => by obtain ⟨F, ρ, A, _, _, e, _⟩ := h; cases e
theorem c_pass : PS X (.Pass pos) (tSt X.K H0 W gPass) := ps_pass.weak fun D σ H h => by obtain ⟨F, ρ, A, h⟩ := h; exact h.nx
def gBreak : EM Fl := EM.pure .bk
def gCont : EM Fl := EM.pure .ct
theorem c_break : PS X (.Break pos) (tSt X.K H0 W gBreak) := ps_break.weak fun D σ H h => by obtain ⟨F, ρ, A, er, o, e, p⟩ := h; cases e; exact p σ F H A .refl er .refl
theorem c_continue : PS X (.Continue pos) (tSt X.K H0 W gCont) := ps_continue.weak fun D σ H h => by obtain ⟨F, ρ, A, er, o, e, p⟩ := h; cases e; exact p σ F H A .refl er .refl
def gDrop (g : EM Res) : EM Fl := g.bind fun _ => EM.pure .nx
theorem c_expr (he : PE X e (tE X.K H0 W ge)) (hs : swapsWith e none pos.line X.env = pure false := by rfl) : PS X (.Expr e pos) (tSt X.K H0 W (gDrop ge)) := (ps_expr he hs).weak fun D σ H h => by
  obtain ⟨F, ρ, A, h⟩ := h
  exact ⟨F, ρ, A, h.bind fun v r F1 H1 ρ1 tr sb ra h1 => h1.nx⟩
def gRet (g : EM Res) : EM Fl := g.bind fun r => EM.pure (.rt r)
theorem c_ret (he : PE X e (tE X.K H0 W ge)) : PS X (.Return (some e) pos) (tSt X.K H0 W (gRet ge)) := (ps_ret he).weak fun D σ H h => by
  obtain ⟨F, ρ, A, h⟩ := h
  refine ⟨F, ρ, A, h.bind fun v r F1 H1 ρ1 tr sb ra h1 => ?_⟩
  obtain ⟨er, o, e, p⟩ := h1
  cases e
  exact p v σ F1 H1 A .refl er .refl (mono_rat _ _ _ _ _ _ _ _ (fun _ _ => trivial) ra)
def gRetN : EM Fl := EM.pure (.rt (.val .non))
theorem c_retN : PS X (.Return none pos) (tSt X.K H0 W gRetN) := ps_retN.weak fun D σ H h => by
  obtain ⟨F, ρ, A, er, o, e, p⟩ := h
  cases e
  exact p .non σ F H A .refl er .refl Rep.non
def gIfS (c : EM Bool) (a b : EM Fl) : EM Fl := c.bind fun k => if k = true then a else b
theorem c_if {c : Expr} (hc : PT X c (tT X.K H0 W gc)) (ha : PSs X a (tSt X.K H0 W g1)) (hb : PSs X b (tSt X.K H0 W g2)) : PS X (.If c a b pos) (tSt X.K H0 W (gIfS gc g1 g2)) := (ps_if hc ha hb).weak fun D σ H h => by
  obtain ⟨F, ρ, A, h⟩ := h
  refine ⟨F, ρ, A, h.bind fun k k' F1 H1 ρ1 tr sb ra h1 => ?_⟩
  subst ra
  cases k with
  | true => rw [if_pos rfl] at h1 ⊢; exact ⟨F1, ρ1, A, h1⟩
  | false => rw [if_neg Bool.false_ne_true] at h1 ⊢; exact ⟨F1, ρ1, A, h1⟩
end

/-! ### a name is stored -/
def storeR (i : Nat) (r : Res) : EM Fl := fun ρ => match r with
  | .val d => some (.ok .nx (ρ.set i (.val d)))
  | .new m => some (.ok .nx (ρ.set i (.own m)))
  | .brw _ => none
def setM (i : Nat) (r : Res) : EM Fl := fun ρ => match ρ[i]? with
  | none => none
  | some (.par _) => none
  | some _ => storeR i r ρ
theorem moAt_set {ρ : En} {i j : Nat} {s : Slot} (hi : i < ρ.length) : moAt (ρ.set i s) j = if j = i then s.mo? else moAt ρ j := by
  unfold moAt
  by_cases z : j = i
  · subst z; rw [List.getElem?_set_self hi, if_pos rfl]; rfl
  · rw [List.getElem?_set_ne (Ne.symm z), if_neg z]
section
variable {K : PySem.W.Frag} {H0 : HE} {F H : Hp} {W : WX} {σ : L2.St} {G : Ends} {ρ : En} {A : Nat → Addr}
theorem ER.setVal {i : Nat} {v : V} {d : D} (er : ER K H0 F H σ ρ A) (hi : i < ρ.length) (r : Rep K F v d) : ER K H0 F H (σ.set i (some v)) (ρ.set i (.val d)) A := by
  have hs : i < σ.length := by rw [er.len]; exact hi
  refine ⟨by simpa using er.len, er.le, fun j s e => ?_, fun j k m1 m2 e1 e2 => ?_, er.dom, er.tabs⟩
  · by_cases z : j = i
    · subst z
      rw [List.getElem?_set_self hi] at e
      cases e
      exact ⟨v, List.getElem?_set_self hs, r⟩
    · rw [List.getElem?_set_ne (Ne.symm z)] at e
      have q := er.sl j s e
      cases s with
      | un => trivial
      | val d' => obtain ⟨v', h1, h2⟩ := q; exact ⟨v', by rw [List.getElem?_set_ne (Ne.symm z)]; exact h1, h2⟩
      | exc C fs => obtain ⟨a, d, h1, h2⟩ := q; exact ⟨a, d, by rw [List.getElem?_set_ne (Ne.symm z)]; exact h1, h2⟩
      | own m => exact ⟨by rw [List.getElem?_set_ne (Ne.symm z)]; exact q.1, q.2⟩
      | par m => exact ⟨by rw [List.getElem?_set_ne (Ne.symm z)]; exact q.1, q.2⟩
  · rw [moAt_set hi] at e1 e2
    split at e1
    · cases e1
    · split at e2
      · cases e2
      · exact er.inj j k m1 m2 e1 e2
theorem StepS.setVal {i : Nat} {d : D} (hi : i < ρ.length) (np : ∀ m, ρ[i]? ≠ some (Slot.par m)) : StepS ρ A (ρ.set i (.val d)) A H := by
  refine ⟨fun a h => .inl ?_, fun j m h => ?_⟩
  · obtain ⟨j, m, h1, h2⟩ := h
    rw [moAt_set hi] at h1
    split at h1
    · cases h1
    · exact ⟨j, m, h1, h2⟩
  · by_cases z : j = i
    · subst z; exact absurd h (np m)
    · exact ⟨m, by rw [List.getElem?_set_ne (Ne.symm z)]; exact h, rfl⟩
def putA (A : Nat → Addr) (i : Nat) (p : Addr) : Nat → Addr := fun j => if j = i then p else A j
theorem ER.setOwn {i : Nat} {p : Addr} {m : Mo} (er : ER K H0 F H σ ρ A) (hi : i < ρ.length) (fp : F p = none) (no : ¬ OwnA ρ A p) (mo : MoAt K F H p m) (h0 : H0 p = none) : ER K H0 F H (σ.set i (some (.ref p))) (ρ.set i (.own m)) (putA A i p) := by
  have hs : i < σ.length := by rw [er.len]; exact hi
  have an : ∀ {j}, j ≠ i → putA A i p j = A j := fun {j} z => if_neg z
  have ai : putA A i p i = p := if_pos rfl
  refine ⟨by simpa using er.len, er.le, fun j s e => ?_, fun j k m1 m2 e1 e2 ea => ?_, er.dom, er.tabs⟩
  · by_cases z : j = i
    · subst z
      rw [List.getElem?_set_self hi] at e
      cases e
      exact ⟨by rw [ai]; exact List.getElem?_set_self hs, by rw [ai]; exact fp, by rw [ai]; exact mo, by rw [ai]; exact h0⟩
    · rw [List.getElem?_set_ne (Ne.symm z)] at e
      have q := er.sl j s e
      cases s with
      | un => trivial
      | val d' => obtain ⟨v', h1, h2⟩ := q; exact ⟨v', by rw [List.getElem?_set_ne (Ne.symm z)]; exact h1, h2⟩
      | exc C fs => obtain ⟨a, d, h1, h2⟩ := q; exact ⟨a, d, by rw [List.getElem?_set_ne (Ne.symm z)]; exact h1, h2⟩
      | own m => exact ⟨by rw [List.getElem?_set_ne (Ne.symm z), an z]; exact q.1, by rw [an z]; exact q.2⟩
      | par m => exact ⟨by rw [List.getElem?_set_ne (Ne.symm z), an z]; exact q.1, by rw [an z]; exact q.2⟩
  · rw [moAt_set hi] at e1 e2
    by_cases z1 : j = i
    · by_cases z2 : k = i
      · rw [z1, z2]
      · rw [if_neg z2] at e2
        rw [z1, ai, an z2] at ea
        exact absurd ⟨k, m2, e2, ea.symm⟩ no
    · by_cases z2 : k = i
      · rw [if_neg z1] at e1
        rw [z2, ai, an z1] at ea
        exact absurd ⟨j, m1, e1, ea⟩ no
      · rw [if_neg z1] at e1
        rw [if_neg z2] at e2
        rw [an z1, an z2] at ea
        exact er.inj j k m1 m2 e1 e2 ea
theorem StepS.setOwn {i : Nat} {p : Addr} {m : Mo} (hi : i < ρ.length) (np : ∀ m, ρ[i]? ≠ some (Slot.par m)) (ok : Okp ρ A H p) : StepS ρ A (ρ.set i (.own m)) (putA A i p) H := by
  refine ⟨fun a h => ?_, fun j m h => ?_⟩
  · obtain ⟨j, m', h1, h2⟩ := h
    rw [moAt_set hi] at h1
    by_cases z : j = i
    · subst z
      have : p = a := by rw [← h2]; exact (if_pos rfl).symm
      rw [← this]
      exact ok.symm
    · rw [if_neg z] at h1
      exact .inl ⟨j, m', h1, by rw [← h2]; exact (if_neg z).symm⟩
  · by_cases z : j = i
    · subst z; exact absurd h (np m)
    · exact ⟨m, by rw [List.getElem?_set_ne (Ne.symm z)]; exact h, if_neg z⟩
/-- the end of a store -/
theorem setM_end {i : Nat} {r : Res} {v : V} {F1 H1 : Hp} {ρ1 : En} {o : Out Fl} (tr : Tr (OwnA ρ A) F H F1 H1) (sb : Sb ρ ρ1) (er : ER K H0 F1 H1 σ ρ1 A) (ra : RAt K H0 (Okp ρ A H) F1 H1 ρ1 A v r) (e : setM i r ρ1 = some o) (p : PostS K H0 W G F H ρ A o) :
    G.nx (σ.set i (some v)) H1 := by
  unfold setM at e
  cases q : ρ1[i]? with
  | none => rw [q] at e; cases e
  | some s =>
    rw [q] at e
    have hi : i < ρ1.length := (List.getElem?_eq_some_iff.mp q).1
    have main : (∀ m, s ≠ .par m) → storeR i r ρ1 = some o → G.nx (σ.set i (some v)) H1 := fun ns e => by
      have np : ∀ m, ρ1[i]? ≠ some (Slot.par m) := fun m z => by rw [q] at z; exact ns m (Option.some.inj z)
      cases r with
      | val d =>
        cases e
        exact p _ F1 H1 A tr (er.setVal hi ra) (sb.step.trans tr (StepS.setVal hi np))
      | new m =>
        cases e
        obtain ⟨pp, rfl, fp, no, mo, h0, ok⟩ := ra
        refine p _ F1 H1 (putA A i pp) tr (er.setOwn hi fp no mo h0) ?_
        refine ⟨fun a h => ?_, fun j m' h => ?_⟩
        · obtain ⟨j, m', h1, h2⟩ := h
          rw [moAt_set hi] at h1
          by_cases z : j = i
          · subst z
            have : pp = a := by rw [← h2]; exact (if_pos rfl).symm
            rw [← this]
            exact ok.symm
          · rw [if_neg z] at h1
            exact .inl (sb.ownA ⟨j, m', h1, by rw [← h2]; exact (if_neg z).symm⟩)
        · obtain ⟨m1, h1⟩ := sb.par j m' h
          by_cases z : j = i
          · subst z; exact absurd h1 (np m1)
          · exact ⟨m1, by rw [List.getElem?_set_ne (Ne.symm z)]; exact h1, if_neg z⟩
      | brw j => cases e
    cases s with
    | par m => cases e
    | un => exact main (fun _ z => nomatch z) e
    | exc C fs => exact main (fun _ z => nomatch z) e
    | val d => exact main (fun _ z => nomatch z) e
    | own m => exact main (fun _ z => nomatch z) e
end
section
variable {X : Cx} {H0 : HE} {W : WX} {e : Expr} {ge : EM Res} {pos pos' : Pos} {x : Str}
def gSet (i : Nat) (g : EM Res) : EM Fl := g.bind fun r => setM i r
theorem set_weak {i : Nat} {G : Ends} {σ : L2.St} {H : Hp} (h : tSt X.K H0 W (gSet i ge) G σ H) : tAsg (tE X.K H0 W ge) (gName i) G σ H := by
  obtain ⟨F, ρ, A, h⟩ := h
  exact ⟨F, ρ, A, h.bind0 fun v r F1 H1 ρ1 o tr sb er ra e p => setM_end tr sb er ra e p⟩
theorem c_set (i : Nat) (hN : X.N.Nodup) (he : PE X e (tE X.K H0 W ge)) (hi : X.N[i]? = some x := by rfl) (hx : Loc X.env.scope x := by first | exact .inl rfl | exact .inr rfl) (hs : swapsWith e (some (.Name x pos')) pos.line X.env = pure false := by rfl) (hf : X.fn x = true ∨ X.env.scope.names.lookup x = some .local := by first | exact .inl rfl | exact .inr rfl | assumption) :
    PS X (.Assign [.Name x pos'] e pos) (tSt X.K H0 W (gSet i ge)) := (ps_set hN hi hx he hs hf).weak fun _ _ _ h => set_weak h
end
end M

/-! M6: targets, changes of owned things, loops. -/
namespace M
open PySem PySem.Spec PyProof.Rows L2

/-! ### an owned thing is changed -/
def putMo (ρ : En) (k : Nat) (m : Mo) : En := match ρ[k]? with
  | some (.own _) => ρ.set k (.own m)
  | some (.par _) => ρ.set k (.par m)
  | _ => ρ
section
variable {K : PySem.W.Frag} {H0 : HE} {F H : Hp} {W : WX} {σ : L2.St} {ρ : En} {A : Nat → Addr} {k : Nat} {m m' : Mo} {ob : HO}
theorem moAt_put (h : moAt ρ k = some m) (j : Nat) : moAt (putMo ρ k m') j = if j = k then some m' else moAt ρ j := by
  unfold moAt at h
  cases q : ρ[k]? with
  | none => rw [q] at h; cases h
  | some s =>
    have hk : k < ρ.length := (List.getElem?_eq_some_iff.mp q).1
    rw [q] at h
    unfold putMo
    rw [q]
    cases s with
    | un => cases h
    | val d => cases h
    | exc C fs => cases h
    | own m0 => exact moAt_set hk
    | par m0 => exact moAt_set hk
theorem put_get (h : moAt ρ k = some m) {j : Nat} (z : j ≠ k) : (putMo ρ k m')[j]? = ρ[j]? := by
  unfold putMo
  split
  · exact List.getElem?_set_ne (Ne.symm z)
  · exact List.getElem?_set_ne (Ne.symm z)
  · rfl
theorem put_len : (putMo ρ k m').length = ρ.length := by
  unfold putMo
  split
  · exact List.length_set
  · exact List.length_set
  · rfl
theorem ER.put (er : ER K H0 F H σ ρ A) (h : moAt ρ k = some m) (mo : MoAt K F (upd H (A k) ob) (A k) m') : ER K H0 F (upd H (A k) ob) σ (putMo ρ k m') A := by
  obtain ⟨a1, a2, a3⟩ := er.at h
  refine ⟨by rw [put_len]; exact er.len, le_upd er.le a2, fun j s e => ?_, fun j i m1 m2 e1 e2 ea => ?_, fun a x e => ?_, tabs_upd er.tabs (.inr a3.there')⟩
  · by_cases z : j = k
    · subst z
      unfold moAt at h
      cases q : ρ[j]? with
      | none => rw [q] at h; cases h
      | some s0 =>
        have hk : j < ρ.length := (List.getElem?_eq_some_iff.mp q).1
        have so := er.sl j s0 q
        unfold putMo at e
        rw [q] at h e
        cases s0 with
        | un => cases h
        | val d => cases h
        | exc C fs => cases h
        | own m0 =>
          rw [List.getElem?_set_self hk] at e
          cases e
          exact ⟨so.1, so.2.1, mo, so.2.2.2⟩
        | par m0 =>
          rw [List.getElem?_set_self hk] at e
          cases e
          exact ⟨so.1, so.2.1, mo⟩
    · rw [put_get h z] at e
      have q := er.sl j s e
      have ne : ∀ {mm}, moAt ρ j = some mm → A j ≠ A k := fun {mm} e' ea => z (er.inj j k mm m e' h ea)
      cases s with
      | un => trivial
      | val d => exact q
      | exc C fs => exact q
      | own mm => exact ⟨q.1, q.2.1, q.2.2.1.keep (upd_ne (ne (by unfold moAt; rw [e]; rfl))), q.2.2.2⟩
      | par mm => exact ⟨q.1, q.2.1, q.2.2.keep (upd_ne (ne (by unfold moAt; rw [e]; rfl)))⟩
  · rw [moAt_put h] at e1 e2
    have f : ∀ {j mm}, (if j = k then some m' else moAt ρ j) = some mm → ∃ m0, moAt ρ j = some m0 := fun {j mm} e => by
      by_cases z : j = k
      · subst z; exact ⟨m, h⟩
      · rw [if_neg z] at e; exact ⟨mm, e⟩
    obtain ⟨x1, y1⟩ := f e1
    obtain ⟨x2, y2⟩ := f e2
    exact er.inj j i x1 x2 y1 y2 ea
  · obtain ⟨y, q⟩ := er.dom a x e
    by_cases z : a = A k
    · exact ⟨ob, by rw [z]; exact upd_same⟩
    · exact ⟨y, by rw [upd_ne z]; exact q⟩
theorem Tr.put (h : moAt ρ k = some m) : Tr (OwnA ρ A) F H F (upd H (A k) ob) where
  ff := Le.refl F
  keep := fun a x n _ e => by rw [upd_ne (fun z => n ⟨k, m, h, z.symm⟩)]; exact e
  fresh := fun a x e => .inl ⟨x, e⟩
  there := fun a x e => by
    by_cases z : a = A k
    · exact ⟨ob, by rw [z]; exact upd_same⟩
    · exact ⟨x, by rw [upd_ne z]; exact e⟩
theorem Sb.put (h : moAt ρ k = some m) : Sb ρ (putMo ρ k m') := by
  refine ⟨fun j m1 e => ?_, fun j m1 e => ?_⟩
  · rw [moAt_put h] at e
    by_cases z : j = k
    · subst z; exact ⟨m, h⟩
    · rw [if_neg z] at e; exact ⟨m1, e⟩
  · by_cases z : j = k
    · subst z
      have hk : j < ρ.length := (List.getElem?_eq_some_iff.mp e).1
      unfold putMo
      rw [e]
      exact ⟨m', List.getElem?_set_self hk⟩
    · exact ⟨m1, by rw [put_get h z]; exact e⟩
end

/-! ### list.append, list.pop .. of an owned list at a name -/
/-- xs.append(e) -/
def gApp (k : Nat) (g : EM Res) : EM Res := g.bind fun r => fun ρ => match r, moAt ρ k with
  | .val d, some (.l ds) => if ds.length < sizeLine then some (.ok (.val .non) (putMo ρ k (.l (ds ++ [d])))) else none
  | _, _ => none
section
variable {X : Cx} {H0 : HE} {W : WX} {e : Expr} {es : List Expr} {g : EM Res} {gs : EM (List Res)} {x : Str} {pos apos npos : Pos}
theorem own_list {K : PySem.W.Frag} {F H : Hp} {σ : L2.St} {ρ : En} {A : Nat → Addr} {k : Nat} {ds : List D} (er : ER K H0 F H σ ρ A) (h : moAt ρ k = some (.l ds)) : σ[k]? = some (some (.ref (A k))) ∧ ∃ vs, H (A k) = some (.lst vs) ∧ Reps K F vs ds := by
  obtain ⟨a1, a2, vs, a3, a4⟩ := er.at h
  exact ⟨a1, vs, a3, a4⟩
/-- the owned list is an owned list ahead of the argument, too -/
theorem own_back {ρ ρ1 : En} {k : Nat} {m : Mo} (sb : Sb ρ ρ1) (h : moAt ρ1 k = some m) : ∃ m0, moAt ρ k = some m0 := sb.own k m h
theorem mo_ty {K : PySem.W.Frag} {F H : Hp} {a : Addr} {m : Mo} (h : MoAt K F H a m) : (∃ xs, SqL K H a xs) ∨ ∃ kvs, H a = some (.dK kvs) := by
  cases m with
  | l ds => obtain ⟨vs, h1, _⟩ := h; exact .inl ⟨vs, SqL.of h1⟩
  | d ds => obtain ⟨vs, h1, _⟩ := h; exact .inr ⟨vs, h1⟩
/-- a list's kind does not change: needed of the receiver ahead of the arguments -/
def isL (ρ : En) (k : Nat) : Bool := match moAt ρ k with
  | some (.l _) => true
  | _ => false
def gRcv (k : Nat) (g : EM Res) : EM Res := fun ρ => if isL ρ k = true then g ρ else none
theorem rcv_at {K : PySem.W.Frag} {F H : Hp} {σ : L2.St} {ρ : En} {A : Nat → Addr} {k : Nat} {ok : Addr → Prop} {Q : VK} (h : WpAt K H0 W (RAt K H0) ok F ρ A (gRcv k g) σ H Q) :
    σ[k]? = some (some (.ref (A k))) ∧ tyV K "list" (.ref (A k)) H ∧ WpAt K H0 W (RAt K H0) ok F ρ A g σ H Q := by
  obtain ⟨er, kn, o, e, p⟩ := h
  unfold gRcv at e
  obtain ⟨c, e⟩ := ite_some' e
  unfold isL at c
  cases q : moAt ρ k with
  | none => rw [q] at c; cases c
  | some m =>
    rw [q] at c
    cases m with
    | d ds => cases c
    | l ds =>
      obtain ⟨a1, vs, a2, a3⟩ := own_list er q
      exact ⟨a1, .inl ⟨rfl, vs, SqL.of a2⟩, er, kn, o, e, p⟩
theorem p_append (k : Nat) (he : PE X e (tE X.K H0 W g)) (hN : X.N[k]? = some x := by rfl) (hv : Vis X.env.scope x := by first | exact Or.inl rfl | exact Or.inr (Or.inl rfl) | exact Or.inr (Or.inr rfl)) (hd : (x == ("__debug__" : Str)) = false := by decide) (hcd : (x == ("__classdict__" : Str)) = false := by decide)
    (hbase : attributeBase (.Name x npos) "append" X.env (eval (.Name x npos) X.env) = eval (.Name x npos) X.env := by rfl)
    (hfew : ((backTo pos (starEach (e :: []) X.env)).all (fun x => !x.1) && (backToKw pos (keywordEach [] X.env)).all (fun x => x.1.isSome)
      && decide ((e :: []).length + ([] : List Keyword).length + (if ([] : List Keyword).isEmpty then 0 else 1) < 30)) = true := by rfl)
    (hline : (apos.endLine == pos.line) = true := by rfl) (hs : starEach (e :: []) X.env = (false, eval e X.env) :: starEach [] X.env := by rfl) (hplain : (backTo pos (starEach [] X.env)).any (·.1) = false := by rfl) :
    PE X (.Call (.Attribute (.Name x npos) "append" apos) [e] [] pos) (tE X.K H0 W (gRcv k (gApp k g))) :=
  (pe_bm PySem.F.plainAttrs_list PySem.F.slot_list_append PySem.F.type_list_append mt_append (pe_var hN hv hd hcd) (pa_cons he pa_nil hs) hbase hfew hline hs hplain).weak fun σ H Q h => by
    obtain ⟨F, ρ, A, h⟩ := h
    obtain ⟨a1, a2, h⟩ := rcv_at h
    refine ⟨_, a1, a2, ⟨F, ρ, A, h.bind fun v r F1 H1 ρ1 tr sb ra h1 => ?_⟩⟩
    obtain ⟨er, kn, o, e, p⟩ := h1
    cases r with
    | new m => cases e
    | brw j => cases e
    | val d =>
      cases q : moAt ρ1 k with
      | none => simp only [q] at e; cases e
      | some m =>
        cases m with
        | d ds => simp only [q] at e; cases e
        | l ds =>
          simp only [q] at e
          obtain ⟨c, e⟩ := ite_some' e
          cases e
          obtain ⟨b1, vs, b2, b3⟩ := own_list er q
          refine ⟨A k, vs, v, rfl, rfl, b2, by rw [b3.length]; exact c, ?_⟩
          exact p .non F1 _ (Tr.put q) (er.put q ⟨_, upd_same, b3.append (.cons ra .nil)⟩) (Sb.put q) Rep.non
/-- xs.pop(i), the index not below nought -/
def gPopAt (k : Nat) (g : EM Res) : EM Res := g.bind fun r => fun ρ => match r, moAt ρ k with
  | .val (.int i), some (.l ds) => if -(2 ^ 63) ≤ i ∧ i < 2 ^ 63 then (match seqIndex? i ds.length with
    | some j => (match ds[j]? with
      | some d => some (.ok (.val d) (putMo ρ k (.l (ds.eraseIdx j))))
      | none => none)
    | none => none) else none
  | _, _ => none
theorem p_popAt (k : Nat) (he : PE X e (tE X.K H0 W g)) (hN : X.N[k]? = some x := by rfl) (hv : Vis X.env.scope x := by first | exact Or.inl rfl | exact Or.inr (Or.inl rfl) | exact Or.inr (Or.inr rfl)) (hd : (x == ("__debug__" : Str)) = false := by decide) (hcd : (x == ("__classdict__" : Str)) = false := by decide)
    (hbase : attributeBase (.Name x npos) "pop" X.env (eval (.Name x npos) X.env) = eval (.Name x npos) X.env := by rfl)
    (hfew : ((backTo pos (starEach (e :: []) X.env)).all (fun x => !x.1) && (backToKw pos (keywordEach [] X.env)).all (fun x => x.1.isSome)
      && decide ((e :: []).length + ([] : List Keyword).length + (if ([] : List Keyword).isEmpty then 0 else 1) < 30)) = true := by rfl)
    (hline : (apos.endLine == pos.line) = true := by rfl) (hs : starEach (e :: []) X.env = (false, eval e X.env) :: starEach [] X.env := by rfl) (hplain : (backTo pos (starEach [] X.env)).any (·.1) = false := by rfl) :
    PE X (.Call (.Attribute (.Name x npos) "pop" apos) [e] [] pos) (tE X.K H0 W (gRcv k (gPopAt k g))) :=
  (pe_bm PySem.F.plainAttrs_list PySem.F.slot_list_pop PySem.F.type_list_pop mt_popAt (pe_var hN hv hd hcd) (pa_cons he pa_nil hs) hbase hfew hline hs hplain).weak fun σ H Q h => by
    obtain ⟨F, ρ, A, h⟩ := h
    obtain ⟨a1, a2, h⟩ := rcv_at h
    refine ⟨_, a1, a2, ⟨F, ρ, A, h.bind fun v r F1 H1 ρ1 tr sb ra h1 => ?_⟩⟩
    obtain ⟨er, kn, o, e, p⟩ := h1
    dsimp only at e
    split at e
    · rename_i i ds q
      obtain ⟨⟨c1, c2⟩, e⟩ := ite_some' e
      cases e1 : seqIndex? i ds.length with
      | none => simp only [e1] at e; cases e
      | some j =>
        simp only [e1] at e
        cases e2 : ds[j]? with
        | none => simp only [e2] at e; cases e
        | some d =>
          simp only [e2] at e
          cases e
          cases ra
          obtain ⟨b1, vs, b2, b3⟩ := own_list er q
          obtain ⟨y, hy, ry⟩ := b3.get e2
          refine ⟨A k, vs, i, j, y, rfl, rfl, b2, c1, c2, by rw [b3.length]; exact e1, hy, ?_⟩
          exact p y F1 _ (Tr.put q) (er.put q ⟨_, upd_same, b3.eraseIdx j⟩) (Sb.put q) ry
    · cases e
end
end M

/-! M7: targets, augmented assignments, loops. -/
namespace M
open PySem PySem.Spec PyProof.Rows L2

/-! ### targets: names and tuples of them -/
inductive Tg where
  | nm (i : Nat) | tp (ts : List Tg)
def setV (i : Nat) (d : D) (ρ : En) : Option En := match ρ[i]? with
  | none => none
  | some (.par _) => none
  | some _ => some (ρ.set i (.val d))
mutual
def Tg.bind : Tg → D → En → Option En
  | .nm i, d, ρ => setV i d ρ
  | .tp ts, .tup ds, ρ => Tg.binds ts ds ρ
  | .tp _, _, _ => none
def Tg.binds : List Tg → List D → En → Option En
  | [], [], ρ => some ρ
  | t :: ts, d :: ds, ρ => (t.bind d ρ).bind fun ρ1 => Tg.binds ts ds ρ1
  | _, _, _ => none
end
mutual
def Tg.slots : Tg → List Nat
  | .nm i => [i]
  | .tp ts => Tg.slotss ts
def Tg.slotss : List Tg → List Nat
  | [] => []
  | t :: ts => t.slots ++ Tg.slotss ts
end
section
variable (K : PySem.W.Frag) (H0 : HE)
/-- what a target of names asks: the heap stays -/
def tGT (t : Tg) : TG := fun v σ H Q => ∃ F ρ A d ρ', ER K H0 F H σ ρ A ∧ Rep K F v d ∧ t.bind d ρ = some ρ' ∧
  ∀ σ', ER K H0 F H σ' ρ' A → StepS ρ A ρ' A H → (∀ j, j ∉ t.slots → σ'[j]? = σ[j]?) → Q σ' H
def tGTs (ts : List Tg) : TGs := fun vs σ H Q => ∃ F ρ A ds ρ', ER K H0 F H σ ρ A ∧ Reps K F vs ds ∧ Tg.binds ts ds ρ = some ρ' ∧
  ∀ σ', ER K H0 F H σ' ρ' A → StepS ρ A ρ' A H → (∀ j, j ∉ Tg.slotss ts → σ'[j]? = σ[j]?) → Q σ' H
end
theorem setV_some {i : Nat} {d : D} {ρ ρ' : En} (e : setV i d ρ = some ρ') : i < ρ.length ∧ (∀ m, ρ[i]? ≠ some (Slot.par m)) ∧ ρ' = ρ.set i (.val d) := by
  unfold setV at e
  cases q : ρ[i]? with
  | none => rw [q] at e; cases e
  | some s =>
    rw [q] at e
    refine ⟨(List.getElem?_eq_some_iff.mp q).1, fun m z => ?_, ?_⟩
    · cases Option.some.inj z; cases e
    · cases s with
      | par m => cases e
      | un => cases e; rfl
      | val _ => cases e; rfl
      | exc _ _ => cases e; rfl
      | own _ => cases e; rfl
section
variable {X : Cx} {H0 : HE} {pos : Pos}
theorem g_nm (i : Nat) {x : Str} (hN : X.N.Nodup) (hi : X.N[i]? = some x := by rfl) (hx : Loc X.env.scope x := by first | exact .inl rfl | exact .inr rfl) (hf : X.fn x = true ∨ X.env.scope.names.lookup x = some .local := by first | exact .inl rfl | exact .inr rfl | assumption) : PG X (.Name x pos) (tGT X.K H0 (.nm i)) := by
  refine ⟨fun pins s σ H v u Q I r h => (pg_name hN hi hx hf).run pins s σ H v u Q I r ?_⟩
  obtain ⟨F, ρ, A, d, ρ', er, rp, e, k⟩ := h
  unfold Tg.bind at e
  obtain ⟨hl, np, rfl⟩ := setV_some e
  refine k _ (er.setVal hl rp) (StepS.setVal hl np) fun j z => ?_
  exact List.getElem?_set_ne (fun q => z (by rw [← q]; exact List.mem_singleton.mpr rfl))
theorem gs_nil : PGs X [] (tGTs X.K H0 []) := by
  refine ⟨fun pins s σ H vs us Q I r h => pgs_nil.run pins s σ H vs us Q I r ?_⟩
  obtain ⟨F, ρ, A, ds, ρ', er, rp, e, k⟩ := h
  cases rp with
  | nil => unfold Tg.binds at e; cases e; exact ⟨rfl, k σ er .refl fun _ _ => rfl⟩
  | cons h t => unfold Tg.binds at e; cases e
theorem gs_cons {t : Tg} {ts : List Tg} {e : Expr} {es : List Expr} (h1 : PG X e (tGT X.K H0 t)) (h2 : PGs X es (tGTs X.K H0 ts))
    (hs : (assignEach (e :: es) X.env).map (·.2) = assign e X.env :: (assignEach es X.env).map (·.2) := by rfl) : PGs X (e :: es) (tGTs X.K H0 (t :: ts)) := by
  refine ⟨fun pins s σ H vs us Q I r h => (pgs_cons h1 h2 hs).run pins s σ H vs us Q I r ?_⟩
  obtain ⟨F, ρ, A, ds, ρ', er, rp, e, k⟩ := h
  cases rp with
  | nil => unfold Tg.binds at e; cases e
  | @cons v vs d ds h rr =>
    unfold Tg.binds at e
    cases e1 : t.bind d ρ with
    | none => rw [e1] at e; cases e
    | some ρ1 =>
      rw [e1] at e
      refine ⟨v, vs, rfl, F, ρ, A, d, ρ1, er, h, e1, fun σ1 er1 s1 k1 => ⟨F, ρ1, A, ds, ρ', er1, rr, e, fun σ2 er2 s2 k2 => ?_⟩⟩
      refine k σ2 er2 (s1.trans (S := fun _ => False) (F := F) (F1 := F) .refl s2) fun j z => ?_
      have z1 : j ∉ t.slots := fun q => z (by unfold Tg.slotss; exact List.mem_append_left _ q)
      have z2 : j ∉ Tg.slotss ts := fun q => z (by unfold Tg.slotss; exact List.mem_append_right _ q)
      rw [k2 j z2, k1 j z1]
theorem g_tp {ts : List Tg} {es : List Expr} {k n : Nat} (hc : X.calm = true) (h : PGs X es (tGTs X.K H0 ts)) (hn : (assignEach es X.env).length = n := by rfl) (hn2 : ts.length = n := by rfl) (hst : (assignEach es X.env).findIdx? (·.1) = none := by rfl) :
    PG X (.Tuple es k pos) (tGT X.K H0 (.tp ts)) := by
  refine ⟨fun pins s σ H v u Q I r q => (pg_tup hc h hn hst).run pins s σ H v u Q I r ?_⟩
  obtain ⟨F, ρ, A, d, ρ', er, rp, e, k⟩ := q
  have len : ∀ {ts : List Tg} {ds : List D} {ρ ρ' : En}, Tg.binds ts ds ρ = some ρ' → ds.length = ts.length := by
    intro ts
    induction ts with
    | nil => intro ds ρ ρ' e; cases ds with
      | nil => rfl
      | cons => unfold Tg.binds at e; cases e
    | cons t ts ih =>
      intro ds ρ ρ' e
      cases ds with
      | nil => unfold Tg.binds at e; cases e
      | cons d ds =>
        unfold Tg.binds at e
        cases e1 : t.bind d ρ with
        | none => rw [e1] at e; cases e
        | some ρ1 => rw [e1] at e; exact congrArg (· + 1) (ih e)
  cases d with
  | tup ds =>
    unfold Tg.bind at e
    cases rp with
    | tup s1 r1 => exact ⟨_, _, rfl, le_t er.le s1, by rw [r1.length, len e]; exact hn2, F, ρ, A, ds, ρ', er, r1, e, k⟩
  | _ => unfold Tg.bind at e; cases e
end

/-! ### target = value -/
/-! targets that may change owned things -/
section
variable (K : PySem.W.Frag) (H0 : HE)
def tGd (g : D → En → Option En) : TG := fun v σ H Q => ∃ F ρ A d ρ', ER K H0 F H σ ρ A ∧ Rep K F v d ∧ g d ρ = some ρ' ∧
  ∀ σ' F' H', Tr (OwnA ρ A) F H F' H' → ER K H0 F' H' σ' ρ' A → StepS ρ A ρ' A H → Q σ' H'
def tGds (g : List D → En → Option En) : TGs := fun vs σ H Q => ∃ F ρ A ds ρ', ER K H0 F H σ ρ A ∧ Reps K F vs ds ∧ g ds ρ = some ρ' ∧
  ∀ σ' F' H', Tr (OwnA ρ A) F H F' H' → ER K H0 F' H' σ' ρ' A → StepS ρ A ρ' A H → Q σ' H'
end
def gdNil : List D → En → Option En
  | [], ρ => some ρ
  | _, _ => none
def gdCons (g : D → En → Option En) (gs : List D → En → Option En) : List D → En → Option En
  | d :: ds, ρ => (g d ρ).bind fun ρ1 => gs ds ρ1
  | _, _ => none
def gdTup (n : Nat) (gs : List D → En → Option En) : D → En → Option En
  | .tup ds, ρ => if ds.length = n then gs ds ρ else none
  | _, _ => none
/-- x[i] = d, x an owned list or dict -/
def gdSub (k : Nat) (gi : EM Res) : D → En → Option En := fun d ρ => if (moAt ρ k).isSome = true then (match gi ρ with
  | some (.ok (.val i) ρ1) => (match moAt ρ1 k with
    | some (.l ds) => (match i with
      | .int n => (ixN ds.length n).map fun j => putMo ρ1 k (.l (ds.set j d))
      | _ => none)
    | some (.d kvs) => (match keyD i with
      | some y => if kvs.length < sizeLine then some (putMo ρ1 k (.d (if (kvs.any fun kv => decide (kv.1 = y)) = true then kvs.map (fun kv => if kv.1 = y then (kv.1, d) else kv) else kvs ++ [(y, d)]))) else none
      | none => none)
    | none => none)
  | _ => none) else none
def rSetA : TSet := fun o i v H Q => rSetL o i v H Q ∨ ∃ a H', o = .ref a ∧ DPut H a i v H' ∧ Q H'
theorem set_all {X : Cx} (hu : X.A.units + 1 < cLine) : PSet X rSetA := by
  intro pins s σ H o i v ov iv u Q I ro ri rv h
  rcases h with h | ⟨a, H', rfl, g, q⟩
  · exact set_list pins s σ H o i v ov iv u Q I ro ri rv h
  · obtain rfl : ov = Value.ref a := ro
    exact d_setItem hu I g ri rv fun s' I' => ⟨H', I', q⟩
theorem RepK.put {K : PySem.W.Frag} {F : Hp} {y : Key} {v : V} {d : D} (h : Rep K F v d) {xs : List (Key × V)} {ds : List (Key × D)} (r : RepK K F xs ds) :
    RepK K F (putK xs y v) (if (ds.any fun kv => decide (kv.1 = y)) = true then ds.map (fun kv => if kv.1 = y then (kv.1, d) else kv) else ds ++ [(y, d)]) := by
  have e : (xs.any fun kv => decide (kv.1 = y)) = ds.any fun kv => decide (kv.1 = y) := by
    induction xs generalizing ds with
    | nil => cases r; rfl
    | cons x xs ih => cases r with
      | cons h r => rw [List.any_cons, List.any_cons, ih r]
  unfold putK
  rw [e]
  by_cases c : (ds.any fun kv => decide (kv.1 = y)) = true
  · rw [if_pos c, if_pos c]
    clear c e
    induction xs generalizing ds with
    | nil => cases r; exact .nil
    | cons x xs ih => cases r with
      | cons h' r =>
        rename_i k x d' ds'
        rw [List.map_cons, List.map_cons]
        by_cases z : k = y
        · rw [if_pos z, if_pos z]; exact .cons h (ih r)
        · rw [if_neg z, if_neg z]; exact .cons h' (ih r)
  · rw [if_neg c, if_neg c]
    clear c e
    induction xs generalizing ds with
    | nil => cases r; exact .cons h .nil
    | cons x xs ih => cases r with
      | cons h' r => exact .cons h' (ih r)
section
variable {X : Cx} {H0 : HE} {W : WX} {e : Expr} {pos : Pos} {ge gi : EM Res} {x : Str}
theorem gd_of {t : Tg} {tg : Expr} (h : PG X tg (tGT X.K H0 t)) : PG X tg (tGd X.K H0 t.bind) := ⟨fun pins s σ H v u Q I r q => h.run pins s σ H v u Q I r (by
  obtain ⟨F, ρ, A, d, ρ', er, rp, e, k⟩ := q
  exact ⟨F, ρ, A, d, ρ', er, rp, e, fun σ' er' s _ => k σ' F H .refl er' s⟩)⟩
theorem gds_nil : PGs X [] (tGds X.K H0 gdNil) := by
  refine ⟨fun pins s σ H vs us Q I r h => pgs_nil.run pins s σ H vs us Q I r ?_⟩
  obtain ⟨F, ρ, A, ds, ρ', er, rp, e, k⟩ := h
  cases rp with
  | nil => cases e; exact ⟨rfl, k σ F H .refl er .refl⟩
  | cons h t => cases e
theorem gds_cons {g : D → En → Option En} {gs : List D → En → Option En} {e : Expr} {es : List Expr} (h1 : PG X e (tGd X.K H0 g)) (h2 : PGs X es (tGds X.K H0 gs))
    (hs : (assignEach (e :: es) X.env).map (·.2) = assign e X.env :: (assignEach es X.env).map (·.2) := by rfl) : PGs X (e :: es) (tGds X.K H0 (gdCons g gs)) := by
  refine ⟨fun pins s σ H vs us Q I r h => (pgs_cons h1 h2 hs).run pins s σ H vs us Q I r ?_⟩
  obtain ⟨F, ρ, A, ds, ρ', er, rp, e, k⟩ := h
  cases rp with
  | nil => cases e
  | @cons v vs d ds h rr =>
    have e : (g d ρ).bind (fun ρ1 => gs ds ρ1) = some ρ' := e
    cases e1 : g d ρ with
    | none => rw [e1] at e; cases e
    | some ρ1 =>
      rw [e1] at e
      refine ⟨v, vs, rfl, F, ρ, A, d, ρ1, er, h, e1, fun σ1 F1 H1 t1 er1 s1 => ⟨F1, ρ1, A, ds, ρ', er1, rr.mono t1.ff, e, fun σ2 F2 H2 t2 er2 s2 => ?_⟩⟩
      exact k σ2 F2 H2 (t1.trans t2 s1.own) er2 (s1.trans t1 s2)
theorem gd_tup {gs : List D → En → Option En} {es : List Expr} {k : Nat} (n : Nat) (hc : X.calm = true) (h : PGs X es (tGds X.K H0 gs)) (hn : (assignEach es X.env).length = n := by rfl) (hst : (assignEach es X.env).findIdx? (·.1) = none := by rfl) :
    PG X (.Tuple es k pos) (tGd X.K H0 (gdTup n gs)) := by
  refine ⟨fun pins s σ H v u Q I r q => (pg_tup hc h hn hst).run pins s σ H v u Q I r ?_⟩
  obtain ⟨F, ρ, A, d, ρ', er, rp, e, k⟩ := q
  unfold gdTup at e
  split at e
  · obtain ⟨c, e⟩ := ite_some' e
    cases rp with
    | tup s1 r1 => exact ⟨_, _, rfl, le_t er.le s1, by rw [r1.length]; exact c, F, _, A, _, ρ', er, r1, e, k⟩
  · cases e
theorem gd_sub {i : Expr} {npos : Pos} (k : Nat) (hu : X.A.units + 1 < cLine) (hi : PE X i (tE X.K H0 (fun _ _ _ _ => False) gi)) (hN : X.N[k]? = some x := by rfl) (hv : Vis X.env.scope x := by first | exact Or.inl rfl | exact Or.inr (Or.inl rfl) | exact Or.inr (Or.inr rfl))
    (hd : (x == ("__debug__" : Str)) = false := by decide) (hcd : (x == ("__classdict__" : Str)) = false := by decide)
    (ha : ∀ v, assign (.Subscript (.Name x npos) i pos) X.env v = (do
      let ov ← holding [v] (eval (.Name x npos) X.env)
      let iv ← holding [v, ov] (eval i X.env)
      standAt pos
      holding [v, ov, iv] (setItem ov iv v)
      release [v, ov, iv] []) := by intro _; rfl) : PG X (.Subscript (.Name x npos) i pos) (tGd X.K H0 (gdSub k gi)) := by
  refine ⟨fun pins s σ H v u Q I r q => (pg_sub (pe_var (i := k) hN hv hd hcd) hi (set_all hu) ha).run pins s σ H v u Q I r ?_⟩
  obtain ⟨F, ρ, A, d, ρ', er, rp, e, kk⟩ := q
  unfold gdSub at e
  obtain ⟨c0, e⟩ := ite_some' e
  cases eg : gi ρ with
  | none => rw [eg] at e; cases e
  | some og =>
    rw [eg] at e
    cases og with
    | ex C fs ρ1 => cases e
    | ok res ρ1 =>
      cases res with
      | new m => cases e
      | brw j => cases e
      | val di =>
        simp only at e
        cases q : moAt ρ1 k with
        | none => rw [q] at e; cases e
        | some m =>
          have main : ∀ F1 H1 v1, Tr (OwnA ρ A) F H F1 H1 → ER X.K H0 F1 H1 σ ρ1 A → Sb ρ ρ1 → Rep X.K F1 v1 di → rSetA (.ref (A k)) v1 v H1 (fun H3 => Q σ H3) := fun F1 H1 v1 tr er1 sb ri => by
            have rd : Rep X.K F1 v d := rp.mono tr.ff
            rw [q] at e
            cases m with
            | l ds =>
              cases di with
              | int n =>
                obtain ⟨j, e1, rfl⟩ := map_some' e
                cases ri
                obtain ⟨b1, vs, b2, b3⟩ := own_list er1 q
                refine .inl ⟨A k, vs, n, j, rfl, rfl, b2, by rw [b3.length]; exact e1, ?_⟩
                exact kk σ F1 _ (tr.then sb (Tr.put q)) (er1.put q ⟨_, upd_same, b3.set rd j⟩) (Sb.step (sb.trans (Sb.put q)))
              | _ => cases e
            | d kvs =>
              cases ek : keyD di with
              | none => simp only [ek] at e; cases e
              | some y =>
                simp only [ek] at e
                obtain ⟨c, e⟩ := ite_some' e
                cases e
                obtain ⟨b1, b2, vs, b3, b4⟩ := er1.at q
                have ey : v1 = kV y := key_top (Rep.top er1.le ri) ek
                subst ey
                refine .inr ⟨A k, _, rfl, DPut.k b3 (by rw [b4.length]; exact c), ?_⟩
                exact kk σ F1 _ (tr.then sb (Tr.put q)) (er1.put q ⟨_, upd_same, RepK.put rd b4⟩) (Sb.step (sb.trans (Sb.put q)))
          obtain ⟨m0, hm0⟩ := Option.isSome_iff_exists.mp c0
          refine ⟨_, (er.at hm0).1, F, ρ, A, er, fun _ z => z, _, eg, ?_⟩
          exact fun v1 F1 H1 tr er1 sb ri => main F1 H1 v1 tr er1 sb ri

/-- target = e -/
def gAsg (gt : D → En → Option En) (g : EM Res) : EM Fl := g.bind fun r => fun ρ => match r with
  | .val d => (gt d ρ).map fun ρ' => .ok .nx ρ'
  | _ => none
theorem c_asg {tg : Expr} {gt : D → En → Option En} (he : PE X e (tE X.K H0 W ge)) (hg : PG X tg (tGd X.K H0 gt)) (hs : swapsWithSole [tg] e pos.line X.env = pure false := by rfl) (hw : swappedStores [tg] e X.env = pure none := by rfl)
    (h1 : (assignEach [tg] X.env).map (·.2) = [assign tg X.env] := by rfl) : PS X (.Assign [tg] e pos) (tSt X.K H0 W (gAsg gt ge)) := (ps_asg he hg hs hw h1).weak fun G σ H h => by
  obtain ⟨F, ρ, A, h⟩ := h
  refine ⟨F, ρ, A, h.bind0 fun v r F1 H1 ρ1 o tr sb er ra e p => ?_⟩
  cases r with
  | new m => cases e
  | brw j => cases e
  | val d =>
    obtain ⟨ρ2, e1, rfl⟩ := map_some' e
    exact ⟨F1, ρ1, A, d, ρ2, er, ra, e1, fun σ2 F2 H2 t2 er2 s2 => p σ2 F2 H2 A (tr.trans t2 fun x z => .inl (sb.ownA z)) er2 (sb.step.trans tr s2)⟩
/-- name op= e -/
def gAug (i : Nat) (f : D → D → Option Res) (g : EM Res) : EM Fl := fun ρ => match ρ[i]? with
  | some (.val d1) => (g.bind fun r => (op2 f (.val d1) r).bind fun r2 => fun ρ2 => match r2 with
    | .val d => (setV i d ρ2).map fun ρ' => .ok .nx ρ'
    | _ => none) ρ
  | _ => none
theorem c_aug (i : Nat) {op : Operator} {r : R2} {f : D → D → Option Res} (ho : OpR X (inplaceOp op) r) (hs : Snd2 X.K r f) (hN : X.N.Nodup) (he : PE X e (tE X.K H0 W ge)) (hi : X.N[i]? = some x := by rfl) (hx : Loc X.env.scope x := by first | exact .inl rfl | exact .inr rfl)
    (hf : X.fn x = true ∨ X.env.scope.names.lookup x = some .local := by first | exact .inl rfl | exact .inr rfl | assumption) {pos' : Pos} :
    PS X (.AugAssign (.Name x pos') op e pos) (tSt X.K H0 W (gAug i f ge)) := (ps_aug hN hi hx he (ti := r) ho hf).weak fun G σ H h => by
  obtain ⟨F, ρ, A, er, o, e, p⟩ := h
  unfold gAug at e
  split at e
  · rename_i d1 q
    obtain ⟨v1, hv, r1⟩ : ∃ v, σ[i]? = some (some v) ∧ Rep X.K F v d1 := er.sl i _ q
    refine ⟨v1, hv, ?_⟩
    have h' : StAt X.K H0 W F ρ A (ge.bind fun r => (op2 f (.val d1) r).bind fun r2 => fun ρ2 => match r2 with
      | .val d => (setV i d ρ2).map fun ρ' => Out.ok Fl.nx ρ'
      | _ => none) G σ H := ⟨er, o, e, p⟩
    refine ⟨F, ρ, A, h'.bind fun v2 r2 F1 H1 ρ1 tr sb ra h1 => ?_⟩
    have w := h1.bind0 (R := RAt X.K H0) (okg := Okp ρ1 A H1) (Q1 := fun z H2 => G.nx (σ.set i (some z)) H2) fun v3 r3 F3 H3 ρ3 o3 tr3 sb3 er3 ra3 e3 p3 => by
      cases r3 with
      | new m => cases e3
      | brw j => cases e3
      | val d =>
        obtain ⟨ρ4, e4, rfl⟩ := map_some' e3
        obtain ⟨hl, np, rfl⟩ := setV_some e4
        exact p3 _ F3 H3 A tr3 (er3.setVal hl ra3) (sb3.step.trans tr3 (StepS.setVal hl np))
    obtain ⟨dd1, dd2, res, e1, e2, e3, h3⟩ := op2_at w
    cases e1
    exact hs H0 W _ F1 H1 ρ1 A σ v1 v2 d1 dd2 res _ (Rep.top h3.1.le (r1.mono tr.ff)) (ra.top h3.1 e2) e3 h3
  · cases e
end

/-! ### a, b = x, y with plain local names -/
def gPar (i j : Nat) (gs : EM (List Res)) : EM Fl := gs.bind fun rs => match rs with
  | [r1, r2] => fun ρ => match setM i r1 ρ with
    | some (.ok .nx ρ1) => setM j r2 ρ1
    | _ => none
  | _ => fun _ => none
section
variable {X : Cx} {H0 : HE} {W : WX} {a b : Expr} {pos px py pt pt2 : Pos} {x y : Str} {kt k2 : Nat} {gs : EM (List Res)}
theorem setM_some {i : Nat} {r : Res} {ρ : En} {o : Out Fl} (e : setM i r ρ = some o) : i < ρ.length ∧ (∀ m, ρ[i]? ≠ some (Slot.par m)) ∧ ((∃ d, r = .val d ∧ o = .ok .nx (ρ.set i (.val d))) ∨ ∃ m, r = .new m ∧ o = .ok .nx (ρ.set i (.own m))) := by
  unfold setM at e
  cases q : ρ[i]? with
  | none => rw [q] at e; cases e
  | some s =>
    rw [q] at e
    refine ⟨(List.getElem?_eq_some_iff.mp q).1, fun m z => ?_, ?_⟩
    · cases Option.some.inj z; cases e
    · have e' : storeR i r ρ = some o := by
        cases s with
        | par m => cases e
        | un => exact e
        | val _ => exact e
        | exc _ _ => exact e
        | own _ => exact e
      cases r with
      | val d => cases e'; exact .inl ⟨d, rfl, rfl⟩
      | new m => cases e'; exact .inr ⟨m, rfl, rfl⟩
      | brw j => cases e'
theorem par_weak {i j : Nat} {G : Ends} {σ : L2.St} {H : Hp} (h : tSt X.K H0 W (gPar i j gs) G σ H) : tPar i j (tA X.K H0 W gs) G σ H := by
  obtain ⟨F, ρ, A, h⟩ := h
  refine ⟨F, ρ, A, h.bind0 fun vs rs F1 H1 ρ1 o tr sb er ra e p => ?_⟩
  split at e
  · rename_i r1 r2
    obtain ⟨pr, nd⟩ := ra
    cases pr with
    | @cons v1 _ vs1 _ a1 t1 =>
      cases t1 with
      | @cons v2 _ vs2 _ a2 t2 =>
        cases t2
        refine ⟨v1, v2, rfl, ?_⟩
        cases e1 : setM i r1 ρ1 with
        | none => rw [e1] at e; cases e
        | some o1 =>
          rw [e1] at e
          obtain ⟨l1, np1, c1⟩ := setM_some e1
          rcases c1 with ⟨d1, rfl, rfl⟩ | ⟨m1, rfl, rfl⟩
          · obtain ⟨l2, np2, c2⟩ := setM_some e
            have er1 := er.setVal l1 a1
            have s1 : StepS ρ1 A (ρ1.set i (.val d1)) A H1 := StepS.setVal l1 np1
            rcases c2 with ⟨d2, rfl, rfl⟩ | ⟨m2, rfl, rfl⟩
            · exact p _ F1 H1 A tr (er1.setVal l2 a2) (sb.step.trans tr (s1.trans (Tr.refl (S := fun _ => False) (F := F1)) (StepS.setVal l2 np2)))
            · obtain ⟨p2, rfl, f2, no2, mo2, h02, ok2⟩ := a2
              have no2' : ¬ OwnA (ρ1.set i (.val d1)) A p2 := fun ⟨q, m, z1, z2⟩ => no2 (by
                rw [moAt_set l1] at z1
                split at z1
                · cases z1
                · exact ⟨q, m, z1, z2⟩)
              refine p _ F1 H1 (putA A j p2) tr (er1.setOwn l2 f2 no2' mo2 h02) ⟨fun q z => ?_, fun q m z => ?_⟩
              · obtain ⟨k, m, z1, z2⟩ := z
                rw [moAt_set l2] at z1
                by_cases w : k = j
                · subst w
                  have : p2 = q := by rw [← z2]; exact (if_pos rfl).symm
                  rw [← this]; exact ok2.symm
                · rw [if_neg w, moAt_set l1] at z1
                  split at z1
                  · cases z1
                  · exact .inl (sb.ownA ⟨k, m, z1, by rw [← z2]; exact (if_neg w).symm⟩)
              · obtain ⟨m', z'⟩ := sb.par q m z
                have w1 : q ≠ i := fun w => np1 m' (by rw [← w]; exact z')
                have w2 : q ≠ j := fun w => np2 m' (by rw [← w, List.getElem?_set_ne (Ne.symm w1)]; exact z')
                exact ⟨m', by rw [List.getElem?_set_ne (Ne.symm w2), List.getElem?_set_ne (Ne.symm w1)]; exact z', if_neg w2⟩
          · obtain ⟨l2, np2, c2⟩ := setM_some e
            obtain ⟨p1, rfl, f1, no1, mo1, h01, ok1⟩ := a1
            have er1 := er.setOwn l1 f1 no1 mo1 h01
            have own1 : ∀ {k m}, moAt (ρ1.set i (.own m1)) k = some m → k ≠ i → OwnA ρ1 A (putA A i p1 k) := fun {k m} z w => by
              rw [moAt_set l1, if_neg w] at z
              exact ⟨k, m, z, (if_neg w).symm⟩
            have par1 : ∀ {q m}, ρ[q]? = some (Slot.par m) → ∃ m', q ≠ i ∧ q ≠ j ∧ ρ1[q]? = some (Slot.par m') := fun {q m} z => by
              obtain ⟨m', z'⟩ := sb.par q m z
              have w1 : q ≠ i := fun w => np1 m' (by rw [← w]; exact z')
              exact ⟨m', w1, fun w => np2 m' (by rw [← w, List.getElem?_set_ne (Ne.symm w1)]; exact z'), z'⟩
            rcases c2 with ⟨d2, rfl, rfl⟩ | ⟨m2, rfl, rfl⟩
            · refine p _ F1 H1 (putA A i p1) tr (er1.setVal l2 a2) ⟨fun q z => ?_, fun q m z => ?_⟩
              · obtain ⟨k, m, z1, z2⟩ := z
                rw [moAt_set l2] at z1
                split at z1
                · cases z1
                · by_cases w : k = i
                  · subst w
                    have : p1 = q := by rw [← z2]; exact (if_pos rfl).symm
                    rw [← this]; exact ok1.symm
                  · exact .inl (sb.ownA (by rw [← z2]; exact own1 z1 w))
              · obtain ⟨m', w1, w2, z'⟩ := par1 z
                exact ⟨m', by rw [List.getElem?_set_ne (Ne.symm w2), List.getElem?_set_ne (Ne.symm w1)]; exact z', if_neg w1⟩
            · obtain ⟨p2, rfl, f2, no2, mo2, h02, ok2⟩ := a2
              have ne : p2 ≠ p1 := fun z => by
                subst z
                have := (List.nodup_cons.mp (show ([V.ref p2, V.ref p2] : List V).Nodup from nd)).1
                exact this (List.mem_singleton.mpr rfl)
              have no2' : ¬ OwnA (ρ1.set i (.own m1)) (putA A i p1) p2 := fun ⟨k, m, z1, z2⟩ => by
                by_cases w : k = i
                · subst w
                  have : p1 = p2 := by rw [← z2]; exact (if_pos rfl).symm
                  exact ne this.symm
                · exact no2 (by rw [← z2]; exact own1 z1 w)
              refine p _ F1 H1 (putA (putA A i p1) j p2) tr (er1.setOwn l2 f2 no2' mo2 h02) ⟨fun q z => ?_, fun q m z => ?_⟩
              · obtain ⟨k, m, z1, z2⟩ := z
                rw [moAt_set l2] at z1
                by_cases w : k = j
                · subst w
                  have : p2 = q := by rw [← z2]; exact (if_pos rfl).symm
                  rw [← this]; exact ok2.symm
                · rw [if_neg w] at z1
                  have e3 : putA (putA A i p1) j p2 k = putA A i p1 k := if_neg w
                  rw [e3] at z2
                  by_cases w2 : k = i
                  · subst w2
                    have : p1 = q := by rw [← z2]; exact (if_pos rfl).symm
                    rw [← this]; exact ok1.symm
                  · exact .inl (sb.ownA (by rw [← z2]; exact own1 z1 w2))
              · obtain ⟨m', w1, w2, z'⟩ := par1 z
                exact ⟨m', by rw [List.getElem?_set_ne (Ne.symm w2), List.getElem?_set_ne (Ne.symm w1)]; exact z', (if_neg w2).trans (if_neg w1)⟩
  · cases e
theorem c_par (i j : Nat) (hc : X.calm = true) (hN : X.N.Nodup) (ha : PA X [a, b] (tA X.K H0 W gs)) (hw : swappedStores [.Tuple [.Name x px, .Name y py] kt pt] (.Tuple [a, b] k2 pt2) X.env = pure (some [x, y])) (hij : i ≠ j := by decide)
    (hi : X.N[i]? = some x := by rfl) (hj : X.N[j]? = some y := by rfl) (hx : X.env.scope.names.lookup x = some .local := by rfl) (hy : X.env.scope.names.lookup y = some .local := by rfl)
    (hs : swapsWithSole [.Tuple [.Name x px, .Name y py] kt pt] (.Tuple [a, b] k2 pt2) pos.line X.env = pure false := by rfl) :
    PS X (.Assign [.Tuple [.Name x px, .Name y py] kt pt] (.Tuple [a, b] k2 pt2) pos) (tSt X.K H0 W (gPar i j gs)) := (ps_par hc hN hi hj hij hx hy ha hw hs).weak fun _ _ _ h => par_weak h
end
end M

/-! M8: what is walked; for, while. -/
namespace M
open PySem PySem.Spec PyProof.Rows L2

/-- what a turn yields: a value that stands, or a new pair -/
def Yld (K : PySem.W.Frag) (F H : Hp) (x : V) (H' : Hp) (d : D) : Prop :=
  (H' = H ∧ Rep K F x d) ∨ ∃ T vs ds, x = .ref T ∧ H T = none ∧ H' = upd H T (.tup vs) ∧ Reps K F vs ds ∧ d = .tup ds
/-- the walk J goes over the data ds, while what is frozen in F stays -/
structure IterOk (K : PySem.W.Frag) (F : Hp) (J : It) (ds : List D) : Prop where
  go : ∀ F' H' i, Le F F' → Le F' H' → i < ds.length → J.go i H'
  yl : ∀ F' H' i x H2, Le F F' → Le F' H' → J.yld i H' x H2 → i < ds.length → ∃ d, ds[i]? = some d ∧ Yld K F' H' x H2 d
  st : ∀ F' H' i, Le F F' → Le F' H' → ds.length ≤ i → J.stop i H'
abbrev tI (K : PySem.W.Frag) (H0 : HE) (W : WX) (g : EM (List D)) : TI := fun σ H R => Wp K H0 W (fun _ F' _ _ _ J ds => IterOk K F' J ds) g σ H R

def itemsM (f : D → Option (List D)) (r : Res) : EM (List D) := fun ρ => match r with
  | .val d => (f d).map fun ds => .ok ds ρ
  | _ => none
def gItems (f : D → Option (List D)) (g : EM Res) : EM (List D) := g.bind fun r => itemsM f r
theorem items_at {α : Type} {K : PySem.W.Frag} {H0 : HE} {F H : Hp} {W : WX} {ρ : En} {A : Nat → Addr} {σ : L2.St} {ok : Addr → Prop} {f : D → Option (List D)} {r : Res} {R : (Addr → Prop) → Hp → Hp → En → (Nat → Addr) → α → List D → Prop} {Q : α → Hp → Prop} (h : WpAt K H0 W R ok F ρ A (itemsM f r) σ H Q) :
    ∃ d ds, r = .val d ∧ f d = some ds ∧ WpAt K H0 W R ok F ρ A (EM.pure ds) σ H Q := by
  obtain ⟨er, kn, o, e, p⟩ := h
  unfold itemsM at e
  cases r with
  | val d =>
    obtain ⟨ds, e1, rfl⟩ := map_some' e
    exact ⟨d, ds, rfl, e1, er, kn, _, rfl, p⟩
  | new m => cases e
  | brw i => cases e
def lstItems : D → Option (List D)
  | .lst ds => some ds
  | .rol ds => some ds
  | _ => none
def tupItems : D → Option (List D)
  | .tup ds => some ds
  | _ => none
def strItems : D → Option (List D)
  | .str z => some (z.cps.toList.map fun c => .str ⟨#[c]⟩)
  | _ => none
section
variable {X : Cx} {H0 : HE} {W : WX} {tg e : Expr} {g : EM Res}
theorem rep_l {K : PySem.W.Frag} {F : Hp} {v : V} {d : D} {ds : List D} (r : Rep K F v d) (e : lstItems d = some ds) : ∃ a xs, v = .ref a ∧ SqL K F a xs ∧ Reps K F xs ds := by
  unfold lstItems at e
  split at e
  · cases e; cases r with
    | lst h r => exact ⟨_, _, rfl, SqL.of h, r⟩
  · cases e; cases r with
    | rol h r => exact ⟨_, _, rfl, h, r⟩
  · cases e
theorem i_lst (he : PE X e (tE X.K H0 W g)) : PI X tg e (tI X.K H0 W (gItems lstItems g)) := ⟨fun pins s σ H R I h => (pi_list he).run pins s σ H R I (by
  obtain ⟨F, ρ, A, h⟩ := h
  refine ⟨F, ρ, A, h.bind fun v r F1 H1 ρ1 tr sb ra h1 => ?_⟩
  obtain ⟨d, ds, rfl, e1, h2⟩ := items_at h1
  obtain ⟨a, xs, rfl, sq, rs⟩ := rep_l ra e1
  refine ⟨a, rfl, ⟨xs, le_l h2.1.le sq⟩, h2.ret (b := Itl X.K a) ⟨fun F' H' i l1 l2 hi => ?_, fun F' H' i x H2 l1 l2 y hi => ?_, fun F' H' i l1 l2 hi => ?_⟩⟩
  · obtain ⟨v, hv, _⟩ := rs.get (List.getElem?_eq_getElem hi)
    exact ⟨xs, v, le_l l2 (le_l l1 sq), hv⟩
  · obtain ⟨rfl, q⟩ := y
    obtain ⟨d', hd, rd⟩ := rs.get' (q xs (le_l l2 (le_l l1 sq)))
    exact ⟨d', hd, .inl ⟨rfl, rd.mono l1⟩⟩
  · exact ⟨xs, le_l l2 (le_l l1 sq), by rw [rs.length]; exact hi⟩)⟩
theorem i_tup (he : PE X e (tE X.K H0 W g)) : PI X tg e (tI X.K H0 W (gItems tupItems g)) := ⟨fun pins s σ H R I h => (pi_tup he).run pins s σ H R I (by
  obtain ⟨F, ρ, A, h⟩ := h
  refine ⟨F, ρ, A, h.bind fun v r F1 H1 ρ1 tr sb ra h1 => ?_⟩
  obtain ⟨d, ds, rfl, e1, h2⟩ := items_at h1
  cases ra with
  | @tup a xs ds0 sq rs =>
    cases e1
    refine ⟨a, rfl, ⟨xs, le_t h2.1.le sq⟩, h2.ret (b := Itt X.K a) ⟨fun F' H' i l1 l2 hi => ?_, fun F' H' i x H2 l1 l2 y hi => ?_, fun F' H' i l1 l2 hi => ?_⟩⟩
    · obtain ⟨v, hv, _⟩ := rs.get (List.getElem?_eq_getElem hi)
      exact ⟨xs, v, le_t l2 (le_t l1 sq), hv⟩
    · obtain ⟨rfl, q⟩ := y
      obtain ⟨d', hd, rd⟩ := rs.get' (q xs (le_t l2 (le_t l1 sq)))
      exact ⟨d', hd, .inl ⟨rfl, rd.mono l1⟩⟩
    · exact ⟨xs, le_t l2 (le_t l1 sq), by rw [rs.length]; exact hi⟩
  | _ => cases e1)⟩
theorem i_str (he : PE X e (tE X.K H0 W g)) : PI X tg e (tI X.K H0 W (gItems strItems g)) := ⟨fun pins s σ H R I h => (pi_str he).run pins s σ H R I (by
  obtain ⟨F, ρ, A, h⟩ := h
  refine ⟨F, ρ, A, h.bind fun v r F1 H1 ρ1 tr sb ra h1 => ?_⟩
  obtain ⟨d, ds, rfl, e1, h2⟩ := items_at h1
  cases ra with
  | str z =>
    cases e1
    refine ⟨z, rfl, h2.ret (b := Its z) ⟨fun F' H' i l1 l2 hi => ?_, fun F' H' i x H2 l1 l2 y hi => ?_, fun F' H' i l1 l2 hi => ?_⟩⟩
    · show i < z.cps.size
      simpa using hi
    · obtain ⟨rfl, c, hc, rfl⟩ := y
      exact ⟨.str ⟨#[c]⟩, by rw [List.getElem?_map, Array.getElem?_toList, hc]; rfl, .inl ⟨rfl, .str _⟩⟩
    · show z.cps.size ≤ i
      simpa using hi
  | _ => cases e1)⟩
/-- range(n) -/
def gRange1 (gs : EM (List Res)) : EM (List D) := gs.bind fun rs => match rs with
  | [.val (.int j)] => if -(2 ^ 62) ≤ j ∧ j < 2 ^ 62 then EM.pure ((List.range j.toNat).map fun (i : Nat) => D.int (i : Int)) else fun _ => none
  | _ => fun _ => none
theorem i_range1 {gs : EM (List Res)} {a : Expr} {p pos : Pos} (hg : Gl X "range") (hm : X.mg "range" = none) (ha : PA X [a] (tA X.K H0 W gs)) (hs : starEach [a] X.env = [(false, eval a X.env)] := by rfl) : PI X tg (.Call (.Name "range" p) [a] [] pos) (tI X.K H0 W (gRange1 gs)) :=
  ⟨fun pins s σ H R I h => (pi_range1 hg hm ha hs).run pins s σ H R I (by
  obtain ⟨F, ρ, A, h⟩ := h
  refine ⟨F, ρ, A, h.bind fun vs rs F1 H1 ρ1 tr sb ra h1 => ?_⟩
  split at h1
  · rename_i j
    obtain ⟨pr, _⟩ := ra
    cases pr with
    | cons h t =>
      cases t
      cases h
      by_cases c : -(2 ^ 62) ≤ j ∧ j < 2 ^ 62
      · rw [if_pos c] at h1
        refine ⟨j, rfl, c.1, c.2, h1.ret (b := Itr 0 j.toNat) ⟨fun F' H' i l1 l2 hi => ?_, fun F' H' i x H2 l1 l2 y hi => ?_, fun F' H' i l1 l2 hi => ?_⟩⟩
        · show i < j.toNat
          simpa using hi
        · obtain ⟨rfl, rfl⟩ := y
          have hi' : i < j.toNat := by simpa using hi
          exact ⟨.int (i : Int), by simp [hi'], .inl ⟨rfl, by rw [Int.zero_add]; exact .int _⟩⟩
        · show j.toNat ≤ i
          simpa using hi
      · rw [if_neg c] at h1
        obtain ⟨_, _, _, e, _⟩ := h1; cases e
  · obtain ⟨_, _, _, e, _⟩ := h1; cases e)⟩
end

/-! ### for -/
def loopF (t : Tg) (body : EM Fl) : List D → EM Fl
  | [] => EM.pure .nx
  | d :: ds => fun ρ => match t.bind d ρ with
    | none => none
    | some ρ1 => (match body ρ1 with
      | some (.ok .nx ρ2) => loopF t body ds ρ2
      | some (.ok .ct ρ2) => loopF t body ds ρ2
      | some (.ok .bk ρ2) => some (.ok .nx ρ2)
      | o => o)
def gFor (gi : EM (List D)) (t : Tg) (body : EM Fl) : EM Fl := gi.bind fun ds => loopF t body ds
section
variable {K : PySem.W.Frag} {H0 : HE} {W : WX} {σ : L2.St} {G : Ends}
/-- a turn's value is there, frozen -/
theorem yld_in {F H : Hp} {ρ : En} {A : Nat → Addr} {x : V} {H2 : Hp} {d : D} (er : ER K H0 F H σ ρ A) (y : Yld K F H x H2 d) : ∃ F2, Tr (OwnA ρ A) F H F2 H2 ∧ ER K H0 F2 H2 σ ρ A ∧ Rep K F2 x d := by
  rcases y with ⟨rfl, r⟩ | ⟨T, vs, ds, rfl, hT, rfl, r, rfl⟩
  · exact ⟨F, .refl, er, r⟩
  · exact ⟨upd F T (.tup vs), Tr.laidF er.le hT, er.laidF hT, .tup (.inl (.inl upd_same)) (r.mono (le_self (free_F er.le hT)))⟩
theorem for_weak {t : Tg} {body : EM Fl} {gi : EM (List D)} {H : Hp} (h : tSt K H0 W (gFor gi t body) G σ H) : tFor (tI K H0 W gi) (tGT K H0 t) (tSt K H0 W body) G σ H := by
  obtain ⟨F, ρ, A, h⟩ := h
  refine ⟨F, ρ, A, h.bind0 fun J ds F1 H1 ρ1 o tr sb er it e p => ?_⟩
  -- the invariant
  refine ⟨fun i m σ' H' => i ≤ ds.length ∧ m = ds.length - i ∧ ∃ F' ρ' A' o', Le F1 F' ∧ ER K H0 F' H' σ' ρ' A' ∧ loopF t body (ds.drop i) ρ' = some o' ∧ PostS K H0 W G F' H' ρ' A' o', ⟨_, Nat.zero_le _, rfl, F1, ρ1, A, o, Le.refl _, er, by rw [List.drop_zero]; exact e, p.later tr sb.step⟩, ?_⟩
  rintro i m σ' H' ⟨hi, rfl, F', ρ', A', o', l1, er', e', p'⟩
  by_cases hlt : i < ds.length
  · refine .inr ⟨it.go F' H' i l1 er'.le hlt, fun σ2 H2 => i + 1 ≤ ds.length ∧ ∃ F2 ρ2 A2 o2, Le F1 F2 ∧ ER K H0 F2 H2 σ2 ρ2 A2 ∧ loopF t body (ds.drop (i + 1)) ρ2 = some o2 ∧ PostS K H0 W G F2 H2 ρ2 A2 o2, ?_, fun x H2 y => ?_⟩
    · rintro σ2 H2 ⟨hi2, F2, ρ2, A2, o2, l2, er2, e2, p2⟩
      exact ⟨ds.length - (i + 1), by omega, hi2, rfl, F2, ρ2, A2, o2, l2, er2, e2, p2⟩
    · obtain ⟨d, hd, yd⟩ := it.yl F' H' i x H2 l1 er'.le y hlt
      obtain ⟨F2, tr2, er2, rx⟩ := yld_in er' yd
      have dd : ds.drop i = d :: ds.drop (i + 1) := by
        rw [List.drop_eq_getElem_cons hlt]
        have := List.getElem?_eq_getElem hlt
        rw [hd] at this
        rw [Option.some.inj this]
      rw [dd] at e'
      unfold loopF at e'
      cases e1 : t.bind d ρ' with
      | none => rw [e1] at e'; cases e'
      | some ρ3 =>
        rw [e1] at e'
        have e'' : (match body ρ3 with
          | some (.ok .nx ρ2) => loopF t body (ds.drop (i + 1)) ρ2
          | some (.ok .ct ρ2) => loopF t body (ds.drop (i + 1)) ρ2
          | some (.ok .bk ρ2) => some (.ok .nx ρ2)
          | o => o) = some o' := e'
        clear e'
        refine ⟨F2, ρ', A', d, ρ3, er2, rx, e1, fun σ3 er3 s3 _ => ?_⟩
        have p3 := (p'.later tr2 Sb.refl.step).later (Tr.refl (S := OwnA ρ' A') (F := F2) (H := H2)) s3
        have l3 := l1.trans tr2.ff
        cases eb : body ρ3 with
        | none => rw [eb] at e''; cases e''
        | some ob =>
          rw [eb] at e''
          refine ⟨F2, ρ3, A', er3, ob, eb, ?_⟩
          cases ob with
          | ok fl ρ4 =>
            cases fl with
            | nx => exact fun σ5 F5 H5 A5 tr5 er5 s5 => ⟨hlt, F5, ρ4, A5, o', l3.trans tr5.ff, er5, e'', p3.later tr5 s5⟩
            | ct => exact fun σ5 F5 H5 A5 tr5 er5 s5 => ⟨hlt, F5, ρ4, A5, o', l3.trans tr5.ff, er5, e'', p3.later tr5 s5⟩
            | bk => cases e''; exact fun σ5 F5 H5 A5 tr5 er5 s5 => p3 σ5 F5 H5 A5 tr5 er5 s5
            | rt r => cases e''; exact fun v σ5 F5 H5 A5 tr5 er5 s5 r5 => p3 v σ5 F5 H5 A5 tr5 er5 s5 r5
          | ex C fs ρ4 => cases e''; exact fun dx σ5 F5 H5 A5 tr5 er5 s5 r5 => p3 dx σ5 F5 H5 A5 tr5 er5 s5 r5
  · have hd : ds.drop i = [] := List.drop_eq_nil_iff.mpr (by omega)
    rw [hd] at e'
    cases e'
    exact .inl ⟨it.st F' H' i l1 er'.le (by omega), p' σ' F' H' A' .refl er' .refl⟩
theorem c_for {X : Cx} {H0 : HE} {W : WX} {tg iter : Expr} {body : List Stmt} {t : Tg} {gb : EM Fl} {gi : EM (List D)} {pos : Pos} (hp : PassesOwn (model X.prog X.w) X.A X.env X.xe) (hc : X.calm = true) (hi : PI X tg iter (tI X.K H0 W gi)) (hg : PG X tg (tGT X.K H0 t)) (hb : PSs X body (tSt X.K H0 W gb))
    (hs : ∀ x, foldedSetIterable iter X.env x = pure x := by intro _; rfl) : PS X (.For tg iter body [] pos) (tSt X.K H0 W (gFor gi t gb)) := (ps_for hp hc hi hg hb hs).weak fun _ _ _ h => for_weak h
end
end M

/-! M9: defs and calls. -/
namespace M
open PySem PySem.Spec PyProof.Rows L2

theorem WpAt.bind0 {K : PySem.W.Frag} {H0 : HE} {W : WX} {α β γ δ : Type} {R : (Addr → Prop) → Hp → Hp → En → (Nat → Addr) → β → α → Prop} {R' : (Addr → Prop) → Hp → Hp → En → (Nat → Addr) → δ → γ → Prop} {σ : L2.St} {ok okg : Addr → Prop} {g : EM α} {f : α → EM γ} {F H : Hp} {ρ : En} {A : Nat → Addr} {Q : δ → Hp → Prop} {Q1 : β → Hp → Prop} (h : WpAt K H0 W R' ok F ρ A (g.bind f) σ H Q)
    (k : ∀ b a F1 H1 ρ1 o, Tr (OwnA ρ A) F H F1 H1 → Sb ρ ρ1 → ER K H0 F1 H1 σ ρ1 A → R okg F1 H1 ρ1 A b a → f a ρ1 = some o → Post K H0 W R' ok σ F H ρ A Q o → (∀ p, Okp ρ A H p → ok p) → Q1 b H1) (kg : ∀ p, Okp ρ A H p → okg p := by intro _ h; exact h) : WpAt K H0 W R okg F ρ A g σ H Q1 := by
  obtain ⟨er, kn, o, e, p⟩ := h
  refine ⟨er, kg, ?_⟩
  unfold EM.bind at e
  cases eg : g ρ with
  | none => rw [eg] at e; cases e
  | some og =>
    rw [eg] at e
    cases og with
    | ok a ρ1 => exact ⟨_, rfl, fun b F1 H1 tr er1 sb r => k b a F1 H1 ρ1 o tr sb er1 r e p kn⟩
    | ex C fs ρ1 =>
      cases e
      exact ⟨_, rfl, p⟩

/-! ### a def's mirror -/
inductive Ret where
  | val (d : D) | new (m : Mo)
/-- the arguments' slots; the outcome, with the arguments' slots behind -/
abbrev Mir := List Slot → Option (Out Ret)
def runM (N : Nat) (g : EM Fl) : Mir := fun as => match g (as ++ List.replicate (N - as.length) .un) with
  | some (.ok .nx ρ) => some (.ok (.val .non) (ρ.take as.length))
  | some (.ok (.rt (.val d)) ρ) => some (.ok (.val d) (ρ.take as.length))
  | some (.ok (.rt (.new m)) ρ) => some (.ok (.new m) (ρ.take as.length))
  | some (.ok (.rt (.brw i)) ρ) => (match ρ[i]? with
    | some (.own m) => some (.ok (.new m) (ρ.take as.length))
    | _ => none)
  | some (.ex C fs ρ) => some (.ex C fs (ρ.take as.length))
  | _ => none
def ArgAt (K : PySem.W.Frag) (F H : Hp) (v : V) : Slot → Prop
  | .val d => Rep K F v d
  | .par m => ∃ a, v = .ref a ∧ F a = none ∧ MoAt K F H a m
  | _ => False
/-- the places that a callee may change -/
def parA : List V → List Slot → List Addr
  | .ref a :: vs, .par _ :: ss => a :: parA vs ss
  | _ :: vs, _ :: ss => parA vs ss
  | _, _ => []
structure Ent (K : PySem.W.Frag) (T : List (Addr × Str)) (F H : Hp) (vs : List V) (as : List Slot) : Prop where
  le : Le F H
  at' : Paired (ArgAt K F H) vs as
  nd : (parA vs as).Nodup
  tabs : LamX.Tabs T H
def Back (K : PySem.W.Frag) (F H : Hp) (vs : List V) (as as' : List Slot) : Prop :=
  ∀ (i : Nat) (m : Mo), as[i]? = some (.par m) → ∃ m' a, as'[i]? = some (.par m') ∧ vs[i]? = some (.ref a) ∧ F a = none ∧ MoAt K F H a m'
def RetAt (K : PySem.W.Frag) (H F' H' : Hp) (v : V) : Ret → Prop
  | .val d => Rep K F' v d
  | .new m => ∃ p, v = .ref p ∧ F' p = none ∧ H p = none ∧ MoAt K F' H' p m
def PostF (K : PySem.W.Frag) (T : List (Addr × Str)) (F H : Hp) (vs : List V) (as : List Slot) (Q : VK) (E : XK) : Out Ret → Prop
  | .ok r as' => ∀ v F' H', Tr (· ∈ parA vs as) F H F' H' → Le F' H' → LamX.Tabs T H' → Back K F' H' vs as as' → RetAt K H F' H' v r → Q v H'
  | .ex C fs as' => ∀ d F' H', Tr (· ∈ parA vs as) F H F' H' → Le F' H' → LamX.Tabs T H' → Back K F' H' vs as as' → ExAt K F' d fs → E C d H'
/-- what a def with the mirror m promises -/
def spM (K : PySem.W.Frag) (T : List (Addr × Str)) (n : Nat) (m : Mir) : Sp := fun vs H Q E => vs.length = n ∧ ∃ F as, Ent K T F H vs as ∧ ∃ o, m as = some o ∧ PostF K T F H vs as Q E o

theorem Paired.get? {α β : Type} {P : α → β → Prop} : ∀ {xs : List α} {ys : List β} {i : Nat} {y : β}, Paired P xs ys → ys[i]? = some y → ∃ x, xs[i]? = some x ∧ P x y
  | _, _, _, _, .nil, e => by simp at e
  | _, _, 0, _, .cons h _, e => by
    have e' := Option.some.inj e
    subst e'
    exact ⟨_, rfl, h⟩
  | _, _, i + 1, y, .cons _ r, e => by
    obtain ⟨v, h1, h2⟩ := Paired.get? (i := i) (y := y) r (by simpa using e)
    exact ⟨v, by simpa using h1, h2⟩
theorem parA_mem : ∀ {vs : List V} {as : List Slot} {i : Nat} {a : Addr} {m : Mo}, vs[i]? = some (.ref a) → as[i]? = some (.par m) → a ∈ parA vs as
  | [], _, _, _, _, e, _ => by simp at e
  | _ :: _, [], _, _, _, _, e => by simp at e
  | v :: vs, s :: ss, 0, a, m, e1, e2 => by
    cases Option.some.inj e1
    cases Option.some.inj e2
    unfold parA
    exact List.mem_cons_self
  | v :: vs, s :: ss, i + 1, a, m, e1, e2 => by
    have ih : a ∈ parA vs ss := parA_mem (i := i) (by simpa using e1) (by simpa using e2)
    unfold parA
    split
    · rename_i h1 h2; cases h1; cases h2; exact List.mem_cons_of_mem _ ih
    · rename_i h1 h2; cases h1; cases h2; exact ih
    · rename_i hx; exact (hx _ _ _ _ rfl rfl).elim
theorem parA_inj : ∀ {vs : List V} {as : List Slot} {i j : Nat} {a : Addr} {m m' : Mo}, (parA vs as).Nodup → vs[i]? = some (.ref a) → as[i]? = some (.par m) → vs[j]? = some (.ref a) → as[j]? = some (.par m') → i = j
  | [], _, _, _, _, _, _, _, e, _, _, _ => by simp at e
  | _ :: _, [], _, _, _, _, _, _, _, e, _, _ => by simp at e
  | v :: vs, s :: ss, 0, 0, a, m, m', nd, e1, e2, e3, e4 => rfl
  | v :: vs, s :: ss, 0, j + 1, a, m, m', nd, e1, e2, e3, e4 => by
    cases Option.some.inj e1
    cases Option.some.inj e2
    have : a ∈ parA vs ss := parA_mem (i := j) (by simpa using e3) (by simpa using e4)
    exact absurd this (List.nodup_cons.mp (show (a :: parA vs ss).Nodup from nd)).1
  | v :: vs, s :: ss, i + 1, 0, a, m, m', nd, e1, e2, e3, e4 => by
    cases Option.some.inj e3
    cases Option.some.inj e4
    have : a ∈ parA vs ss := parA_mem (i := i) (by simpa using e1) (by simpa using e2)
    exact absurd this (List.nodup_cons.mp (show (a :: parA vs ss).Nodup from nd)).1
  | v :: vs, s :: ss, i + 1, j + 1, a, m, m', nd, e1, e2, e3, e4 => by
    have nd' : (parA vs ss).Nodup := by
      unfold parA at nd
      split at nd
      · rename_i h1 h2; cases h1; cases h2; exact (List.nodup_cons.mp nd).2
      · rename_i h1 h2; cases h1; cases h2; exact nd
      · rename_i hx; exact (hx _ _ _ _ rfl rfl).elim
    exact congrArg (· + 1) (parA_inj (i := i) (j := j) nd' (by simpa using e1) (by simpa using e2) (by simpa using e3) (by simpa using e4))

def entA (vs : List V) : Nat → Addr := fun i => match vs[i]? with
  | some (.ref a) => a
  | _ => 0
theorem start_get {N : List Str} {vs : List V} {i : Nat} {v : V} (h : vs[i]? = some v) : (L2.start N vs)[i]? = some (some v) := by
  unfold L2.start
  have hi : i < vs.length := (List.getElem?_eq_some_iff.mp h).1
  rw [List.getElem?_append_left (by simpa using hi), List.getElem?_map, h]
  rfl
section
variable {K : PySem.W.Frag} {T : List (Addr × Str)} {F H : Hp} {vs : List V} {as : List Slot} {N : List Str}
theorem ent_mo {n i : Nat} {m : Mo} (e : Ent K T F H vs as) (h : moAt (as ++ List.replicate n .un) i = some m) : as[i]? = some (.par m) ∧ ∃ a, vs[i]? = some (.ref a) ∧ entA vs i = a ∧ F a = none ∧ MoAt K F H a m := by
  unfold moAt at h
  have hi : i < as.length := by
    by_cases hi : i < as.length
    · exact hi
    · rw [List.getElem?_append_right (by omega), List.getElem?_replicate] at h
      split at h <;> cases h
  rw [List.getElem?_append_left hi] at h
  cases q : as[i]? with
  | none => rw [q] at h; cases h
  | some s =>
    rw [q] at h
    obtain ⟨v, e1, e2⟩ := Paired.get? e.at' q
    cases s with
    | un => cases h
    | val d => cases h
    | exc C fs => cases h
    | own m' => exact e2.elim
    | par m' =>
      cases h
      obtain ⟨a, rfl, f, mo⟩ := e2
      exact ⟨rfl, a, e1, by unfold entA; rw [e1], f, mo⟩
theorem Ent.er (e : Ent K T F H vs as) (hl : as.length ≤ N.length) : ER K ⟨H, fun _ _ _ => False, T⟩ F H (L2.start N vs) (as ++ List.replicate (N.length - as.length) .un) (entA vs) := by
  have lv : vs.length = as.length := Paired.length e.at'
  refine ⟨?_, e.le, fun i s q => ?_, fun i j m m' e1 e2 ea => ?_, fun a x q => ⟨x, q⟩, e.tabs⟩
  · unfold L2.start
    rw [List.length_append, List.length_append, List.length_map, List.length_replicate, List.length_replicate, lv]
  · by_cases hi : i < as.length
    · rw [List.getElem?_append_left hi] at q
      obtain ⟨v, e1, e2⟩ := Paired.get? e.at' q
      cases s with
      | un => trivial
      | exc C fs => exact e2.elim
      | val d => exact ⟨v, start_get e1, e2⟩
      | own m' => exact e2.elim
      | par m' =>
        obtain ⟨a, rfl, f, mo⟩ := e2
        have ea : entA vs i = a := by unfold entA; rw [e1]
        exact ⟨by rw [ea]; exact start_get e1, by rw [ea]; exact f, by rw [ea]; exact mo⟩
    · rw [List.getElem?_append_right (by omega), List.getElem?_replicate] at q
      split at q
      · cases q; trivial
      · cases q
  · obtain ⟨a1, x, b1, c1, _⟩ := ent_mo e e1
    obtain ⟨a2, y, b2, c2, _⟩ := ent_mo e e2
    have : x = y := by rw [← c1, ← c2, ea]
    subst this
    exact parA_inj e.nd b1 a1 b2 a2
theorem ent_own {n : Nat} {a : Addr} (e : Ent K T F H vs as) (h : OwnA (as ++ List.replicate n .un) (entA vs) a) : a ∈ parA vs as := by
  obtain ⟨i, m, h1, h2⟩ := h
  obtain ⟨b1, x, b2, b3, _⟩ := ent_mo e h1
  have : x = a := b3.symm.trans h2
  subst this
  exact parA_mem b2 b1
/-- a body's end gives the call's end -/
theorem run_post {g : EM Fl} {Q : VK} {E : XK} {o : Out Ret} (e : Ent K T F H vs as) (hl : as.length ≤ N.length) (eo : runM N.length g as = some o) (p : PostF K T F H vs as Q E o) :
    tSt K ⟨H, fun _ _ _ => False, T⟩ (fun cls d _ H' => E cls d H') g { nx := fun _ H' => Q .non H', rt := Q } (L2.start N vs) H := by
  refine ⟨F, _, entA vs, e.er hl, ?_⟩
  unfold runM at eo
  have tk : ∀ {ρ' : En} {A' : Nat → Addr} {σ' : L2.St} {F' H' : Hp}, ER K ⟨H, fun _ _ _ => False, T⟩ F' H' σ' ρ' A' → StepS (as ++ List.replicate (N.length - as.length) .un) (entA vs) ρ' A' H → Back K F' H' vs as (ρ'.take as.length) := fun {ρ' A' σ' F' H'} er s i m q => by
    have hi : i < as.length := (List.getElem?_eq_some_iff.mp q).1
    have q0 : (as ++ List.replicate (N.length - as.length) Slot.un)[i]? = some (.par m) := by rw [List.getElem?_append_left hi]; exact q
    obtain ⟨_, a, b2, b3, _⟩ := ent_mo (i := i) (m := m) e (n := N.length - as.length) (by unfold moAt; rw [q0]; rfl)
    obtain ⟨m', h1, h2⟩ := s.par i m q0
    have q1 := er.sl i _ h1
    have ea : A' i = a := h2.trans b3
    exact ⟨m', a, by rw [List.getElem?_take_of_lt hi]; exact h1, b2, by rw [← ea]; exact q1.2.1, by rw [← ea]; exact q1.2.2⟩
  cases eg : g (as ++ List.replicate (N.length - as.length) .un) with
  | none => rw [eg] at eo; cases eo
  | some og =>
    rw [eg] at eo
    refine ⟨og, rfl, ?_⟩
    cases og with
    | ok fl ρ' =>
      cases fl with
      | nx =>
        cases eo
        exact fun σ' F' H' A' tr er s => p .non F' H' (tr.mono fun _ h => ent_own e h) er.le er.tabs (tk er s) .non
      | bk => cases eo
      | ct => cases eo
      | rt r =>
        cases r with
        | val d =>
          cases eo
          exact fun v σ' F' H' A' tr er s r => p v F' H' (tr.mono fun _ h => ent_own e h) er.le er.tabs (tk er s) r
        | new m =>
          cases eo
          exact fun v σ' F' H' A' tr er s r => p v F' H' (tr.mono fun _ h => ent_own e h) er.le er.tabs (tk er s) (by
            obtain ⟨q, e1, e2, e3, e4, e5, _⟩ := r
            exact ⟨q, e1, e2, e5, e4⟩)
        | brw i =>
          dsimp only at eo
          cases q : ρ'[i]? with
          | none => rw [q] at eo; cases eo
          | some s0 =>
            rw [q] at eo
            cases s0 with
            | un => cases eo
            | val d => cases eo
            | exc C fs => cases eo
            | par m => cases eo
            | own m =>
              cases eo
              exact fun v σ' F' H' A' tr er s r => p v F' H' (tr.mono fun _ h => ent_own e h) er.le er.tabs (tk er s) (by
                have q1 := er.sl i _ q
                exact ⟨A' i, r.2, q1.2.1, q1.2.2.2, q1.2.2.1⟩)
    | ex C fs ρ' =>
      cases eo
      exact fun dx σ' F' H' A' tr er s x => p dx F' H' (tr.mono fun _ h => ent_own e h) er.le er.tabs (tk er s) x
end

/-- the def at f bears the code object cdv -/
def CodeAt (K : PySem.W.Frag) (f : Addr) (cdv : Value) : Prop := ∃ (oc : Value) (od : Option Addr) (osl : Array (Option Value)) (fd : FuncData), K.lookup f = some ⟨oc, od, .func fd, osl⟩ ∧ fd.code = cdv ∧ ∃ q : Str, PySem.W.codeIn K cdv q = true
/-- THE RULE for a def of the text: its body's mirror -/
theorem fn_ok {P : Program} {w : World} {K : PySem.W.Frag} {mg : Str → Option Value} {base : Heap} {x qual : Str} {params : Arguments} {body : List Stmt} {scope : Scope} {dvs : List V} {kws : List (Str × V)} {f : Addr} {fd : FuncData} {N ps : List Str} {T : List (Addr × Str)} {k : Nat} {g : EM Fl} {m : Mir}
    (Fd : FunD K x qual params body scope dvs kws f fd) (S : FnScope N ps scope) (hm : ∀ as, as.length = ps.length → m as = runM N.length g as)
    (hbody : ∀ (cdv : Value) (A : Around) (outer : List Env) (s : Shared) (H : Hp) (E : XK), CodeAt K f cdv → Room k (A.deeper (envOfC qual scope s.heap.objs.size f cdv)) →
      Takes (cxOf (L2.CX P w) P w K mg base N qual scope f cdv A outer s H E) (fun cls d _ H' => E cls d H') →
      PassesOwn (model P w) (cxOf (L2.CX P w) P w K mg base N qual scope f cdv A outer s H E).A (cxOf (L2.CX P w) P w K mg base N qual scope f cdv A outer s H E).env (cxOf (L2.CX P w) P w K mg base N qual scope f cdv A outer s H E).xe →
      PSs (cxOf (L2.CX P w) P w K mg base N qual scope f cdv A outer s H E) body (tSt K ⟨H, fun _ _ _ => False, T⟩ (fun cls d _ H' => E cls d H') g)) :
    FnOk P w K mg base (L2.CX P w) (k + 1) f fd ps (spM K T ps.length m) := by
  have hpl : ps.length ≤ N.length := by have := congrArg List.length S.pre; rw [List.length_take] at this; omega
  obtain ⟨oc, od, dV, kV, doc, pm, an, cdv, ct, osl, rfl, lk, hcd, _, _⟩ := Fd.ex
  refine fn_of lk hcd S (fun vs H Q E h => h.1) fun A outer s H vs Q E hr ⟨hl, F, as, e, o, eo, p⟩ => ?_
  have la : as.length = ps.length := (Paired.length e.at').symm.trans hl
  refine ⟨tSt K ⟨H, fun _ _ _ => False, T⟩ (fun cls d _ H' => E cls d H') g, hbody cdv A outer s H E ⟨_, _, _, _, lk, rfl, _, hcd⟩ hr (takes_of rfl rfl rfl rfl) PassesOwn.leaving, ?_⟩
  exact run_post e (by omega) (by rw [← hm as la]; exact eo) p
end M

/-! M10: calls of the text's defs. -/
namespace M
open PySem PySem.Spec PyProof.Rows L2

def argOf (ρ : En) : Res → Option Slot
  | .val d => some (.val d)
  | .new m => some (.par m)
  | .brw i => (moAt ρ i).map .par
def argsOf (ρ : En) : List Res → Option (List Slot)
  | [] => some []
  | r :: rs => match argOf ρ r, argsOf ρ rs with
    | some a, some as => some (a :: as)
    | _, _ => none
def brws : List Res → List Nat
  | [] => []
  | .brw i :: rs => i :: brws rs
  | _ :: rs => brws rs
def nodupN : List Nat → Bool
  | [] => true
  | i :: l => !(l.contains i) && nodupN l
theorem nodupN_ok : ∀ {l : List Nat}, nodupN l = true → l.Nodup
  | [], _ => List.nodup_nil
  | i :: l, h => by
    unfold nodupN at h
    rw [Bool.and_eq_true] at h
    refine List.nodup_cons.mpr ⟨fun z => ?_, nodupN_ok h.2⟩
    have := h.1
    rw [List.contains_iff_mem.mpr z] at this
    cases this
def putBack : En → List Res → List Slot → En
  | ρ, .brw i :: rs, .par m :: as => putBack (putMo ρ i m) rs as
  | ρ, _ :: rs, _ :: as => putBack ρ rs as
  | ρ, _, _ => ρ
def Ret.res : Ret → Res
  | .val d => .val d
  | .new m => .new m
def callM (m : Mir) (rs : List Res) : EM Res := fun ρ => match argsOf ρ rs with
  | none => none
  | some as => if nodupN (brws rs) = true then (match m as with
    | some (.ok r as') => some (.ok r.res (putBack ρ rs as'))
    | some (.ex C fs as') => some (.ex C fs (putBack ρ rs as'))
    | none => none) else none
def gFn (n : Nat) (m : Mir) (gs : EM (List Res)) : EM Res := gs.bind fun rs => fun ρ => if rs.length = n then callM m rs ρ else none

section
variable {K : PySem.W.Frag} {H0 : HE} {F H F' H' : Hp} {W : WX} {σ : L2.St} {ρ ρ' : En} {A : Nat → Addr} {S : Addr → Prop}
/-- the state behind a step that changed what some names hold -/
theorem ER.change (er : ER K H0 F H σ ρ A) (tr : Tr S F H F' H') (le : Le F' H') (ht : LamX.Tabs H0.T H') (hl : ρ'.length = ρ.length)
    (h : ∀ i, (ρ'[i]? = ρ[i]? ∧ ∀ m, moAt ρ i = some m → ¬ S (A i)) ∨ (∃ m m', ρ[i]? = some (.own m) ∧ ρ'[i]? = some (.own m') ∧ F' (A i) = none ∧ MoAt K F' H' (A i) m') ∨ (∃ m m', ρ[i]? = some (.par m) ∧ ρ'[i]? = some (.par m') ∧ F' (A i) = none ∧ MoAt K F' H' (A i) m')) :
    ER K H0 F' H' σ ρ' A ∧ Sb ρ ρ' := by
  have mos : ∀ i m', moAt ρ' i = some m' → ∃ m, moAt ρ i = some m := fun i m' e => by
    rcases h i with ⟨e1, _⟩ | ⟨m, m2, e1, e2, _⟩ | ⟨m, m2, e1, e2, _⟩
    · exact ⟨m', by unfold moAt at e ⊢; rw [← e1]; exact e⟩
    · exact ⟨m, by unfold moAt; rw [e1]; rfl⟩
    · exact ⟨m, by unfold moAt; rw [e1]; rfl⟩
  have stay : ∀ {a : Addr} {m : Mo}, F a = none → MoAt K F H a m → ¬ S a → F' a = none ∧ MoAt K F' H' a m := fun {a m} fa mo ns => by
    obtain ⟨o, ho⟩ := mo.there
    refine ⟨?_, (mo.keep (by rw [ho]; exact tr.keep a o ns (mo.ntbl ho) ho)).mono tr.ff⟩
    cases q : F' a with
    | none => rfl
    | some x =>
      rcases tr.fresh a x q with ⟨y, z⟩ | z | z
      · rw [fa] at z; cases z
      · rw [ho] at z; cases z
      · exact absurd z ns
  refine ⟨⟨er.len.trans hl.symm, le, fun i s e => ?_, fun i j m m' e1 e2 ea => ?_, fun a x e => ?_, ht⟩, ⟨mos, fun i m e => ?_⟩⟩
  · rcases h i with ⟨e1, ns⟩ | ⟨m, m', e1, e2, f, mo⟩ | ⟨m, m', e1, e2, f, mo⟩
    · rw [e1] at e
      have q := er.sl i s e
      cases s with
      | un => trivial
      | val d => obtain ⟨v, h1, h2⟩ := q; exact ⟨v, h1, h2.mono tr.ff⟩
      | exc C fs => obtain ⟨a, d, h1, h2, h3⟩ := q; exact ⟨a, d, h1, h2, h3.mono tr.ff⟩
      | own m =>
        obtain ⟨f, mo⟩ := stay q.2.1 q.2.2.1 (ns m (by unfold moAt; rw [e]; rfl))
        exact ⟨q.1, f, mo, q.2.2.2⟩
      | par m =>
        obtain ⟨f, mo⟩ := stay q.2.1 q.2.2 (ns m (by unfold moAt; rw [e]; rfl))
        exact ⟨q.1, f, mo⟩
    · rw [e2] at e
      cases e
      have q := er.sl i _ e1
      exact ⟨q.1, f, mo, q.2.2.2⟩
    · rw [e2] at e
      cases e
      have q := er.sl i _ e1
      exact ⟨q.1, f, mo⟩
  · obtain ⟨n, h1⟩ := mos i m e1
    obtain ⟨n', h2⟩ := mos j m' e2
    exact er.inj i j n n' h1 h2 ea
  · obtain ⟨y, h1⟩ := er.dom a x e
    exact tr.there a y h1
  · rcases h i with ⟨e1, _⟩ | ⟨m1, m', e1, e2, _⟩ | ⟨m1, m', e1, e2, _⟩
    · exact ⟨m, by rw [e1]; exact e⟩
    · rw [e1] at e; cases e
    · exact ⟨m', e2⟩

theorem putBack_len : ∀ {rs : List Res} {as : List Slot} {ρ : En}, (putBack ρ rs as).length = ρ.length
  | [], _, ρ => by unfold putBack; rfl
  | r :: rs, [], ρ => by unfold putBack; split <;> first | rfl | simp_all
  | r :: rs, s :: as, ρ => by
    unfold putBack
    split
    · rename_i h1 h2
      cases h1; cases h2
      rw [putBack_len, put_len]
    · rename_i h1 h2
      cases h1; cases h2
      exact putBack_len
    · rfl
theorem brw_mem {j i : Nat} : ∀ {rs : List Res}, rs[i]? = some (.brw j) → j ∈ brws rs := by
  intro rs
  induction rs generalizing i with
  | nil => intro h; simp at h
  | cons r rs ih =>
    intro h
    cases i with
    | zero =>
      cases Option.some.inj h
      exact List.mem_cons_self
    | succ i =>
      have q := ih (i := i) (by simpa using h)
      cases r with
      | val d => exact q
      | new m => exact q
      | brw k => exact List.mem_cons_of_mem _ q
theorem mem_brw {j : Nat} : ∀ {rs : List Res}, j ∈ brws rs → ∃ i : Nat, rs[i]? = some (Res.brw j) := by
  intro rs
  induction rs with
  | nil => intro h; cases h
  | cons r rs ih =>
    intro h
    cases r with
    | val d => obtain ⟨i, e⟩ := ih h; exact ⟨i + 1, by simpa using e⟩
    | new m => obtain ⟨i, e⟩ := ih h; exact ⟨i + 1, by simpa using e⟩
    | brw k =>
      rcases List.mem_cons.mp (show j ∈ k :: brws rs from h) with rfl | h
      · exact ⟨0, rfl⟩
      · obtain ⟨i, e⟩ := ih h; exact ⟨i + 1, by simpa using e⟩
theorem put_eq {k j : Nat} {m : Mo} (h : j ≠ k) : (putMo ρ k m)[j]? = ρ[j]? := by
  unfold putMo
  split
  · exact List.getElem?_set_ne (Ne.symm h)
  · exact List.getElem?_set_ne (Ne.symm h)
  · rfl
theorem putBack_out {j : Nat} : ∀ {rs : List Res} {as : List Slot} {ρ : En}, j ∉ brws rs → (putBack ρ rs as)[j]? = ρ[j]?
  | [], _, ρ, _ => by unfold putBack; rfl
  | r :: rs, [], ρ, _ => by unfold putBack; split <;> first | rfl | simp_all
  | r :: rs, s :: as, ρ, h => by
    unfold putBack
    split
    · rename_i i _ m _ h1 h2
      cases h1; cases h2
      have h' : j ∉ i :: brws rs := h
      rw [putBack_out (fun z => h' (List.mem_cons_of_mem _ z))]
      exact put_eq fun z => h' (by rw [z]; exact List.mem_cons_self)
    · rename_i h1 h2
      cases h1; cases h2
      refine putBack_out fun z => h ?_
      cases r with
      | val d => exact z
      | new m => exact z
      | brw k => exact List.mem_cons_of_mem _ z
    · rfl
theorem putBack_in {j i : Nat} {m' : Mo} : ∀ {rs : List Res} {as : List Slot} {ρ : En}, (brws rs).Nodup → rs[i]? = some (.brw j) → as[i]? = some (.par m') → (putBack ρ rs as)[j]? = (putMo ρ j m')[j]? := by
  intro rs
  induction rs generalizing i with
  | nil => intro as ρ _ h; simp at h
  | cons r rs ih =>
    intro as ρ nd h1 h2
    cases as with
    | nil => simp at h2
    | cons s as =>
      cases i with
      | zero =>
        cases Option.some.inj h1
        cases Option.some.inj h2
        show (putBack (putMo ρ j m') rs as)[j]? = _
        exact putBack_out (List.nodup_cons.mp nd).1
      | succ i =>
        have h1' : rs[i]? = some (.brw j) := by simpa using h1
        have h2' : as[i]? = some (.par m') := by simpa using h2
        cases r with
        | val d => exact ih nd h1' h2'
        | new m => exact ih nd h1' h2'
        | brw k =>
          obtain ⟨n1, n2⟩ := List.nodup_cons.mp (show (k :: brws rs).Nodup from nd)
          have ne : j ≠ k := fun z => n1 (by rw [← z]; exact brw_mem h1')
          cases s with
          | par m =>
            show (putBack (putMo ρ k m) rs as)[j]? = _
            rw [ih n2 h1' h2']
            unfold putMo
            repeat' split
            all_goals (try rfl)
            all_goals simp_all [List.getElem?_set, Ne.symm ne]
          | un => exact ih n2 h1' h2'
          | exc C fs => exact ih n2 h1' h2'
          | val d => exact ih n2 h1' h2'
          | own m => exact ih n2 h1' h2'
theorem argsOf_get {rs : List Res} {as : List Slot} : argsOf ρ rs = some as → ∀ (i : Nat) (r : Res), rs[i]? = some r → ∃ s, as[i]? = some s ∧ argOf ρ r = some s := by
  induction rs generalizing as with
  | nil => intro _ i r h; simp at h
  | cons r0 rs ih =>
    intro e i r h
    unfold argsOf at e
    cases e1 : argOf ρ r0 with
    | none => rw [e1] at e; cases e
    | some s =>
      cases e2 : argsOf ρ rs with
      | none => rw [e1, e2] at e; cases e
      | some ss =>
        rw [e1, e2] at e
        cases e
        cases i with
        | zero => cases Option.some.inj h; exact ⟨s, rfl, e1⟩
        | succ i =>
          obtain ⟨s', h1, h2⟩ := ih e2 i r (by simpa using h)
          exact ⟨s', by simpa using h1, h2⟩
end
section
variable {K : PySem.W.Frag} {H0 : HE} {F H F' H' : Hp} {W : WX} {σ : L2.St} {ρ ρ' : En} {A : Nat → Addr} {S ok : Addr → Prop} {vs : List V} {rs : List Res} {as as' : List Slot}
theorem args_at (er : ER K H0 F H σ ρ A) : ∀ {vs : List V} {rs : List Res} {as : List Slot}, Paired (RAt K H0 ok F H ρ A) vs rs → argsOf ρ rs = some as → Paired (ArgAt K F H) vs as
  | _, _, _, .nil, e => by cases e; exact .nil
  | v :: vs, r :: rs, as, .cons h t, e => by
    unfold argsOf at e
    cases e1 : argOf ρ r with
    | none => rw [e1] at e; cases e
    | some s =>
      cases e2 : argsOf ρ rs with
      | none => rw [e1, e2] at e; cases e
      | some ss =>
        rw [e1, e2] at e
        cases e
        refine .cons ?_ (args_at er t e2)
        cases r with
        | val d => cases e1; exact h
        | new m =>
          cases e1
          obtain ⟨p, e, f, _, mo, _, _⟩ := h
          exact ⟨p, e, f, mo⟩
        | brw i =>
          obtain ⟨⟨m, hm⟩, rfl⟩ := h
          have e1' : (moAt ρ i).map Slot.par = some s := e1
          rw [hm] at e1'
          cases e1'
          exact ⟨A i, rfl, (er.at hm).2.1, (er.at hm).2.2⟩
/-- what a callee may change: what was made here, what names hold -/
theorem args_own (er : ER K H0 F H σ ρ A) : ∀ {vs : List V} {rs : List Res} {as : List Slot}, Paired (RAt K H0 ok F H ρ A) vs rs → argsOf ρ rs = some as → ∀ a ∈ parA vs as, (V.ref a ∈ newAt vs rs ∧ ok a ∧ ¬ OwnA ρ A a) ∨ ∃ j, j ∈ brws rs ∧ A j = a ∧ ∃ m, moAt ρ j = some m
  | _, _, _, .nil, e, a, ha => by cases e; cases ha
  | v :: vs, r :: rs, as, .cons h t, e, a, ha => by
    unfold argsOf at e
    cases e1 : argOf ρ r with
    | none => rw [e1] at e; cases e
    | some s =>
      cases e2 : argsOf ρ rs with
      | none => rw [e1, e2] at e; cases e
      | some ss =>
        rw [e1, e2] at e
        cases e
        have ih := args_own er t e2 a
        cases r with
        | val d =>
          cases e1
          have ha' : a ∈ parA vs ss := by
            unfold parA at ha
            split at ha
            · rename_i h1 h2; cases h2
            · rename_i h1 h2; cases h1; cases h2; exact ha
            · rename_i hx; exact (hx _ _ _ _ rfl rfl).elim
          exact ih ha'
        | new m =>
          cases e1
          obtain ⟨p, rfl, f, no, mo, _, okp⟩ := h
          rcases List.mem_cons.mp (show a ∈ p :: parA vs ss from ha) with rfl | ha
          · exact .inl ⟨List.mem_cons_self, okp, no⟩
          · exact (ih ha).imp_left fun q => ⟨List.mem_cons_of_mem _ q.1, q.2⟩
        | brw i =>
          obtain ⟨⟨m, hm⟩, rfl⟩ := h
          have e1' : (moAt ρ i).map Slot.par = some s := e1
          rw [hm] at e1'
          cases e1'
          rcases List.mem_cons.mp (show a ∈ A i :: parA vs ss from ha) with rfl | ha
          · exact .inr ⟨i, List.mem_cons_self, rfl, m, hm⟩
          · rcases ih ha with q | ⟨j, q1, q2⟩
            · exact .inl q
            · exact .inr ⟨j, List.mem_cons_of_mem _ q1, q2⟩
theorem args_nd (er : ER K H0 F H σ ρ A) : ∀ {vs : List V} {rs : List Res} {as : List Slot}, Paired (RAt K H0 ok F H ρ A) vs rs → argsOf ρ rs = some as → (newAt vs rs).Nodup → (brws rs).Nodup → (parA vs as).Nodup
  | _, _, _, .nil, e, _, _ => by cases e; exact List.nodup_nil
  | v :: vs, r :: rs, as, .cons h t, e, n1, n2 => by
    unfold argsOf at e
    cases e1 : argOf ρ r with
    | none => rw [e1] at e; cases e
    | some s =>
      cases e2 : argsOf ρ rs with
      | none => rw [e1, e2] at e; cases e
      | some ss =>
        rw [e1, e2] at e
        cases e
        cases r with
        | val d =>
          cases e1
          have ih := args_nd er t e2 n1 n2
          unfold parA
          split
          · rename_i h1 h2; cases h2
          · rename_i h1 h2; cases h1; cases h2; exact ih
          · rename_i hx; exact (hx _ _ _ _ rfl rfl).elim
        | new m =>
          cases e1
          obtain ⟨p, rfl, f, no, mo, _, okp⟩ := h
          obtain ⟨m1, m2⟩ := List.nodup_cons.mp (show (V.ref p :: newAt vs rs).Nodup from n1)
          refine List.nodup_cons.mpr ⟨fun z => ?_, args_nd er t e2 m2 n2⟩
          rcases args_own er t e2 p z with q | ⟨j, _, q2, q3⟩
          · exact m1 q.1
          · exact no ⟨j, q3.choose, q3.choose_spec, q2⟩
        | brw i =>
          obtain ⟨⟨m, hm⟩, rfl⟩ := h
          have e1' : (moAt ρ i).map Slot.par = some s := e1
          rw [hm] at e1'
          cases e1'
          obtain ⟨m1, m2⟩ := List.nodup_cons.mp (show (i :: brws rs).Nodup from n2)
          refine List.nodup_cons.mpr ⟨fun z => ?_, args_nd er t e2 n1 m2⟩
          rcases args_own er t e2 _ z with q | ⟨j, q1, q2, m', q3⟩
          · exact q.2.2 ⟨i, m, hm, rfl⟩
          · exact m1 (by rw [← er.inj j i m' m q3 hm q2]; exact q1)
/-- the state behind a call -/
theorem args_back (er : ER K H0 F H σ ρ A) (pr : Paired (RAt K H0 ok F H ρ A) vs rs) (e : argsOf ρ rs = some as) (nd : (brws rs).Nodup) (tr : Tr (· ∈ parA vs as) F H F' H') (le : Le F' H') (ht : LamX.Tabs H0.T H') (bk : Back K F' H' vs as as') :
    ER K H0 F' H' σ (putBack ρ rs as') A ∧ Sb ρ (putBack ρ rs as') := by
  refine er.change tr le ht putBack_len fun j => ?_
  by_cases hj : j ∈ brws rs
  · obtain ⟨i, hi⟩ := mem_brw hj
    obtain ⟨s, h1, h2⟩ := argsOf_get e i _ hi
    have h2' : (moAt ρ j).map Slot.par = some s := h2
    cases hm : moAt ρ j with
    | none => rw [hm] at h2'; cases h2'
    | some m =>
      rw [hm] at h2'
      cases h2'
      obtain ⟨m', a, b1, b2, b3, b4⟩ := bk i m h1
      obtain ⟨v, c1, c2⟩ := Paired.get? pr hi
      have ea : a = A j := by
        have e1 : v = V.ref (A j) := c2.2
        rw [b2] at c1
        have e2 := Option.some.inj c1
        rw [e1] at e2
        exact V.ref.inj e2
      subst ea
      have pi := putBack_in (ρ := ρ) nd hi b1
      unfold moAt at hm
      cases q : ρ[j]? with
      | none => rw [q] at hm; cases hm
      | some s =>
        rw [q] at hm
        have hk : j < ρ.length := (List.getElem?_eq_some_iff.mp q).1
        unfold putMo at pi
        rw [q] at pi
        cases s with
        | un => cases hm
        | val d => cases hm
        | exc C fs => cases hm
        | own m0 => cases hm; exact .inr (.inl ⟨m, m', rfl, by rw [pi]; exact List.getElem?_set_self hk, b3, b4⟩)
        | par m0 => cases hm; exact .inr (.inr ⟨m, m', rfl, by rw [pi]; exact List.getElem?_set_self hk, b3, b4⟩)
  · refine .inl ⟨putBack_out hj, fun m hm z => ?_⟩
    rcases args_own er pr e _ z with q | ⟨i, q1, q2, m', q3⟩
    · exact q.2.2 ⟨j, m, hm, rfl⟩
    · exact hj (by rw [← er.inj i j m' m q3 hm q2]; exact q1)
/-- the arguments stand: the callee's promise is asked -/
theorem call_sp {m : Mir} {n : Nat} {ρ0 : En} {F0 H00 : Hp} {okr : Addr → Prop} {Q : VK} {o : Out Res} (tr : Tr (OwnA ρ0 A) F0 H00 F H) (sb : Sb ρ0 ρ) (er : ER K H0 F H σ ρ A) (ra : RAts K H0 (Okp ρ0 A H00) F H ρ A vs rs) (e : callM m rs ρ = some o)
    (p : Post K H0 W (RAt K H0) okr σ F0 H00 ρ0 A Q o) (kn : ∀ q, Okp ρ0 A H00 q → okr q) (hn : rs.length = n) : spM K H0.T n m vs H Q (WE W σ) := by
  unfold callM at e
  cases e1 : argsOf ρ rs with
  | none => rw [e1] at e; cases e
  | some as =>
    rw [e1] at e
    obtain ⟨nd, e⟩ := ite_some' (show (if nodupN (brws rs) = true then (match m as with
      | some (.ok r as') => some (Out.ok r.res (putBack ρ rs as'))
      | some (.ex C fs as') => some (.ex C fs (putBack ρ rs as'))
      | none => none) else none) = some o from e)
    have nd := nodupN_ok nd
    refine ⟨(Paired.length ra.1).trans hn, F, as, ⟨er.le, args_at er ra.1 e1, args_nd er ra.1 e1 ra.2 nd, er.tabs⟩, ?_⟩
    have st : ∀ x, x ∈ parA vs as → OwnA ρ0 A x ∨ H00 x = none := fun x hx => by
      rcases args_own er ra.1 e1 x hx with ⟨_, q, _⟩ | ⟨j, _, q2, m', q3⟩
      · exact q.symm
      · exact .inl (sb.ownA ⟨j, m', q3, q2⟩)
    cases em : m as with
    | none => rw [em] at e; cases e
    | some om =>
      rw [em] at e
      refine ⟨om, rfl, ?_⟩
      cases om with
      | ok r as' =>
        cases e
        intro v F' H' tr' le' ht' bk' rt
        obtain ⟨er', sb'⟩ := args_back er ra.1 e1 nd tr' le' ht' bk'
        refine p v F' H' (tr.trans tr' st) er' (sb.trans sb') ?_
        cases r with
        | val d => exact rt
        | new m' =>
          obtain ⟨q, rfl, f, hq, mo⟩ := rt
          refine ⟨q, rfl, f, fun z => ?_, mo, free_0 er hq, kn q (.inl (none_back tr.there hq))⟩
          obtain ⟨_, ob, hob⟩ := er.ownThere (sb'.ownA z)
          rw [hq] at hob; cases hob
      | ex C fs as' =>
        cases e
        intro dx F' H' tr' le' ht' bk' x
        obtain ⟨er', sb'⟩ := args_back er ra.1 e1 nd tr' le' ht' bk'
        exact p dx F' H' (tr.trans tr' st) er' (sb.trans sb') x
end
section
variable {X : Cx} {H0 : HE} {W : WX} {k : Nat} {f : Addr} {fd : FuncData} {ps : List Str} {x : Str} {p pos : Pos} {e : Expr} {es : List Expr} {gs : EM (List Res)} {m : Mir}
/-- f(e, ..) -/
theorem p_call {n : Nat} (F : FnOk X.prog X.w X.K X.mg X.base (L2.CX X.prog X.w) k f fd ps (spM X.K H0.T n m)) (hr : Room k X.A) (hg : Gl X x) (hm : X.mg x = some (.ref f)) (hk : PySem.W.keepIn X.K (.ref f) = true) (hb : Binds X.K fd ps []) (tk : Takes X W)
    (ha : PA X (e :: es) (tA X.K H0 W gs)) (hdb : (x == ("__debug__" : Str)) = false := by decide) (he : starEach (e :: es) X.env = (false, eval e X.env) :: starEach es X.env := by rfl) (hpl : (backTo pos (starEach es X.env)).any (·.1) = false := by rfl) :
    PE X (.Call (.Name x p) (e :: es) [] pos) (tE X.K H0 W (gFn n m gs)) :=
  (pe_callSD F hr hg hm hk hb .nil (fun σ => passAt tk σ) ha hdb he hpl).weak fun σ H Q h => by
    obtain ⟨F1, ρ, A, h⟩ := h
    refine ⟨F1, ρ, A, h.bind0 fun vs rs F2 H2 ρ2 o tr sb er ra e p kn => ?_⟩
    obtain ⟨c, e⟩ := ite_some' e
    rw [List.append_nil]
    exact call_sp tr sb er ra e p kn c
end
end M

/-! M11: exceptions. -/
namespace M
open PySem PySem.Spec PyProof.Rows L2

/-! ### own classes with an __init__ that stores its parameters -/
def spInit (K : PySem.W.Frag) (fs : List Str) : Sp := fun vs H Q _ => ∃ a C xs, vs = .ref a :: xs ∧ xs.length = fs.length ∧ OexC K C ∧ (∀ f ∈ fs, PySem.W.findIn K (.ref C) f = some none) ∧ H a = some (exo a C none) ∧
  ∀ dx, H dx = none → dx ≠ a → Q .non (upd (upd H dx (exd dx (fs.zip xs).reverse)) a (exo a C (some dx)))
theorem upd_upd {H : Hp} {a : Addr} {o o' : HO} : upd (upd H a o) a o' = upd H a o' := by
  funext b
  by_cases h : b = a
  · subst h; rw [upd_same, upd_same]
  · rw [upd_ne h, upd_ne h, upd_ne h]
theorem upd_comm {H : Hp} {a b : Addr} {o o' : HO} (h : a ≠ b) : upd (upd H a o) b o' = upd (upd H b o') a o := by
  funext c
  by_cases h1 : c = a
  · subst h1; rw [upd_ne h, upd_same, upd_same]
  · by_cases h2 : c = b
    · subst h2; rw [upd_same, upd_ne h1, upd_same]
    · rw [upd_ne h2, upd_ne h1, upd_ne h1, upd_ne h2]
/-- raise C(e): the exception's dict is made -/
theorem mk_weak {K : PySem.W.Frag} {C : Addr} {fs : List Str} {xs : List V} {H1 : Hp} {Q : XK} (hx : xs.length = fs.length) (hl : xs.length ≤ 1000) (T : OexC K C) (hno : ∀ f ∈ fs, PySem.W.findIn K (.ref C) f = some none)
    (q : ∀ dx, H1 dx = none → Q (.ref C) (some dx) (upd H1 dx (.xd (fs.zip xs).reverse))) :
    xs.length ≤ 1000 ∧ ∀ a, H1 a = none → spInit K fs (.ref a :: (xs ++ [])) (upd H1 a (exo a C none))
      (fun v H2 => v = .non ∧ ∃ (d : Addr) (gs : List (Str × V)), H2 a = some (exo a C (some d)) ∧ H2 d = some (exd d gs) ∧ H1 d = none ∧ Q (.ref C) (some d) (upd (del H2 a) d (.xd gs))) (fun _ _ _ => False) := by
  refine ⟨hl, fun a ha => ⟨a, C, xs, by rw [List.append_nil], hx, T, hno, upd_same, fun dx h1 h2 => ⟨rfl, dx, (fs.zip xs).reverse, upd_same, by rw [upd_ne h2, upd_same], ?_, ?_⟩⟩⟩
  · rw [upd_ne h2] at h1; exact h1
  · rw [upd_ne h2] at h1
    have := q dx h1
    have e : upd (del (upd (upd (upd H1 a (exo a C none)) dx (exd dx (fs.zip xs).reverse)) a (exo a C (some dx))) a) dx (.xd (fs.zip xs).reverse) = upd H1 dx (.xd (fs.zip xs).reverse) := by
      funext b
      by_cases hb : b = dx
      · subst hb; rw [upd_same, upd_same]
      · rw [upd_ne hb, upd_ne hb]
        by_cases hba : b = a
        · subst hba; rw [del_same, ha]
        · rw [del_ne hba, upd_ne hba, upd_ne hb, upd_ne hba]
    rw [e]
    exact this
/-! ### raise -/
def gRaise (C : Value) (fs : List Str) (gs : EM (List Res)) : EM Fl := gs.bind fun rs => fun ρ => match valsR rs with
  | some ds => if ds.length = fs.length ∧ ds.length ≤ 1000 then some (.ex C (fs.zip ds).reverse ρ) else none
  | none => none
theorem repF_zip {K : PySem.W.Frag} {F : Hp} : ∀ {fs : List Str} {vs : List V} {ds : List D}, Reps K F vs ds → RepF K F (fs.zip vs) (fs.zip ds)
  | [], _, _, _ => .nil
  | _ :: _, _, _, .nil => .nil
  | _ :: _, _, _, .cons h r => .cons h (repF_zip r)
theorem RepF.append {K : PySem.W.Frag} {F : Hp} : ∀ {xs ys : List (Str × V)} {ds es : List (Str × D)}, RepF K F xs ds → RepF K F ys es → RepF K F (xs ++ ys) (ds ++ es)
  | _, _, _, _, .nil, s => s
  | _, _, _, _, .cons h r, s => .cons h (RepF.append r s)
theorem RepF.reverse {K : PySem.W.Frag} {F : Hp} {xs : List (Str × V)} {ds : List (Str × D)} (r : RepF K F xs ds) : RepF K F xs.reverse ds.reverse := by
  induction xs generalizing ds with
  | nil => cases r; exact .nil
  | cons x xs ih =>
    cases r with
    | cons h r =>
      rw [List.reverse_cons, List.reverse_cons]
      exact (ih r).append (.cons h .nil)
section
variable {X : Cx} {H0 : HE} {W : WX} {x : Str} {C fI : Addr} {k : Nat} {fd : FuncData} {ps : List Str} {fs : List Str} {e : Expr} {es : List Expr} {gs : EM (List Res)} {p pos pos' : Pos}
theorem c_raise (T : OexC X.K C) (iC : PySem.W.findIn X.K (.ref C) "__init__" = some (some (.ref fI))) (tI : PySem.W.typeIn X.K (.ref fI) = some (.type "function")) (hno : ∀ f ∈ fs, PySem.W.findIn X.K (.ref C) f = some none)
    (F1 : FnOk X.prog X.w X.K X.mg X.base (L2.CX X.prog X.w) k fI fd ps (spInit X.K fs)) (hr : Room (k + 1) X.A) (hb : Binds X.K fd ps []) (hg : Gl X x) (hm : X.mg x = some (.ref C)) (hc : X.calm = true) (tk : Takes X W)
    (ha : PA X (e :: es) (tA X.K H0 W gs))
    (hdb : (x == ("__debug__" : Str)) = false := by decide) (he : starEach (e :: es) X.env = (false, eval e X.env) :: starEach es X.env := by rfl) (hpl : (backTo pos (starEach es X.env)).any (·.1) = false := by rfl) :
    PS X (.Raise (some (.Call (.Name x p) (e :: es) [] pos)) none pos') (tSt X.K H0 W (gRaise (.ref C) fs gs)) :=
  (ps_raise hc tk (pmk_oex T iC tI F1 hr hb .nil (passes_call (E := fun _ _ _ => False) tk fun _ _ _ _ h => h.elim) hg hm ha hdb he hpl)).weak fun G σ H h => by
    obtain ⟨F, ρ, A, h⟩ := h
    refine ⟨F, ρ, A, h.bind fun vs rs F1 H1 ρ1 tr sb ra h1 => ?_⟩
    obtain ⟨er, o, e, p⟩ := h1
    cases ev : valsR rs with
    | none => rw [ev] at e; cases e
    | some ds =>
      rw [ev] at e
      obtain ⟨⟨c1, c2⟩, e⟩ := ite_some' e
      cases e
      have r := rats_reps ra.1 ev
      refine mk_weak (H1 := H1) (Q := fun cls d H' => W cls d σ H') (by rw [r.length]; exact c1) (by rw [r.length]; exact c2) T hno fun dx hd => ?_
      have fd := free_F er.le hd
      exact p (some dx) σ (upd F1 dx (.xd (fs.zip vs).reverse)) _ A (Tr.laidF er.le hd) (er.laidF hd) .refl (.inr ⟨dx, _, rfl, upd_same, ((repF_zip r).reverse).mono (le_self fd)⟩)
end

/-! ### except: what a clause names -/
theorem flying_keeps {B h h' : Heap} {l : List Env} {a : Addr} {Z : Obj → Prop} (R : HandSPX.FlyingZ B l a Z h) (k : ∀ b o, h.get? b = some o → h'.get? b = some o) : HandSPX.FlyingZ B l a Z h' := by
  obtain ⟨f1, f2, f3, oe, vs, T, oT, ts, he, hz, hd, h1, hn, hne, hT, hdT, h3⟩ := R
  exact ⟨fun b o q => k b o (f1 b o q), f2, f3.of_keeps fun b o q _ => ⟨o, k b o q, rfl⟩, oe, vs, T, oT, ts, k _ _ he, hz, hd, h1, hn, hne, k _ _ hT, hdT, h3⟩
/-- the clause's expression tells the classes cs -/
def ClOk (X : Cx) (te : Expr) (cs : List Value) : Prop := ∀ (a : Addr) (oe : Obj) (pn : List (Addr × Obj)) (σ : L2.St) (H : Hp) (s : Shared), Inv (X.suite a ((a, oe) :: pn)) [] σ H s → ∀ (Q : Value → Shared → Prop) (E : Value → Shared → Prop),
  (∀ u h', (∀ b o, s.heap.get? b = some o → h'.get? b = some o) → (∀ (cls : Value) (e : Addr) (b : Bool), PySem.W.Looks (model X.prog X.w) h' (typeOf (.ref e)) cls → PySem.W.exmAny X.K cls cs = some b → PySem.W.Looks (model X.prog X.w) h' (excMatches (.ref e) u) b) → Q u { s with heap := h' }) →
  wpAny (model X.prog X.w) (X.A.mark (some (.ref a))) (eval te X.env) Q E s
section
variable {X : Cx}
theorem cl_ld {x : Str} {c : Value} {a : Addr} {oe : Obj} {pn : List (Addr × Obj)} {σ : L2.St} {H : Hp} {s : Shared} {np : Pos} {Q E : Value → Shared → Prop} (hc : Names X x c) (S3 : Inv (X.suite a ((a, oe) :: pn)) [] σ H s) (q : Q c s) :
    wpAny (model X.prog X.w) (X.A.mark (some (.ref a))) (eval (.Name x np) X.env) Q E s := by
  obtain ⟨hg, hdbg, hm | ⟨hm, hv, hnn⟩⟩ := hc
  · exact ld_glob (X := X.suite a ((a, oe) :: pn)) S3 hg hm q hdbg
  · exact ld_blt (X := X.suite a ((a, oe) :: pn)) S3 hg hm hv q hnn hdbg
theorem cl_name {x : Str} {c : Value} {np : Pos} (hc : Names X x c) : ClOk X (.Name x np) [c] := fun a oe pn σ H s S3 Q E q => by
  refine cl_ld hc S3 (q c s.heap (fun _ _ z => z) fun cls e b LT hx => ?_)
  obtain ⟨b1, d1, x1, y1, z1⟩ := PySem.W.exmAny_cons hx
  cases y1
  rw [Bool.or_false] at z1
  subst z1
  exact PySem.W.exm_one S3.kIn LT x1
theorem cl_tup3 {x1 x2 x3 : Str} {c1 c2 c3 : Value} {n1 n2 n3 np : Pos} {j : Nat} (h1 : Names X x1 c1) (h2 : Names X x2 c2) (h3 : Names X x3 c3) : ClOk X (.Tuple [.Name x1 n1, .Name x2 n2, .Name x3 n3] j np) [c1, c2, c3] := fun a oe pn σ H s S3 Q E q => by
  refine wpAny_Tuple_spliced ?_
  show wpAny _ _ (spliced ((false, eval (.Name x1 n1) X.env) :: backTo np (starEach [.Name x2 n2, .Name x3 n3] X.env))) _ _ s
  refine Calls.spliced_cons (cl_ld h1 S3 ?_)
  show wpAny _ _ (spliced ((false, eval (.Name x2 n2) X.env) :: backTo np (starEach [.Name x3 n3] X.env))) _ _ s
  refine Calls.spliced_cons (cl_ld h2 S3 ?_)
  show wpAny _ _ (spliced ((false, eval (.Name x3 n3) X.env) :: backTo np (starEach [] X.env))) _ _ s
  refine Calls.spliced_cons (cl_ld h3 S3 ?_)
  refine Calls.spliced_nil ?_
  have kp : ∀ b o, s.heap.get? b = some o → (s.heap.push { cls := .type "tuple", data := .seq [c1, c2, c3].toArray }).get? b = some o := fun b o z => Heap.get?_push_of_some _ z
  exact ⟨by rw [sizeLine_eq]; simp, q _ _ kp fun cls e b LT hx => PySem.W.exm_tup3 (S3.kIn.keeps kp) LT (Heap.get?_push_size _ rfl) hx⟩
theorem cl_tup4 {x1 x2 x3 x4 : Str} {c1 c2 c3 c4 : Value} {n1 n2 n3 n4 np : Pos} {j : Nat} (h1 : Names X x1 c1) (h2 : Names X x2 c2) (h3 : Names X x3 c3) (h4 : Names X x4 c4) : ClOk X (.Tuple [.Name x1 n1, .Name x2 n2, .Name x3 n3, .Name x4 n4] j np) [c1, c2, c3, c4] := fun a oe pn σ H s S3 Q E q => by
  refine wpAny_Tuple_spliced ?_
  show wpAny _ _ (spliced ((false, eval (.Name x1 n1) X.env) :: backTo np (starEach [.Name x2 n2, .Name x3 n3, .Name x4 n4] X.env))) _ _ s
  refine Calls.spliced_cons (cl_ld h1 S3 ?_)
  show wpAny _ _ (spliced ((false, eval (.Name x2 n2) X.env) :: backTo np (starEach [.Name x3 n3, .Name x4 n4] X.env))) _ _ s
  refine Calls.spliced_cons (cl_ld h2 S3 ?_)
  show wpAny _ _ (spliced ((false, eval (.Name x3 n3) X.env) :: backTo np (starEach [.Name x4 n4] X.env))) _ _ s
  refine Calls.spliced_cons (cl_ld h3 S3 ?_)
  show wpAny _ _ (spliced ((false, eval (.Name x4 n4) X.env) :: backTo np (starEach [] X.env))) _ _ s
  refine Calls.spliced_cons (cl_ld h4 S3 ?_)
  refine Calls.spliced_nil ?_
  have kp : ∀ b o, s.heap.get? b = some o → (s.heap.push { cls := .type "tuple", data := .seq [c1, c2, c3, c4].toArray }).get? b = some o := fun b o z => Heap.get?_push_of_some _ z
  exact ⟨by rw [sizeLine_eq]; simp, q _ _ kp fun cls e b LT hx => PySem.W.exm_tup4 (S3.kIn.keeps kp) LT (Heap.get?_push_size _ rfl) hx⟩
end

/-! ### try .. except, several clauses -/
/-- a clause: the classes, the name's slot, the suite's reading -/
structure Cl where
  cs : List Value
  slot : Option Nat
  ts : Addr → Value → Option Addr → TS
def endC (i : Option Nat) (G : Ends) : Ends := match i with
  | none => G
  | some i => { nx := fun σ' H' => G.nx (σ'.set i none) H', rt := G.rt, bk := fun σ' H' => G.bk (σ'.set i none) H', ct := fun σ' H' => G.ct (σ'.set i none) H' }
def setC (i : Option Nat) (σ : L2.St) (a : Addr) : L2.St := match i with
  | none => σ
  | some i => σ.set i (some (.ref a))
def wCl (K : PySem.W.Frag) (Wout : WX) (G : Ends) : List Cl → WX
  | [] => Wout
  | c :: r => fun cls d σ H => ∃ b, PySem.W.exmAny K cls c.cs = some b ∧ (b = true → ∀ a, H a = none → c.ts a cls d (endC c.slot G) (setC c.slot σ a) H) ∧ (b = false → wCl K Wout G r cls d σ H)
inductive ClsOk (X : Cx) : List ExceptHandler → List Cl → Prop
  | nil : ClsOk X [] []
  | only {te : Expr} {cs : List Value} {ts : Addr → Value → Option Addr → TS} {b₀ : Stmt} {suite : List Stmt} {pos' : Pos} {hds : List ExceptHandler} {l : List Cl} (hc : ClOk X te cs)
      (hsu : ∀ (a : Addr) (oe : Obj) (cls : Value) (d : Option Addr) (pn : List (Addr × Obj)), Zc cls d oe → (∃ vs, oe.data = .fields vs) → PSs (X.suite a ((a, oe) :: pn)) (b₀ :: suite) (ts a cls d)) (r : ClsOk X hds l) :
      ClsOk X (.ExceptHandler (some te) none (b₀ :: suite) pos' :: hds) (⟨cs, none, ts⟩ :: l)
  | as {te : Expr} {cs : List Value} {n : Str} {i : Nat} {ts : Addr → Value → Option Addr → TS} {b₀ : Stmt} {suite : List Stmt} {pos' : Pos} {hds : List ExceptHandler} {l : List Cl} (hc : ClOk X te cs) (hi : X.N[i]? = some n) (hln : X.env.kindOf n = some .local)
      (hsu : ∀ (a : Addr) (oe : Obj) (cls : Value) (d : Option Addr) (pn : List (Addr × Obj)), Zc cls d oe → (∃ vs, oe.data = .fields vs) → PSs (X.suite a ((a, oe) :: pn)) (b₀ :: suite) (ts a cls d)) (r : ClsOk X hds l) :
      ClsOk X (.ExceptHandler (some te) (some n) (b₀ :: suite) pos' :: hds) (⟨cs, some i, ts⟩ :: l)
section
variable {X : Cx} {body : List Stmt} {h₀ : ExceptHandler} {hds : List ExceptHandler} {l : List Cl} {pos : Pos} {tb : WX → TS} {Wout : WX}
theorem ps_try_cl (hs : X.stack = X.env :: X.outer) (hf : X.env.frame = some X.env.locals) (hN : X.N.Nodup) (tk : Takes X Wout)
    (hb : ∀ (W : WX) (pn : List (Addr × Obj)) (xe : Value → Shared → Prop), Takes (X.tr pn xe) W → PassesOwn (model X.prog X.w) X.A X.env xe → PSs (X.tr pn xe) body (tb W))
    (hh : ClsOk X (h₀ :: hds) l) : PS X (.Try body (h₀ :: hds) [] [] pos) (fun D σ H => tb (wCl X.K Wout D l) D σ H) := by
  refine ⟨fun pins s σ H D I h => ?_⟩
  have ok := I.ok
  have hfr : X.A.frames = some (X.env :: X.outer) := by rw [ok.frames, hs]
  refine wpAny_Try_except ?_
  refine wpAny_mono ((hb (wCl X.K Wout D l) (X.pn ++ pins) (fun e s₁ => wpAny (model X.prog X.w) X.A (noteFrame e X.env) (fun _ s₂ => wpAny (model X.prog X.w) X.A (setFlight e none) (fun _ s₃ =>
    wpAny (model X.prog X.w) X.A (handleBy e X.env (h₀ :: hds)) (SP X pins D) X.xe s₃) X.xe s₂) X.xe s₁) (fun u s' xx => ?_) PassesOwn.looking).run [] s σ H D (I.toTry _) h) (fun f s1 hsp => ?_) (fun e s1 he => he)
  · -- the catch
    obtain ⟨a, B, sI, pins', σ', H', cls, d, rfl, J', nb, up, sky, na, os, ag, w⟩ := xx
    have J : Inv X pins σ' H' sI := J'.ofTry ok
    have sky' : Sky B (X.env :: X.outer) a (Zc cls d) X.env.locals s'.heap := by rw [← hs]; exact sky
    show wpAny (model X.prog X.w) X.A (noteFrame (.ref a) X.env) _ _ _
    refine Sky.land Zc.steady hfr hf sky' fun h3 fl3 up3 => ?_
    have notFr : ∀ {h : Heap} {o : Obj} {vs : Array Value}, h.FunFrames B (X.env :: X.outer) → h.get? a = some o → o.data = .fields vs → a ∉ frs (X.env :: X.outer) := fun {h o vs} ff e dd hm => by
      obtain ⟨_, o', e', hnf⟩ := ff.mem hm
      rw [e] at e'; cases e'
      exact hnf _ dd
    obtain ⟨oe0, vs0, he0, hz0, hd0⟩ := fl3.there
    have nfr := notFr fl3.2.2.1 he0 hd0
    have nL : a ≠ X.env.locals := fun z => nfr (List.mem_filterMap.mpr ⟨X.env, List.mem_cons_self, by rw [hf, z]⟩)
    have nF : a ∉ X.fs := fun hm => by
      obtain ⟨e, he, q⟩ := List.mem_filterMap.mp hm
      exact nfr (List.mem_filterMap.mpr ⟨e, List.mem_cons_of_mem _ he, q⟩)
    have go : ∀ {hds' : List ExceptHandler} {l' : List Cl}, ClsOk X hds' l' → wCl X.K Wout D l' cls d σ' H' → ∀ h3 : Heap, HandSPX.FlyingZ B (X.env :: X.outer) a (Zc cls d) h3 → sI.heap.UpToSlots h3 →
        wpAny (model X.prog X.w) X.A (handleBy (.ref a) X.env hds') (SP X pins D) X.xe { s' with heap := h3 } := by
      intro hds' l' hk
      induction hk with
      | nil =>
        intro w h3 fl3 up3
        refine wpAny_handleBy_nil ?_
        obtain ⟨k1, k2, k3, oe, vs, T, oT, ts', he, hz, hd, h1, hr⟩ := id fl3
        unfold PySem.passOn
        refine wpAny_bind (wpAny_field he hd h1 ?_)
        rw [if_neg (show ¬ ((Value.ref T == Value.none) = true) from by simp)]
        have fin : wpAny (model X.prog X.w) X.A (setFlight (.ref a) X.env.frame) (fun _ s4 => wpAny (model X.prog X.w) X.A (throw (.ref a) : Sem Flow) (SP X pins D) X.xe s4) X.xe { s' with heap := h3 } := by
          rw [hf]
          refine HandSPX.setFlight_upZ fl3 fun h4 hh4 up4 => wpAny_throw (tk _ _ ?_)
          exact ⟨a, B, sI, pins, σ', H', cls, d, rfl, J, nb, up3.trans up4, .inr (.inr (by rw [hs]; exact hh4)), na, os, ag, w⟩
        first
          | exact wpAny_bind (wpAny_pure (wpAny_bind fin))
          | exact wpAny_bind fin
      | only hc hsu r ih =>
        intro w h3 fl3 up3
        obtain ⟨b, hb1, hyes, hno⟩ := w
        have J3 : Inv X pins σ' H' { s' with heap := h3 } := J.landed nb fl3.1 up3 os ag
        obtain ⟨oe3, vs3, he3, hz3, hd3⟩ := fl3.there
        have S3 := J3.suite he3 hd3 na nL nF
        refine wpAny_handleBy_cons (codeAny_handlers_test ?_) (by intro q; cases q)
        refine hc a oe3 _ _ _ _ S3 _ _ fun u h4 kp ex => ?_
        have he4 := kp _ _ he3
        have LT : PySem.W.Looks (model X.prog X.w) h4 (typeOf (.ref a)) cls := fun A Q E s k q => wpAny_typeOf_ref (k _ _ he4) (by rw [hz3.1]; exact q)
        have fl4 := flying_keeps fl3 kp
        have up4 := up3.trans (Heap.UpToSlots.of_keeps kp)
        refine (ex cls a b LT hb1).here ?_
        cases b with
        | true =>
          refine codeAny_handlers_suite ?_
          refine HandSPX.lands_againZ fl4 fun h5 fl5 up5 => ?_
          have J5 : Inv X pins σ' H' { s' with heap := h5 } := J.landed nb fl5.1 (up4.trans up5) os ag
          obtain ⟨oe5, vs5, he5, hz5, hd5⟩ := fl5.there
          have S5 := J5.suite he5 hd5 na nL nF
          refine wpAny_mono ((hsu a oe5 cls d (X.pn ++ pins) hz5 ⟨_, hd5⟩).run [] _ _ H' _ S5 (hyes rfl a na)) (fun f s6 hsp => ?_) (fun _ _ z => False.elim z)
          cases f with
          | next =>
            obtain ⟨σ6, H6, S6, q6⟩ := hsp
            exact ⟨σ6, H6, S6.unsuite ok, q6⟩
          | brk =>
            obtain ⟨σ6, H6, S6, q6⟩ := hsp
            exact ⟨σ6, H6, S6.unsuite ok, q6⟩
          | cont =>
            obtain ⟨σ6, H6, S6, q6⟩ := hsp
            exact ⟨σ6, H6, S6.unsuite ok, q6⟩
          | ret u =>
            obtain ⟨v6, σ6, H6, S6, r6, q6⟩ := hsp
            exact ⟨v6, σ6, H6, S6.unsuite ok, r6, q6⟩
        | false => exact ih (hno rfl) h4 fl4 up4
      | @as te cs n i ts b₀ suite pos' hds'' l'' hc hi hln hsu r ih =>
        intro w h3 fl3 up3
        obtain ⟨b, hb1, hyes, hno⟩ := w
        have J3 : Inv X pins σ' H' { s' with heap := h3 } := J.landed nb fl3.1 up3 os ag
        obtain ⟨oe3, vs3, he3, hz3, hd3⟩ := fl3.there
        have S3 := J3.suite he3 hd3 na nL nF
        have hloc : Loc X.env.scope _ := .inl hln
        refine wpAny_handleBy_cons (codeAny_handlers_test ?_) (by intro q; cases q)
        refine hc a oe3 _ _ _ _ S3 _ _ fun u h4 kp ex => ?_
        have he4 := kp _ _ he3
        have LT : PySem.W.Looks (model X.prog X.w) h4 (typeOf (.ref a)) cls := fun A Q E s k q => wpAny_typeOf_ref (k _ _ he4) (by rw [hz3.1]; exact q)
        have fl4 := flying_keeps fl3 kp
        have up4 := up3.trans (Heap.UpToSlots.of_keeps kp)
        refine (ex cls a b LT hb1).here ?_
        cases b with
        | true =>
          refine codeAny_handlers_suite_as ?_
          refine HandSPX.lands_againZ fl4 fun h5 fl5 up5 => ?_
          have J5 : Inv X pins σ' H' { s' with heap := h5 } := J.landed nb fl5.1 (up4.trans up5) os ag
          obtain ⟨oe5, vs5, he5, hz5, hd5⟩ := fl5.there
          have S5 := J5.suite he5 hd5 na nL nF
          refine store_ok (X := X.suite a ((a, oe5) :: (X.pn ++ pins))) (v := .ref a) S5 hN hi hloc rfl (fun s6 S6 => ?_) (.inr hln)
          refine wpAny_mono ((hsu a oe5 cls d (X.pn ++ pins) hz5 ⟨_, hd5⟩).run [] s6 _ H' _ S6 (hyes rfl a na)) (fun f s7 hsp => ?_) (fun _ _ z => False.elim z)
          have end_ : ∀ {σ7 : L2.St} {H7 : Hp} {Q : Shared → Prop}, Inv (X.suite a ((a, oe5) :: (X.pn ++ pins))) [] σ7 H7 s7 → (∀ s8, Inv X pins (σ7.set i none) H7 s8 → Q s8) →
              wpAny (model X.prog X.w) X.A (do bindName X.env n .none; unbindBehindTheSuite X.env n pos') (fun _ s8 => Q s8) X.xe s7 := fun {σ7 H7 Q} S7 hq => gone_ok (S7.unsuite ok) hN hi hln hq
          cases f with
          | next =>
            obtain ⟨σ6, H6, S6, q6⟩ := hsp
            exact end_ S6 fun s7 J7 => ⟨_, _, J7, q6⟩
          | brk =>
            obtain ⟨σ6, H6, S6, q6⟩ := hsp
            exact end_ S6 fun s7 J7 => ⟨_, _, J7, q6⟩
          | cont =>
            obtain ⟨σ6, H6, S6, q6⟩ := hsp
            exact end_ S6 fun s7 J7 => ⟨_, _, J7, q6⟩
          | ret u =>
            obtain ⟨v6, σ6, H6, S6, r6, q6⟩ := hsp
            exact end_ S6 fun s7 J7 => ⟨_, _, _, J7, r6, q6⟩
        | false => exact ih (hno rfl) h4 fl4 up4
    exact go hh w h3 fl3 (up.trans up3)
  · cases f with
    | next =>
      obtain ⟨σ', H', J', q⟩ := hsp
      exact wpAny_execs_nil ⟨σ', H', J'.ofTry ok, q⟩
    | brk =>
      obtain ⟨σ', H', J', q⟩ := hsp
      exact ⟨σ', H', J'.ofTry ok, q⟩
    | cont =>
      obtain ⟨σ', H', J', q⟩ := hsp
      exact ⟨σ', H', J'.ofTry ok, q⟩
    | ret u =>
      obtain ⟨v, σ', H', J', r, q⟩ := hsp
      exact ⟨v, σ', H', J'.ofTry ok, r, q⟩
end
end M

/-! M12: try, what a suite asks of its exception. -/
namespace M
open PySem PySem.Spec PyProof.Rows L2

/-- a clause's mirror: which classes it takes, the name's slot, the suite -/
structure HM where
  mt : Value → Option Bool
  slot : Option Nat
  g : EM Fl
def noE (ρ : En) : Bool := ρ.all fun s => match s with
  | .exc _ _ => false
  | _ => true
def unR (i : Nat) : Out Fl → Option (Out Fl)
  | .ok (.rt (.brw j)) ρ => if j = i then none else some (.ok (.rt (.brw j)) (ρ.set i .un))
  | .ok fl ρ => some (.ok fl (ρ.set i .un))
  | .ex _ _ _ => none
def outE {α : Type} : Out α → En
  | .ok _ ρ => ρ
  | .ex _ _ ρ => ρ
def isParB : Option Slot → Bool
  | some (.par _) => true
  | none => true
  | _ => false
def gHs (C : Value) (fs : List (Str × D)) : List HM → EM Fl
  | [] => fun ρ => some (.ex C fs ρ)
  | c :: r => fun ρ => match c.mt C with
    | none => none
    | some false => gHs C fs r ρ
    | some true => (match c.slot with
      | none => (match c.g ρ with
        | some (.ok fl ρ') => some (.ok fl ρ')
        | _ => none)
      | some i => if (noE ρ && !isParB ρ[i]?) = true then (match c.g (ρ.set i (.exc C fs)) with
        | some o => (match unR i o with
          | some o' => if (noE (outE o') && !isParB (outE o)[i]?) = true then some o' else none
          | none => none)
        | none => none) else none)
def gTry (gb : EM Fl) (hs : List HM) : EM Fl := fun ρ => match gb ρ with
  | some (.ex C fs ρ1) => gHs C fs hs ρ1
  | o => o
section
variable {K : PySem.W.Frag} {H0 : HE} {F H : Hp} {W : WX} {σ : L2.St} {ρ : En} {A : Nat → Addr} {G : Ends}
theorem noE_get (h : noE ρ = true) {i : Nat} {s : Slot} (e : ρ[i]? = some s) : ∀ C fs, s ≠ .exc C fs := fun C fs z => by
  unfold noE at h
  have := List.all_eq_true.mp h s (List.mem_of_getElem? e)
  rw [z] at this
  cases this
/-- another exception is looked at -/
theorem ER.reex {H1 : HE} (er : ER K H0 F H σ ρ A) (eh : H1.h = H0.h) (et : H1.T = H0.T) (h : noE ρ = true) : ER K H1 F H σ ρ A := by
  obtain ⟨h1, x1, t1⟩ := H1
  obtain ⟨h0, x0, t0⟩ := H0
  obtain rfl : h1 = h0 := eh
  obtain rfl : t1 = t0 := et
  refine ⟨er.len, er.le, fun i s e => ?_, er.inj, er.dom, er.tabs⟩
  have q := er.sl i s e
  cases s with
  | un => trivial
  | val d => exact q
  | exc C fs => exact absurd rfl (noE_get h e C fs)
  | own m => exact q
  | par m => exact q
theorem isParB_no {i : Nat} (h : isParB ρ[i]? = false) : i < ρ.length ∧ ∀ m, ρ[i]? ≠ some (Slot.par m) := by
  cases q : ρ[i]? with
  | none => rw [q] at h; cases h
  | some s =>
    refine ⟨(List.getElem?_eq_some_iff.mp q).1, fun m z => ?_⟩
    rw [q, Option.some.inj z] at h
    cases h
/-- a slot is set, or goes -/
theorem ER.setFlat {i : Nat} {s : Slot} {ov : Option V} (er : ER K H0 F H σ ρ A) (hi : i < ρ.length) (hs : s.mo? = none) (ok : ∀ σ' : L2.St, σ'[i]? = some ov → SlotOk K H0 F H σ' A i s) : ER K H0 F H (σ.set i ov) (ρ.set i s) A := by
  have hl : i < σ.length := by rw [er.len]; exact hi
  refine ⟨by simpa using er.len, er.le, fun j s' e => ?_, fun j k m1 m2 e1 e2 => ?_, er.dom, er.tabs⟩
  · by_cases z : j = i
    · subst z
      rw [List.getElem?_set_self hi] at e
      cases e
      exact ok _ (List.getElem?_set_self hl)
    · rw [List.getElem?_set_ne (Ne.symm z)] at e
      have q := er.sl j s' e
      cases s' with
      | un => trivial
      | val d' => obtain ⟨v', h1, h2⟩ := q; exact ⟨v', by rw [List.getElem?_set_ne (Ne.symm z)]; exact h1, h2⟩
      | exc C fs => obtain ⟨a, d, h1, h2⟩ := q; exact ⟨a, d, by rw [List.getElem?_set_ne (Ne.symm z)]; exact h1, h2⟩
      | own m => exact ⟨by rw [List.getElem?_set_ne (Ne.symm z)]; exact q.1, q.2⟩
      | par m => exact ⟨by rw [List.getElem?_set_ne (Ne.symm z)]; exact q.1, q.2⟩
  · rw [moAt_set hi] at e1 e2
    split at e1
    · rw [hs] at e1; cases e1
    · split at e2
      · rw [hs] at e2; cases e2
      · exact er.inj j k m1 m2 e1 e2
theorem StepS.setFlat {i : Nat} {s : Slot} (hi : i < ρ.length) (hs : s.mo? = none) (np : ∀ m, ρ[i]? ≠ some (Slot.par m)) : StepS ρ A (ρ.set i s) A H := by
  refine ⟨fun a h => .inl ?_, fun j m h => ?_⟩
  · obtain ⟨j, m, h1, h2⟩ := h
    rw [moAt_set hi] at h1
    split at h1
    · rw [hs] at h1; cases h1
    · exact ⟨j, m, h1, h2⟩
  · by_cases z : j = i
    · subst z; exact absurd h (np m)
    · exact ⟨m, by rw [List.getElem?_set_ne (Ne.symm z)]; exact h, rfl⟩
end
/-- the exception that a suite holds -/
def HE.sees (H0 : HE) (a : Addr) (cls : Value) (d : Option Addr) : HE := ⟨H0.h, fun a' C' d' => a' = a ∧ C' = cls ∧ d' = d, H0.T⟩
section
variable {X : Cx} {H0 : HE} {Wout : WX} {G : Ends}
inductive HsOk (X : Cx) (H0 : HE) : List ExceptHandler → List HM → List Cl → Prop
  | nil : HsOk X H0 [] [] []
  | only {te : Expr} {cs : List Value} {mt : Value → Option Bool} {g : EM Fl} {b₀ : Stmt} {suite : List Stmt} {pos' : Pos} {hds : List ExceptHandler} {l : List HM} {ls : List Cl} (hc : ClOk X te cs) (hm : ∀ cls b, mt cls = some b → PySem.W.exmAny X.K cls cs = some b)
      (hsu : ∀ (a : Addr) (oe : Obj) (cls : Value) (d : Option Addr) (pn : List (Addr × Obj)), Zc cls d oe → (∃ vs, oe.data = .fields vs) → PSs (X.suite a ((a, oe) :: pn)) (b₀ :: suite) (tSt X.K H0 (fun _ _ _ _ => False) g)) (r : HsOk X H0 hds l ls) :
      HsOk X H0 (.ExceptHandler (some te) none (b₀ :: suite) pos' :: hds) (⟨mt, none, g⟩ :: l) (⟨cs, none, fun _ _ _ => tSt X.K H0 (fun _ _ _ _ => False) g⟩ :: ls)
  | as {te : Expr} {cs : List Value} {n : Str} {i : Nat} {mt : Value → Option Bool} {g : EM Fl} {b₀ : Stmt} {suite : List Stmt} {pos' : Pos} {hds : List ExceptHandler} {l : List HM} {ls : List Cl} (hc : ClOk X te cs) (hm : ∀ cls b, mt cls = some b → PySem.W.exmAny X.K cls cs = some b) (hi : X.N[i]? = some n) (hln : X.env.kindOf n = some .local)
      (hsu : ∀ (a : Addr) (oe : Obj) (cls : Value) (d : Option Addr) (pn : List (Addr × Obj)), Zc cls d oe → (∃ vs, oe.data = .fields vs) → PSs (X.suite a ((a, oe) :: pn)) (b₀ :: suite) (tSt X.K (H0.sees a cls d) (fun _ _ _ _ => False) g)) (r : HsOk X H0 hds l ls) :
      HsOk X H0 (.ExceptHandler (some te) (some n) (b₀ :: suite) pos' :: hds) (⟨mt, some i, g⟩ :: l) (⟨cs, some i, fun a cls d => tSt X.K (H0.sees a cls d) (fun _ _ _ _ => False) g⟩ :: ls)
theorem HsOk.cls {hds : List ExceptHandler} {l : List HM} {ls : List Cl} (h : HsOk X H0 hds l ls) : ClsOk X hds ls := by
  induction h with
  | nil => exact .nil
  | only hc hm hsu r ih => exact .only hc hsu ih
  | as hc hm hi hln hsu r ih => exact .as hc hi hln hsu ih
theorem hs_weak {hds : List ExceptHandler} {l : List HM} {ls : List Cl} (h : HsOk X H0 hds l ls) : ∀ {F H : Hp} {ρ : En} {A : Nat → Addr} {o : Out Fl} {C : Value} {fs : List (Str × D)} {d : Option Addr} {σ : L2.St}, ER X.K H0 F H σ ρ A → ExAt X.K F d fs → gHs C fs l ρ = some o → PostS X.K H0 Wout G F H ρ A o → wCl X.K Wout G ls C d σ H := by
  induction h with
  | nil =>
    intro F H ρ A o C fs d σ er x e p
    cases e
    exact p d σ F H A .refl er .refl x
  | @only te cs mt g b₀ suite pos' hds l ls hc hm hsu r ih =>
    intro F H ρ A o C fs d σ er x e p
    unfold gHs at e
    cases em : mt C with
    | none => simp only [em] at e; cases e
    | some b =>
      refine ⟨b, hm C b em, fun hb a ha => ?_, fun hb => ?_⟩
      · subst hb
        simp only [em] at e
        cases eg : g ρ with
        | none => rw [eg] at e; cases e
        | some og =>
          rw [eg] at e
          cases og with
          | ex _ _ _ => cases e
          | ok fl ρ' =>
            cases e
            refine ⟨F, ρ, A, er, _, eg, ?_⟩
            cases fl <;> exact p
      · subst hb
        simp only [em] at e
        exact ih er x e p
  | @as te cs n i mt g b₀ suite pos' hds l ls hc hm hi hln hsu r ih =>
    intro F H ρ A o C fs d σ er x e p
    unfold gHs at e
    cases em : mt C with
    | none => simp only [em] at e; cases e
    | some b =>
      refine ⟨b, hm C b em, fun hb a ha => ?_, fun hb => ?_⟩
      · subst hb
        simp only [em] at e
        obtain ⟨c, e⟩ := ite_some' e
        rw [Bool.and_eq_true, Bool.not_eq_true'] at c
        obtain ⟨hl, np⟩ := isParB_no c.2
        cases eg : g (ρ.set i (.exc C fs)) with
        | none => rw [eg] at e; cases e
        | some og =>
          rw [eg] at e
          dsimp only at e
          cases eu : unR i og with
          | none => rw [eu] at e; cases e
          | some o' =>
            rw [eu] at e
            obtain ⟨c2, e⟩ := ite_some' e
            cases e
            rw [Bool.and_eq_true, Bool.not_eq_true'] at c2
            obtain ⟨ne2, c3⟩ := c2
            obtain ⟨hl2, np2⟩ := isParB_no c3
            have er1 : ER X.K (H0.sees a C d) F H σ ρ A := er.reex rfl rfl c.1
            have er2 : ER X.K (H0.sees a C d) F H (σ.set i (some (.ref a))) (ρ.set i (.exc C fs)) A := er1.setFlat hl rfl fun σ' e' => ⟨a, d, e', ⟨rfl, rfl, rfl⟩, x⟩
            have st : StepS ρ A (ρ.set i (.exc C fs)) A H := StepS.setFlat hl rfl np
            have p2 := p.later (Tr.refl (S := OwnA ρ A) (F := F) (H := H)) st
            refine ⟨F, _, A, er2, og, eg, ?_⟩
            have go : ∀ {σ' : L2.St} {F' H' : Hp} {ρ' : En} {A' : Nat → Addr}, outE og = ρ' → noE (ρ'.set i .un) = true → ER X.K (H0.sees a C d) F' H' σ' ρ' A' → StepS (ρ.set i (.exc C fs)) A ρ' A' H → ER X.K H0 F' H' (σ'.set i none) (ρ'.set i .un) A' ∧ StepS (ρ.set i (.exc C fs)) A (ρ'.set i .un) A' H := by
              intro σ' F' H' ρ' A' eo hn er' s'
              subst eo
              refine ⟨ER.reex (H0 := H0.sees a C d) (er'.setFlat hl2 rfl fun _ _ => trivial) rfl rfl hn, s'.trans (Tr.refl (S := fun _ => False) (F := F)) (StepS.setFlat hl2 rfl np2)⟩
            cases og with
            | ex _ _ _ => cases eu
            | ok fl ρ' =>
              cases fl with
              | nx =>
                cases eu
                exact fun σ' F' H' A' tr' er' s' => let ⟨q1, q2⟩ := go rfl ne2 er' s'; p2 _ F' H' A' tr' q1 q2
              | bk =>
                cases eu
                exact fun σ' F' H' A' tr' er' s' => let ⟨q1, q2⟩ := go rfl ne2 er' s'; p2 _ F' H' A' tr' q1 q2
              | ct =>
                cases eu
                exact fun σ' F' H' A' tr' er' s' => let ⟨q1, q2⟩ := go rfl ne2 er' s'; p2 _ F' H' A' tr' q1 q2
              | rt r =>
                have main : (∀ j, r = .brw j → j ≠ i) → some (Out.ok (Fl.rt r) (ρ'.set i .un)) = some o → PostS X.K (H0.sees a C d) (fun _ _ _ _ => False) (endC (some i) G) F H (ρ.set i (.exc C fs)) A (.ok (.rt r) ρ') := by
                  intro hj eo
                  cases eo
                  intro v σ' F' H' A' tr' er' s' ra
                  obtain ⟨q1, q2⟩ := go rfl ne2 er' s'
                  refine p2 v _ F' H' A' tr' q1 q2 ?_
                  have hl3 : i < ρ'.length := hl2
                  cases r with
                  | val d' => exact ra
                  | new m =>
                    obtain ⟨pp, h1, h2, h3, h4, h5, h6⟩ := ra
                    refine ⟨pp, h1, h2, fun ⟨j, m', z1, z2⟩ => h3 ⟨j, m', ?_, z2⟩, h4, h5, h6⟩
                    rw [moAt_set hl3] at z1
                    split at z1
                    · cases z1
                    · exact z1
                  | brw j =>
                    obtain ⟨⟨m, h1⟩, h2⟩ := ra
                    exact ⟨⟨m, by rw [moAt_set hl3, if_neg (hj j rfl)]; exact h1⟩, h2⟩
                cases r with
                | val d' => exact main (fun j z => nomatch z) eu
                | new m => exact main (fun j z => nomatch z) eu
                | brw j =>
                  replace eu : (if j = i then none else some (Out.ok (Fl.rt (Res.brw j)) (ρ'.set i .un))) = some o := eu
                  by_cases z : j = i
                  · rw [if_pos z] at eu; cases eu
                  · rw [if_neg z] at eu
                    exact main (fun j' z' => by cases z'; exact z) eu
      · subst hb
        simp only [em] at e
        exact ih er x e p
theorem c_try {body : List Stmt} {h₀ : ExceptHandler} {hds : List ExceptHandler} {l : List HM} {ls : List Cl} {gb : EM Fl} {pos : Pos} (hs : X.stack = X.env :: X.outer) (hf : X.env.frame = some X.env.locals) (hN : X.N.Nodup) (tk : Takes X Wout)
    (hb : ∀ (W : WX) (pn : List (Addr × Obj)) (xe : Value → Shared → Prop), Takes (X.tr pn xe) W → PassesOwn (model X.prog X.w) X.A X.env xe → PSs (X.tr pn xe) body (tSt X.K H0 W gb))
    (hh : HsOk X H0 (h₀ :: hds) l ls) : PS X (.Try body (h₀ :: hds) [] [] pos) (tSt X.K H0 Wout (gTry gb l)) :=
  (ps_try_cl (tb := fun W => tSt X.K H0 W gb) hs hf hN tk hb hh.cls).weak fun G σ H h => by
    obtain ⟨F, ρ, A, er, o, e, p⟩ := h
    refine ⟨F, ρ, A, er, ?_⟩
    unfold gTry at e
    cases eg : gb ρ with
    | none => rw [eg] at e; cases e
    | some og =>
      rw [eg] at e
      refine ⟨og, rfl, ?_⟩
      cases og with
      | ex C fs ρ1 => exact fun d σ' F' H' A' tr er' s x => hs_weak hh er' x e (p.later tr s)
      | ok fl ρ1 =>
        cases e
        cases fl with
        | nx => exact p
        | bk => exact p
        | ct => exact p
        | rt r => exact p
end

/-! ### in a suite: e.f, isinstance(e, C) -/
def gXf (P : Value → Bool) (i : Nat) (f : Str) : EM Res := fun ρ => match ρ[i]? with
  | some (.exc C fs) => if P C = true then (match fs.lookup f with
    | some d => some (.ok (.val d) ρ)
    | none => none) else none
  | _ => none
def gIsX (mt : Value → Option Bool) (i : Nat) : EM Res := fun ρ => match ρ[i]? with
  | some (.exc C fs) => (mt C).map fun b => .ok (.val (.bl b)) ρ
  | _ => none
theorem RepF.lookup {K : PySem.W.Frag} {F : Hp} {f : Str} : ∀ {xs : List (Str × V)} {ds : List (Str × D)} {d : D}, RepF K F xs ds → ds.lookup f = some d → ∃ v, xs.lookup f = some v ∧ Rep K F v d
  | _, _, _, .nil, e => by cases e
  | _, _, d, .cons (k := k) (x := x) (xs := xs) (d := d0) (ds := ds) h r, e => by
    unfold List.lookup at e ⊢
    cases q : f == k with
    | true => rw [q] at e; cases e; exact ⟨x, rfl, h⟩
    | false => rw [q] at e; exact RepF.lookup r e
section
variable {X : Cx} {H0 : HE} {W : WX} {a : Addr} {cls : Value} {d : Option Addr} {oe : Obj} {pn : List (Addr × Obj)} {pos p1 p2 p3 : Pos}
theorem p_xf (P : Value → Bool) (i : Nat) {x f : Str} (hz : Zc cls d oe) (hf : ∃ vs, oe.data = .fields vs) (hP : ∀ C, P C = true → ∃ c, C = .ref c ∧ XfC X.K c ∧ PySem.W.findIn X.K (.ref c) f = some none)
    (hN : X.N[i]? = some x := by rfl) (hv : Vis X.env.scope x := by first | exact Or.inl rfl | exact Or.inr (Or.inl rfl) | exact Or.inr (Or.inr rfl)) (hd : (x == ("__debug__" : Str)) = false := by decide)
    (hcd : (x == ("__classdict__" : Str)) = false := by decide) (hb : attributeBase (.Name x p1) f X.env (eval (.Name x p1) X.env) = eval (.Name x p1) X.env := by rfl) :
    PE (X.suite a ((a, oe) :: pn)) (.Attribute (.Name x p1) f pos) (tE X.K (H0.sees a cls d) W (gXf P i f)) := by
  by_cases hk : ∃ C, cls = .ref C ∧ XfC X.K C ∧ PySem.W.findIn X.K (.ref C) f = some none
  · obtain ⟨C, rfl, T, hno⟩ := hk
    refine (pe_xf (X := X) T hno hz hf (pe_var (X := X.suite a ((a, oe) :: pn)) (i := i) hN hv hd hcd) hb).weak fun σ H Q h => ?_
    obtain ⟨F, ρ, A, er, kn, o, e, p⟩ := h
    unfold gXf at e
    cases q : ρ[i]? with
    | none => rw [q] at e; cases e
    | some s =>
      rw [q] at e
      have so := er.sl i s q
      cases s with
      | exc C' fs =>
        obtain ⟨c, e2⟩ := ite_some' e
        clear e
        obtain ⟨a', d', h1, ⟨rfl, rfl, rfl⟩, h3⟩ := so
        cases el : fs.lookup f with
        | none => rw [el] at e2; cases e2
        | some dd =>
          rw [el] at e2
          cases e2
          rcases h3 with ⟨_, rfl⟩ | ⟨dx, vs, rfl, h4, h5⟩
          · cases el
          · obtain ⟨v, l1, r1⟩ := h5.lookup el
            exact ⟨_, h1, rfl, rfl, dx, vs, v, rfl, er.le.xd _ _ h4, l1, p v F H .refl er .refl r1⟩
      | _ => cases e
  · refine ⟨fun pins s σ H Q I h => ?_⟩
    exfalso
    obtain ⟨F, ρ, A, er, kn, o, e, p⟩ := h
    unfold gXf at e
    cases q : ρ[i]? with
    | none => rw [q] at e; cases e
    | some s =>
      rw [q] at e
      have so := er.sl i s q
      cases s with
      | exc C' fs =>
        obtain ⟨c, e⟩ := ite_some' e
        obtain ⟨a', d', h1, ⟨rfl, rfl, rfl⟩, h3⟩ := so
        exact hk (hP _ c)
      | _ => cases e
def rIsX (K : PySem.W.Frag) (D a : Addr) (d : Option Addr) : List V → Hp → VK → Prop := fun xs H Q => ∃ (c : V) (cv : Value) (b : Bool), xs = [.ref a, c] ∧ (∀ u, RelV c u → u = cv) ∧ PySem.W.kitOne K (.ref D) cv = some b ∧ (d = none ∨ ∃ dx vs, d = some dx ∧ H dx = some (.xd vs)) ∧ Q (.bl b) H
theorem call_isX {D : Addr} (C : L2.ExcC X.K D) (hz : Zc (.ref D) d oe) (hf : ∃ vs, oe.data = .fields vs) : CallR (X.suite a ((a, oe) :: pn)) (.builtin "isinstance") (rIsX X.K D a d) := by
  intro pins s σ H xs us Q I r h
  obtain ⟨c, cv, b, rfl, hcv, e, hd, q⟩ := h
  cases r with
  | cons rx rr =>
    cases rr with
    | cons rt rr =>
      cases rr
      cases rx
      have ec := hcv _ rt
      subst ec
      obtain ⟨hget, _⟩ := I.pin (a, oe) (List.mem_append.mpr (.inl List.mem_cons_self))
      obtain ⟨vs, hv⟩ := hf
      have hcl : (PySem.W.clsIn X.K D).isSome = true := by obtain ⟨cd, hc, _⟩ := PySem.W.any_some C.hd; rw [hc]; rfl
      have J : ∃ od, PySem.W.InstAt s.heap a oe D od := by
        rcases hd with rfl | ⟨dx, ws, rfl, hx⟩
        · refine ⟨none, hget, hz.1, by unfold PySem.W.notCls; rw [hv] <;> rfl, ?_⟩
          rw [hz.2]; trivial
        · obtain ⟨mA, hns, hr⟩ := (show ObjOk X.prog X.w H s.heap dx (.xd ws) from I.hok dx _ hx)
          obtain ⟨od, ho, hl⟩ := lookIn_ns hns
          exact ⟨some od, hget, hz.1, by unfold PySem.W.notCls; rw [hv] <;> rfl, by rw [hz.2]; exact ho⟩
      obtain ⟨od, J⟩ := J
      exact PySem.W.kia_one (PySem.W.kitx_exc hcl C.hg C.hk C.hs C.ha C.hn C.ht C.hm) I.kIn J e (fun z => nomatch z) fun tk => ⟨.bl b, H, I.kept (t' := tk) fun _ _ z => z, rfl, q⟩
theorem p_isx (mt : Value → Option Bool) (i : Nat) {x c : Str} {cv : Value} {C0 : V} (hz : Zc cls d oe) (hf : ∃ vs, oe.data = .fields vs) (hP : ∀ C b, mt C = some b → ∃ c, C = .ref c ∧ L2.ExcC X.K c ∧ PySem.W.kitOne X.K (.ref c) cv = some b)
    (hg : Gl X "isinstance") (hm : X.mg "isinstance" = none) (hgc : Gl X c) (hmc : X.mg c = some cv) (rc : RelV C0 cv) (hcv : ∀ u, RelV C0 u → u = cv) (hdc : (c == ("__debug__" : Str)) = false := by decide)
    (hN : X.N[i]? = some x := by rfl) (hv : Vis X.env.scope x := by first | exact Or.inl rfl | exact Or.inr (Or.inl rfl) | exact Or.inr (Or.inr rfl)) (hd : (x == ("__debug__" : Str)) = false := by decide)
    (hcd : (x == ("__classdict__" : Str)) = false := by decide) : PE (X.suite a ((a, oe) :: pn)) (.Call (.Name "isinstance" p1) [.Name x p2, .Name c p3] [] pos) (tE X.K (H0.sees a cls d) W (gIsX mt i)) := by
  by_cases hk : ∃ D, cls = .ref D ∧ L2.ExcC X.K D
  · obtain ⟨D, rfl, T⟩ := hk
    refine (pe_callB (X := X.suite a ((a, oe) :: pn)) (call_isX T hz hf) hg hm PyProof.Rows.Boot.«isinstance» (pa_cons (pe_var (i := i) hN hv hd hcd) (pa_cons (pe_glob hgc hmc rc hdc) pa_nil))).weak fun σ H Q h => ?_
    obtain ⟨F, ρ, A, er, kn, o, e, p⟩ := h
    unfold gIsX at e
    cases q : ρ[i]? with
    | none => rw [q] at e; cases e
    | some s =>
      rw [q] at e
      have so := er.sl i s q
      cases s with
      | exc C' fs =>
        obtain ⟨b, e1, rfl⟩ := map_some' e
        obtain ⟨a', d', h1, ⟨rfl, rfl, rfl⟩, h3⟩ := so
        obtain ⟨c', ec, _, hk'⟩ := hP _ b e1
        cases ec
        refine ⟨_, h1, C0, cv, b, rfl, hcv, hk', ?_, p (.bl b) F H .refl er .refl (.bl b)⟩
        rcases h3 with ⟨rfl, _⟩ | ⟨dx, vs, rfl, h4, _⟩
        · exact .inl rfl
        · exact .inr ⟨dx, vs, rfl, er.le.xd _ _ h4⟩
      | _ => cases e
  · refine ⟨fun pins s σ H Q I h => ?_⟩
    exfalso
    obtain ⟨F, ρ, A, er, kn, o, e, p⟩ := h
    unfold gIsX at e
    cases q : ρ[i]? with
    | none => rw [q] at e; cases e
    | some s =>
      rw [q] at e
      have so := er.sl i s q
      cases s with
      | exc C' fs =>
        obtain ⟨b, e1, rfl⟩ := map_some' e
        obtain ⟨a', d', h1, ⟨rfl, rfl, rfl⟩, h3⟩ := so
        obtain ⟨c', ec, hx, _⟩ := hP _ b e1
        exact hk ⟨c', ec, hx⟩
      | _ => cases e
end
end M

/-! M13: enumerate over a tuple. -/
namespace M
open PySem PySem.Spec PyProof.Rows L2

set_option maxHeartbeats 1000000 in
theorem meets_enum_B {v : Value} {o : Obj} {H : Heap → Prop} (B : Begins v o H) :
    Meets (Builtin.«enumerate.__new__» ⟨[.type "enumerate", v], []⟩) (fun _ R s => H s.heap ∧
      R (.ok (.ret (.ref (s.heap.push o).objs.size))) { s with heap := (s.heap.push o).push { cls := .type "enumerate", data := .fields #[.none, .bool false, .ref s.heap.objs.size, rawInt 0, .none, .none] } }) :=
  .of_wp fun prog w A R s h => by
    obtain ⟨hp, g, d, tk, os⟩ := s; obtain ⟨h1, h⟩ := h
    have hsub := sub_enumerate
    have q1 : ∀ {A' : Around} {E : Value → Shared → Prop} {Q : Value → Shared → Prop}, Q (.ref hp.objs.size) ⟨hp.push o, g, d, tk, os⟩ → wpAny (model prog w) A' (pyIter v) Q E ⟨hp, g, d, tk, os⟩ :=
      fun q => B.iter prog w _ _ ⟨hp, g, d, tk, os⟩ _ h1 q
    wp_walk using q1
    refine wpAny_stack_any fun st => wpAny_pure ?_
    split
    · rename_i c _ _ _ _ _
      cases (c == Value.type "enumerate")
      · wp_walk using q1
        exact ⟨_, rfl, h⟩
      · wp_walk using q1
        exact ⟨_, rfl, h⟩
    · wp_walk using q1
      exact ⟨_, rfl, h⟩
theorem enum_begins1 {prog : Program} {w : World} {A : Around} {E : Value → Shared → Prop} {s : Shared} {v : Value} {o : Obj} {H : Heap → Prop} {Q : Value → Shared → Prop} (B : Begins v o H) (h1 : H s.heap)
    (h : ∀ h', IsEnum h' (s.heap.objs.size + 1) s.heap.objs.size 0 .none → h'.get? s.heap.objs.size = some o → h'.objs.size = s.heap.objs.size + 2 →
      (∀ b o, s.heap.get? b = some o → h'.get? b = some o) → Q (.ref (s.heap.objs.size + 1)) { s with heap := h' }) :
    wpAny (model prog w) A (call (.type "enumerate") [v]) Q E s := by
  refine callType_new F.called_enumerate (by decide) (F.typeCall_enumerate_1 _) (F.newCall_enumerate_1 _) (fun obj => F.args_object_init_2 obj _) F.entry_enumerate_new
    (meets_enum_B B) ⟨h1, ?_⟩
  have hz : (s.heap.push o).objs.size = s.heap.objs.size + 1 := Heap.size_push ..
  show _ ∧ _
  rw [hz]
  have he : IsEnum ((s.heap.push o).push { cls := .type "enumerate", data := .fields #[.none, .bool false, .ref s.heap.objs.size, rawInt 0, .none, .none] }) (s.heap.objs.size + 1) s.heap.objs.size 0 .none := by
    have := Heap.get?_push_size (s.heap.push o) (o := { cls := .type "enumerate", data := .fields #[.none, .bool false, .ref s.heap.objs.size, rawInt 0, .none, .none] }) rfl
    rw [hz] at this; exact this
  refine ⟨⟨_, he, rfl⟩, h _ he (Heap.get?_push_of_some _ (Heap.get?_push_size _ B.free)) (by rw [Heap.size_push, hz]) fun b o x => Heap.get?_push_of_some _ (Heap.get?_push_of_some _ x)⟩

/-- the tuple at a, each item in a new pair -/
def IteT (K : PySem.W.Frag) (a : Addr) : It :=
  ⟨fun i H => ∃ (xs : List V) (x : V), SqT K H a xs ∧ xs[i]? = some x, fun i H v H' => ∃ T x, v = .ref T ∧ H T = none ∧ H' = upd H T (.tup [.int (i : Nat), x]) ∧ ∀ xs, SqT K H a xs → xs[i]? = some x, fun i H => ∃ xs : List V, SqT K H a xs ∧ xs.length ≤ i⟩
theorem turn_enumT {P : Program} {w : World} {K : PySem.W.Frag} {elts : List Expr} {kk : Nat} {tpos : Pos} (a e it : Addr) :
    Turn P w K (.Tuple elts kk tpos) (IteT K a) [e, it] e (fun i h => (∃ old, IsEnum h e it ((i : Nat) : Int) old) ∧ h.IsTupleIter it a i ∧ e ≠ it ∧ a ≠ it ∧ a ≠ e) where
  mem := by simp
  obj := fun i h st b hb => by
    obtain ⟨⟨old, he⟩, ⟨o, ho, hc, hd⟩, _⟩ := st
    have e' : b = e ∨ b = it := by simpa using hb
    rcases e' with z | z
    · rw [z]; exact ⟨_, he, fun v q => nomatch q⟩
    · rw [z]; exact ⟨o, ho, fun v q => by rw [hd] at q; cases q⟩
  keep := fun i h h' st k => let ⟨⟨old, he⟩, hi, hne⟩ := st; ⟨⟨old, k e (by simp) _ he⟩, hi.at fun o q => k it (by simp) o q, hne⟩
  item := by
    intro X hP hw hK hc i pins s σ H E I hf st hg
    subst hP hw hK
    obtain ⟨⟨old, he⟩, hit, hne, hai, hae⟩ := st
    obtain ⟨xs, x, hq, hx⟩ := hg
    obtain ⟨its, rv, p, hz⟩ := I.tuple hq
    obtain ⟨u, hu, ru⟩ := rv.get hx
    have hel : e < s.heap.objs.size := Heap.lt_size he
    have hil : it < s.heap.objs.size := by obtain ⟨_, q, _⟩ := hit; exact Heap.lt_size q
    have hlt : i < its.toArray.size := by
      have := (List.getElem?_eq_some_iff.mp hu).1
      simpa using this
    refine wpAny_pyNext_enum_itemD (Draws.tuple (prog := X.prog) (w := X.w) (A := X.A.in1) (I.ok.hd hc) it a hai its.toArray) he ⟨hit, p⟩ hlt hne (by simp [hne, Ne.symm hae]) fun x' h' tk hx' ho hit' hT hsz hk => ?_
    have : x' = u := by
      have hx'' : its.toArray[i]? = some x' := hx'
      rw [List.getElem?_toArray, hu] at hx''
      exact (Option.some.inj hx'').symm
    subst this
    refine ⟨_, rfl, wpAny_letOwnedTupleGo_enum (s := { s with heap := h', toks := tk + 1 }) ho fun h'' he' sb => ?_⟩
    have hT2 : h''.get? s.heap.objs.size = some { cls := .type "tuple", data := .seq #[.int i tk, x'] } := (sb.2 _ (Nat.ne_of_gt hel)).trans hT
    have new : ObjOk X.prog X.w (upd H s.heap.objs.size (.tup [.int (i : Nat), x])) h'' s.heap.objs.size (.tup [.int (i : Nat), x]) :=
      ⟨by show 2 ≤ sizeLine; decide, [.int i tk, x'], .cons ⟨_, rfl⟩ (.cons ru .nil), ⟨_, hT2, rfl, _, rfl⟩⟩
    have I1 : Inv X pins σ (upd H s.heap.objs.size (.tup [.int (i : Nat), x])) { s with heap := h'', toks := tk + 1 } :=
      I.turnedNew (ch := [e, it]) (fun b ob hb q => (sb.2 b (fun z => hb (by simp [z]))).trans (hk b ob (fun z => hb (by simp [z])) (fun z => hb (by simp [z])) q)) hf (Nat.le_refl _) new
    refine ⟨.ref s.heap.objs.size, _, I1, rfl, ⟨_, x, rfl, I.hok.fresh (Nat.le_refl _), rfl, fun ys hy => by rw [I.tuple_inj hy hq]; exact hx⟩, ⟨⟨x', ?_⟩, hit'.1.at fun o q => (sb.2 it (Ne.symm hne)).trans q, hne, hai, hae⟩, fun b hb => ?_⟩
    · have e1 : ((i + 1 : Nat) : Int) = (i : Int) + 1 := by omega
      rw [e1]; exact he'
    · have hb' : b < s.heap.objs.size := by
        have e' : b = e ∨ b = it := by simpa using hb
        rcases e' with z | z
        · rw [z]; exact hel
        · rw [z]; exact hil
      rw [upd_ne (Nat.ne_of_lt hb')]
      exact (hf b hb).1
  done := by
    intro X hP hw hK hc i pins s σ H E I hf st hg
    subst hP hw hK
    obtain ⟨⟨old, he⟩, hit, hne, hai, hae⟩ := st
    obtain ⟨xs, hq, hx⟩ := hg
    obtain ⟨its, rv, p, hz⟩ := I.tuple hq
    obtain ⟨f0, f1, f2, f3, f4, f5⟩ := hf it (by simp)
    have hT : s.TypeIs (.ref e) "enumerate" := ⟨_, he, rfl⟩
    have hl := rv.length
    unfold pyNext
    refine wpAny_bind (wpAny_attempt (wpAny_callSpecial?_slot (name := Str.ofString "__next__") hT F.slot_enumerate_next
      (wpAny_call_entry F.slot_enumerate_next hT F.entry_enumerate_next ?_ (F.args_enumerate_next_1 _))))
    show wpAny _ _ (field (.ref e) 2 >>= _) _ _ _
    refine wpAny_bind (wpAny_field he rfl (x := .ref it) rfl ?_)
    refine wpAny_bind (wpAny_nextOf_tuple_end (I.ok.hd hc) hit p (by simp; omega) fun h' x he' hx' => ?_)
    obtain ⟨o, ho, hc'⟩ := hx'
    refine wpAny_bind (wpAny_isInstance (T := "StopIteration") (b := true) ⟨o, ho, hc'⟩ isSubtype_stop ?_)
    exact wpAny_pure ⟨rfl, I.turned (t' := s.toks) (fun b o hb q => he' b o hb q) f0 f1 f3 f4 f5⟩
  self := fun A i s Q E st h => let ⟨⟨_, he⟩, _⟩ := st; wpAny_pyIter_enum he h
def iEnumT (K : PySem.W.Frag) (ta : TA) : TI := fun σ H R => ta σ H fun vs H1 => ∃ a xs, vs = [.ref a] ∧ SqT K H1 a xs ∧ R (IteT K a) H1
theorem pi_enumT {X : Cx} {e : Expr} {ta : TA} {p pos tpos : Pos} {elts : List Expr} {kk : Nat} (hg : Gl X "enumerate") (hm : X.mg "enumerate" = none) (ha : PA X [e] ta) (hs : starEach [e] X.env = [(false, eval e X.env)] := by rfl) :
    PI X (.Tuple elts kk tpos) (.Call (.Name "enumerate" p) [e] [] pos) (iEnumT X.K ta) := by
  refine ⟨fun pins s σ H R I h => ?_⟩
  refine Call_ (ld_blt I hg hm boot_enumerate (PyProof.Rows.callWith_type1 (thn (ha.run pos pins s σ H _ I h) fun us s1 ⟨vs, H1, I1, r1, q1⟩ => ?_) hs rfl))
  obtain ⟨a, xs, ex, hq, q⟩ := q1
  subst ex
  cases r1 with
  | cons r rr =>
    cases rr
    cases r
    obtain ⟨its, rv, p', hz⟩ := I1.tuple hq
    have hal : a < s1.heap.objs.size := by obtain ⟨o, ho, _⟩ := p'; exact Heap.lt_size ho
    refine enum_begins1 (begins_tuple a its.toArray) p' fun h' he hit hsz hk => wpAny_pyIter_enum he ?_
    have I2 : Inv X pins σ H1 { s1 with heap := h' } := I1.kept (t' := s1.toks) hk
    refine ⟨s1.heap.objs.size + 1, [s1.heap.objs.size + 1, s1.heap.objs.size], _, _, H1, rfl, I2, turn_enumT a (s1.heap.objs.size + 1) s1.heap.objs.size, ⟨⟨.none, he⟩, ⟨_, hit, rfl, rfl⟩, Nat.succ_ne_self _, Nat.ne_of_lt hal, Nat.ne_of_lt (Nat.lt_succ_of_lt hal)⟩, fun b hb => ?_, q⟩
    have e' : b = s1.heap.objs.size + 1 ∨ b = s1.heap.objs.size := by simpa using hb
    have hle : s1.heap.objs.size ≤ b := by
      rcases e' with z | z
      · rw [z]; exact Nat.le_add_right _ _
      · rw [z]; exact Nat.le_refl _
    exact I1.fpOk hle (I1.hok.fresh hle)
/-! ### the mirror -/
def enumD (i : Nat) : List D → List D
  | [] => []
  | d :: ds => .tup [.int (i : Int), d] :: enumD (i + 1) ds
theorem enumD_get : ∀ {ds : List D} {i j : Nat} {d : D}, ds[j]? = some d → (enumD i ds)[j]? = some (.tup [.int ((i + j : Nat) : Int), d])
  | [], _, _, _, e => by simp at e
  | d0 :: ds, i, 0, d, e => by
    cases Option.some.inj e
    rfl
  | d0 :: ds, i, j + 1, d, e => by
    have := enumD_get (ds := ds) (i := i + 1) (j := j) (by simpa using e)
    unfold enumD
    rw [List.getElem?_cons_succ, this, show i + 1 + j = i + (j + 1) by omega]
theorem enumD_len : ∀ {ds : List D} {i : Nat}, (enumD i ds).length = ds.length
  | [], _ => rfl
  | _ :: ds, i => by unfold enumD; rw [List.length_cons, List.length_cons, enumD_len]
def gEnum (f : D → Option (List D)) (gs : EM (List Res)) : EM (List D) := gs.bind fun rs => match rs with
  | [.val d] => EM.lift ((f d).map (enumD 0))
  | _ => fun _ => none
section
variable {X : Cx} {H0 : HE} {W : WX} {e : Expr} {gs : EM (List Res)} {p pos tpos : Pos} {elts : List Expr} {kk : Nat}
theorem i_enumT (hg : Gl X "enumerate") (hm : X.mg "enumerate" = none) (ha : PA X [e] (tA X.K H0 W gs)) (hs : starEach [e] X.env = [(false, eval e X.env)] := by rfl) :
    PI X (.Tuple elts kk tpos) (.Call (.Name "enumerate" p) [e] [] pos) (tI X.K H0 W (gEnum tupItems gs)) := ⟨fun pins s σ H R I h => (pi_enumT hg hm ha hs).run pins s σ H R I (by
  obtain ⟨F, ρ, A, h⟩ := h
  refine ⟨F, ρ, A, h.bind fun vs rs F1 H1 ρ1 tr sb ra h1 => ?_⟩
  split at h1
  · rename_i d
    obtain ⟨l, el, h2⟩ := h1.lift
    obtain ⟨ds, e1, rfl⟩ := map_some' el
    obtain ⟨pr, _⟩ := ra
    cases pr with
    | cons h t =>
      cases t
      cases h with
      | @tup a xs ds0 sq rs =>
        cases e1
        refine ⟨a, xs, rfl, le_t h2.1.le sq, h2.ret (b := IteT X.K a) ⟨fun F' H' i l1 l2 hi => ?_, fun F' H' i x H2 l1 l2 y hi => ?_, fun F' H' i l1 l2 hi => ?_⟩⟩
        · rw [enumD_len] at hi
          obtain ⟨v, hv, _⟩ := rs.get (List.getElem?_eq_getElem hi)
          exact ⟨xs, v, le_t l2 (le_t l1 sq), hv⟩
        · obtain ⟨T, y, rfl, hT, rfl, q⟩ := y
          obtain ⟨d', hd, rd⟩ := rs.get' (q xs (le_t l2 (le_t l1 sq)))
          refine ⟨_, enumD_get hd, .inr ⟨T, _, _, rfl, hT, rfl, ?_, rfl⟩⟩
          rw [Nat.zero_add]
          exact .cons (.int _) (.cons (rd.mono l1) .nil)
        · rw [enumD_len] at hi
          exact ⟨xs, le_t l2 (le_t l1 sq), by rw [rs.length]; exact hi⟩
      | _ => cases e1
  · obtain ⟨_, _, _, e, _⟩ := h1; cases e)⟩
theorem i_enumL (hg : Gl X "enumerate") (hm : X.mg "enumerate" = none) (ha : PA X [e] (tA X.K H0 W gs)) (hs : starEach [e] X.env = [(false, eval e X.env)] := by rfl) :
    PI X (.Tuple elts kk tpos) (.Call (.Name "enumerate" p) [e] [] pos) (tI X.K H0 W (gEnum lstItems gs)) := ⟨fun pins s σ H R I h => (pi_enum hg hm ha hs).run pins s σ H R I (by
  obtain ⟨F, ρ, A, h⟩ := h
  refine ⟨F, ρ, A, h.bind fun vs rs F1 H1 ρ1 tr sb ra h1 => ?_⟩
  split at h1
  · rename_i d
    obtain ⟨l, el, h2⟩ := h1.lift
    obtain ⟨ds, e1, rfl⟩ := map_some' el
    obtain ⟨pr, _⟩ := ra
    cases pr with
    | cons h t =>
      cases t
      obtain ⟨a, xs, rfl, sq, rs⟩ := rep_l h e1
      refine ⟨a, xs, rfl, le_l h2.1.le sq, h2.ret (b := Ite X.K a) ⟨fun F' H' i l1 l2 hi => ?_, fun F' H' i x H2 l1 l2 y hi => ?_, fun F' H' i l1 l2 hi => ?_⟩⟩
      · rw [enumD_len] at hi
        obtain ⟨v, hv, _⟩ := rs.get (List.getElem?_eq_getElem hi)
        exact ⟨xs, v, le_l l2 (le_l l1 sq), hv⟩
      · obtain ⟨T, y, rfl, hT, rfl, q⟩ := y
        obtain ⟨d', hd, rd⟩ := rs.get' (q xs (le_l l2 (le_l l1 sq)))
        refine ⟨_, enumD_get hd, .inr ⟨T, _, _, rfl, hT, rfl, ?_, rfl⟩⟩
        rw [Nat.zero_add]
        exact .cons (.int _) (.cons (rd.mono l1) .nil)
      · rw [enumD_len] at hi
        exact ⟨xs, le_l l2 (le_l l1 sq), by rw [rs.length]; exact hi⟩
  · obtain ⟨_, _, _, e, _⟩ := h1; cases e)⟩
end
end M

/-! M14: list comprehensions. -/
namespace M
open PySem PySem.Spec PyProof.Rows L2

def wipeE (ρ : En) : List Nat → En
  | [] => ρ
  | v :: vs => (wipeE ρ vs).set v .un
theorem wipeE_len {ρ : En} : ∀ {vs : List Nat}, (wipeE ρ vs).length = ρ.length
  | [] => rfl
  | v :: vs => by unfold wipeE; rw [List.length_set, wipeE_len]
theorem wipeE_out {ρ : En} {i : Nat} : ∀ {vs : List Nat}, i ∉ vs → (wipeE ρ vs)[i]? = ρ[i]?
  | [], _ => rfl
  | v :: vs, h => by
    unfold wipeE
    rw [List.getElem?_set_ne (fun z => h (by rw [z]; exact List.mem_cons_self)), wipeE_out fun z => h (List.mem_cons_of_mem _ z)]
theorem wipeE_in {ρ : En} {i : Nat} : ∀ {vs : List Nat}, i ∈ vs → (wipeE ρ vs)[i]? = none ∨ (wipeE ρ vs)[i]? = some .un
  | [], h => by cases h
  | v :: vs, h => by
    unfold wipeE
    by_cases z : i = v
    · subst z
      by_cases l : i < (wipeE ρ vs).length
      · exact .inr (List.getElem?_set_self l)
      · exact .inl (List.getElem?_eq_none (by simpa using l))
    · rw [List.getElem?_set_ne (Ne.symm z)]
      rcases List.mem_cons.mp h with h | h
      · exact absurd h z
      · exact wipeE_in h
/-- the block's names are no parameters -/
def noPars (ρ : En) (vs : List Nat) : Bool := vs.all fun i => match ρ[i]? with
  | some (.par _) => false
  | _ => true
section
variable {K : PySem.W.Frag} {H0 : HE} {F H : Hp} {W : WX} {σ : L2.St} {ρ : En} {A : Nat → Addr} {vs : List Nat}
theorem wipeE_mo {i : Nat} {m : Mo} (h : moAt (wipeE ρ vs) i = some m) : moAt ρ i = some m ∧ i ∉ vs := by
  by_cases z : i ∈ vs
  · unfold moAt at h
    rcases wipeE_in (ρ := ρ) z with e | e <;> rw [e] at h <;> cases h
  · unfold moAt at h ⊢
    rw [wipeE_out z] at h
    exact ⟨h, z⟩
theorem ER.wipe {σ' : L2.St} (er : ER K H0 F H σ ρ A) (hl : σ'.length = σ.length) (h : ∀ i, i ∉ vs → σ'[i]? = σ[i]?) : ER K H0 F H σ' (wipeE ρ vs) A := by
  refine ⟨by rw [hl, er.len, wipeE_len], er.le, fun i s e => ?_, fun i j m m' e1 e2 => er.inj i j m m' (wipeE_mo e1).1 (wipeE_mo e2).1, er.dom, er.tabs⟩
  by_cases z : i ∈ vs
  · rcases wipeE_in (ρ := ρ) z with q | q
    · rw [q] at e; cases e
    · rw [q] at e; cases e; trivial
  · rw [wipeE_out z] at e
    have q := er.sl i s e
    have w := h i z
    cases s with
    | un => trivial
    | val d => obtain ⟨v, h1, h2⟩ := q; exact ⟨v, w.trans h1, h2⟩
    | exc C fs => obtain ⟨a, d, h1, h2⟩ := q; exact ⟨a, d, w.trans h1, h2⟩
    | own m => exact ⟨w.trans q.1, q.2⟩
    | par m => exact ⟨w.trans q.1, q.2⟩
theorem Sb.wipe (np : noPars ρ vs = true) : Sb ρ (wipeE ρ vs) := by
  refine ⟨fun i m h => ⟨m, (wipeE_mo h).1⟩, fun i m h => ⟨m, ?_⟩⟩
  rw [wipeE_out]
  · exact h
  · intro z
    have := List.all_eq_true.mp np i z
    rw [h] at this
    cases this
theorem wipe_wipe : wipe (wipe σ vs) vs = wipe σ vs := by
  apply List.ext_getElem?
  intro i
  by_cases z : i ∈ vs
  · have : ∀ τ : L2.St, i ∈ vs → τ.length = σ.length → (wipe τ vs)[i]? = if i < σ.length then some none else none := by
      intro τ hi hl
      by_cases l : i < τ.length
      · rw [if_pos (by omega)]
        cases q : (wipe τ vs)[i]? with
        | none => rw [List.getElem?_eq_none_iff, wipe_length] at q; omega
        | some o =>
          cases o with
          | none => rfl
          | some x => exact absurd hi (wipe_some q).2
      · rw [if_neg (by omega)]
        exact List.getElem?_eq_none (by rw [wipe_length]; omega)
    rw [this _ z (wipe_length _ _), this _ z rfl]
  · rw [wipe_out z]
theorem wipe_eq {σ2 : L2.St} (hl : σ2.length = σ.length) (h : ∀ i, i ∉ vs → σ2[i]? = σ[i]?) : wipe σ2 vs = wipe σ vs := by
  apply List.ext_getElem?
  intro i
  by_cases z : i ∈ vs
  · by_cases l : i < σ.length
    · have g : ∀ τ : L2.St, τ.length = σ.length → (wipe τ vs)[i]? = some none := fun τ hτ => by
        cases q : (wipe τ vs)[i]? with
        | none => rw [List.getElem?_eq_none_iff, wipe_length] at q; omega
        | some o =>
          cases o with
          | none => rfl
          | some x => exact absurd z (wipe_some q).2
      rw [g σ2 hl, g σ rfl]
    · rw [List.getElem?_eq_none (by rw [wipe_length]; omega), List.getElem?_eq_none (by rw [wipe_length]; omega)]
  · rw [wipe_out z, wipe_out z, h i z]
end
def tgIn (t : Tg) (vs : List Nat) : Bool := t.slots.all fun i => vs.contains i
def compM (t : Tg) (vs : List Nat) (gc : EM Bool) (ge : EM Res) : List D → List D → EM (List D)
  | acc, [] => fun ρ => some (.ok acc (wipeE ρ vs))
  | acc, d :: ds => fun ρ => if noPars ρ vs = true then (match t.bind d (wipeE ρ vs) with
    | none => none
    | some ρ1 => (match gc ρ1 with
      | some (.ok true ρ2) => (match ge ρ2 with
        | some (.ok (.val y) ρ3) => if acc.length < sizeLine ∧ noPars ρ3 vs = true then compM t vs gc ge (acc ++ [y]) ds ρ3 else none
        | _ => none)
      | some (.ok false ρ2) => if noPars ρ2 vs = true then compM t vs gc ge acc ds ρ2 else none
      | _ => none)) else none
def gYes : EM Bool := EM.pure true
def gLc (gi : EM (List D)) (t : Tg) (vs : List Nat) (gc : EM Bool) (ge : EM Res) : EM Res := gi.bind fun ds => fun ρ => if tgIn t vs = true ∧ noPars ρ vs = true then (match compM t vs gc ge [] ds ρ with
  | some (.ok acc ρ') => some (.ok (.new (.l acc)) ρ')
  | _ => none) else none
section
variable {K : PySem.W.Frag} {H0 : HE} {W : WX} {Q : VK} {σ : L2.St} {H : Hp}
/-- the accumulator as it stands -/
def AccAt (K : PySem.W.Frag) (H0 : HE) (F H : Hp) (ρ : En) (A : Nat → Addr) (P : Addr) (acc : List D) : Prop := F P = none ∧ ¬ OwnA ρ A P ∧ H0 P = none ∧ ∃ xs, H P = some (.lst xs) ∧ Reps K F xs acc
theorem AccAt.step {F F' H H' : Hp} {ρ ρ' : En} {A : Nat → Addr} {P : Addr} {acc : List D} (h : AccAt K H0 F H ρ A P acc) (tr : Tr (OwnA ρ A) F H F' H') (sb : Sb ρ ρ') : AccAt K H0 F' H' ρ' A P acc := by
  obtain ⟨h1, h2, h3, xs, h4, h5⟩ := h
  obtain ⟨p, e, a1, a2, ⟨ys, b1, b2⟩, a4, _⟩ := RAt.new_step (K := K) (H0 := H0) (ok := fun _ => True) (v := .ref P) (m := .l acc) (ρ' := ρ') ⟨P, rfl, h1, h2, ⟨xs, h4, h5⟩, h3, trivial⟩ tr sb
  cases e
  exact ⟨a1, a2, a4, ys, b1, b2⟩
theorem wipeE_own {ρ : En} {A : Nat → Addr} {vs : List Nat} {a : Addr} (h : OwnA (wipeE ρ vs) A a) : OwnA ρ A a := by
  obtain ⟨i, m, h1, h2⟩ := h
  exact ⟨i, m, (wipeE_mo h1).1, h2⟩
theorem Tr.touch {S : Addr → Prop} {F H0 F' H' : Hp} {p : Addr} {o : HO} (tr : Tr S F H0 F' H') (hp : H0 p = none) : Tr S F H0 F' (upd H' p o) where
  ff := tr.ff
  keep := fun a x n nt e => by rw [upd_ne (ne_of_none e hp)]; exact tr.keep a x n nt e
  fresh := tr.fresh
  there := fun a x e => by
    obtain ⟨y, h⟩ := tr.there a x e
    exact ⟨y, by rw [upd_ne (ne_of_none e hp)]; exact h⟩
mutual
theorem bind_ok : ∀ {t : Tg} {d : D} {ρ ρ' : En}, t.bind d ρ = some ρ' → ρ'.length = ρ.length ∧ Sb ρ ρ'
  | .nm i, d, ρ, ρ', e => by
    unfold Tg.bind at e
    obtain ⟨hl, np, rfl⟩ := setV_some e
    refine ⟨List.length_set, fun j m h => ?_, fun j m h => ?_⟩
    · rw [moAt_set hl] at h
      split at h
      · cases h
      · exact ⟨m, h⟩
    · by_cases z : j = i
      · subst z; exact absurd h (np m)
      · exact ⟨m, by rw [List.getElem?_set_ne (Ne.symm z)]; exact h⟩
  | .tp ts, d, ρ, ρ', e => by
    cases d with
    | tup ds => unfold Tg.bind at e; exact binds_ok e
    | _ => unfold Tg.bind at e; cases e
theorem binds_ok : ∀ {ts : List Tg} {ds : List D} {ρ ρ' : En}, Tg.binds ts ds ρ = some ρ' → ρ'.length = ρ.length ∧ Sb ρ ρ'
  | [], ds, ρ, ρ', e => by
    cases ds with
    | nil => unfold Tg.binds at e; cases e; exact ⟨rfl, .refl⟩
    | cons d ds => unfold Tg.binds at e; cases e
  | t :: ts, ds, ρ, ρ', e => by
    cases ds with
    | nil => unfold Tg.binds at e; cases e
    | cons d ds =>
      unfold Tg.binds at e
      cases e1 : t.bind d ρ with
      | none => rw [e1] at e; cases e
      | some ρ1 =>
        rw [e1] at e
        obtain ⟨a1, a2⟩ := bind_ok e1
        obtain ⟨b1, b2⟩ := binds_ok (ts := ts) e
        exact ⟨b1.trans a1, a2.trans b2⟩
end
theorem lc_weak {gi : EM (List D)} {t : Tg} {vs : List Nat} {gc : EM Bool} {ge : EM Res} (h : tE K H0 W (gLc gi t vs gc ge) σ H Q) :
    tLc (tI K H0 W gi) (tGT K H0 t) (tT K H0 (fun _ _ _ _ => False) gc) (tE K H0 (fun _ _ _ _ => False) ge) vs σ H Q := by
  obtain ⟨F, ρ, A, h⟩ := h
  refine ⟨F, ρ, A, h.bind0 fun J ds F1 H1 ρ1 o tr sb er it e p kn => ?_⟩
  obtain ⟨⟨hin, np0⟩, e⟩ := ite_some' e
  intro P hP
  cases ec : compM t vs gc ge [] ds ρ1 with
  | none => rw [ec] at e; cases e
  | some oc =>
  rw [ec] at e
  cases oc with
  | ex _ _ _ => cases e
  | ok fin ρf =>
  cases e
  have hin' : ∀ j, j ∉ vs → j ∉ t.slots := fun j hj z => hj (by
    have := List.all_eq_true.mp hin j z
    simpa using this)
  have hP0 : H P = none := none_back tr.there hP
  have hP00 : H0 P = none := free_0 er hP
  have wl : (wipe σ vs).length = σ.length := wipe_length _ _
  -- the invariant
  refine ⟨fun i m H' => i ≤ ds.length ∧ m = ds.length - i ∧ ∃ F' ρ' acc, Le F1 F' ∧ Tr (OwnA ρ A) F H F' H' ∧ Sb ρ ρ' ∧ noPars ρ' vs = true ∧ ER K H0 F' H' (wipe σ vs) (wipeE ρ' vs) A ∧ AccAt K H0 F' H' (wipeE ρ' vs) A P acc ∧ compM t vs gc ge acc (ds.drop i) ρ' = some (.ok fin ρf), ?_, ?_⟩
  · refine ⟨_, Nat.zero_le _, rfl, F1, ρ1, [], Le.refl _, tr.touch hP0, sb, np0, (er.laid hP).wipe wl (fun j hj => wipe_out hj), ⟨free_F er.le hP, fun z => free_own er hP (wipeE_own z), hP00, [], upd_same, .nil⟩, ?_⟩
    rw [List.drop_zero]
    exact ec
  rintro i m H' ⟨hi, rfl, F', ρ', acc, l1, tr1, sb1, np1, er1, ac1, e1⟩
  by_cases hlt : i < ds.length
  · refine .inr ⟨it.go F' H' i l1 er1.le hlt, fun H2 => i + 1 ≤ ds.length ∧ ∃ F' ρ' acc, Le F1 F' ∧ Tr (OwnA ρ A) F H F' H2 ∧ Sb ρ ρ' ∧ noPars ρ' vs = true ∧ ER K H0 F' H2 (wipe σ vs) (wipeE ρ' vs) A ∧ AccAt K H0 F' H2 (wipeE ρ' vs) A P acc ∧ compM t vs gc ge acc (ds.drop (i + 1)) ρ' = some (.ok fin ρf), ?_, fun x H2 y => ?_⟩
    · rintro H2 ⟨hi2, q⟩
      exact ⟨ds.length - (i + 1), by omega, hi2, rfl, q⟩
    · obtain ⟨d, hd, yd⟩ := it.yl F' H' i x H2 l1 er1.le y hlt
      obtain ⟨F2, tr2, er2, rx⟩ := yld_in er1 yd
      have ac2 := ac1.step tr2 .refl
      have dd : ds.drop i = d :: ds.drop (i + 1) := by
        rw [List.drop_eq_getElem_cons hlt]
        have := List.getElem?_eq_getElem hlt
        rw [hd] at this
        rw [Option.some.inj this]
      rw [dd] at e1
      unfold compM at e1
      obtain ⟨_, e1⟩ := ite_some' e1
      cases eb : t.bind d (wipeE ρ' vs) with
      | none => rw [eb] at e1; cases e1
      | some ρ3 =>
        rw [eb] at e1
        dsimp only at e1
        refine ⟨F2, _, A, d, ρ3, er2, rx, eb, fun σ3 er3 s3 k3 => ?_⟩
        obtain ⟨bl, bs⟩ := bind_ok eb
        have hl3 : σ3.length = σ.length := by
          rw [er3.len, bl, ← er2.len, wl]
        have hs3 : ∀ j, j ∉ vs → σ3[j]? = σ[j]? := fun j hj => (k3 j (hin' j hj)).trans (wipe_out hj)
        refine ⟨wipe_eq hl3 hs3, ?_⟩
        have tr3 : Tr (OwnA ρ A) F H F2 H2 := tr1.trans tr2 fun a z => .inl (sb1.ownA (wipeE_own z))
        have l3 := l1.trans tr2.ff
        have sb3 : Sb ρ ρ3 := (sb1.trans (Sb.wipe np1)).trans bs
        have ac3 := ac2.step (Tr.refl (S := _) (F := F2) (H := H2)) bs
        have back : ∀ {F5 H5 : Hp} {ρ5 : En}, ER K H0 F5 H5 σ3 ρ5 A → ER K H0 F5 H5 (wipe σ vs) (wipeE ρ5 vs) A := fun {F5 H5 ρ5} er5 =>
          er5.wipe (by rw [wl, hl3]) fun j hj => (wipe_out hj).trans (hs3 j hj).symm
        cases eg : gc ρ3 with
        | none => rw [eg] at e1; cases e1
        | some og =>
        rw [eg] at e1
        cases og with
        | ex _ _ _ => cases e1
        | ok b ρ4 =>
        refine ⟨F2, ρ3, A, er3, fun _ z => z, _, eg, fun b' F4 H4 tr4 er4 sb4 rb => ?_⟩
        subst rb
        have tr34 : Tr (OwnA ρ A) F H F4 H4 := tr3.then sb3 tr4
        have sb34 := sb3.trans sb4
        have ac4 := ac3.step tr4 sb4
        cases b' with
        | false =>
          rw [if_neg Bool.false_ne_true]
          dsimp only at e1
          obtain ⟨np4, e1⟩ := ite_some' e1
          refine ⟨hlt, F4, ρ4, acc, l3.trans tr4.ff, tr34, sb34, np4, back er4, ac4.step .refl (Sb.wipe np4), e1⟩
        | true =>
          rw [if_pos rfl]
          dsimp only at e1
          cases ee : ge ρ4 with
          | none => rw [ee] at e1; cases e1
          | some oe =>
          rw [ee] at e1
          cases oe with
          | ex _ _ _ => cases e1
          | ok r ρ5 =>
          cases r with
          | new _ => cases e1
          | brw _ => cases e1
          | val d' =>
          dsimp only at e1
          obtain ⟨⟨hsz, np5⟩, e1⟩ := ite_some' e1
          refine ⟨F4, ρ4, A, er4, fun _ z => z, _, ee, fun y F5 H5 tr5 er5 sb5 ra => ?_⟩
          obtain ⟨a1, a2, a3, xs, a4, a5⟩ := (ac4.step tr5 sb5).step (Tr.refl (S := _) (F := F5) (H := H5)) (Sb.wipe np5)
          refine ⟨xs, a4, by rw [a5.length]; exact hsz, hlt, F5, ρ5, acc ++ [d'], (l3.trans tr4.ff).trans tr5.ff, (tr34.then sb34 tr5).touch hP0, sb34.trans sb5, np5, (back er5).touch a1 a2 a3 (.inl ⟨xs, a4⟩), ⟨a1, a2, a3, _, upd_same, a5.append (.cons ra .nil)⟩, e1⟩
  · have hd : ds.drop i = [] := List.drop_eq_nil_iff.mpr (by omega)
    rw [hd] at e1
    unfold compM at e1
    cases e1
    refine .inl ⟨it.st F' H' i l1 er1.le (by omega), ?_⟩
    obtain ⟨a1, a2, a3, xs, a4, a5⟩ := ac1
    have er9 : ER K H0 F' H' σ (wipeE ρ' vs) A := by
      have := er1.wipe (vs := vs) (σ' := σ) wl.symm (fun j hj => (wipe_out hj).symm)
      refine ⟨?_, er1.le, fun j s e => ?_, er1.inj, er1.dom, er1.tabs⟩
      · have := er1.len
        rw [wl] at this
        exact this
      · by_cases z : j ∈ vs
        · rcases wipeE_in (ρ := ρ') z with q | q
          · rw [q] at e; cases e
          · rw [q] at e; cases e; trivial
        · have q := er1.sl j s e
          have w : σ[j]? = (wipe σ vs)[j]? := (wipe_out z).symm
          cases s with
          | un => trivial
          | val d => obtain ⟨v, h1, h2⟩ := q; exact ⟨v, w.trans h1, h2⟩
          | exc C fs => obtain ⟨a, d, h1, h2⟩ := q; exact ⟨a, d, w.trans h1, h2⟩
          | own m => exact ⟨w.trans q.1, q.2⟩
          | par m => exact ⟨w.trans q.1, q.2⟩
    exact p (.ref P) F' H' tr1 er9 (sb1.trans (Sb.wipe np1)) ⟨P, rfl, a1, a2, ⟨xs, a4, a5⟩, a3, kn P (.inl hP0)⟩
theorem p_lc {X : Cx} {elt tg iter : Expr} {ifs : List Expr} {scope : Scope} (own : List (Str × Nat)) {vs : List Nat} {pos : Pos} {gi : EM (List D)} {t : Tg} {gc : EM Bool} {ge : EM Res} (hc : X.calm = true) (hN : X.N.Nodup) (ok : BlkOk X.N X.env.scope scope own) (hi : PI X tg iter (tI X.K H0 W gi))
    (hg : ∀ (s : Shared) (H : Hp) (C : Addr) (cl : List (Str × Addr)) (fp : List Addr), PG (X.blk s H scope (compEnvC scope cl C X.env) fp) tg (tGT X.K H0 t)) (ht : ∀ (s : Shared) (H : Hp) (C : Addr) (cl : List (Str × Addr)) (fp : List Addr), PTs (X.blk s H scope (compEnvC scope cl C X.env) fp) ifs (tT X.K H0 (fun _ _ _ _ => False) gc))
    (he : ∀ (s : Shared) (H : Hp) (C : Addr) (cl : List (Str × Addr)) (fp : List Addr), PE (X.blk s H scope (compEnvC scope cl C X.env) fp) elt (tE X.K H0 (fun _ _ _ _ => False) ge)) (hv : own.map (·.2) = vs := by rfl) (hs : ∀ x, foldedSetIterable iter X.env x = pure x := by intro _; rfl) :
    PE X (.ListComp elt [⟨tg, iter, ifs, 0⟩] scope pos) (tE X.K H0 W (gLc gi t vs gc ge)) := by
  subst hv
  exact (pe_lc hc hN hi ok hg ht he hs).weak fun _ _ _ h => lc_weak h
theorem ts_nil {X : Cx} : PTs X [] (tT X.K H0 W gYes) := ⟨fun pins s σ H Q I h => pts_nil.run pins s σ H Q I (by obtain ⟨F, ρ, A, h⟩ := h; exact h.ret rfl)⟩
theorem ts_one {X : Cx} {c : Expr} {g : EM Bool} (h : PT X c (tT X.K H0 W g)) : PTs X [c] (tT X.K H0 W g) := pts_one h
end
end M

/-! M15: built-in functions on data. -/
namespace M
open PySem PySem.Spec PyProof.Rows L2

theorem bad_lift {α β γ : Type} {K : PySem.W.Frag} {H0 : HE} {W : WX} {R : (Addr → Prop) → Hp → Hp → En → (Nat → Addr) → β → α → Prop} {ok : Addr → Prop} {F H : Hp} {ρ : En} {A : Nat → Addr} {σ : L2.St} {Q : β → Hp → Prop} {C : Prop} (h : WpAt K H0 W R ok F ρ A (fun _ => none) σ H Q) : C := by
  obtain ⟨_, _, _, e, _⟩ := h; cases e
section
variable {X : Cx} {H0 : HE} {W : WX} {x : Str} {pos : Pos}
/-- a built-in type as a value -/
theorem p_ty {n : String} (hg : Gl X x) (hm : X.mg x = none) (hv : bootBuiltins x = some (.type n)) (hn : x ≠ "__name__" := by decide) (hd : (x == ("__debug__" : Str)) = false := by decide) : PE X (.Name x pos) (tE X.K H0 W (gC (.ty n))) :=
  (pe_bltn (v := .ty n) hg hm hv rfl hn hd).weak fun σ H Q h => by obtain ⟨F, ρ, A, h⟩ := h; exact h.val (.ty n)
/-- a def or class of the text as a value -/
theorem p_adr {a : Addr} (hg : Gl X x) (hm : X.mg x = some (.ref a)) (hd : (x == ("__debug__" : Str)) = false := by decide) : PE X (.Name x pos) (tE X.K H0 W (gC (.adr a))) :=
  (pe_glob (v := .ref a) hg hm rfl hd).weak fun σ H Q h => by obtain ⟨F, ρ, A, h⟩ := h; exact h.val (.adr a)
theorem p_gint {i : Int} {u : Value} (hg : Gl X x) (hm : X.mg x = some u) (r : RelV (.int i) u) (hd : (x == ("__debug__" : Str)) = false := by decide) : PE X (.Name x pos) (tE X.K H0 W (gC (.int i))) :=
  (pe_glob (v := .int i) hg hm r hd).weak fun σ H Q h => by obtain ⟨F, ρ, A, h⟩ := h; exact h.val (.int i)
theorem p_gstr {i : Str} {u : Value} (hg : Gl X x) (hm : X.mg x = some u) (r : RelV (.str i) u) (hd : (x == ("__debug__" : Str)) = false := by decide) : PE X (.Name x pos) (tE X.K H0 W (gC (.str i))) :=
  (pe_glob (v := .str i) hg hm r hd).weak fun σ H Q h => by obtain ⟨F, ρ, A, h⟩ := h; exact h.val (.str i)
end

/-! ### isinstance(x, T) -/
def isB : D → String → Option Bool
  | .non, T => if ["int", "bool", "str", "tuple", "list", "dict"].contains T = true then some false else none
  | .bl _, T => if ["int", "bool", "str", "tuple", "list", "dict"].contains T = true then some (T == "bool" || T == "int") else none
  | .int _, T => if ["int", "bool", "str", "tuple", "list", "dict"].contains T = true then some (T == "int") else none
  | .str _, T => if ["int", "bool", "str", "tuple", "list", "dict"].contains T = true then some (T == "str") else none
  | .tup _, T => if ["int", "bool", "str", "tuple", "list", "dict"].contains T = true then some (T == "tuple") else none
  | .lst _, T => if ["int", "bool", "str", "tuple", "list", "dict"].contains T = true then some (T == "list") else none
  | .rol _, T => if ["int", "bool", "str", "tuple", "list", "dict"].contains T = true then some (T == "list") else none
  | .dct _, T => if ["int", "bool", "str", "tuple", "list", "dict"].contains T = true then some (T == "dict") else none
  | _, _ => none
def fIsi : List D → Option Res
  | [d, .ty T] => (isB d T).map fun b => .val (.bl b)
  | _ => none
def tyN : D → String
  | .non => "NoneType" | .bl _ => "bool" | .int _ => "int" | .str _ => "str" | .tup _ => "tuple" | .lst _ => "list" | .rol _ => "list" | .dct _ => "dict" | _ => ""
theorem tyX_top {K : PySem.W.Frag} {F H : Hp} {x : V} {d : D} {T : String} {b : Bool} (le : Le F H) (t : Top K F H x d) (e : isB d T = some b) : TyX K H x (.type (tyN d)) := by
  cases d with
  | non => cases top_non t; exact .base .non
  | bl b => cases top_bl t; exact .base (.bl b)
  | int i => cases top_int t; exact .base (.int i)
  | str s => cases top_str t; exact .base (.str s)
  | tup ds =>
    obtain ⟨a, xs, rfl, s1, r1⟩ := top_tup t
    rcases le_t le s1 with (q | ⟨o, q⟩) | ⟨o, its, n, q, c, _⟩
    · exact .base (.tup q)
    · exact .fTuple q
    · exact .kTuple q c
  | lst ds =>
    obtain ⟨a, xs, rfl, s1, r1⟩ := t
    exact .base (.lst s1)
  | rol ds =>
    obtain ⟨a, xs, rfl, s1, r1⟩ := top_rol t
    rcases le_l le s1 with (q | ⟨o, q⟩) | ⟨o, its, n, q, c, _⟩
    · exact .base (.lst q)
    · exact .base (.frz q)
    · exact .kList q c
  | dct ds =>
    obtain ⟨a, xs, rfl, q | ⟨o, q⟩, r1⟩ := t
    · exact .base (.dK q)
    · exact .fDict q
  | adr _ => cases e
  | ty _ => cases e
  | ins _ _ => cases e
theorem isB_kit {d : D} {T : String} {b : Bool} (e : isB d T = some b) : kitB (tyN d) T = some b := by
  have main : ∀ {N : String} {f : String → Bool}, (∀ T ∈ ["int", "bool", "str", "tuple", "list", "dict"], kitB N T = some (f T)) → (if ["int", "bool", "str", "tuple", "list", "dict"].contains T = true then some (f T) else none) = some b → kitB N T = some b := fun {N f} h e => by
    obtain ⟨c, e⟩ := ite_some' e
    cases e
    exact h T (by simpa using c)
  cases d with
  | non => exact main (N := "NoneType") (f := fun _ => false) (by decide +kernel) e
  | bl _ => exact main (N := "bool") (f := fun T => T == "bool" || T == "int") (by decide +kernel) e
  | int _ => exact main (N := "int") (f := fun T => T == "int") (by decide +kernel) e
  | str _ => exact main (N := "str") (f := fun T => T == "str") (by decide +kernel) e
  | tup _ => exact main (N := "tuple") (f := fun T => T == "tuple") (by decide +kernel) e
  | lst _ => exact main (N := "list") (f := fun T => T == "list") (by decide +kernel) e
  | rol _ => exact main (N := "list") (f := fun T => T == "list") (by decide +kernel) e
  | dct _ => exact main (N := "dict") (f := fun T => T == "dict") (by decide +kernel) e
  | adr _ => cases e
  | ty _ => cases e
  | ins _ _ => cases e
theorem top_ty {K : PySem.W.Frag} {F H : Hp} {x : V} {n : String} (h : Top K F H x (.ty n)) : x = .ty n := by cases h; rfl
theorem tops1 {K : PySem.W.Frag} {F H : Hp} {xs : List V} {d : D} (h : Tops K F H xs [d]) : ∃ x, xs = [x] ∧ Top K F H x d := by
  cases h with
  | cons a t => cases t; exact ⟨_, rfl, a⟩
theorem tops2 {K : PySem.W.Frag} {F H : Hp} {xs : List V} {d e : D} (h : Tops K F H xs [d, e]) : ∃ x y, xs = [x, y] ∧ Top K F H x d ∧ Top K F H y e := by
  cases h with
  | cons a t =>
    cases t with
    | cons b t => cases t; exact ⟨_, _, rfl, a, b⟩
theorem s_isi {K : PySem.W.Frag} : SndL K (rIsi K) fIsi := by
  intro H0 W ok F H ρ A σ xs ds res Q t e h
  unfold fIsi at e
  split at e
  · obtain ⟨b, e1, rfl⟩ := map_some' e
    obtain ⟨x, y, rfl, t1, t2⟩ := tops2 t
    cases top_ty t2
    exact ⟨_, _, _, _, b, rfl, .ty _, tyX_top h.1.le t1 e1, kit_ty (isB_kit e1), h.val (.bl b)⟩
  · cases e

/-! ### len, int, abs, sum, max, min, divmod, repr, list, tuple, all, any -/
def fLen : List D → Option Res
  | [.str z] => if z.length ≤ sizeLine then some (.val (.int z.length)) else none
  | [.tup ds] => some (.val (.int ds.length))
  | [.lst ds] => some (.val (.int ds.length))
  | [.rol ds] => some (.val (.int ds.length))
  | _ => none
theorem s_len {K : PySem.W.Frag} : SndL K (fun xs H Q => ∃ x n, xs = [x] ∧ LenV K x H n ∧ Q (.int n) H) fLen := by
  intro H0 W ok F H ρ A σ xs ds res Q t e h
  have le := h.1.le
  unfold fLen at e
  split at e
  · obtain ⟨c, e⟩ := ite_some' e
    cases e
    obtain ⟨x, rfl, t1⟩ := tops1 t
    cases top_str t1
    exact ⟨_, _, rfl, ⟨c, rfl⟩, h.val (.int _)⟩
  · cases e
    obtain ⟨x, rfl, t1⟩ := tops1 t
    obtain ⟨a, ys, rfl, s1, r1⟩ := top_tup t1
    exact ⟨_, ys.length, rfl, .inr ⟨ys, le_t le s1, rfl⟩, by rw [r1.length]; exact h.val (.int _)⟩
  · cases e
    obtain ⟨x, rfl, t1⟩ := tops1 t
    obtain ⟨a, ys, rfl, s1, r1⟩ := t1
    exact ⟨_, ys.length, rfl, .inl ⟨ys, SqL.of s1, rfl⟩, by rw [r1.length]; exact h.val (.int _)⟩
  · cases e
    obtain ⟨x, rfl, t1⟩ := tops1 t
    obtain ⟨a, ys, rfl, s1, r1⟩ := top_rol t1
    exact ⟨_, ys.length, rfl, .inl ⟨ys, le_l le s1, rfl⟩, by rw [r1.length]; exact h.val (.int _)⟩
  · cases e
def fInt : List D → Option Res
  | [.int i] => some (.val (.int i))
  | [.bl k] => some (.val (.int (if k then 1 else 0)))
  | _ => none
theorem s_int {K : PySem.W.Frag} : SndL K (fun xs H Q => (∃ i, xs = [.int i] ∧ Q (.int i) H) ∨ ∃ k, xs = [.bl k] ∧ Q (.int (if k then 1 else 0)) H) fInt := by
  intro H0 W ok F H ρ A σ xs ds res Q t e h
  unfold fInt at e
  split at e
  · cases e
    obtain ⟨x, rfl, t1⟩ := tops1 t
    cases top_int t1
    exact .inl ⟨_, rfl, h.val (.int _)⟩
  · cases e
    obtain ⟨x, rfl, t1⟩ := tops1 t
    cases top_bl t1
    exact .inr ⟨_, rfl, h.val (.int _)⟩
  · cases e
def fAbs : List D → Option Res
  | [.int i] => some (.val (.int (if i < 0 then -i else i)))
  | _ => none
theorem s_abs {K : PySem.W.Frag} : SndL K (fun xs H Q => ∃ i, xs = [.int i] ∧ Q (.int (if i < 0 then -i else i)) H) fAbs := by
  intro H0 W ok F H ρ A σ xs ds res Q t e h
  unfold fAbs at e
  split at e
  · cases e
    obtain ⟨x, rfl, t1⟩ := tops1 t
    cases top_int t1
    exact ⟨_, rfl, h.val (.int _)⟩
  · cases e
def intsD : List D → Option (List Int)
  | [] => some []
  | .int i :: ds => (intsD ds).map (i :: ·)
  | _ => none
theorem ints_rep {K : PySem.W.Frag} {F : Hp} : ∀ {xs : List V} {ds : List D} {ns : List Int}, Reps K F xs ds → intsD ds = some ns → xs = ns.map V.int
  | _, _, _, .nil, e => by cases e; rfl
  | _, d :: ds, ns, .cons h r, e => by
    cases d with
    | int i =>
      unfold intsD at e
      obtain ⟨ms, e1, rfl⟩ := map_some' e
      cases h
      rw [ints_rep r e1]
      rfl
    | _ => cases e
def blsD : List D → Option (List Bool)
  | [] => some []
  | .bl i :: ds => (blsD ds).map (i :: ·)
  | _ => none
theorem bls_rep {K : PySem.W.Frag} {F : Hp} : ∀ {xs : List V} {ds : List D} {ns : List Bool}, Reps K F xs ds → blsD ds = some ns → xs = ns.map V.bl
  | _, _, _, .nil, e => by cases e; rfl
  | _, d :: ds, ns, .cons h r, e => by
    cases d with
    | bl i =>
      unfold blsD at e
      obtain ⟨ms, e1, rfl⟩ := map_some' e
      cases h
      rw [bls_rep r e1]
      rfl
    | _ => cases e
def strsD : List D → Option (List Str)
  | [] => some []
  | .str i :: ds => (strsD ds).map (i :: ·)
  | _ => none
theorem strs_rep {K : PySem.W.Frag} {F : Hp} : ∀ {xs : List V} {ds : List D} {ns : List Str}, Reps K F xs ds → strsD ds = some ns → xs = ns.map V.str
  | _, _, _, .nil, e => by cases e; rfl
  | _, d :: ds, ns, .cons h r, e => by
    cases d with
    | str i =>
      unfold strsD at e
      obtain ⟨ms, e1, rfl⟩ := map_some' e
      cases h
      rw [strs_rep r e1]
      rfl
    | _ => cases e
def lstOf : D → Option (List D)
  | .lst ds => some ds
  | .rol ds => some ds
  | _ => none
theorem lst_top {K : PySem.W.Frag} {F H : Hp} {x : V} {d : D} {ds : List D} (le : Le F H) (t : Top K F H x d) (e : lstOf d = some ds) : ∃ a xs, x = .ref a ∧ SqL K H a xs ∧ Reps K F xs ds := by
  unfold lstOf at e
  split at e
  · cases e
    obtain ⟨a, ys, rfl, s1, r1⟩ := t
    exact ⟨a, ys, rfl, SqL.of s1, r1⟩
  · cases e
    obtain ⟨a, ys, rfl, s1, r1⟩ := top_rol t
    exact ⟨a, ys, rfl, le_l le s1, r1⟩
  · cases e
def fSum : List D → Option Res
  | [d] => ((lstOf d).bind intsD).map fun ns => .val (.int ns.sum)
  | _ => none
theorem bind_some' {α β : Type} {o : Option α} {f : α → Option β} {c : β} (e : o.bind f = some c) : ∃ a, o = some a ∧ f a = some c := by
  cases o with
  | none => cases e
  | some a => exact ⟨a, rfl, e⟩
theorem s_sum {K : PySem.W.Frag} : SndL K (rSum K) fSum := by
  intro H0 W ok F H ρ A σ xs ds res Q t e h
  unfold fSum at e
  split at e
  · obtain ⟨ns, e1, rfl⟩ := map_some' e
    obtain ⟨l, e2, e3⟩ := bind_some' e1
    obtain ⟨x, rfl, t1⟩ := tops1 t
    obtain ⟨a, ys, rfl, s1, r1⟩ := lst_top h.1.le t1 e2
    exact ⟨a, ns, rfl, by rw [← ints_rep r1 e3]; exact s1, h.val (.int _)⟩
  · cases e
def fAll : List D → Option Res
  | [d] => ((lstOf d).bind blsD).map fun ns => .val (.bl (ns.all id))
  | _ => none
theorem s_all {K : PySem.W.Frag} : SndL K (rAll K) fAll := by
  intro H0 W ok F H ρ A σ xs ds res Q t e h
  unfold fAll at e
  split at e
  · obtain ⟨ns, e1, rfl⟩ := map_some' e
    obtain ⟨l, e2, e3⟩ := bind_some' e1
    obtain ⟨x, rfl, t1⟩ := tops1 t
    obtain ⟨a, ys, rfl, s1, r1⟩ := lst_top h.1.le t1 e2
    exact ⟨a, ns, rfl, by rw [← bls_rep r1 e3]; exact s1, h.val (.bl _)⟩
  · cases e
def fAny : List D → Option Res
  | [d] => ((lstOf d).bind blsD).map fun ns => .val (.bl (ns.any id))
  | _ => none
theorem s_any {K : PySem.W.Frag} : SndL K (rAny K) fAny := by
  intro H0 W ok F H ρ A σ xs ds res Q t e h
  unfold fAny at e
  split at e
  · obtain ⟨ns, e1, rfl⟩ := map_some' e
    obtain ⟨l, e2, e3⟩ := bind_some' e1
    obtain ⟨x, rfl, t1⟩ := tops1 t
    obtain ⟨a, ys, rfl, s1, r1⟩ := lst_top h.1.le t1 e2
    exact ⟨a, ns, rfl, by rw [← bls_rep r1 e3]; exact s1, h.val (.bl _)⟩
  · cases e
def fMax2 : List D → Option Res
  | [.int i, .int j] => some (.val (.int (if j > i then j else i)))
  | _ => none
theorem s_max2 {K : PySem.W.Frag} : SndL K (fun xs H Q => ∃ i j, xs = [.int i, .int j] ∧ Q (.int (if j > i then j else i)) H) fMax2 := by
  intro H0 W ok F H ρ A σ xs ds res Q t e h
  unfold fMax2 at e
  split at e
  · cases e
    obtain ⟨x, y, rfl, t1, t2⟩ := tops2 t
    cases top_int t1; cases top_int t2
    exact ⟨_, _, rfl, h.val (.int _)⟩
  · cases e
def fMin2 : List D → Option Res
  | [.int i, .int j] => some (.val (.int (if j < i then j else i)))
  | _ => none
theorem s_min2 {K : PySem.W.Frag} : SndL K (fun xs H Q => ∃ i j, xs = [.int i, .int j] ∧ Q (.int (if j < i then j else i)) H) fMin2 := by
  intro H0 W ok F H ρ A σ xs ds res Q t e h
  unfold fMin2 at e
  split at e
  · cases e
    obtain ⟨x, y, rfl, t1, t2⟩ := tops2 t
    cases top_int t1; cases top_int t2
    exact ⟨_, _, rfl, h.val (.int _)⟩
  · cases e
def fDivmod : List D → Option Res
  | [.int i, .int j] => if 0 < j ∧ Builtin.divisionGoesByPylong i j = false then some (.val (.tup [.int (i / j), .int (i % j)])) else none
  | _ => none
theorem s_divmod {K : PySem.W.Frag} : SndL K (fun xs H Q => ∃ i j, xs = [.int i, .int j] ∧ CDivP i j ∧ ∀ p, H p = none → Q (.ref p) (upd H p (.tup [.int (i / j), .int (i % j)]))) fDivmod := by
  intro H0 W ok F H ρ A σ xs ds res Q t e h
  unfold fDivmod at e
  split at e
  · obtain ⟨c, e⟩ := ite_some' e
    cases e
    obtain ⟨x, y, rfl, t1, t2⟩ := tops2 t
    cases top_int t1; cases top_int t2
    exact ⟨_, _, rfl, c, fun p hp => h.tup (.cons (.int _) (.cons (.int _) .nil)) hp⟩
  · cases e
def fList : List D → Option Res
  | [.tup ds] => some (.new (.l ds))
  | [.lst ds] => some (.new (.l ds))
  | [.rol ds] => some (.new (.l ds))
  | _ => none
theorem s_list {K : PySem.W.Frag} : SndL K (fun xs H Q => ∃ p ys, xs = [.ref p] ∧ (SqL K H p ys ∨ SqT K H p ys) ∧ ∀ l, H l = none → Q (.ref l) (upd H l (.lst ys))) fList := by
  intro H0 W ok F H ρ A σ xs ds res Q t e h
  have le := h.1.le
  unfold fList at e
  split at e
  · cases e
    obtain ⟨x, rfl, t1⟩ := tops1 t
    obtain ⟨a, ys, rfl, s1, r1⟩ := top_tup t1
    exact ⟨a, ys, rfl, .inr (le_t le s1), fun p hp => h.lst r1 hp⟩
  · cases e
    obtain ⟨x, rfl, t1⟩ := tops1 t
    obtain ⟨a, ys, rfl, s1, r1⟩ := t1
    exact ⟨a, ys, rfl, .inl (SqL.of s1), fun p hp => h.lst r1 hp⟩
  · cases e
    obtain ⟨x, rfl, t1⟩ := tops1 t
    obtain ⟨a, ys, rfl, s1, r1⟩ := top_rol t1
    exact ⟨a, ys, rfl, .inl (le_l le s1), fun p hp => h.lst r1 hp⟩
  · cases e
def fRepr : List D → Option Res
  | [.int i] => if i.natAbs.log2 < 1920 then some (.val (.str (toString i))) else none
  | [.str z] => if (reprText z).length ≤ sizeLine then some (.val (.str (reprText z))) else none
  | [.bl b] => some (.val (.str (if b then "True" else "False")))
  | [.non] => some (.val (.str "None"))
  | _ => none
def rRepr : List V → Hp → VK → Prop := fun xs H Q => (∃ i, xs = [.int i] ∧ i.natAbs.log2 < 1920 ∧ Q (.str (toString i)) H) ∨ (∃ z, xs = [.str z] ∧ (reprText z).length ≤ sizeLine ∧ Q (.str (reprText z)) H) ∨ (∃ b, xs = [.bl b] ∧ Q (.str (if b then "True" else "False")) H) ∨ (xs = [.non] ∧ Q (.str "None") H)
theorem call_repr {X : Cx} : CallR X (.builtin "repr") rRepr := by
  intro pins s σ H xs us Q I r h
  rcases h with ⟨i, rfl, hz, q⟩ | ⟨z, rfl, hz, q⟩ | ⟨b, rfl, q⟩ | ⟨rfl, q⟩
  · obtain ⟨u, rfl, t, rfl⟩ := vals1 r
    exact PySem.P.repr_of_int hz ⟨.str _, H, I.tok _, ⟨_, rfl⟩, q⟩
  · obtain ⟨u, rfl, t, rfl⟩ := vals1 r
    exact PySem.P.repr_of_str ⟨.str _, H, I.tok _, ⟨_, rfl⟩, q⟩ hz
  · obtain ⟨u, rfl, r1⟩ := vals1 r
    cases r1
    exact PySem.P.repr_of_bool ⟨.str _, H, I.tok _, ⟨_, rfl⟩, q⟩
  · obtain ⟨u, rfl, r1⟩ := vals1 r
    cases r1
    exact PySem.P.repr_of_none ⟨.str _, H, I.tok _, ⟨_, rfl⟩, q⟩
theorem s_repr {K : PySem.W.Frag} : SndL K rRepr fRepr := by
  intro H0 W ok F H ρ A σ xs ds res Q t e h
  unfold fRepr at e
  split at e
  · obtain ⟨c, e⟩ := ite_some' e
    cases e
    obtain ⟨x, rfl, t1⟩ := tops1 t
    cases top_int t1
    exact .inl ⟨_, rfl, c, h.val (.str _)⟩
  · obtain ⟨c, e⟩ := ite_some' e
    cases e
    obtain ⟨x, rfl, t1⟩ := tops1 t
    cases top_str t1
    exact .inr (.inl ⟨_, rfl, c, h.val (.str _)⟩)
  · cases e
    obtain ⟨x, rfl, t1⟩ := tops1 t
    cases top_bl t1
    exact .inr (.inr (.inl ⟨_, rfl, h.val (.str _)⟩))
  · cases e
    obtain ⟨x, rfl, t1⟩ := tops1 t
    cases top_non t1
    exact .inr (.inr (.inr ⟨rfl, h.val (.str _)⟩))
  · cases e

/-! ### == and != -/
mutual
def pd : D → Option PyData
  | .non => some .none
  | .bl b => some (.bool b)
  | .int i => some (.int i)
  | .str s => some (.str s)
  | .tup ds => (pds ds).map .tuple
  | .lst ds => (pds ds).map .list
  | .rol ds => (pds ds).map .list
  | _ => none
def pds : List D → Option (List PyData)
  | [] => some []
  | d :: ds => (pd d).bind fun x => (pds ds).map (x :: ·)
end
mutual
theorem pd_rep {K : PySem.W.Frag} {F H : Hp} {v : V} (le : Le F H) : ∀ {d : D} {p : PyData}, Rep K F v d → pd d = some p → Dp K H v p
  | .non, p, h, e => by cases h; cases e; exact .non
  | .bl b, p, h, e => by cases h; cases e; exact .bl b
  | .int i, p, h, e => by cases h; cases e; exact .int i
  | .str s, p, h, e => by cases h; cases e; exact .str s
  | .tup ds, p, h, e => by
    unfold pd at e
    obtain ⟨ps, e1, rfl⟩ := map_some' e
    cases h with
    | tup s r => exact .tup (le_t le s) (pds_rep le r e1)
  | .lst ds, p, h, e => by
    unfold pd at e
    obtain ⟨ps, e1, rfl⟩ := map_some' e
    cases h with
    | lst s r => exact .lst (SqL.of (le.ls _ _ s)) (pds_rep le r e1)
  | .rol ds, p, h, e => by
    unfold pd at e
    obtain ⟨ps, e1, rfl⟩ := map_some' e
    cases h with
    | rol s r => exact .lst (le_l le s) (pds_rep le r e1)
  | .adr _, p, h, e => by cases e
  | .ty _, p, h, e => by cases e
  | .dct _, p, h, e => by cases e
  | .ins _ _, p, h, e => by cases e
theorem pds_rep {K : PySem.W.Frag} {F H : Hp} {vs : List V} (le : Le F H) : ∀ {ds : List D} {ps : List PyData}, Reps K F vs ds → pds ds = some ps → DpAll K H vs ps
  | [], ps, h, e => by cases h; cases e; exact .nil
  | d :: ds, ps, h, e => by
    unfold pds at e
    obtain ⟨x, e1, e2⟩ := bind_some' e
    obtain ⟨xs, e3, rfl⟩ := map_some' e2
    cases h with
    | cons a r => exact .cons (pd_rep le a e1) (pds_rep le r e3)
end
theorem pd_top {K : PySem.W.Frag} {F H : Hp} {v : V} {d : D} {p : PyData} (le : Le F H) (t : Top K F H v d) (e : pd d = some p) : Dp K H v p := by
  cases d with
  | lst ds =>
    obtain ⟨a, xs, rfl, s1, r1⟩ := t
    unfold pd at e
    obtain ⟨ps, e1, rfl⟩ := map_some' e
    exact .lst (SqL.of s1) (pds_rep le r1 e1)
  | dct ds => cases e
  | non => exact pd_rep le t e
  | bl _ => exact pd_rep le t e
  | int _ => exact pd_rep le t e
  | str _ => exact pd_rep le t e
  | tup _ => exact pd_rep le t e
  | rol _ => exact pd_rep le t e
  | adr _ => cases e
  | ty _ => cases e
  | ins _ _ => cases e
/-- scalars -/
def eqS : D → D → Option Bool
  | .non, .non => some true
  | .non, .int _ => some false | .non, .bl _ => some false | .non, .str _ => some false
  | .int _, .non => some false | .bl _, .non => some false | .str _, .non => some false
  | .int i, .int j => some (i == j)
  | .bl i, .bl j => some (i == j)
  | .str i, .str j => some (i == j)
  | .int _, .str _ => some false | .str _, .int _ => some false | .bl _, .str _ => some false | .str _, .bl _ => some false
  | _, _ => none
def eqM (d e : D) : Option Bool := match eqS d e with
  | some b => some b
  | none => (pd d).bind fun x => (pd e).bind fun y => if SeqAt.shaped x = true ∧ SeqAt.shaped y = true then some (PyData.eqv x y) else none
def fEq (d e : D) : Option Res := (eqM d e).map fun b => .val (.bl b)
def fNe (d e : D) : Option Res := (eqM d e).map fun b => .val (.bl (!b))
def rEqA (K : PySem.W.Frag) : R2 := fun x y H Q => rEq x y H Q ∨ rEqD K x y H Q
def rNeA (K : PySem.W.Frag) : R2 := fun x y H Q => rNe x y H Q ∨ rNeD K x y H Q
theorem o_eq {X : Cx} (hu : X.A.units + 64 < cLine) : OpR X (compareOp .Eq) (rEqA X.K) := (op_eq).or (op_eqD hu)
theorem o_ne {X : Cx} (hu : X.A.units + 64 < cLine) : OpR X (compareOp .NotEq) (rNeA X.K) := (op_ne).or (op_neD hu)
theorem eqS_ok {K : PySem.W.Frag} {F H : Hp} {x y : V} {d e : D} {b : Bool} (t1 : Top K F H x d) (t2 : Top K F H y e) (q : eqS d e = some b) : scal x y = true ∧ decide (x = y) = b := by
  unfold eqS at q
  split at q <;> first
    | (cases q; done)
    | (cases q
       first
         | (cases top_non t1; cases top_non t2; exact ⟨rfl, by simp⟩)
         | (cases top_non t1; cases top_int t2; exact ⟨rfl, by simp⟩)
         | (cases top_non t1; cases top_bl t2; exact ⟨rfl, by simp⟩)
         | (cases top_non t1; cases top_str t2; exact ⟨rfl, by simp⟩)
         | (cases top_int t1; cases top_non t2; exact ⟨rfl, by simp⟩)
         | (cases top_bl t1; cases top_non t2; exact ⟨rfl, by simp⟩)
         | (cases top_str t1; cases top_non t2; exact ⟨rfl, by simp⟩)
         | (cases top_int t1; cases top_int t2; exact ⟨rfl, dec_int⟩)
         | (cases top_bl t1; cases top_bl t2; exact ⟨rfl, dec_bl⟩)
         | (cases top_str t1; cases top_str t2; exact ⟨rfl, dec_str⟩)
         | (cases top_int t1; cases top_str t2; exact ⟨rfl, by simp⟩)
         | (cases top_str t1; cases top_int t2; exact ⟨rfl, by simp⟩)
         | (cases top_bl t1; cases top_str t2; exact ⟨rfl, by simp⟩)
         | (cases top_str t1; cases top_bl t2; exact ⟨rfl, by simp⟩))
theorem s_eq {K : PySem.W.Frag} : Snd2 K (rEqA K) fEq := by
  intro H0 W ok F H ρ A σ x y d1 d2 res Q t1 t2 e h
  obtain ⟨b, e1, rfl⟩ := map_some' e
  unfold eqM at e1
  split at e1
  · rename_i b' eb
    cases e1
    obtain ⟨a1, a2⟩ := eqS_ok t1 t2 eb
    exact .inl ⟨a1, by rw [a2]; exact h.val (.bl _)⟩
  · obtain ⟨p, e2, e3⟩ := bind_some' e1
    obtain ⟨q, e4, e5⟩ := bind_some' e3
    obtain ⟨c, e6⟩ := ite_some' e5
    cases e6
    exact .inr ⟨p, q, pd_top h.1.le t1 e2, pd_top h.1.le t2 e4, c.1, c.2, h.val (.bl _)⟩
theorem s_ne {K : PySem.W.Frag} : Snd2 K (rNeA K) fNe := by
  intro H0 W ok F H ρ A σ x y d1 d2 res Q t1 t2 e h
  obtain ⟨b, e1, rfl⟩ := map_some' e
  unfold eqM at e1
  split at e1
  · rename_i b' eb
    cases e1
    obtain ⟨a1, a2⟩ := eqS_ok t1 t2 eb
    exact .inl ⟨a1, by rw [a2]; exact h.val (.bl _)⟩
  · obtain ⟨p, e2, e3⟩ := bind_some' e1
    obtain ⟨q, e4, e5⟩ := bind_some' e3
    obtain ⟨c, e6⟩ := ite_some' e5
    cases e6
    exact .inr ⟨p, q, pd_top h.1.le t1 e2, pd_top h.1.le t2 e4, c.1, c.2, h.val (.bl _)⟩

/-! ### x in (a, ..) of scalars -/
def scalD : D → Bool
  | .non => true | .bl _ => true | .int _ => true | .str _ => true
  | _ => false
def eqF : D → D → Bool
  | .non, .non => true
  | .bl a, .bl b => a == b
  | .bl a, .int b => (if a then 1 else 0) == b
  | .int a, .bl b => a == (if b then 1 else 0)
  | .int a, .int b => a == b
  | .str a, .str b => a == b
  | _, _ => false
theorem rep_flat {K : PySem.W.Frag} {F : Hp} {x : V} {d : D} (r : Rep K F x d) (s : scalD d = true) : flatV x = true := by
  cases r <;> first | rfl | cases s
theorem reps_flat {K : PySem.W.Frag} {F : Hp} : ∀ {xs : List V} {ds : List D}, Reps K F xs ds → ds.all scalD = true → xs.all flatV = true
  | _, _, .nil, _ => rfl
  | _, _, .cons h r, s => by
    rw [List.all_cons, Bool.and_eq_true] at s ⊢
    exact ⟨rep_flat h s.1, reps_flat r s.2⟩
theorem rep_eqF {K : PySem.W.Frag} {F : Hp} {x y : V} {d e : D} (r : Rep K F x d) (r2 : Rep K F y e) (s : scalD d = true) (s2 : scalD e = true) : eqV x y = eqF d e := by
  cases r <;> first | (cases s; done) | (cases r2 <;> first | rfl | (cases s2; done))
theorem reps_any {K : PySem.W.Frag} {F : Hp} {x : V} {d : D} (r : Rep K F x d) (s : scalD d = true) : ∀ {xs : List V} {ds : List D}, Reps K F xs ds → ds.all scalD = true → inV x xs = ds.any fun y => eqF y d
  | _, _, .nil, _ => rfl
  | _, _, .cons h r2, q => by
    rw [List.all_cons, Bool.and_eq_true] at q
    unfold inV
    rw [List.any_cons, List.any_cons, rep_eqF h r q.1 s]
    have := reps_any r s r2 q.2
    unfold inV at this
    rw [this]
def seqOf : D → Option (List D)
  | .tup ds => some ds
  | .lst ds => some ds
  | .rol ds => some ds
  | _ => none
theorem seq_top {K : PySem.W.Frag} {F H : Hp} {x : V} {d : D} {ds : List D} (le : Le F H) (t : Top K F H x d) (e : seqOf d = some ds) : ∃ a xs, x = .ref a ∧ (SqL K H a xs ∨ SqT K H a xs) ∧ Reps K F xs ds := by
  unfold seqOf at e
  split at e
  · cases e
    obtain ⟨a, ys, rfl, s1, r1⟩ := top_tup t
    exact ⟨a, ys, rfl, .inr (le_t le s1), r1⟩
  · cases e
    obtain ⟨a, ys, rfl, s1, r1⟩ := t
    exact ⟨a, ys, rfl, .inl (SqL.of s1), r1⟩
  · cases e
    obtain ⟨a, ys, rfl, s1, r1⟩ := top_rol t
    exact ⟨a, ys, rfl, .inl (le_l le s1), r1⟩
  · cases e
theorem scal_rep {K : PySem.W.Frag} {F H : Hp} {x : V} {d : D} (t : Top K F H x d) (s : scalD d = true) : Rep K F x d := by
  cases d <;> first | exact t | cases s
def fIn (d e : D) : Option Res := (seqOf e).bind fun ds => if scalD d = true ∧ ds.all scalD = true then some (.val (.bl (ds.any fun y => eqF y d))) else none
theorem s_in {K : PySem.W.Frag} : Snd2 K (rIn K false) fIn := by
  intro H0 W ok F H ρ A σ x y d1 d2 res Q t1 t2 e h
  obtain ⟨ds, e1, e2⟩ := bind_some' e
  obtain ⟨c, e3⟩ := ite_some' e2
  cases e3
  obtain ⟨a, ys, rfl, s1, r1⟩ := seq_top h.1.le t2 e1
  have r0 := scal_rep t1 c.1
  refine ⟨a, ys, rfl, s1, rep_flat r0 c.1, reps_flat r1 c.2, ?_⟩
  rw [reps_any r0 c.1 r1 c.2]
  exact h.val (.bl _)

/-! ### chains -/
section
variable {X : Cx} {H0 : HE} {W : WX} {a b c : Expr} {pos : Pos} {ga gb gc : EM Res}
def blM : Res → EM Bool
  | .val (.bl k) => EM.pure k
  | _ => fun _ => none
/-- a op1 b op2 c, of scalars -/
def gChain (f f' : D → D → Option Res) (ga gb gc : EM Res) : EM Res := ga.bind fun r1 => gb.bind fun r2 => (op2 f r1 r2).bind fun r => (blM r).bind fun k => if k = true then gc.bind fun r3 => op2 f' r2 r3 else EM.pure (.val (.bl false))
theorem chain_weak {K : PySem.W.Frag} {r r' : R2} {f f' : D → D → Option Res} (hs : Snd2 K r f) (hs' : Snd2 K r' f') (σ : L2.St) (H : Hp) (Q : VK) (h : tE K H0 W (gChain f f' ga gb gc) σ H Q) : tChain r r' (tE K H0 W ga) (tE K H0 W gb) (tE K H0 W gc) σ H Q := by
  obtain ⟨F, ρ, A, h⟩ := h
  refine ⟨F, ρ, A, h.bind fun x r1 F1 H1 ρ1 tr1 sb1 ra h1 => ⟨F1, ρ1, A, h1.bind fun y r2 F2 H2 ρ2 tr2 sb2 rb h2 => ?_⟩⟩
  -- the first comparison
  have h3 : WpAt K H0 W (RAt K H0) (Okp ρ2 A H2) F2 ρ2 A (op2 f r1 r2) σ H2 (fun z H3 => ∃ k, z = .bl k ∧ (if k = true then tE K H0 W gc σ H3 fun w' H4 => r' y w' H4 Q else Q (.bl false) H3)) := by
    refine h2.bind fun z rz F3 H3 ρ3 tr3 sb3 rc h4 => ?_
    cases rz with
    | new m => obtain ⟨er, kn, o, e, p⟩ := h4; cases e
    | brw i => obtain ⟨er, kn, o, e, p⟩ := h4; cases e
    | val d =>
      cases d with
      | bl k =>
        cases rc
        refine ⟨k, rfl, ?_⟩
        obtain ⟨er, kn, o, e, p⟩ := h4
        cases k with
        | false =>
          rw [if_neg Bool.false_ne_true]
          have e' : EM.pure (Res.val (.bl false)) ρ3 = some o := e
          exact WpAt.val ⟨er, kn, o, e', p⟩ (.bl false)
        | true =>
          rw [if_pos rfl]
          have e' : (gc.bind fun r3 => op2 f' r2 r3) ρ3 = some o := e
          have h5 : WpAt K H0 W (RAt K H0) _ F3 ρ3 A (gc.bind fun r3 => op2 f' r2 r3) σ H3 Q := ⟨er, kn, o, e', p⟩
          refine ⟨F3, ρ3, A, h5.bind fun w r3 F4 H4 ρ4 tr4 sb4 rd h6 => ?_⟩
          obtain ⟨d1, d2, res, e1, e2, e3, h7⟩ := op2_at h6
          exact hs' H0 W _ F4 H4 ρ4 A σ y w d1 d2 res Q (rb.later h7.1 (tr3.then sb3 tr4) (sb3.trans sb4) e1) (rd.top h7.1 e2) e3 h7
      | _ => obtain ⟨er, kn, o, e, p⟩ := h4; cases e
  obtain ⟨d1, d2, res, e1, e2, e3, h4⟩ := op2_at h3
  exact hs H0 W _ F2 H2 ρ2 A σ x y d1 d2 res _ (ra.later h4.1 tr2 sb2 e1) (rb.top h4.1 e2) e3 h4
theorem p_chain {op op' : CmpOp} {r r' : R2} {f f' : D → D → Option Res} (ho : OpR X (compareOp op) r) (hs : Snd2 X.K r f) (ho' : OpR X (compareOp op') r') (hs' : Snd2 X.K r' f') (ha : PE X a (tE X.K H0 W ga)) (hb : PE X b (tE X.K H0 W gb)) (hc : PE X c (tE X.K H0 W gc))
    (hm : lastMarks [op, op'] [b, c] = false := by with_unfolding_all rfl) : PE X (.Compare a [op, op'] [b, c] pos) (tE X.K H0 W (gChain f f' ga gb gc)) := (pe_chain ho ho' ha hb hc hm).weak (chain_weak hs hs')
theorem p_tchain {op op' : CmpOp} {r r' : R2} {f f' : D → D → Option Res} (ho : OpR X (compareOp op) r) (hs : Snd2 X.K r f) (ho' : OpR X (compareOp op') r') (hs' : Snd2 X.K r' f') (ha : PE X a (tE X.K H0 W ga)) (hb : PE X b (tE X.K H0 W gb)) (hc : PE X c (tE X.K H0 W gc))
    (hm : lastMarks [op, op'] [b, c] = false := by with_unfolding_all rfl) : PT X (.Compare a [op, op'] [b, c] pos) (tT X.K H0 W (gBl (gChain f f' ga gb gc))) := (pt_chain ho ho' ha hb hc hm).weak fun σ H Q h => by
  obtain ⟨F, ρ, A, h⟩ := h
  refine chain_weak hs hs' σ H _ ⟨F, ρ, A, h.bind fun x r F1 H1 ρ1 tr sb ra h1 => ?_⟩
  exact bl_at ra h1
end
end M

/-! M16: methods, keywords, tuple[::-1], freezing in place. -/
namespace M
open PySem PySem.Spec PyProof.Rows L2

/-! ### o.name(..), o a text or a list -/
def tyD : String → D → Bool
  | "str", .str _ => true
  | "list", .lst _ => true
  | "list", .rol _ => true
  | _, _ => false
theorem tyD_ok {K : PySem.W.Frag} {F H : Hp} {x : V} {d : D} {T : String} (le : Le F H) (t : Top K F H x d) (e : tyD T d = true) : tyV K T x H := by
  unfold tyD at e
  split at e
  · cases top_str t; exact rfl
  · obtain ⟨a, ys, rfl, s1, r1⟩ := t; exact .inl ⟨rfl, ys, SqL.of s1⟩
  · obtain ⟨a, ys, rfl, s1, r1⟩ := top_rol t; exact .inl ⟨rfl, ys, le_l le s1⟩
  · cases e
def methM (f : D → List D → Option Res) (r : Res) (rs : List Res) : EM Res := fun ρ => match view ρ r, views ρ rs with
  | some d, some ds => (f d ds).map fun r => .ok r ρ
  | _, _ => none
def gMeth (T : String) (f : D → List D → Option Res) (g : EM Res) (gs : EM (List Res)) : EM Res := g.bind fun r => fun ρ => match view ρ r with
  | some d => if tyD T d = true then (gs.bind fun rs => methM f r rs) ρ else none
  | none => none
def SndM (K : PySem.W.Frag) (r : V → List V → Hp → VK → Prop) (f : D → List D → Option Res) : Prop :=
  ∀ (H0 : HE) (W : WX) (ok : Addr → Prop) (F H : Hp) (ρ : En) (A : Nat → Addr) (σ : L2.St) (x : V) (xs : List V) (d : D) (ds : List D) (res : Res) (Q : VK), Top K F H x d → Tops K F H xs ds → f d ds = some res → WpAt K H0 W (RAt K H0) ok F ρ A (EM.pure res) σ H Q → r x xs H Q
section
variable {X : Cx} {H0 : HE} {W : WX} {o e : Expr} {es : List Expr} {g : EM Res} {gs : EM (List Res)} {name : Str} {apos cpos : Pos} {T id : String}
theorem meth_weak {K : PySem.W.Frag} {r : V → List V → Hp → VK → Prop} {f : D → List D → Option Res} (hs : SndM K r f) (σ : L2.St) (H : Hp) (Q : VK) (h : tE K H0 W (gMeth T f g gs) σ H Q) : tBM K T r (tE K H0 W g) (tA K H0 W gs) σ H Q := by
  obtain ⟨F, ρ, A, h⟩ := h
  refine ⟨F, ρ, A, h.bind fun x rx F1 H1 ρ1 tr1 sb1 ra h1 => ?_⟩
  obtain ⟨er1, kn, o, e, p⟩ := h1
  cases ev : view ρ1 rx with
  | none => simp only [ev] at e; cases e
  | some d0 =>
    simp only [ev] at e
    obtain ⟨c, e⟩ := ite_some' e
    refine ⟨tyD_ok er1.le (ra.top er1 ev) c, ?_⟩
    have h2 : WpAt K H0 W (RAt K H0) _ F1 ρ1 A (gs.bind fun rs => methM f rx rs) σ H1 Q := ⟨er1, kn, o, e, p⟩
    refine ⟨F1, ρ1, A, h2.bind fun vs rs F2 H2 ρ2 tr2 sb2 rb h3 => ?_⟩
    obtain ⟨er2, kn2, o2, e2, p2⟩ := h3
    unfold methM at e2
    cases ev2 : view ρ2 rx with
    | none => rw [ev2] at e2; cases e2
    | some d =>
      cases ev3 : views ρ2 rs with
      | none => rw [ev2, ev3] at e2; cases e2
      | some ds =>
        rw [ev2, ev3] at e2
        obtain ⟨res, e4, rfl⟩ := map_some' e2
        exact hs H0 W _ F2 H2 ρ2 A σ x vs d ds res Q (ra.later er2 tr2 sb2 ev2) (rats_tops er2 rb.1 ev3) e4 ⟨er2, kn2, _, rfl, p2⟩
theorem p_meth {r : V → List V → Hp → VK → Prop} {f : D → List D → Option Res} (hs : SndM X.K r f) (pa : PlainAttrs T) (slot : PySem.Slot T name id) (hty : typeOf (.builtin id) = pure (.type "method_descriptor")) (hm : MtR X id r) (ho : PE X o (tE X.K H0 W g)) (ha : PA X (e :: es) (tA X.K H0 W gs))
    (hbase : attributeBase o name X.env (eval o X.env) = eval o X.env := by rfl)
    (hfew : ((backTo cpos (starEach (e :: es) X.env)).all (fun x => !x.1) && (backToKw cpos (keywordEach [] X.env)).all (fun x => x.1.isSome)
      && decide ((e :: es).length + ([] : List Keyword).length + (if ([] : List Keyword).isEmpty then 0 else 1) < 30)) = true := by rfl)
    (hline : (apos.endLine == cpos.line) = true := by rfl) (hs' : starEach (e :: es) X.env = (false, eval e X.env) :: starEach es X.env := by rfl) (hplain : (backTo cpos (starEach es X.env)).any (·.1) = false := by rfl) :
    PE X (.Call (.Attribute o name apos) (e :: es) [] cpos) (tE X.K H0 W (gMeth T f g gs)) := (pe_bm pa slot hty hm ho ha hbase hfew hline hs' hplain).weak (meth_weak hs)
end
/-- sep.join(texts) -/
def fJoin : D → List D → Option Res
  | .str a, [e] => ((seqOf e).bind strsD).bind fun ys => if (ys.map (·.length)).sum + ys.length * a.length ≤ 16777216 then some (.val (.str (Txt.join a ys))) else none
  | _, _ => none
def rJoin (K : PySem.W.Frag) : V → List V → Hp → VK → Prop := fun x xs H Q => ∃ a p, ∃ ys : List Str, x = .str a ∧ xs = [.ref p] ∧ (SqL K H p (ys.map V.str) ∨ SqT K H p (ys.map V.str)) ∧
    (ys.map (·.length)).sum + ys.length * a.length ≤ 16777216 ∧ Q (.str (Txt.join a ys)) H
theorem m_join {X : Cx} : MtR X "str.join" (rJoin X.K) := mt_join
theorem s_join {K : PySem.W.Frag} : SndM K (rJoin K) fJoin := by
  intro H0 W ok F H ρ A σ x xs d ds res Q t ts e h
  unfold fJoin at e
  split at e
  · obtain ⟨ys, e1, e2⟩ := bind_some' e
    obtain ⟨l, e3, e4⟩ := bind_some' e1
    obtain ⟨c, e5⟩ := ite_some' e2
    cases e5
    cases top_str t
    obtain ⟨y, rfl, t1⟩ := tops1 ts
    obtain ⟨p, zs, rfl, s1, r1⟩ := seq_top h.1.le t1 e3
    have := strs_rep r1 e4
    subst this
    exact ⟨_, p, ys, rfl, rfl, s1, c, h.val (.str _)⟩
  · cases e
/-- list.count, list.index, scalars -/
def rCntF (K : PySem.W.Frag) : V → List V → Hp → VK → Prop := fun x xs H Q => ∃ (p : Addr) (zs : List V) (k : V), x = .ref p ∧ xs = [k] ∧ SqL K H p zs ∧ flatV k = true ∧ zs.all flatV = true ∧ Q (.int (zs.countP fun z => eqV z k : Nat)) H
theorem cnt_eqU {x : V} : ∀ {xs : List V} {us : List Value}, Vals xs us → xs.all flatV = true → us.countP (eqU x) = xs.countP fun y => eqV y x
  | _, _, .nil, _ => rfl
  | y :: xs, u :: us, .cons r t, f => by
    rw [List.all_cons, Bool.and_eq_true] at f
    rw [List.countP_cons, List.countP_cons, eqU_of r f.1, cnt_eqU t f.2]
theorem m_count {X : Cx} : MtR X "list.count" (rCntF X.K) := by
  intro pins s σ H x xs v us Q I rx rxs h
  obtain ⟨p, zs, k, rfl, rfl, hs, fk, fz, q⟩ := h
  cases rx
  obtain ⟨u, rfl, ru⟩ := rxs.one
  obtain ⟨its, rv, ⟨⟨cls, dd, data, sl⟩, n, ho, hc, hdn, hd⟩, hlen⟩ := I.list hs
  simp only at hc hd
  subst hc hd
  refine call_meets PySem.F.slot_list_count ⟨_, ho, rfl⟩ PySem.F.entry_list_count (PySem.F.args_list_count_2 _ _)
    (SeqAt.list_countAt p its.toArray n dd sl u (eqU k)) ⟨ho, fun y hy => mem_eqAt ru fk rv fz y (by simpa using hy), ?_⟩
  refine ⟨.int (zs.countP fun z => eqV z k : Nat), H, I.tok _, ⟨s.toks, ?_⟩, q⟩
  show Value.int ((its.toArray.toList.countP (eqU k) : Nat) : Int) s.toks = _
  rw [← cnt_eqU rv fz]
def fCount (d : D) : List D → Option Res
  | [k] => (lstOf d).bind fun ds => if scalD k = true ∧ ds.all scalD = true then some (.val (.int (ds.countP fun z => eqF z k : Nat))) else none
  | _ => none
theorem reps_cnt {K : PySem.W.Frag} {F : Hp} {x : V} {d : D} (r : Rep K F x d) (s : scalD d = true) : ∀ {xs : List V} {ds : List D}, Reps K F xs ds → ds.all scalD = true → (xs.countP fun z => eqV z x) = ds.countP fun y => eqF y d
  | _, _, .nil, _ => rfl
  | _, _, .cons h r2, q => by
    rw [List.all_cons, Bool.and_eq_true] at q
    rw [List.countP_cons, List.countP_cons, rep_eqF h r q.1 s, reps_cnt r s r2 q.2]
theorem s_count {K : PySem.W.Frag} : SndM K (rCntF K) fCount := by
  intro H0 W ok F H ρ A σ x xs d ds res Q t ts e h
  unfold fCount at e
  split at e
  · obtain ⟨l, e1, e2⟩ := bind_some' e
    obtain ⟨c, e3⟩ := ite_some' e2
    cases e3
    obtain ⟨a, ys, rfl, s1, r1⟩ := lst_top h.1.le t e1
    obtain ⟨y, rfl, t1⟩ := tops1 ts
    have r0 := scal_rep t1 c.1
    refine ⟨a, ys, y, rfl, rfl, s1, rep_flat r0 c.1, reps_flat r1 c.2, ?_⟩
    rw [reps_cnt r0 c.1 r1 c.2]
    exact h.val (.int _)
  · cases e
def fIndex (d : D) : List D → Option Res
  | [k] => (lstOf d).bind fun ds => if scalD k = true ∧ ds.all scalD = true ∧ ds.findIdx (fun z => eqF z k) < ds.length then some (.val (.int (ds.findIdx (fun z => eqF z k) : Nat))) else none
  | _ => none
theorem s_index {K : PySem.W.Frag} : SndM K (rIndex K) fIndex := by
  intro H0 W ok F H ρ A σ x xs d ds res Q t ts e h
  unfold fIndex at e
  split at e
  · rename_i k
    obtain ⟨l, e1, e2⟩ := bind_some' e
    obtain ⟨⟨c1, c2, c3⟩, e3⟩ := ite_some' e2
    cases e3
    obtain ⟨a, ys, rfl, s1, r1⟩ := lst_top h.1.le t e1
    obtain ⟨y, rfl, t1⟩ := tops1 ts
    have r0 := scal_rep t1 c1
    have at_ : ∀ {i : Nat} {z : V} {w : D}, ys[i]? = some z → l[i]? = some w → eqV z y = eqF w k := fun {i z w} h1 h2 => by
      obtain ⟨z', g1, g2⟩ := r1.get h2
      rw [h1] at g1
      cases g1
      exact rep_eqF g2 r0 (List.all_eq_true.mp c2 w (List.mem_of_getElem? h2)) c1
    obtain ⟨z, hz, _⟩ := r1.get (List.getElem?_eq_getElem c3)
    refine ⟨a, ys, y, _, z, rfl, rfl, s1, rep_flat r0 c1, reps_flat r1 c2, hz, ?_, fun m z' hm hz' => ?_, h.val (.int _)⟩
    · rw [at_ hz (List.getElem?_eq_getElem c3)]
      exact List.findIdx_getElem (w := c3)
    · obtain ⟨w, hw, _⟩ := r1.get' hz'
      rw [at_ hz' hw]
      have hml : m < l.length := (List.getElem?_eq_some_iff.mp hw).1
      have := List.not_of_lt_findIdx hm
      rw [List.getElem?_eq_getElem hml] at hw
      cases hw
      simpa using this
  · cases e

/-! ### an own thing stays at its name, frozen -/
def gFz (i : Nat) : EM Res := fun ρ => match ρ[i]? with
  | some (.own m) => some (.ok (.val m.view) (ρ.set i (.val m.view)))
  | some (.val d) => some (.ok (.val d) ρ)
  | _ => none
section
variable {K : PySem.W.Frag} {H0 : HE} {F H : Hp} {σ : L2.St} {ρ : En} {A : Nat → Addr}
theorem fz_step {i : Nat} {m : Mo} {o' : HO} (er : ER K H0 F H σ ρ A) (q : ρ[i]? = some (.own m)) (hl : (∃ xs, H (A i) = some (.lst xs)) ∨ ∃ xs, H (A i) = some (.dK xs)) (rp : Rep K (upd F (A i) o') (.ref (A i)) m.view) :
    Tr (OwnA ρ A) F H (upd F (A i) o') (upd H (A i) o') ∧ ER K H0 (upd F (A i) o') (upd H (A i) o') σ (ρ.set i (.val m.view)) A ∧ Sb ρ (ρ.set i (.val m.view)) := by
  obtain ⟨s1, s2, s3, s4⟩ := er.sl i _ q
  have hi : i < ρ.length := (List.getElem?_eq_some_iff.mp q).1
  have mi : moAt ρ i = some m := by unfold moAt; rw [q]; rfl
  have ff : Le F (upd F (A i) o') := le_self s2
  have fh : Le (upd F (A i) o') (upd H (A i) o') := le_frz (le_upd er.le s2) upd_same
  refine ⟨⟨ff, fun a x n nt z => ?_, fun a x z => ?_, fun a x z => ?_⟩, ⟨by simpa using er.len, fh, fun j s e => ?_, fun j k m1 m2 e1 e2 => ?_, fun a x e => ?_, tabs_upd er.tabs (.inr hl)⟩, ⟨fun j m1 e1 => ?_, fun j m1 e1 => ?_⟩⟩
  · rw [upd_ne (fun h => n ⟨i, m, mi, h.symm⟩)]; exact z
  · by_cases ap : a = A i
    · subst ap; exact .inr (.inr ⟨i, m, mi, rfl⟩)
    · rw [upd_ne ap] at z; exact .inl ⟨x, z⟩
  · by_cases ap : a = A i
    · subst ap; exact ⟨_, upd_same⟩
    · exact ⟨x, by rw [upd_ne ap]; exact z⟩
  · by_cases z : j = i
    · subst z
      rw [List.getElem?_set_self hi] at e
      cases e
      exact ⟨_, s1, rp⟩
    · rw [List.getElem?_set_ne (Ne.symm z)] at e
      have q2 := er.sl j s e
      have ne : ∀ {m'}, moAt ρ j = some m' → A j ≠ A i := fun {m'} h ea => z (er.inj j i m' m h mi ea)
      cases s with
      | un => trivial
      | val d => obtain ⟨v, h1, h2⟩ := q2; exact ⟨v, h1, h2.mono ff⟩
      | exc C fs => obtain ⟨a, d, h1, h2, h3⟩ := q2; exact ⟨a, d, h1, h2, h3.mono ff⟩
      | own m' =>
        have nj := ne (m' := m') (by unfold moAt; rw [e]; rfl)
        exact ⟨q2.1, by rw [upd_ne nj]; exact q2.2.1, (q2.2.2.1.keep (upd_ne nj)).mono ff, q2.2.2.2⟩
      | par m' =>
        have nj := ne (m' := m') (by unfold moAt; rw [e]; rfl)
        exact ⟨q2.1, by rw [upd_ne nj]; exact q2.2.1, (q2.2.2.keep (upd_ne nj)).mono ff⟩
  · rw [moAt_set hi] at e1 e2
    split at e1
    · cases e1
    · split at e2
      · cases e2
      · exact er.inj j k m1 m2 e1 e2
  · obtain ⟨y, h⟩ := er.dom a x e
    have : a ≠ A i := fun z => by rw [z, s4] at e; cases e
    exact ⟨y, by rw [upd_ne this]; exact h⟩
  · rw [moAt_set hi] at e1
    split at e1
    · cases e1
    · exact ⟨_, e1⟩
  · by_cases z : j = i
    · subst z; rw [q] at e1; cases e1
    · exact ⟨m1, by rw [List.getElem?_set_ne (Ne.symm z)]; exact e1⟩
end
section
variable {X : Cx} {H0 : HE} {W : WX} {pos : Pos}
theorem p_fz (i : Nat) {x : Str} (hN : X.N[i]? = some x := by rfl) (hv : Vis X.env.scope x := by first | exact Or.inl rfl | exact Or.inr (Or.inl rfl) | exact Or.inr (Or.inr rfl)) (hd : (x == ("__debug__" : Str)) = false := by decide)
    (hcd : (x == ("__classdict__" : Str)) = false := by decide) : PE X (.Name x pos) (tE X.K H0 W (gFz i)) := by
  refine (pe_seal (pe_var hN hv hd hcd)).weak fun σ H Q h => ?_
  obtain ⟨F, ρ, A, er, kn, o, e, p⟩ := h
  unfold gFz at e
  cases q : ρ[i]? with
  | none => rw [q] at e; cases e
  | some s =>
    rw [q] at e
    have so := er.sl i s q
    cases s with
    | un => cases e
    | exc C fs => cases e
    | par m => cases e
    | val d =>
      cases e
      obtain ⟨v, h1, h2⟩ := so
      exact ⟨v, h1, .inr (p v F H .refl er .refl h2)⟩
    | own m =>
      cases e
      obtain ⟨s1, s2, s3, s4⟩ := so
      cases m with
      | l ds =>
        obtain ⟨vs, h1, h2⟩ := s3
        have rp : Rep X.K (upd F (A i) (.lst vs)) (.ref (A i)) (Mo.l ds).view := Rep.lst upd_same (h2.mono (le_self s2))
        obtain ⟨t1, t2, t3⟩ := fz_step (o' := .lst vs) er q (.inl ⟨vs, h1⟩) rp
        have hs : upd H (A i) (.lst vs) = H := by
          funext a
          by_cases ap : a = A i
          · subst ap; rw [upd_same]; exact h1.symm
          · rw [upd_ne ap]
        rw [hs] at t1 t2
        exact ⟨_, s1, .inr (p _ _ _ t1 t2 t3 rp)⟩
      | d ds =>
        obtain ⟨vs, h1, h2⟩ := s3
        refine ⟨_, s1, .inl ⟨A i, vs, rfl, h1, fun od => ?_⟩⟩
        have rp : Rep X.K (upd F (A i) (.frz od (.dK vs))) (.ref (A i)) (Mo.d ds).view := Rep.dct ⟨od, upd_same⟩ (h2.mono (le_self s2))
        obtain ⟨t1, t2, t3⟩ := fz_step (o' := .frz od (.dK vs)) er q (.inr ⟨vs, h1⟩) rp
        exact p _ _ _ t1 t2 t3 rp
end

/-! ### keywords: f(a = e, ..) -/
section
variable {X : Cx} {H0 : HE} {W : WX} {e : Expr} {kws : List Keyword} {g : EM Res} {gs : EM (List Res)} {nm : Option Str} {kpos : Pos}
theorem k_nil : PK X [] (tA X.K H0 W gNil) := ⟨fun pos pins s σ H Q I h => pk_nil.run pos pins s σ H Q I (by obtain ⟨F, ρ, A, h⟩ := h; exact h.ret (b := []) ⟨.nil, List.nodup_nil⟩)⟩
theorem k_cons (he : PE X e (tE X.K H0 W g)) (hr : PK X kws (tA X.K H0 W gs)) : PK X (⟨nm, e, kpos⟩ :: kws) (tA X.K H0 W (gCons g gs)) :=
  ⟨fun pos pins s σ H Q I h => (pk_cons he hr).run pos pins s σ H Q I (by
    obtain ⟨F, ρ, A, h⟩ := h
    refine ⟨F, ρ, A, h.bind fun x r F1 H1 ρ1 tr1 sb1 ra h1 => ⟨F1, ρ1, A, h1.bind fun xs rs F2 H2 ρ2 tr2 sb2 rb h2 => ?_⟩⟩
    obtain ⟨er, kn, o, e, p⟩ := h2
    unfold consM at e
    obtain ⟨al, e⟩ := ite_some' e
    cases e
    refine p (x :: xs) F2 H2 .refl er .refl ⟨.cons (ra.go tr2 sb2 al) (mono_rats _ _ _ _ _ _ _ _ (fun q z => z.back tr1 sb1) rb).1, ?_⟩
    cases r with
    | val d => exact rb.2
    | brw i => exact rb.2
    | new m =>
      refine List.nodup_cons.mpr ⟨fun hx => ?_, rb.2⟩
      obtain ⟨q, e1, e2⟩ := newAt_ok rb.1 x hx
      obtain ⟨pp, e3, _, no, mo, _, _⟩ := ra
      obtain ⟨ob, hob⟩ := mo.there
      have : q = pp := V.ref.inj (e1.symm.trans e3)
      subst this
      rcases e2 with z | z
      · rw [hob] at z; cases z
      · exact no z)⟩
def allVal : List Res → Bool
  | [] => true
  | .val _ :: rs => allVal rs
  | _ => false
theorem allVal_new : ∀ {vs : List V} {rs : List Res}, allVal rs = true → newAt vs rs = []
  | [], [], _ => rfl
  | [], _ :: _, _ => by unfold newAt; rfl
  | v :: vs, [], _ => by unfold newAt; rfl
  | v :: vs, .val d :: rs, h => allVal_new (vs := vs) (rs := rs) h
  | v :: vs, .new _ :: rs, h => by cases h
  | v :: vs, .brw _ :: rs, h => by cases h
/-- how the keywords' values come to the parameters -/
structure Perm where
  f : {α : Type} → List α → List α
  pr : ∀ {α β : Type} (P : α → β → Prop) (xs : List α) (ys : List β), Paired P xs ys → Paired P (f xs) (f ys)
  av : ∀ rs, allVal rs = true → allVal (f rs) = true
def Perm.id : Perm := ⟨fun l => l, fun _ _ _ h => h, fun _ h => h⟩
def swapL {α : Type} : List α → List α
  | [a, b] => [b, a]
  | l => l
def Perm.swap : Perm where
  f := swapL
  pr := fun P xs ys h => by
    cases h with
    | nil => exact .nil
    | cons a t =>
      cases t with
      | nil => exact .cons a .nil
      | cons b t =>
        cases t with
        | nil => exact .cons b (.cons a .nil)
        | cons c t => exact .cons a (.cons b (.cons c t))
  av := fun rs h => by
    match rs, h with
    | [], h => exact h
    | [a], h => exact h
    | [.val a, .val b], h => rfl
    | a :: b :: c :: t, h => exact h
def gFnK (P : Perm) (n : Nat) (m : Mir) (gs : EM (List Res)) : EM Res := gs.bind fun rs => fun ρ => if allVal rs = true ∧ (P.f rs).length = n then callM m (P.f rs) ρ else none
/-- f(k = e, ..) -/
theorem p_callK {k : Nat} {f : Addr} {fd : FuncData} {ps ks : List Str} {x : Str} {p pos : Pos} {m : Mir} {n : Nat} (P : Perm) (F : FnOk X.prog X.w X.K X.mg X.base (L2.CX X.prog X.w) k f fd ps (spM X.K H0.T n m)) (hr : Room k X.A) (hg : Gl X x) (hm : X.mg x = some (.ref f)) (hk : PySem.W.keepIn X.K (.ref f) = true)
    (hb : ∀ (ws : List Value), ws.length = ks.length → bindArgs fd ⟨[], ks.zip ws⟩ = pure (ps.zip (P.f ws))) (tk : Takes X W) (hkw : PK X kws (tA X.K H0 W gs)) (hnp : ps.length = n) (hln : ∀ {α : Type} (l : List α), (P.f l).length = ps.length → l.length = ks.length)
    (hall : (backToKw pos (keywordEach kws X.env)).all (·.1.isSome) = true := by rfl) (hks : (backToKw pos (keywordEach kws X.env)).filterMap (·.1) = ks := by rfl)
    (hdb : (x == ("__debug__" : Str)) = false := by decide)
    (hpl : ((backTo pos (starEach [] X.env)).any (·.1) || (backToKw pos (keywordEach kws X.env)).any (·.1.isNone)) = false := by rfl) :
    PE X (.Call (.Name x p) [] kws pos) (tE X.K H0 W (gFnK P n m gs)) := by
  subst hnp
  refine ⟨fun pins s σ H Q I h => ?_⟩
  refine wpAny_Call_Name_kw (ld_glob I hg hm ?_ hdb)
  refine PySem.W.callWith_KW0 (h₀ := X.base) I.ok.mod.kin hk hall ?_ hpl
  obtain ⟨F1, ρ, A, h⟩ := h
  refine thn (hkw.run pos pins s σ H (fun vs H2 => (P.f vs).length = ps.length ∧ spM X.K H0.T ps.length m (P.f vs) H2 Q (WE W σ)) I ⟨F1, ρ, A, h.bind0 fun vs rs F2 H2 ρ2 o tr sb er ra e p kn => ?_⟩) fun ws s2 ⟨zs, H2, I2, rz, l1, q2⟩ => ⟨I2.kIn, ?_⟩
  · obtain ⟨⟨c1, c2⟩, e⟩ := ite_some' e
    have pr := P.pr _ _ _ ra.1
    refine ⟨(Paired.length pr).trans c2, call_sp tr sb er ⟨pr, ?_⟩ e p kn c2⟩
    rw [allVal_new (P.av _ c1)]
    exact List.nodup_nil
  · rw [hks]
    have r2 := P.pr _ _ _ rz
    have lw : ws.length = ks.length := (Paired.length rz).symm.trans (hln zs l1)
    have b : BindsTo s2 fd ⟨[], ks.zip ws⟩ (ps.zip (P.f ws)) := .of_eq (hb ws lw)
    refine wpAny_call (codeAny_mono (F.run X.A X.stack s2 H2 ⟨[], ks.zip ws⟩ (P.f ws) (P.f zs) Q (WE W σ) hr I2.env0 b r2 q2) fun r s' hq => ?_)
    cases r with
    | error e => exact passAt tk σ pins H2 s2 e s' I2 hq
    | ok fl =>
      cases fl with
      | ret u => exact I2.after hq
      | next => exact False.elim hq
      | brk => exact False.elim hq
      | cont => exact False.elim hq
end
end M

/-! M17: tuple[::-1]. -/
namespace M
open PySem PySem.Spec PyProof.Rows L2 HT

theorem rev_places (n : Nat) : Builtin.Slice.slicePlaces ((n : Int) - 1) (-1) (-1) = n := by
  unfold Builtin.Slice.slicePlaces
  rw [if_neg (by decide)]
  by_cases h : n = 0
  · subst h; rfl
  · rw [if_pos (by omega)]
    have : ((n : Int) - 1 - -1 - 1) / - -1 + 1 = n := by
      rw [show (- -1 : Int) = 1 from rfl, Int.ediv_one]
      omega
    rw [this]
    rfl
theorem fm_congr {α β : Type} {f g : α → Option β} : ∀ {l : List α}, (∀ x ∈ l, f x = g x) → l.filterMap f = l.filterMap g
  | [], _ => rfl
  | x :: l, h => by
    rw [List.filterMap_cons, List.filterMap_cons, h x List.mem_cons_self, fm_congr fun y hy => h y (List.mem_cons_of_mem _ hy)]
theorem rev_pick (xs : Array Value) : ((List.range xs.size).filterMap fun (k : Nat) => xs[(((xs.size : Int) - 1) + (k : Int) * -1).toNat]?).toArray = xs.toList.reverse.toArray := by
  have e : ((List.range xs.size).filterMap fun (k : Nat) => xs[(((xs.size : Int) - 1) + (k : Int) * -1).toNat]?) = ((List.range xs.size).map fun k => xs.size - 1 - k).filterMap (xs[·]?) := by
    rw [List.filterMap_map]
    refine fm_congr fun k hk => ?_
    have := List.mem_range.mp hk
    have e2 : (((xs.size : Int) - 1) + (k : Int) * -1).toNat = xs.size - 1 - k := by omega
    rw [e2]
    rfl
  rw [e, PySem.W.krv_range, List.filterMap_reverse, PySem.W.krv_all]
section
variable {prog : Program} {w : World} {A : Around} {E : Value → Shared → Prop} {s : Shared}
theorem getItem_tuple_rev {t sl : Addr} {items : Array Value} {vs : Value} {Q : Value → Shared → Prop} (ht : IsTup s.heap t items) (hs : s.heap.IsSliceOf sl .none .none vs) (ps : IsPart vs (some (-1)))
    (h : Q (.ref s.heap.objs.size) { s with heap := s.heap.push { cls := .type "tuple", data := .seq items.toList.reverse.toArray } }) (hsz : items.size ≤ sizeLine) : wpAny (model prog w) A (getItem (.ref t) (.ref sl)) Q E s := by
  have htake : sizeOk (.seq items.toList.reverse.toArray) := by
    show items.toList.reverse.toArray.size ≤ sizeLine
    rw [List.size_toArray, List.length_reverse, Array.length_toList]
    exact hsz
  obtain ⟨os, hos, hcs, hds⟩ := id hs
  have hTs : s.TypeIs (.ref sl) "slice" := ⟨os, hos, hcs⟩
  unfold getItem
  try with_reducible refine wpAny_holding ?_
  first | refine wpAny_bind (wpAny_pure ?_) | skip
  refine wpAny_bind (wpAny_sequenceKey ht.typeIs (by decide) ?_)
  refine wpAny_bind (wpAny_callSpecial?_slot (name := Str.ofString "__getitem__") ht.typeIs PyProof.Rows.slot_tuple_getitem
    (wpAny_call_entry PyProof.Rows.slot_tuple_getitem ht.typeIs entry_tuple_getitem ?_ (args_tuple_getitem _ _)))
  show wpAny _ _ (Builtin.Tuple.tupleItemsOf (.ref t) >>= _) _ _ s
  refine wpAny_bind (tupleItemsOf_ ht ?_)
  refine wpAny_bind (wpAny_typeOf hTs ?_)
  rw [if_pos (by decide)]
  have step : ∀ {A' : Around} {E' : Value → Shared → Prop} {Q' : Int × Int × Nat → Shared → Prop}, Q' ((items.size : Int) - 1, -1, items.size) s → wpAny (model prog w) A' (Builtin.Slice.sliceApplied (.ref sl) (pure (items.size : Int))) Q' E' s := fun {A' E' Q'} hq => by
    unfold Builtin.Slice.sliceApplied Builtin.Slice.sliceFields
    refine wpAny_bind (wpAny_bind (wpAny_field hos hds (x := .none) rfl (wpAny_bind (wpAny_field hos hds (x := .none) rfl (wpAny_bind (wpAny_field hos hds (x := vs) rfl (wpAny_pure ?_)))))))
    refine wpAny_bind (slicePart_ ps ?_)
    show wpAny _ _ (if ((-1 : Int) == 0) = true then _ else _) _ _ s
    rw [if_neg (by decide)]
    refine wpAny_bind (slicePart_none (wpAny_bind (slicePart_none (wpAny_bind (wpAny_pure ?_)))))
    show wpAny _ _ (pure ((items.size : Int) - 1, (-1 : Int), Builtin.Slice.slicePlaces ((items.size : Int) - 1) (-1) (-1))) _ _ s
    rw [rev_places]
    exact wpAny_pure hq
  refine wpAny_bind (step ?_)
  have hno : ¬ ((((items.size : Int) - 1) == 0 && (-1 : Int) == 1 && items.size == items.size) = true) := by simp
  show wpAny _ _ (if (((items.size : Int) - 1) == 0 && (-1 : Int) == 1 && items.size == items.size) = true then _ else _) _ _ s
  rw [if_neg hno, rev_pick]
  first
    | exact wpAny_bind (m := Builtin.Tuple.tupleExact _) (wpAny_newObj_type (wpAny_pure ⟨_, rfl, wpAny_pure h⟩) htake)
    | exact wpAny_bind (m := Builtin.Tuple.tupleExact _) (wpAny_newObj_type (wpAny_bind (wpAny_pure (wpAny_pure ⟨_, rfl, wpAny_pure h⟩))) htake)
    | exact wpAny_bind (wpAny_bind (m := Builtin.Tuple.tupleExact _) (wpAny_newObj_type (wpAny_pure (wpAny_pure ⟨_, rfl, wpAny_pure h⟩)) htake))
    | exact wpAny_bind (wpAny_bind (m := Builtin.Tuple.tupleExact _) (wpAny_newObj_type (wpAny_pure ⟨_, rfl, wpAny_pure h⟩) htake))
end
def tRevT (K : PySem.W.Frag) (te : TE) : TE := fun σ H Q => te σ H fun x H1 => ∃ a xs, x = .ref a ∧ SqT K H1 a xs ∧ ∀ p, H1 p = none → Q (.ref p) (upd H1 p (.tup xs.reverse))
section
variable {X : Cx} {H0 : HE} {W : WX}
theorem pe_revT {e : Expr} {te : TE} {k : Nat} {p1 p2 p3 pos : Pos} (he : PE X e te) : PE X (.Subscript e (.Slice none none (some (.UnaryOp .USub (.Constant (.int 1) k p1) p2)) p3) pos) (tRevT X.K te) := by
  refine ⟨fun pins s σ H Q I h => ?_⟩
  refine Subscript_ (thn (he.run pins s σ H _ I h) fun v s1 ⟨x, H1, I1, r1, q1⟩ => ?_)
  obtain ⟨a, xs, ex, hx, q⟩ := q1
  subst ex
  cases r1
  have hst : PO X (some (.UnaryOp .USub (.Constant (.int 1) k p1) p2)) (tPart (tUn (rU fun i => .int (-i)) (L2.tC (.int 1)))) := po_some (pe_un un_neg pe_int)
  refine wpAny_Slice (thn (po_none.run pins s1 σ H1 (fun o H2 => o = none ∧ H2 = H1) I1 ⟨rfl, rfl⟩) fun vl s2 ⟨l, H2, I2, pl, el, e2⟩ => ?_)
  subst el e2
  refine thn (po_none.run pins s2 σ H2 (fun o H3 => o = none ∧ H3 = H2) I2 ⟨rfl, rfl⟩) fun vu s3 ⟨u, H3, I3, pu, eu, e3⟩ => ?_
  subst eu e3
  refine thn (hst.run pins s3 σ H3 (fun o H4 => o = some (-1) ∧ H4 = H3) I3 ⟨1, rfl, -1, rfl, rfl, rfl⟩) fun vs s4 ⟨o, H4, I4, ps, eo, e4⟩ => ?_
  subst eo e4
  cases pl
  cases pu
  have I5 : Inv X pins σ H4 { s4 with heap := s4.heap.push { cls := .type "slice", data := .fields #[.none, .none, vs] } } := I4.kept (t' := s4.toks) fun b ob q => Heap.get?_push_of_some _ q
  obtain ⟨its, r, ht, hz⟩ := I5.tuple hx
  have hlen := r.length
  show wpAny (model X.prog X.w) X.A (subscriptTail e (.Slice none none (some (.UnaryOp .USub (.Constant (.int 1) k p1) p2)) p3) (.ref a) (.ref s4.heap.objs.size)) (EP X pins σ Q) X.xe { s4 with heap := s4.heap.push { cls := .type "slice", data := .fields #[.none, .none, vs] } }
  refine tail_any (ops := [.ref a, .ref s4.heap.objs.size]) ht.typeIs (PyProof.Rows.slot_tuple_getitem.lookup) ?_ (by with_unfolding_all rfl)
  refine getItem_tuple_rev ht (Heap.IsSliceOf.new _ .none .none vs) ps ?_ (by rw [List.size_toArray]; omega)
  refine ⟨.ref _, _, I5.laid (t' := s4.toks) (o := .tup xs.reverse) (fun b ob q => Heap.get?_push_of_some _ q) (Nat.le_refl _) ?_, rfl, q _ (I5.hok.fresh (Nat.le_refl _))⟩
  exact ⟨by rw [List.length_reverse]; exact hz, its.reverse, r.reverse, IsTup.new _ _⟩
def fRev : D → Option Res
  | .tup ds => some (.val (.tup ds.reverse))
  | _ => none
theorem p_revT {e : Expr} {g : EM Res} {k : Nat} {p1 p2 p3 pos : Pos} (he : PE X e (tE X.K H0 W g)) : PE X (.Subscript e (.Slice none none (some (.UnaryOp .USub (.Constant (.int 1) k p1) p2)) p3) pos) (tE X.K H0 W (gUn fRev g)) :=
  (pe_revT he).weak fun σ H Q h => by
    obtain ⟨F, ρ, A, h⟩ := h
    refine ⟨F, ρ, A, h.bind fun v r F1 H1 ρ1 tr sb ra h1 => ?_⟩
    obtain ⟨d, res, e1, e2, h2⟩ := op1_at h1
    unfold fRev at e2
    split at e2
    · cases e2
      obtain ⟨a, xs, rfl, s1, r1⟩ := top_tup (ra.top h2.1 e1)
      exact ⟨a, xs, rfl, le_t h2.1.le s1, fun p hp => h2.tup r1.reverse hp⟩
    · cases e2
end
end M

/-! M18: a lambda without parameters, handed to a def that calls it in a try. -/
namespace M
open PySem PySem.Spec PyProof.Rows L2

section
variable {X : Cx} {pins : List (Addr × Obj)} {σ : L2.St} {H : Hp} {s : Shared}
/-- a lambda is made: what stood stays, the tables still tell its name -/
theorem lam_new {T : List (Addr × Str)} {c P : Addr} {params : Arguments} {body : Expr} {scope : Scope} {pos : Pos} {E : Value → Shared → Prop} {Q : Value → Shared → Prop} (I : Inv X pins σ H s) (TB : LamX.TabB X.base X.mg c P) (hcode : X.env.code = .ref c)
    (hm : (P, X.env.qual ++ "<lambda>") ∈ T) (hu : ∀ p ∈ T, p.1 = P → p.2 = X.env.qual ++ "<lambda>") (hT : LamX.Tabs T H) (hdef : defaultsOf params X.env = ([], [])) (hfree : ∀ y ∈ scope.names, y.2 = .free → ∃ c, X.env.cells.lookup y.1 = some c)
    (h : ∀ (f c' : Addr) (pm ctv : Value) (H1 : Hp) (s' : Shared), Inv X pins σ H1 s' → LamX.ExtN H H1 → (∀ b o, H b = some o → ∃ y, H1 b = some y) → LamX.Tabs T H1 →
      s'.heap.get? f = some (PySem.W.kla_obj "<lambda>" (X.env.qual ++ "<lambda>") params body scope (cloFrom X.env.cells scope.names []) pm c' ctv) → H1 f = none → f ∉ frs X.stack → H1 c' = some (LamX.CodeO c' (X.env.qual ++ "<lambda>")) → Q (.ref f) s') :
    wpAny (model X.prog X.w) X.A (eval (.Lambda params body scope pos) X.env) Q E s := by
  obtain ⟨ps, hP, tri, among⟩ := hT _ hm
  have builtP : s.heap.BuiltinsAt X.mg P := TB.bm.keeps I.bk
  have objP : s.heap.get? P = some { cls := .none, data := .fields ps } := I.hok P _ hP
  have out : ∀ f, s.heap.objs.size ≤ f → f ∉ frs X.stack := fun f hf z => (List.mem_cons.mp (I.stkSub _ z)).elim
    (fun e => Nat.lt_irrefl _ (Nat.lt_of_lt_of_le (by rw [e]; exact I.lt) hf)) (I.nofs hf)
  refine PySem.W.kla_eval hdef ?_
  generalize hc : codeAmong pos ps.toList = found
  cases found with
  | some cv =>
    -- it stands in the table
    obtain ⟨c', rfl, hco⟩ := among pos cv hc
    refine PySem.W.kla_makeFunctionHit (mg := X.mg) (c := c) (P := P) (ps := ps) (closure_ok hfree) I.ok.glob (I.mod.glob.keeps I.bk) hcode (TB.code.keeps I.bk) objP tri hc builtP fun ctv h' tk hx hsz => ?_
    exact h _ c' ((X.mg "__name__").getD .none) ctv H _ (I.kept (t' := tk) fun b o e => Heap.get?_push_of_some _ (hx b o e)) (LamX.ExtN.refl H) (fun b o e => ⟨o, e⟩) hT (Heap.get?_push_size _ rfl) (I.hok.fresh hsz) (out _ hsz) hco
  | none =>
    -- a new code object, written behind the table
    refine PySem.W.kla_makeFunction (mg := X.mg) (c := c) (P := P) (ps := ps) (closure_ok hfree) I.ok.glob (I.mod.glob.keeps I.bk) hcode (TB.code.keeps I.bk) objP tri hc TB.gP builtP fun c' ctv h' tk hx hge hlt hrec htb => ?_
    obtain ⟨c2, oc, vs, t, e2, hoc, hd, hv⟩ := hrec
    cases e2
    have big : s.heap.objs.size ≤ h'.objs.size := Nat.le_trans hge (Nat.le_of_lt hlt)
    have fresh : H c' = none := I.hok.fresh hge
    generalize hmore : (#[rawInt pos.line, rawInt pos.col, .ref c'] : Array Value) = more at htb
    have listed : (ps ++ more).toList = ps.toList ++ [rawInt pos.line, rawInt pos.col, .ref c'] := by rw [← hmore]; simp
    have J := LamX.inv_table (t' := tk) (more := more) (h' := h'.push (PySem.W.kla_obj "<lambda>" (X.env.qual ++ "<lambda>") params body scope (cloFrom X.env.cells scope.names []) ((X.mg "__name__").getD .none) c' ctv)) I hP
      (fun b o hb e => Heap.get?_push_of_some _ (hx b o hb e)) (Heap.get?_push_of_some _ htb) hge ⟨oc, vs, t, Heap.get?_push_of_some _ hoc, hd, hv⟩
    have keep : LamX.ExtN H (upd (upd H P (.tbl (ps ++ more))) c' (LamX.CodeO c' (X.env.qual ++ "<lambda>"))) := fun b o e n => by
      have n1 : b ≠ P := fun z => by rw [z, hP] at e; exact n ps (Option.some.inj e).symm
      rw [upd_ne (ne_of_none e fresh), upd_ne n1]
      exact e
    have there : ∀ b o, H b = some o → ∃ y, upd (upd H P (.tbl (ps ++ more))) c' (LamX.CodeO c' (X.env.qual ++ "<lambda>")) b = some y := fun b o e => by
      by_cases hb : b = P
      · exact ⟨.tbl (ps ++ more), by rw [upd_ne (ne_of_none e fresh), hb, upd_same]⟩
      · exact ⟨o, by rw [upd_ne (ne_of_none e fresh), upd_ne hb]; exact e⟩
    have nf1 : h'.objs.size ≠ c' := Nat.ne_of_gt hlt
    have nf2 : h'.objs.size ≠ P := Nat.ne_of_gt (Nat.lt_of_lt_of_le (Heap.lt_size objP) big)
    refine h h'.objs.size c' ((X.mg "__name__").getD .none) ctv _ _ J keep there (fun p hp => ?_) (Heap.get?_push_size _ rfl) (by rw [upd_ne nf1, upd_ne nf2]; exact I.hok.fresh big) (out _ big) upd_same
    by_cases hb : p.1 = P
    · rw [hu p hp hb, hb]
      refine ⟨ps ++ more, by rw [upd_ne (ne_of_none hP fresh), upd_same], by rw [listed]; exact PySem.TriplesOk_snoc _ _ _ _ tri, fun p' cv hcv => ?_⟩
      rw [listed] at hcv
      rcases LamX.among_app _ tri hcv with z | z
      · obtain ⟨c0, e1, e2⟩ := among p' cv z
        exact ⟨c0, e1, keep _ _ e2 LamX.codeO_ne⟩
      · exact ⟨c', z, upd_same⟩
    · obtain ⟨qs, a1, a2, a3⟩ := hT p hp
      refine ⟨qs, by rw [upd_ne (ne_of_none a1 fresh), upd_ne hb]; exact a1, a2, fun p' cv hcv => ?_⟩
      obtain ⟨c0, e1, e2⟩ := a3 p' cv hcv
      exact ⟨c0, e1, keep _ _ e2 LamX.codeO_ne⟩
end

/-! ### the mirror -/
/-- the def that gets the lambda: try: return (told, a()) / except cs as e: suite. N its names; g the suite, from [un, exc C fs, ..] -/
def gHeard (N : Nat) (told : Str) (mt : Value → Option Bool) (g : EM Fl) (ge : EM Res) : EM Res := fun ρ => if noE ρ = true then (match ge ρ with
  | some (.ok (.val d) ρ') => some (.ok (.val (.tup [.str told, d])) ρ')
  | some (.ex C fs ρ') => (match mt C with
    | some true => (match g (.un :: .exc C fs :: List.replicate (N - 2) .un) with
      | some (.ok (.rt (.val d)) _) => some (.ok (.val d) ρ')
      | _ => none)
    | _ => none)
  | _ => none) else none
section
variable {X : Cx} {H0 : HE} {W : WX}
/-- the wish about exceptions, of names of the right number -/
theorem takes_len {W' : WX} (tk : Takes X W') : Takes X (fun cls d σ H => σ.length = X.N.length → W' cls d σ H) := fun u s' ⟨a, B, sI, pins, σ, H, cls, d, e, I, nb, up, sky, na, os, ag, w⟩ =>
  tk u s' ⟨a, B, sI, pins, σ, H, cls, d, e, I, nb, up, sky, na, os, ag, w I.len⟩
theorem p_heard {x a en told : Str} {g c P : Addr} {k : Nat} {pg : Arguments} {sg : Scope} {dV kV doc pm cdv ct oc : Value} {an od : Option Addr} {osl : Array (Option Value)} {Ng : List Str}
    {params : Arguments} {body : Expr} {scope : Scope} {p lpos pos q1 q2 q3 q4 q5 q6 q7 : Pos} {j j2 : Nat} {te : Expr} {cs : List Value} {b₀ : Stmt} {suite : List Stmt} {mt : Value → Option Bool} {gs : EM Fl} {ge : EM Res} {nN : Nat}
    (hg : Gl X x) (hm : X.mg x = some (.ref g)) (hk : PySem.W.keepIn X.K (.ref g) = true)
    (lk : X.K.lookup g = some ⟨oc, od, .func (PySem.W.fnOf x x pg [.Try [.Return (some (.Tuple [.Constant (.str told) j q1, .Call (.Name a q2) [] [] q3] j2 q4)) q5] [.ExceptHandler (some te) (some en) (b₀ :: suite) q6] [] [] q7] sg dV kV doc pm an cdv ct), osl⟩) (hcg : PySem.W.codeIn X.K cdv x = true)
    (hb : L2.Binds X.K (PySem.W.fnOf x x pg [.Try [.Return (some (.Tuple [.Constant (.str told) j q1, .Call (.Name a q2) [] [] q3] j2 q4)) q5] [.ExceptHandler (some te) (some en) (b₀ :: suite) q6] [] [] q7] sg dV kV doc pm an cdv ct) [a] []) (Sg : FnScope Ng [a] sg) (hN0 : Ng[0]? = some a) (hN1 : Ng[1]? = some en) (hva : Vis sg a) (hln : sg.names.lookup en = some .local) (h2 : 2 ≤ Ng.length) (hNl : Ng.length = nN)
    (TB : LamX.TabB X.base X.mg c P) (hcode : X.env.code = .ref c) (hmT : (P, X.env.qual ++ "<lambda>") ∈ H0.T) (hu : ∀ p ∈ H0.T, p.1 = P → p.2 = X.env.qual ++ "<lambda>") (hr : Room (k + 2) X.A) (L : LamX.LamS X.env.scope scope) (hdef : defaultsOf params X.env = ([], []))
    (hbind : ∀ (q : Str) (cl : List (Str × Addr)) (pm cv ctv : Value), bindArgs (PySem.W.kla_fn "<lambda>" q params body scope cl pm cv ctv) ⟨[], []⟩ = pure [])
    (hbody : ∀ (A : Around) (outer : List Env) (s : Shared) (H : Hp) (E : XK) (f c' : Addr), Room k (A.deeper (LamX.lamEnv X scope s.heap.objs.size f c')) → Takes (LamX.lamCx X A outer s H E scope f c') (fun cls d _ H' => E cls d H') → PE (LamX.lamCx X A outer s H E scope f c') body (tE X.K H0 (fun cls d _ H' => E cls d H') ge))
    (hcl : ∀ (s : Shared) (H : Hp), ClOk (cxOf C8.CX0 X.prog X.w X.K X.mg X.base Ng x sg g cdv X.A X.stack s H C8.E0) te cs) (hmt : ∀ cls b, mt cls = some b → PySem.W.exmAny X.K cls cs = some b)
    (hsu : ∀ (s : Shared) (H : Hp) (h0 : HE) (ae : Addr) (oe : Obj) (cls : Value) (d : Option Addr) (pn : List (Addr × Obj)), h0.T = H0.T → Room (k + 1) (X.A.deeper (envOfC x sg s.heap.objs.size g cdv)) → Zc cls d oe → (∃ vs, oe.data = .fields vs) → PSs ((cxOf C8.CX0 X.prog X.w X.K X.mg X.base Ng x sg g cdv X.A X.stack s H C8.E0).suite ae ((ae, oe) :: pn)) (b₀ :: suite) (tSt X.K (h0.sees ae cls d) (fun _ _ _ _ => False) gs))
    (hdb : (x == ("__debug__" : Str)) = false := by decide) (hd : (a == ("__debug__" : Str)) = false := by decide) (hcd : (a == ("__classdict__" : Str)) = false := by decide) :
    PE X (.Call (.Name x p) [.Lambda params body scope lpos] [] pos) (tE X.K H0 W (gHeard nN told mt gs ge)) := by
  subst hNl
  refine ⟨fun pins s σ H Q I h => ?_⟩
  obtain ⟨F, ρ, A, er, kn, o, e, post⟩ := h
  unfold gHeard at e
  obtain ⟨hno, e⟩ := ite_some' e
  refine wpAny_Call_Name_kw (ld_glob I hg hm ?_ hdb)
  refine PySem.W.callWith_K (h₀ := X.base) I.ok.mod.kin hk ?_ (by rfl) (by rfl)
  show wpAny _ _ (spliced ((false, eval (.Lambda params body scope lpos) X.env) :: backTo pos (starEach [] X.env))) _ _ s
  refine Calls.spliced_cons (lam_new I TB hcode hmT hu er.tabs hdef (L.has I.ok) fun f c' pm' ctv H1 s' I1 eN th T1 hf hfn hfr hco => ?_)
  refine Calls.spliced_nil ⟨I1.kIn, ?_⟩
  -- the state behind the making
  have er1 : ER X.K H0 F H1 σ ρ A := by
    refine ⟨er.len, ⟨fun b u n z => ?_, fun b u z => ?_, fun b xs z => eN _ _ (er.le.ls b xs z) (fun _ w => nomatch w), fun b xs z => eN _ _ (er.le.xd b xs z) (fun _ w => nomatch w), fun b o u z => eN _ _ (er.le.fz b o u z) (fun _ w => nomatch w)⟩, fun i sl q => ?_, er.inj, fun b u z => ?_, T1⟩
    · rcases er.le.rd b u n z with q | ⟨y, q⟩
      · exact .inl (eN _ _ q n)
      · exact .inr ⟨y, eN _ _ q (fun _ w => nomatch w)⟩
    · obtain ⟨y, hy⟩ := er.le.th b u z
      exact th b y hy
    · have so := er.sl i sl q
      have mk : ∀ {b : Addr} {m : Mo}, MoAt X.K F H b m → MoAt X.K F H1 b m := fun {b m} mo => by
        obtain ⟨ob, hob⟩ := mo.there
        exact mo.keep ((eN _ _ hob (mo.ntbl hob)).trans hob.symm)
      cases sl with
      | un => trivial
      | val d => exact so
      | exc C fs => exact so
      | own m => exact ⟨so.1, so.2.1, mk so.2.2.1, so.2.2.2⟩
      | par m => exact ⟨so.1, so.2.1, mk so.2.2⟩
    · obtain ⟨y, hy⟩ := er.dom b u z
      exact th b y hy
  have tr1 : Tr (OwnA ρ A) F H F H1 := ⟨Le.refl F, fun b u _ n z => eN _ _ z n, fun b u z => .inl ⟨u, z⟩, th⟩
  -- the def runs
  have rc : codeAny (model X.prog X.w) X.A (.call (.ref g) ⟨[.ref f], []⟩) (CR C8.CX0 X.stack X.prog X.w H1 s' Q C8.E0) s' := by
    refine LamX.run_ofS (N := Ng) (ps := [a]) (us := [.ref f]) (vs := [.ref f]) lk hcg Sg hr I1.env0 (hb s' [.ref f] I1.kIn rfl) (.cons rfl .nil) rfl fun hr' => ?_
    have act := fun (W : WX) (pn : List (Addr × Obj)) (xe : Value → Shared → Prop) (E : XK) (p1 p2 : Pos) (tk : Takes ((cxOf C8.CX0 X.prog X.w X.K X.mg X.base Ng x sg g cdv X.A X.stack s' H1 C8.E0).tr pn xe) W) (hW : ∀ cls d σ' H', E cls d H' → W cls d σ' H') =>
      LamX.pe_act (i := 0) (p1 := p1) (p2 := p2) (pn := pn) (xe := xe) (W := W) (E := E) I1 L hf hfn hfr (hbind _ _ _ _ _) tk hW hr' (fun A outer s H hr2 => hbody A outer s H E f c' hr2 (takes_of rfl rfl rfl rfl)) hN0 hva hd hcd
    -- its wish about the body's exceptions
    let D0 : Ends := { nx := fun _ H' => Q .non H', rt := Q }
    let ts : Addr → Value → Option Addr → TS := fun ae cls d => tSt X.K ((⟨H1, fun _ _ _ => False, H0.T⟩ : HE).sees ae cls d) (fun _ _ _ _ => False) gs
    let Ech : XK := fun cls d H' => ∀ σ' : L2.St, σ'.length = Ng.length → wCl X.K (fun _ _ _ _ => False) D0 [⟨cs, some 1, ts⟩] cls d σ' H'
    refine ⟨fun D σZ HZ => σZ[0]? = some (some (.ref f)) ∧ HZ c' = some (LamX.CodeO c' (X.env.qual ++ "<lambda>")) ∧ D.rt = Q ∧ D.nx = D0.nx ∧ D.bk = D0.bk ∧ D.ct = D0.ct ∧ tE X.K H0 (fun cls d _ H' => Ech cls d H') ge σ HZ (fun v H' => ∀ pp, H' pp = none → Q (.ref pp) (upd H' pp (.tup [.str told, v]))), ?_, ?_⟩
    · refine pss_one ((ps_try_cl (l := [⟨cs, some 1, ts⟩]) (Wout := fun _ _ _ _ => False)
        (tb := fun W D σZ HZ => ∃ Ec : XK, (∀ cls d σ' H', Ec cls d H' → σ'.length = Ng.length → W cls d σ' H') ∧ σZ[0]? = some (some (.ref f)) ∧ HZ c' = some (LamX.CodeO c' (X.env.qual ++ "<lambda>")) ∧ tE X.K H0 (fun cls d _ H' => Ec cls d H') ge σ HZ (fun v H' => ∀ pp, H' pp = none → D.rt (.ref pp) (upd H' pp (.tup [.str told, v]))))
        rfl rfl Sg.nd LamX.takes0 (fun W pn xe tk _ => ?_) ?_).weak ?_)
      · refine ⟨fun pinsZ sZ σZ HZ D IZ hq => ?_⟩
        obtain ⟨Ec, hW, z0, zc, zt⟩ := hq
        have hp := act (fun cls d σ' H' => σ'.length = Ng.length → W cls d σ' H') pn xe Ec q2 q3 (takes_len tk) (fun cls d σ' H' hE hl => hW cls d σ' H' hE hl)
        refine (pss_one (ps_ret (pos := q5) (pe_tup (pa_cons pe_str (pa_cons hp pa_nil))))).run pinsZ sZ σZ HZ D IZ ?_
        obtain ⟨F2, ρ2, A2, er2, kn2, o2, e2, po2⟩ := zt
        refine ⟨z0, zc, F2, ρ2, A2, er2, kn2, o2, e2, ?_⟩
        cases o2 with
        | ok r ρ3 => exact fun v F' H' tr' er' sb' ra' => ⟨by rw [sizeLine_eq]; simp, fun pp hpp => po2 v F' H' tr' er' sb' ra' pp hpp⟩
        | ex C fs ρ3 => exact po2
      · refine .as (hcl s' H1) hN1 hln (fun ae oe cls d pn hz hfv => hsu s' H1 ⟨H1, fun _ _ _ => False, H0.T⟩ ae oe cls d pn rfl hr' hz hfv) .nil
      · rintro D σZ HZ ⟨z0, zc, hD, hnx, hbk, hct, zt⟩
        obtain ⟨dnx, drt, dbk, dct⟩ := D
        dsimp only at hD hnx hbk hct
        subst hD hnx hbk hct
        exact ⟨Ech, fun cls d σ' H' hE hl => hE σ' hl, z0, zc, zt⟩
    · refine ⟨rfl, hco, rfl, rfl, rfl, rfl, F, ρ, A, er1, fun _ z => z, ?_⟩
      cases eg : ge ρ with
      | none => rw [eg] at e; cases e
      | some og =>
        rw [eg] at e
        refine ⟨og, rfl, ?_⟩
        have tt : ∀ {F' H' : Hp}, Tr (OwnA ρ A) F H1 F' H' → Tr (OwnA ρ A) F H F' H' := fun t => tr1.trans t fun _ z => .inl z
        cases og with
        | ok r ρ' =>
          cases r with
          | new m => cases e
          | brw i => cases e
          | val d =>
            cases e
            intro v F' H' tr' er' sb' ra' pp hpp
            exact post (.ref pp) (upd F' pp (.tup [.str told, v])) _ ((tt tr').then sb' (Tr.laidF er'.le hpp)) (er'.laidF hpp) sb' (Rep.tup (.inl (.inl upd_same)) (.cons (.str told) (.cons (Rep.mono (le_self (free_F er'.le hpp)) ra') .nil)))
        | ex C fs ρ' =>
          dsimp only at e
          cases em : mt C with
          | none => rw [em] at e; cases e
          | some b =>
            rw [em] at e
            cases b with
            | false => cases e
            | true =>
              dsimp only at e
              cases es : gs (.un :: .exc C fs :: List.replicate (Ng.length - 2) .un) with
              | none => rw [es] at e; cases e
              | some os =>
                rw [es] at e
                cases os with
                | ex _ _ _ => cases e
                | ok fl ρs =>
                  cases fl with
                  | nx => cases e
                  | bk => cases e
                  | ct => cases e
                  | rt rs =>
                    cases rs with
                    | new _ => cases e
                    | brw _ => cases e
                    | val d =>
                      cases e
                      intro dx F' H' tr' er' sb' xa σ' hl
                      refine ⟨true, hmt C true em, fun _ ae hae => ?_, fun z => by cases z⟩
                      -- the suite, from its own names
                      have hl1 : 1 < σ'.length := by omega
                      have erZ : ER X.K ((⟨H1, fun _ _ _ => False, H0.T⟩ : HE).sees ae C dx) F' H' (σ'.set 1 (some (.ref ae))) (.un :: .exc C fs :: List.replicate (Ng.length - 2) .un) (fun _ => 0) := by
                        have gx : ∀ i s, (Slot.un :: Slot.exc C fs :: List.replicate (Ng.length - 2) Slot.un)[i]? = some s → s = .un ∨ (i = 1 ∧ s = .exc C fs) := fun i s q => by
                          match i, q with
                          | 0, q => exact .inl (Option.some.inj q).symm
                          | 1, q => exact .inr ⟨rfl, (Option.some.inj q).symm⟩
                          | i + 2, q =>
                            have q' : (List.replicate (Ng.length - 2) Slot.un)[i]? = some s := q
                            rw [List.getElem?_replicate] at q'
                            split at q'
                            · exact .inl (Option.some.inj q').symm
                            · cases q'
                        have nm : ∀ i m, moAt (Slot.un :: Slot.exc C fs :: List.replicate (Ng.length - 2) Slot.un) i ≠ some m := fun i m q => by
                          unfold moAt at q
                          cases w : (Slot.un :: Slot.exc C fs :: List.replicate (Ng.length - 2) Slot.un)[i]? with
                          | none => rw [w] at q; cases q
                          | some s =>
                            rw [w] at q
                            rcases gx i s w with rfl | ⟨_, rfl⟩ <;> cases q
                        refine ⟨?_, er'.le, fun i s q => ?_, fun i j m m' q => absurd q (nm i m), fun b u z => tr'.there b u z, er'.tabs⟩
                        · rw [List.length_set, hl, List.length_cons, List.length_cons, List.length_replicate]
                          omega
                        · rcases gx i s q with rfl | ⟨rfl, rfl⟩
                          · trivial
                          · exact ⟨ae, dx, List.getElem?_set_self hl1, ⟨rfl, rfl, rfl⟩, xa⟩
                      refine ⟨F', _, _, erZ, _, es, ?_⟩
                      intro v σ2 F2 H2 A2 tr2 er2 s2 ra2
                      have noS : ∀ b, ¬ OwnA (Slot.un :: Slot.exc C fs :: List.replicate (Ng.length - 2) Slot.un) (fun _ => 0) b := fun b ⟨i, m, q, _⟩ => by
                        unfold moAt at q
                        match i, q with
                        | 0, q => cases q
                        | 1, q => cases q
                        | i + 2, q =>
                          have q' : ((List.replicate (Ng.length - 2) Slot.un)[i]?).bind Slot.mo? = some m := q
                          rw [List.getElem?_replicate] at q'
                          split at q' <;> cases q'
                      have tr3 : Tr (fun _ => False) F' H' F2 H2 := tr2.mono fun b z => noS b z
                      obtain ⟨er3, _⟩ := ER.change (ρ' := ρ') er' tr3 er2.le er2.tabs rfl fun i => .inl ⟨rfl, fun _ _ z => z⟩
                      exact post v F2 H2 ((tt tr').trans tr3 fun _ z => z.elim) er3 sb' (show Rep X.K F2 v d from ra2)
  refine wpAny_call (codeAny_mono rc fun r s2 hq => ?_)
  cases r with
  | error e => exact (show False from hq).elim
  | ok fl =>
    cases fl with
    | ret u => exact I1.after hq
    | next => exact False.elim hq
    | brk => exact False.elim hq
    | cont => exact False.elim hq
end
end M

/-! M19: a op1 b op2 c op3 d. -/
namespace M
open PySem PySem.Spec PyProof.Rows L2

def tChain3 (r r' r'' : R2) (ta tb tc td : TE) : TE := fun σ H Q => ta σ H fun x H1 => tb σ H1 fun y H2 => r x y H2 fun z H3 => ∃ k, z = .bl k ∧
  (if k = true then tc σ H3 fun w H4 => r' y w H4 fun z' H5 => ∃ k', z' = .bl k' ∧ (if k' = true then td σ H5 fun v H6 => r'' w v H6 Q else Q (.bl false) H5) else Q (.bl false) H3)
section
variable {X : Cx} {H0 : HE} {W : WX} {a b c d : Expr} {ta tb tc td : TE} {pos : Pos} {ga gb gc gd : EM Res}
theorem pt_chain3 {op op' op'' : CmpOp} {r r' r'' : R2} (ho : OpR X (compareOp op) r) (ho' : OpR X (compareOp op') r') (ho'' : OpR X (compareOp op'') r'') (ha : PE X a ta) (hb : PE X b tb) (hc : PE X c tc) (hd : PE X d td)
    (hm : lastMarks [op, op', op''] [b, c, d] = false := by with_unfolding_all rfl) : PT X (.Compare a [op, op', op''] [b, c, d] pos) (tTest (tChain3 r r' r'' ta tb tc td)) := by
  refine ⟨fun pins s σ H Q I h => ?_⟩
  refine isTrue_chain (thn (ha.run pins s σ H _ I h) fun v s1 ⟨x, H1, I1, r1, q1⟩ => test_link (thn (hb.run pins s1 σ H1 _ I1 q1) fun u s2 ⟨y, H2, I2, r2, q2⟩ =>
    thn (ho pins s2 σ H2 x y v u _ I2 r1 r2 q2) fun d s3 ⟨z, H3, I3, r3, k, e, q3⟩ => ?_)) hm
  subst e
  cases r3
  refine wpAny_truthy_bool ?_
  cases k with
  | false =>
    obtain ⟨k', e', q'⟩ := q3
    cases e'
    exact ite_ff ⟨H3, I3, q'⟩
  | true =>
    refine ite_tt (test_link (thn (hc.run pins s3 σ H3 _ I3 q3) fun w' s4 ⟨z', H4, I4, r4, q4⟩ => thn (ho' pins s4 σ H4 y z' u w' _ I4 r2 r4 q4) fun d' s5 ⟨z2, H5, I5, r5, k2, e2, q5⟩ => ?_))
    subst e2
    cases r5
    refine wpAny_truthy_bool ?_
    cases k2 with
    | false =>
      obtain ⟨k', e', q'⟩ := q5
      cases e'
      exact ite_ff ⟨H5, I5, q'⟩
    | true =>
      refine ite_tt (test_last (thn (hd.run pins s5 σ H5 _ I5 q5) fun w2 s6 ⟨z3, H6, I6, r6, q6⟩ => thn (ho'' pins s6 σ H6 z' z3 w' w2 _ I6 r4 r6 q6) fun d2 s7 ⟨z4, H7, I7, r7, k3, e3, q7⟩ => ?_))
      subst e3
      cases r7
      exact wpAny_truthy_bool ⟨H7, I7, q7⟩
def gChain3 (f f' f'' : D → D → Option Res) (ga gb gc gd : EM Res) : EM Res := ga.bind fun r1 => gb.bind fun r2 => (op2 f r1 r2).bind fun r => (blM r).bind fun k => if k = true then
  (gc.bind fun r3 => (op2 f' r2 r3).bind fun r => (blM r).bind fun k => if k = true then gd.bind fun r4 => op2 f'' r3 r4 else EM.pure (.val (.bl false))) else EM.pure (.val (.bl false))
/-- the step behind a comparison -/
theorem link_at {K : PySem.W.Frag} {F H : Hp} {ρ : En} {A : Nat → Addr} {σ : L2.St} {ok : Addr → Prop} {Q : VK} {r : Res} {v : V} {okr : Addr → Prop} {g : EM Res} (ra : RAt K H0 okr F H ρ A v r)
    (h : WpAt K H0 W (RAt K H0) ok F ρ A ((blM r).bind fun k => if k = true then g else EM.pure (.val (.bl false))) σ H Q) : ∃ k, v = .bl k ∧ (if k = true then WpAt K H0 W (RAt K H0) ok F ρ A g σ H Q else Q (.bl false) H) := by
  obtain ⟨er, kn, o, e, p⟩ := h
  cases r with
  | new m => cases e
  | brw i => cases e
  | val d =>
    cases d with
    | bl k =>
      cases ra
      refine ⟨k, rfl, ?_⟩
      cases k with
      | false =>
        rw [if_neg Bool.false_ne_true]
        have e' : EM.pure (Res.val (.bl false)) ρ = some o := e
        exact WpAt.val ⟨er, kn, o, e', p⟩ (.bl false)
      | true =>
        rw [if_pos rfl]
        have e' : g ρ = some o := e
        exact ⟨er, kn, o, e', p⟩
    | _ => cases e
theorem chain3_weak {K : PySem.W.Frag} {r r' r'' : R2} {f f' f'' : D → D → Option Res} (hs : Snd2 K r f) (hs' : Snd2 K r' f') (hs'' : Snd2 K r'' f'') (σ : L2.St) (H : Hp) (Q : VK) (h : tE K H0 W (gChain3 f f' f'' ga gb gc gd) σ H Q) : tChain3 r r' r'' (tE K H0 W ga) (tE K H0 W gb) (tE K H0 W gc) (tE K H0 W gd) σ H Q := by
  obtain ⟨F, ρ, A, h⟩ := h
  refine ⟨F, ρ, A, h.bind fun x r1 F1 H1 ρ1 tr1 sb1 ra h1 => ⟨F1, ρ1, A, h1.bind fun y r2 F2 H2 ρ2 tr2 sb2 rb h2 => ?_⟩⟩
  have h3 : WpAt K H0 W (RAt K H0) (Okp ρ2 A H2) F2 ρ2 A (op2 f r1 r2) σ H2 (fun z H3 => ∃ k, z = .bl k ∧ (if k = true then tE K H0 W gc σ H3 fun w H4 => r' y w H4 fun z' H5 => ∃ k', z' = .bl k' ∧ (if k' = true then tE K H0 W gd σ H5 fun v H6 => r'' w v H6 Q else Q (.bl false) H5) else Q (.bl false) H3)) := by
    refine h2.bind fun z rz F3 H3 ρ3 tr3 sb3 rc h4 => ?_
    obtain ⟨k, rfl, h5⟩ := link_at rc h4
    refine ⟨k, rfl, ?_⟩
    cases k with
    | false => rw [if_neg Bool.false_ne_true] at h5 ⊢; exact h5
    | true =>
      rw [if_pos rfl] at h5 ⊢
      refine ⟨F3, ρ3, A, h5.bind fun w r3 F4 H4 ρ4 tr4 sb4 rd h6 => ?_⟩
      have h7 : WpAt K H0 W (RAt K H0) (Okp ρ4 A H4) F4 ρ4 A (op2 f' r2 r3) σ H4 (fun z' H5 => ∃ k', z' = .bl k' ∧ (if k' = true then tE K H0 W gd σ H5 fun v H6 => r'' w v H6 Q else Q (.bl false) H5)) := by
        refine h6.bind fun z rz F5 H5 ρ5 tr5 sb5 re h8 => ?_
        obtain ⟨k, rfl, h9⟩ := link_at re h8
        refine ⟨k, rfl, ?_⟩
        cases k with
        | false => rw [if_neg Bool.false_ne_true] at h9 ⊢; exact h9
        | true =>
          rw [if_pos rfl] at h9 ⊢
          refine ⟨F5, ρ5, A, h9.bind fun v r4 F6 H6 ρ6 tr6 sb6 rf h10 => ?_⟩
          obtain ⟨d1, d2, res, e1, e2, e3, h11⟩ := op2_at h10
          exact hs'' H0 W _ F6 H6 ρ6 A σ w v d1 d2 res Q (rd.later h11.1 (tr5.then sb5 tr6) (sb5.trans sb6) e1) (rf.top h11.1 e2) e3 h11
      obtain ⟨d1, d2, res, e1, e2, e3, h8⟩ := op2_at h7
      exact hs' H0 W _ F4 H4 ρ4 A σ y w d1 d2 res _ (rb.later h8.1 (tr3.then sb3 tr4) (sb3.trans sb4) e1) (rd.top h8.1 e2) e3 h8
  obtain ⟨d1, d2, res, e1, e2, e3, h4⟩ := op2_at h3
  exact hs H0 W _ F2 H2 ρ2 A σ x y d1 d2 res _ (ra.later h4.1 tr2 sb2 e1) (rb.top h4.1 e2) e3 h4
theorem p_tchain3 {op op' op'' : CmpOp} {r r' r'' : R2} {f f' f'' : D → D → Option Res} (ho : OpR X (compareOp op) r) (hs : Snd2 X.K r f) (ho' : OpR X (compareOp op') r') (hs' : Snd2 X.K r' f') (ho'' : OpR X (compareOp op'') r'') (hs'' : Snd2 X.K r'' f'')
    (ha : PE X a (tE X.K H0 W ga)) (hb : PE X b (tE X.K H0 W gb)) (hc : PE X c (tE X.K H0 W gc)) (hd : PE X d (tE X.K H0 W gd))
    (hm : lastMarks [op, op', op''] [b, c, d] = false := by with_unfolding_all rfl) : PT X (.Compare a [op, op', op''] [b, c, d] pos) (tT X.K H0 W (gBl (gChain3 f f' f'' ga gb gc gd))) := (pt_chain3 ho ho' ho'' ha hb hc hd hm).weak fun σ H Q h => by
  obtain ⟨F, ρ, A, h⟩ := h
  exact chain3_weak hs hs' hs'' σ H _ ⟨F, ρ, A, h.bind fun x r F1 H1 ρ1 tr sb ra h1 => bl_at ra h1⟩
end
end M

/-! M20: what the head tells: own exception classes, the law's end. -/
namespace M
open PySem PySem.Spec PyProof.Rows L2

def clsB (K : PySem.W.Frag) (C : Addr) : Bool := match K.lookup C with
  | some ⟨.type "type", _, .cls cd, sl⟩ => (match cd.mro, sl.toList with
    | .ref C' :: bm, [_, _, _, _, some (.builtin n), _] => C' == C && n == "ValueError.__new__" && !cd.hasDel && cd.hasDict && PySem.HandSPX.refsVE bm
    | _, _ => false)
  | _ => false
theorem clsB_ok {K : PySem.W.Frag} {C : Addr} (h : clsB K C = true) : ∃ nm q N bs bm sn sub ab col dd k0 k1 k2 k3 k5, K.lookup C = some (excClassObj nm q C N bs bm true sn sub ab col dd k0 k1 k2 k3 k5 "ValueError.__new__") ∧ PySem.HandSPX.refsVE bm = true := by
  unfold clsB at h
  split at h
  · rename_i dd cd sl ho
    split at h
    · rename_i C' bm k0 k1 k2 k3 n k5 hm hs
      simp only [Bool.and_eq_true, beq_iff_eq, Bool.not_eq_true'] at h
      obtain ⟨⟨⟨⟨rfl, rfl⟩, hdel⟩, hd⟩, ht⟩ := h
      obtain ⟨nm, bs, mro, ns, qn, hdd, sn, sub, ab, col, del⟩ := cd
      dsimp only at hm hdel hd
      subst hm hdel hd
      have hsl : sl = #[k0, k1, k2, k3, some (.builtin "ValueError.__new__"), k5] := by
        obtain ⟨l⟩ := sl
        simp only at hs
        rw [hs]
      subst hsl
      exact ⟨nm, qn, ns, bs, bm, sn, sub, ab, col, dd, k0, k1, k2, k3, k5, ho, ht⟩
    · cases h
  · cases h
def oexB (K : PySem.W.Frag) (C : Addr) : Bool := clsB K C && (decide (PySem.W.findIn K (.ref C) "__setattr__" = some (some (.builtin "object.__setattr__"))) && (decide (PySem.W.subIn K (.ref C) (.type "BaseException") = some true) && (decide (PySem.W.typeIn K (.ref C) = some (.type "type")) && PySem.W.keepIn K (.ref C))))
theorem oexB_ok {K : PySem.W.Frag} {C : Addr} (h : oexB K C = true) : OexC K C := by
  obtain ⟨h1, h⟩ := Bool.and_eq_true_iff.mp h
  obtain ⟨h2, h⟩ := Bool.and_eq_true_iff.mp h
  obtain ⟨h3, h⟩ := Bool.and_eq_true_iff.mp h
  obtain ⟨h4, h5⟩ := Bool.and_eq_true_iff.mp h
  exact ⟨clsB_ok h1, of_decide_eq_true h2, of_decide_eq_true h3, of_decide_eq_true h4, h5⟩
def excB (K : PySem.W.Frag) (D : Addr) : Bool := decide (PySem.W.findIn K (.ref D) "__getattribute__" = some (some (.builtin "BaseException.__getattribute__"))) && (decide (PySem.W.findIn K (.ref D) "__getattr__" = some none) && (decide (PySem.W.subIn K (.ref D) (.type "BaseException") = some true) && (PySem.W.hasDictIn K D &&
  (decide (PySem.W.findIn K (.ref D) "__class__" = some (some (.builtin "object.__class__"))) && (decide (PySem.W.specialIn K (.builtin "object.__class__") "__get__" = some (some (.builtin "getset_descriptor.__get__"))) && (decide (PySem.W.takesIn K (.builtin "object.__class__") = some true) && decide (PySem.W.mroIn K D (.type "object") = some true)))))))
theorem excB_ok {K : PySem.W.Frag} {D : Addr} (h : excB K D = true) : L2.ExcC K D := by
  obtain ⟨h1, h⟩ := Bool.and_eq_true_iff.mp h
  obtain ⟨h2, h⟩ := Bool.and_eq_true_iff.mp h
  obtain ⟨h3, h⟩ := Bool.and_eq_true_iff.mp h
  obtain ⟨h4, h⟩ := Bool.and_eq_true_iff.mp h
  obtain ⟨h5, h⟩ := Bool.and_eq_true_iff.mp h
  obtain ⟨h6, h⟩ := Bool.and_eq_true_iff.mp h
  obtain ⟨h7, h8⟩ := Bool.and_eq_true_iff.mp h
  exact ⟨of_decide_eq_true h1, of_decide_eq_true h2, of_decide_eq_true h3, h4, of_decide_eq_true h5, of_decide_eq_true h6, of_decide_eq_true h7, of_decide_eq_true h8⟩
/-- a table over classes -/
def tabM (l : List (Addr × Bool)) : Value → Option Bool
  | .ref a => (l.find? fun p => p.1 == a).map (·.2)
  | _ => none
theorem tabM_ok {l : List (Addr × Bool)} {P : Addr → Bool → Prop} (h : ∀ p ∈ l, P p.1 p.2) {C : Value} {b : Bool} (e : tabM l C = some b) : ∃ a, C = .ref a ∧ P a b := by
  cases C with
  | ref a =>
    obtain ⟨p, e1, rfl⟩ := map_some' (show (l.find? fun p => p.1 == a).map (·.2) = some b from e)
    have e2 : p.1 = a := by
      have := List.find?_some e1
      simpa using this
    refine ⟨p.1, by rw [e2], h p (List.mem_of_find?_eq_some e1)⟩
  | _ => cases e
def isR (l : List Addr) : Value → Bool
  | .ref a => l.contains a
  | _ => false
theorem isR_ok {l : List Addr} {P : Addr → Prop} (h : ∀ a ∈ l, P a) {C : Value} (e : isR l C = true) : ∃ a, C = .ref a ∧ P a := by
  cases C with
  | ref a => exact ⟨a, rfl, h a (by simpa [isR] using e)⟩
  | _ => cases e
/-- an own exception's __init__ that stores its parameters: one, two -/
theorem init1 {P : Program} {w : World} {K : PySem.W.Frag} {mg : Str → Option Value} {base : Heap} {qual self a f : Str} {params : Arguments} {scope : Scope} {fI : Addr} {fd : FuncData} {p1 p2 p3 p4 : Pos} {CX : CXT}
    (Fd : FunD K "__init__" qual params [.Assign [.Attribute (.Name self p1) f p2] (.Name a p3) p4] scope [] [] fI fd) (S : FnScope [self, a] [self, a] scope) (hs : ∀ env, swapsWith (.Name a p3) (some (.Attribute (.Name self p1) f p2)) p4.line env = pure false) (d1 : (self == ("__debug__" : Str)) = false) (d2 : (self == ("__classdict__" : Str)) = false) (d3 : (a == ("__debug__" : Str)) = false) (d4 : (a == ("__classdict__" : Str)) = false) :
    FnOk P w K mg base CX 1 fI fd [self, a] (spInit K [f]) := by
  refine Fd.ok S (fun vs H Q E h => ?_) fun cdv A outer s H vs Q E hr h => ?_
  · obtain ⟨b, C, xs, rfl, hl, _⟩ := h
    match xs, hl with
    | [x], _ => rfl
  · have v0 : Vis scope self := by
      rcases S.par self (by simp) with z | z
      · exact .inl z
      · exact .inr (.inl z)
    have v1 : Vis scope a := by
      rcases S.par a (by simp) with z | z
      · exact .inl z
      · exact .inr (.inl z)
    obtain ⟨b, C, xs, rfl, hl, T, hno, hb, hq⟩ := h
    match xs, hl with
    | [x], _ =>
      refine ⟨_, pss_one (ps_ost (pe_var (i := 0) rfl v0 d1 d2) (pe_var (i := 1) rfl v1 d3 d4) (hs _)), ?_⟩
      exact ⟨x, rfl, .ref b, rfl, b, C, rfl, T, hno f (by simp), .inl ⟨hb, fun dx h1 h2 => hq dx h1 h2⟩⟩
/-- the maker's code object -/
theorem code_of {K : PySem.W.Frag} {p : He.Defn} {cdv : Value} (h : CodeAt K (He.fAd K p) cdv) : cdv = .ref (He.codeOf K p) := by
  obtain ⟨oc, od, osl, fd, lk, rfl, q, hq⟩ := h
  obtain ⟨c, e⟩ := He.codeIn_ref hq
  rw [e, He.codeOf_eq lk e]
/-- the law's promise -/
theorem law_sp {K : PySem.W.Frag} {T : List (Addr × Str)} {m : Mir} {H : Hp} {a : Addr} {ns : List Int} (hT : ∀ p ∈ T, H p.1 = some (.tbl #[])) (hs : SqL K H a (ns.map V.int)) (h : ∃ as', m [.val (.rol (ns.map D.int))] = some (.ok (.val (.bl true)) as')) :
    spM K T 1 m [.ref a] H (fun v _ => v = .bl true) (fun _ _ _ => False) := by
  obtain ⟨as', h⟩ := h
  have rs : ∀ l : List Int, Reps K H (l.map V.int) (l.map D.int) := fun l => by
    induction l with
    | nil => exact .nil
    | cons x l ih => exact .cons (.int x) ih
  refine ⟨rfl, H, [.val (.rol (ns.map D.int))], ⟨Le.refl H, .cons (.rol hs (rs ns)) .nil, List.nodup_nil, fun p hp => LamX.TabS.nil (hT p hp)⟩, _, h, ?_⟩
  intro v F' H' _ _ _ _ r
  cases (show Rep K F' v (.bl true) from r)
  rfl
end M

/-! M21: sorted, tuple, str, dict of pairs, in / not in of texts. -/
namespace M
open PySem PySem.Spec PyProof.Rows L2

/-! ### the order of texts -/
def leS (a b : Str) : Bool := !ltCps b.cps.toList a.cps.toList
theorem leS_iff {a b : Str} : leS a b = true ↔ a.cps.toList ≤ b.cps.toList := by
  unfold leS
  rw [ltCps_eq]
  simp
theorem leS_trans (a b c : Str) (h : leS a b = true) (g : leS b c = true) : leS a c = true := leS_iff.mpr (List.le_trans (leS_iff.mp h) (leS_iff.mp g))
theorem leS_total (a b : Str) : (leS a b || leS b a) = true := by
  rcases List.le_total a.cps.toList b.cps.toList with h | h
  · rw [leS_iff.mpr h]; rfl
  · rw [leS_iff.mpr h, Bool.or_true]
theorem leS_anti {a b : Str} (h : leS a b = true) (g : leS b a = true) : a = b := Str.ext' (Array.toList_inj.mp (List.le_antisymm (leS_iff.mp h) (leS_iff.mp g)))
def sortS (l : List Str) : List Str := l.mergeSort leS
theorem sortS_perm (l : List Str) : (sortS l).Perm l := List.mergeSort_perm l leS
theorem sortS_rises (l : List Str) : (sortS l).Pairwise fun a b => leS a b = true := List.pairwise_mergeSort leS_trans leS_total l
theorem risingS_pw : ∀ {l : List Str} {p : Str}, risingS p l = true → (p :: l).Pairwise fun a b => leS a b = true
  | [], p, _ => by simp
  | x :: l, p, h => by
    unfold risingS at h
    rw [Bool.and_eq_true] at h
    have ih := risingS_pw h.2
    have px : leS p x = true := h.1
    refine List.pairwise_cons.mpr ⟨fun y hy => ?_, ih⟩
    rcases List.mem_cons.mp hy with rfl | hy
    · exact px
    · exact leS_trans _ _ _ px ((List.pairwise_cons.mp ih).1 y hy)
theorem sortedS_pw : ∀ {l : List Str}, sortedS l = true → l.Pairwise fun a b => leS a b = true
  | [], _ => .nil
  | x :: l, h => risingS_pw h
theorem eq_sortS {l l' : List Str} (p : l'.Perm l) (s : sortedS l' = true) : l' = sortS l :=
  List.Perm.eq_of_pairwise (fun _ _ _ _ a b => leS_anti a b) (sortedS_pw s) (sortS_rises l) (p.trans (sortS_perm l).symm)

/-! ### sorted -/
def keysS : List (Key × D) → Option (List Str)
  | [] => some []
  | (.inr x, _) :: r => (keysS r).map (x :: ·)
  | _ => none
def keysI : List (Key × D) → Option (List Int)
  | [] => some []
  | (.inl x, _) :: r => (keysI r).map (x :: ·)
  | _ => none
theorem keysS_rep {K : PySem.W.Frag} {F : Hp} : ∀ {kvs : List (Key × V)} {ds : List (Key × D)} {ks : List Str}, RepK K F kvs ds → keysS ds = some ks → kvs.map (·.1) = ks.map Sum.inr
  | _, _, _, .nil, e => by cases e; rfl
  | _, (k, d) :: ds, ks, .cons h r, e => by
    cases k with
    | inl i => cases e
    | inr x =>
      obtain ⟨ks', e1, rfl⟩ := map_some' (show (keysS ds).map (x :: ·) = some ks from e)
      rw [List.map_cons, keysS_rep r e1]; rfl
theorem keysI_rep {K : PySem.W.Frag} {F : Hp} : ∀ {kvs : List (Key × V)} {ds : List (Key × D)} {ks : List Int}, RepK K F kvs ds → keysI ds = some ks → kvs.map (·.1) = ks.map Sum.inl
  | _, _, _, .nil, e => by cases e; rfl
  | _, (k, d) :: ds, ks, .cons h r, e => by
    cases k with
    | inr i => cases e
    | inl x =>
      obtain ⟨ks', e1, rfl⟩ := map_some' (show (keysI ds).map (x :: ·) = some ks from e)
      rw [List.map_cons, keysI_rep r e1]; rfl

def rSortAll (K : PySem.W.Frag) : List V → Hp → VK → Prop := fun xs H Q => rSorted K xs H Q ∨ rSortedS K xs H Q ∨
  (∃ (a : Addr) (kvs : List (Key × V)) (ks : List Str), xs = [.ref a] ∧ Rd H a (.dK kvs) ∧ kvs.map (·.1) = ks.map Sum.inr ∧ ks.length < 64 ∧ ∀ ys p, ys.Perm ks → sortedS ys = true → H p = none → Q (.ref p) (upd H p (.lst (ys.map V.str)))) ∨
  (∃ (a : Addr) (kvs : List (Key × V)) (ks : List Int), xs = [.ref a] ∧ Rd H a (.dK kvs) ∧ kvs.map (·.1) = ks.map Sum.inl ∧ ks.length < 64 ∧ ∀ (ys : List Int) (p : Addr), ys.Perm ks → ys.Pairwise (· ≤ ·) → H p = none → Q (.ref p) (upd H p (.lst (ys.map V.int))))
theorem call_sortAll {X : Cx} (hc : X.calm = true) : CallR X (.builtin "sorted") (rSortAll X.K) := by
  intro pins s σ H xs us Q I r h
  rcases h with h | h | h | h
  · exact cr_sorted pins s σ H xs us Q I r h
  · exact cr_sortedS pins s σ H xs us Q I r h
  · exact call_sortedD hc pins s σ H xs us Q I r h
  · exact call_sortedDI hc pins s σ H xs us Q I r h
def fSorted : List D → Option Res
  | [.dct kvs] => match keysS kvs, keysI kvs with
    | some ks, _ => if ks.length < 64 then some (.new (.l ((sortS ks).map D.str))) else none
    | _, some ks => if ks.length < 64 then some (.new (.l ((PySem.W.sortI ks).map D.int))) else none
    | _, _ => none
  | [d] => (lstOf d).bind fun ds => match strsD ds, intsD ds with
    | some ks, _ => if ks.length < 64 then some (.new (.l ((sortS ks).map D.str))) else none
    | _, some ks => if ks.length < 64 then some (.new (.l ((PySem.W.sortI ks).map D.int))) else none
    | _, _ => none
  | _ => none
theorem reps_strs {K : PySem.W.Frag} {F : Hp} : ∀ l : List Str, Reps K F (l.map V.str) (l.map D.str)
  | [] => .nil
  | x :: l => .cons (.str x) (reps_strs l)
theorem reps_ints {K : PySem.W.Frag} {F : Hp} : ∀ l : List Int, Reps K F (l.map V.int) (l.map D.int)
  | [] => .nil
  | x :: l => .cons (.int x) (reps_ints l)
theorem s_sorted {K : PySem.W.Frag} : SndL K (rSortAll K) fSorted := by
  intro H0 W ok F H ρ A σ xs ds res Q t e h
  have le := h.1.le
  unfold fSorted at e
  split at e
  · rename_i kvs
    obtain ⟨x, rfl, t1⟩ := tops1 t
    obtain ⟨a, vs, rfl, s1, r1⟩ := t1
    split at e
    · rename_i ks e1
      obtain ⟨c, e⟩ := ite_some' e
      cases e
      exact .inr (.inr (.inl ⟨a, vs, ks, rfl, s1, keysS_rep r1 e1, c, fun ys p hp hs q => by rw [eq_sortS hp hs]; exact h.lst (reps_strs _) q⟩))
    · rename_i ks e1 _
      obtain ⟨c, e⟩ := ite_some' e
      cases e
      exact .inr (.inr (.inr ⟨a, vs, ks, rfl, s1, keysI_rep r1 e1, c, fun ys p hp hs q => by rw [PySem.W.eq_sortI hp hs]; exact h.lst (reps_ints _) q⟩))
    · cases e
  · rename_i d _
    obtain ⟨x, rfl, t1⟩ := tops1 t
    obtain ⟨ys, e0, e⟩ := bind_some' e
    obtain ⟨a, vs, rfl, s1, r1⟩ := lst_top le t1 e0
    split at e
    · rename_i ks e1
      obtain ⟨c, e⟩ := ite_some' e
      cases e
      have hv := strs_rep r1 e1
      subst hv
      exact .inr (.inl ⟨a, ks, rfl, s1, c, fun ys p hp hs q => by rw [eq_sortS hp hs]; exact h.lst (reps_strs _) q⟩)
    · rename_i ks e1 _
      obtain ⟨c, e⟩ := ite_some' e
      cases e
      have hv := ints_rep r1 e1
      subst hv
      exact .inl ⟨a, ks, rfl, s1, c, fun ys p hp hs q => by rw [PySem.W.eq_sortI hp hs]; exact h.lst (reps_ints _) q⟩
    · cases e
  · cases e

/-! ### tuple(..), str(..) -/
def fTuple : List D → Option Res
  | [.tup ds] => some (.val (.tup ds))
  | [.lst ds] => some (.val (.tup ds))
  | [.rol ds] => some (.val (.tup ds))
  | _ => none
theorem s_tuple {K : PySem.W.Frag} : SndL K (fun xs H Q => ∃ p ys, xs = [.ref p] ∧ ((SqL K H p ys ∧ ∀ l, H l = none → Q (.ref l) (upd H l (.tup ys))) ∨ (SqT K H p ys ∧ Q (.ref p) H))) fTuple := by
  intro H0 W ok F H ρ A σ xs ds res Q t e h
  have le := h.1.le
  unfold fTuple at e
  split at e
  · cases e
    obtain ⟨x, rfl, t1⟩ := tops1 t
    have t1' := t1
    obtain ⟨a, ys, rfl, s1, r1⟩ := top_tup t1
    exact ⟨a, ys, rfl, .inr ⟨le_t le s1, h.val t1'⟩⟩
  · cases e
    obtain ⟨x, rfl, t1⟩ := tops1 t
    obtain ⟨a, ys, rfl, s1, r1⟩ := t1
    exact ⟨a, ys, rfl, .inl ⟨SqL.of s1, fun p hp => h.tup r1 hp⟩⟩
  · cases e
    obtain ⟨x, rfl, t1⟩ := tops1 t
    obtain ⟨a, ys, rfl, s1, r1⟩ := top_rol t1
    exact ⟨a, ys, rfl, .inl ⟨le_l le s1, fun p hp => h.tup r1 hp⟩⟩
  · cases e
def fStr : List D → Option Res
  | [.int i] => if i.natAbs.log2 < 1920 then some (.val (.str (toString i))) else none
  | [.str x] => some (.val (.str x))
  | _ => none
def rStr : List V → Hp → VK → Prop := fun xs H Q => (∃ i, xs = [.int i] ∧ i.natAbs.log2 < 1920 ∧ Q (.str (toString i)) H) ∨ ∃ a, xs = [.str a] ∧ Q (.str a) H
theorem call_strA {X : Cx} : CallR X (.type "str") rStr := by
  intro pins s σ H xs us Q I r h
  rcases h with h | h
  · exact call_str_int pins s σ H xs us Q I r h
  · exact SkE.call_str_str pins s σ H xs us Q I r h
theorem s_str {K : PySem.W.Frag} : SndL K rStr fStr := by
  intro H0 W ok F H ρ A σ xs ds res Q t e h
  unfold fStr at e
  split at e
  · obtain ⟨c, e⟩ := ite_some' e
    cases e
    obtain ⟨x, rfl, t1⟩ := tops1 t
    cases top_int t1
    exact .inl ⟨_, rfl, c, h.val (.str _)⟩
  · cases e
    obtain ⟨x, rfl, t1⟩ := tops1 t
    cases top_str t1
    exact .inr ⟨_, rfl, h.val (.str _)⟩
  · cases e

/-! ### dict(..) -/
def putD (kvs : List (Key × D)) (y : Key) (d : D) : List (Key × D) := if (kvs.any fun kv => decide (kv.1 = y)) = true then kvs.map (fun kv => if kv.1 = y then (kv.1, d) else kv) else kvs ++ [(y, d)]
def mergeD (kvs more : List (Key × D)) : List (Key × D) := more.foldl (fun acc kv => putD acc kv.1 kv.2) kvs
theorem RepK.merge {K : PySem.W.Frag} {F : Hp} : ∀ {more : List (Key × V)} {md : List (Key × D)} {xs : List (Key × V)} {ds : List (Key × D)}, RepK K F more md → RepK K F xs ds → RepK K F (mergeK xs more) (mergeD ds md)
  | _, _, _, _, .nil, r => r
  | _, _, xs, ds, .cons h m, r => RepK.merge (xs := putK xs _ _) (ds := putD ds _ _) m (RepK.put h r)
def pairsD : List D → Option (List (Key × D))
  | [] => some []
  | .tup [k, v] :: r => (keyD k).bind fun q => (pairsD r).map ((q, v) :: ·)
  | _ => none
theorem key_rep {K : PySem.W.Frag} {F : Hp} {x : V} {d : D} {k : Key} (t : Rep K F x d) (e : keyD d = some k) : x = kV k := by
  unfold keyD at e
  split at e
  · cases e; cases t; rfl
  · cases e; cases t; rfl
  · cases e
theorem pairs_rep {K : PySem.W.Frag} {F H : Hp} (le : Le F H) : ∀ {xs : List V} {ds : List D} {md : List (Key × D)}, Reps K F xs ds → pairsD ds = some md →
    ∃ (ps : List Addr) (kvs : List (Key × V)), xs = ps.map V.ref ∧ Paired (fun p kv => SqT K H p [kV kv.1, kv.2]) ps kvs ∧ RepK K F kvs md
  | _, _, _, .nil, e => by cases e; exact ⟨[], [], rfl, .nil, .nil⟩
  | _, d :: ds, md, .cons h r, e => by
    unfold pairsD at e
    split at e
    · rename_i e0; cases e0
    · rename_i k v r' e0
      cases e0
      obtain ⟨q, e1, e2⟩ := bind_some' e
      obtain ⟨md', e3, rfl⟩ := map_some' e2
      obtain ⟨ps, kvs, rfl, pa, rk⟩ := pairs_rep le r e3
      cases h with
      | @tup a xs _ s1 r1 =>
        cases r1 with
        | cons h1 r2 =>
          cases r2 with
          | cons h2 r3 =>
            cases r3
            have := key_rep h1 e1
            subst this
            exact ⟨a :: ps, (q, _) :: kvs, rfl, .cons (le_t le s1) pa, .cons h2 rk⟩
    · cases e
def fDict : List D → Option Res
  | [.dct kvs] => some (.new (.d kvs))
  | [d] => (lstOf d).bind fun ds => (pairsD ds).map fun kvs => .new (.d (mergeD [] kvs))
  | _ => none
def rDict (K : PySem.W.Frag) : List V → Hp → VK → Prop := fun xs H Q =>
  (∃ (a : Addr) (ps : List Addr) (kvs : List (Key × V)), xs = [.ref a] ∧ SqL K H a (ps.map V.ref) ∧ Paired (fun p kv => SqT K H p [kV kv.1, kv.2]) ps kvs ∧ ∀ p, H p = none → Q (.ref p) (upd H p (.dK (mergeK [] kvs)))) ∨
  (∃ (a : Addr) (kvs : List (Key × V)), xs = [.ref a] ∧ Rd H a (.dK kvs) ∧ ∀ p, H p = none → Q (.ref p) (upd H p (.dK kvs)))
theorem call_dictA {X : Cx} (hc : X.calm = true) : CallR X (.type "dict") (rDict X.K) := by
  intro pins s σ H xs us Q I r h
  rcases h with h | h
  · exact call_dictP hc pins s σ H xs us Q I r h
  · exact call_dictD pins s σ H xs us Q I r h
theorem s_dict {K : PySem.W.Frag} : SndL K (rDict K) fDict := by
  intro H0 W ok F H ρ A σ xs ds res Q t e h
  have le := h.1.le
  unfold fDict at e
  split at e
  · cases e
    obtain ⟨x, rfl, t1⟩ := tops1 t
    obtain ⟨a, vs, rfl, s1, r1⟩ := t1
    exact .inr ⟨a, vs, rfl, s1, fun p hp => h.dct r1 hp⟩
  · obtain ⟨x, rfl, t1⟩ := tops1 t
    obtain ⟨ys, e0, e1⟩ := bind_some' e
    obtain ⟨md, e2, rfl⟩ := map_some' e1
    obtain ⟨a, vs, rfl, s1, r1⟩ := lst_top le t1 e0
    obtain ⟨ps, kvs, rfl, pa, rk⟩ := pairs_rep le r1 e2
    exact .inl ⟨a, ps, kvs, rfl, s1, pa, fun p hp => h.dct (RepK.merge rk .nil) hp⟩
  · cases e
end M

/-! M22: zip; in / not in of texts and of what stands in a row. -/
namespace M
open PySem PySem.Spec PyProof.Rows L2

/-! ### zip of two -/
def zipD (xs ys : List D) : List D := (xs.zip ys).map fun p => .tup [p.1, p.2]
theorem zipD_len {xs ys : List D} : (zipD xs ys).length = min xs.length ys.length := by simp [zipD]
theorem zipD_get {xs ys : List D} {i : Nat} {x y : D} (hx : xs[i]? = some x) (hy : ys[i]? = some y) : (zipD xs ys)[i]? = some (.tup [x, y]) := by
  unfold zipD
  have e : (xs.zip ys)[i]? = some (x, y) := by simp [List.getElem?_zip_eq_some, hx, hy]
  rw [List.getElem?_map, e]
  rfl
def gZip (f : D → Option (List D)) (gs : EM (List Res)) : EM (List D) := gs.bind fun rs => match rs with
  | [.val d1, .val d2] => EM.lift ((f d1).bind fun xs => (f d2).map fun ys => zipD xs ys)
  | _ => fun _ => none
section
variable {X : Cx} {H0 : HE} {W : WX} {e e2 : Expr} {gs : EM (List Res)} {p pos tpos : Pos} {elts : List Expr} {kk : Nat}
theorem i_zipT (hg : Gl X "zip") (hm : X.mg "zip" = none) (ha : PA X [e, e2] (tA X.K H0 W gs)) (hs : starEach [e, e2] X.env = (false, eval e X.env) :: starEach [e2] X.env := by rfl) (hpl : (backTo pos (starEach [e2] X.env)).any (·.1) = false := by rfl) :
    PI X (.Tuple elts kk tpos) (.Call (.Name "zip" p) [e, e2] [] pos) (tI X.K H0 W (gZip tupItems gs)) := ⟨fun pins s σ H R I h => (RZ.pi_zipA hg hm ha hs hpl).run pins s σ H R I (by
  obtain ⟨F, ρ, A, h⟩ := h
  refine ⟨F, ρ, A, h.bind fun vs rs F1 H1 ρ1 tr sb ra h1 => ?_⟩
  split at h1
  · rename_i d1 d2
    obtain ⟨l, el, h2⟩ := h1.lift
    obtain ⟨ds1, e1, el2⟩ := bind_some' el
    obtain ⟨ds2, e3, rfl⟩ := map_some' el2
    obtain ⟨pr, _⟩ := ra
    cases pr with
    | cons h t =>
      cases t with
      | cons h' t' =>
        cases t'
        cases h with
        | @tup a xs ds0 sq rs =>
          cases e1
          cases h' with
          | @tup b ys ds0' sq' rs' =>
            cases e3
            refine ⟨a, b, xs, ys, rfl, .inr ⟨le_t h2.1.le sq, le_t h2.1.le sq', h2.ret (b := RZ.ItzT X.K a b) ⟨fun F' H' i l1 l2 hi => ?_, fun F' H' i x H2 l1 l2 y hi => ?_, fun F' H' i l1 l2 hi => ?_⟩⟩⟩
            · rw [zipD_len] at hi
              obtain ⟨v, hv, _⟩ := rs.get (List.getElem?_eq_getElem (show i < ds1.length by omega))
              obtain ⟨v', hv', _⟩ := rs'.get (List.getElem?_eq_getElem (show i < ds2.length by omega))
              exact ⟨xs, ys, v, v', le_t l2 (le_t l1 sq), le_t l2 (le_t l1 sq'), hv, hv'⟩
            · obtain ⟨T, x1, y1, rfl, hT, rfl, q1, q2⟩ := y
              obtain ⟨d', hd, rd⟩ := rs.get' (q1 xs (le_t l2 (le_t l1 sq)))
              obtain ⟨d'', hd', rd'⟩ := rs'.get' (q2 ys (le_t l2 (le_t l1 sq')))
              exact ⟨_, zipD_get hd hd', .inr ⟨T, _, _, rfl, hT, rfl, .cons (rd.mono l1) (.cons (rd'.mono l1) .nil), rfl⟩⟩
            · rw [zipD_len] at hi
              refine ⟨xs, ys, le_t l2 (le_t l1 sq), le_t l2 (le_t l1 sq'), ?_⟩
              rw [rs.length, rs'.length]
              omega
          | _ => cases e3
        | _ => cases e1
  · obtain ⟨_, _, _, e, _⟩ := h1; cases e)⟩
theorem i_zipL (hg : Gl X "zip") (hm : X.mg "zip" = none) (ha : PA X [e, e2] (tA X.K H0 W gs)) (hs : starEach [e, e2] X.env = (false, eval e X.env) :: starEach [e2] X.env := by rfl) (hpl : (backTo pos (starEach [e2] X.env)).any (·.1) = false := by rfl) :
    PI X (.Tuple elts kk tpos) (.Call (.Name "zip" p) [e, e2] [] pos) (tI X.K H0 W (gZip lstItems gs)) := ⟨fun pins s σ H R I h => (RZ.pi_zipA hg hm ha hs hpl).run pins s σ H R I (by
  obtain ⟨F, ρ, A, h⟩ := h
  refine ⟨F, ρ, A, h.bind fun vs rs F1 H1 ρ1 tr sb ra h1 => ?_⟩
  split at h1
  · rename_i d1 d2
    obtain ⟨l, el, h2⟩ := h1.lift
    obtain ⟨ds1, e1, el2⟩ := bind_some' el
    obtain ⟨ds2, e3, rfl⟩ := map_some' el2
    obtain ⟨pr, _⟩ := ra
    cases pr with
    | cons h t =>
      cases t with
      | cons h' t' =>
        cases t'
        obtain ⟨a, xs, rfl, sq, rs⟩ := rep_l h e1
        obtain ⟨b, ys, rfl, sq', rs'⟩ := rep_l h' e3
        refine ⟨a, b, xs, ys, rfl, .inl ⟨le_l h2.1.le sq, le_l h2.1.le sq', h2.ret (b := Itz X.K a b) ⟨fun F' H' i l1 l2 hi => ?_, fun F' H' i x H2 l1 l2 y hi => ?_, fun F' H' i l1 l2 hi => ?_⟩⟩⟩
        · rw [zipD_len] at hi
          obtain ⟨v, hv, _⟩ := rs.get (List.getElem?_eq_getElem (show i < ds1.length by omega))
          obtain ⟨v', hv', _⟩ := rs'.get (List.getElem?_eq_getElem (show i < ds2.length by omega))
          exact ⟨xs, ys, v, v', le_l l2 (le_l l1 sq), le_l l2 (le_l l1 sq'), hv, hv'⟩
        · obtain ⟨T, x1, y1, rfl, hT, rfl, q1, q2⟩ := y
          obtain ⟨d', hd, rd⟩ := rs.get' (q1 xs (le_l l2 (le_l l1 sq)))
          obtain ⟨d'', hd', rd'⟩ := rs'.get' (q2 ys (le_l l2 (le_l l1 sq')))
          exact ⟨_, zipD_get hd hd', .inr ⟨T, _, _, rfl, hT, rfl, .cons (rd.mono l1) (.cons (rd'.mono l1) .nil), rfl⟩⟩
        · rw [zipD_len] at hi
          refine ⟨xs, ys, le_l l2 (le_l l1 sq), le_l l2 (le_l l1 sq'), ?_⟩
          rw [rs.length, rs'.length]
          omega
  · obtain ⟨_, _, _, e, _⟩ := h1; cases e)⟩
end

/-! ### in, not in -/
def subT (i j : Str) : Bool := !(Builtin.Str.occurrences j i 0 j.length 1).isEmpty
def fInA (neg : Bool) : D → D → Option Res
  | .str i, .str j => some (.val (.bl (if neg then !subT i j else subT i j)))
  | d, e => (seqOf e).bind fun ds => if scalD d = true ∧ ds.all scalD = true then some (.val (.bl (if neg then !(ds.any fun y => eqF y d) else ds.any fun y => eqF y d))) else none
def rInA (K : PySem.W.Frag) (neg : Bool) : R2 := fun x y H Q => (∃ i j, x = .str i ∧ y = .str j ∧ Q (.bl (if neg then !subT i j else subT i j)) H) ∨ rIn K neg x y H Q
theorem op_inA {X : Cx} : OpR X (compareOp .In) (rInA X.K false) := by
  intro pins s σ H x y v u Q I rx ry h
  rcases h with h | h
  · exact op_in_str pins s σ H x y v u Q I rx ry h
  · exact op_in_seq pins s σ H x y v u Q I rx ry h
theorem op_notInA {X : Cx} : OpR X (compareOp .NotIn) (rInA X.K true) := by
  intro pins s σ H x y v u Q I rx ry h
  rcases h with h | h
  · exact op_notIn_str pins s σ H x y v u Q I rx ry h
  · exact op_notIn_seq pins s σ H x y v u Q I rx ry h
theorem s_inA {K : PySem.W.Frag} {neg : Bool} : Snd2 K (rInA K neg) (fInA neg) := by
  intro H0 W ok F H ρ A σ x y d1 d2 res Q t1 t2 e h
  unfold fInA at e
  split at e
  · cases e
    cases top_str t1; cases top_str t2
    exact .inl ⟨_, _, rfl, rfl, h.val (.bl _)⟩
  · obtain ⟨ds, e1, e2⟩ := bind_some' e
    obtain ⟨c, e3⟩ := ite_some' e2
    cases e3
    obtain ⟨a, ys, rfl, s1, r1⟩ := seq_top h.1.le t2 e1
    have r0 := scal_rep t1 c.1
    refine .inr ⟨a, ys, rfl, s1, rep_flat r0 c.1, reps_flat r1 c.2, ?_⟩
    rw [reps_any r0 c.1 r1 c.2]
    exact h.val (.bl _)
end M

/-! M23: for k in d, d a datum. -/
namespace M
open PySem PySem.Spec PyProof.Rows L2
def kD : Key → D
  | .inl i => .int i
  | .inr x => .str x
theorem rep_kD {K : PySem.W.Frag} {F : Hp} (k : Key) : Rep K F (kV k) (kD k) := by
  cases k with
  | inl i => exact .int i
  | inr x => exact .str x
def dctItems : D → Option (List D)
  | .dct kvs => some (kvs.map fun kv => kD kv.1)
  | _ => none
theorem repK_get {K : PySem.W.Frag} {F : Hp} : ∀ {xs : List (Key × V)} {ds : List (Key × D)} {i : Nat} {k : Key} {v : V}, RepK K F xs ds → xs[i]? = some (k, v) → ∃ d, ds[i]? = some (k, d)
  | _, _, i, _, _, .nil, e => by simp at e
  | _, _, 0, _, _, .cons h r, e => by
    simp at e
    obtain ⟨rfl, rfl⟩ := e
    exact ⟨_, rfl⟩
  | _, _, i + 1, _, _, .cons h r, e => by
    simp at e
    obtain ⟨d, hd⟩ := repK_get r e
    exact ⟨d, by simpa using hd⟩
section
variable {X : Cx} {H0 : HE} {W : WX} {e tg : Expr} {g : EM Res}
theorem i_keys (he : PE X e (tE X.K H0 W g)) : PI X tg e (tI X.K H0 W (gItems dctItems g)) := ⟨fun pins s σ H R I h => (pi_keys he).run pins s σ H R I (by
  obtain ⟨F, ρ, A, h⟩ := h
  refine ⟨F, ρ, A, h.bind fun v r F1 H1 ρ1 tr sb ra h1 => ?_⟩
  obtain ⟨d, ds, rfl, e1, h2⟩ := items_at h1
  unfold dctItems at e1
  split at e1
  · rename_i kvs
    cases e1
    cases ra with
    | @dct a xs _ hf rk =>
      obtain ⟨o, hf⟩ := hf
      have lk := rk.length
      refine ⟨a, o, rfl, .inl ⟨xs, h2.1.le.fz _ _ _ hf, h2.ret (b := Itk a o xs) ⟨fun F' H' i l1 l2 hi => ?_, fun F' H' i x H2 l1 l2 y hi => ?_, fun F' H' i l1 l2 hi => ?_⟩⟩⟩
      · rw [List.length_map] at hi
        exact ⟨l2.fz _ _ _ (l1.fz _ _ _ hf), by omega⟩
      · obtain ⟨rfl, k, v, hk, rfl⟩ := y
        obtain ⟨d, hd⟩ := repK_get rk hk
        exact ⟨kD k, by rw [List.getElem?_map, hd]; rfl, .inl ⟨rfl, rep_kD k⟩⟩
      · rw [List.length_map] at hi
        exact ⟨l2.fz _ _ _ (l1.fz _ _ _ hf), by omega⟩
  · cases e1)⟩
end
end M

/-! M24: isinstance(x, (T1, T2, ..)). -/
namespace M
open PySem PySem.Spec PyProof.Rows L2
def isAny (d : D) : List String → Option Bool
  | [] => some false
  | T :: Ts => (isB d T).bind fun b => if b = true then some true else isAny d Ts
def gIsT (Ts : List String) (g : EM Res) : EM Res := g.bind fun r => fun ρ => match view ρ r with
  | some d => (if Ts = [] then none else isAny d Ts).map fun b => .ok (.val (.bl b)) ρ
  | none => none
def tTys (Ts : List String) : TA := fun σ H Q => Q (Ts.map V.ty) H
theorem kit_any {K : PySem.W.Frag} {d : D} : ∀ {Ts : List String} {b : Bool}, isAny d Ts = some b → PySem.W.kitAny K (.type (tyN d)) (Ts.map Value.type) = some b
  | [], b, e => by cases e; exact kitAny_nil
  | T :: Ts, b, e => by
    unfold isAny at e
    obtain ⟨k, e1, e2⟩ := bind_some' e
    rw [List.map_cons]
    refine kitAny_cons (kit_ty (isB_kit e1)) (fun hk => ?_) (fun hk => ?_)
    · rw [hk] at e2; exact kit_any e2
    · rw [hk] at e2; cases e2; rfl
theorem cls_tys : ∀ Ts : List String, Paired ClsV (Ts.map V.ty) (Ts.map Value.type)
  | [] => .nil
  | T :: Ts => .cons (.ty _) (cls_tys Ts)
section
variable {X : Cx} {H0 : HE} {W : WX} {e : Expr} {es : List Expr} {g : EM Res} {x : Str} {p pos pos2 : Pos} {k : Nat} {Ts : List String}
theorem ty_nil : PA X [] (tTys []) := ⟨fun pos pins s σ H Q I h => pa_nil.run pos pins s σ H Q I h⟩
theorem ty_cons {T : String} (hg : Gl X x) (hm : X.mg x = none) (hv : bootBuiltins x = some (.type T)) (hr : PA X es (tTys Ts)) (hn : x ≠ "__name__" := by decide) (hd : (x == ("__debug__" : Str)) = false := by decide)
    (hs : starEach (.Name x p :: es) X.env = (false, eval (.Name x p) X.env) :: starEach es X.env := by rfl) : PA X (.Name x p :: es) (tTys (T :: Ts)) :=
  ⟨fun pos pins s σ H Q I h => (pa_cons (pe_bltn (v := .ty T) hg hm hv rfl hn hd) hr hs).run pos pins s σ H Q I h⟩
theorem p_isT (hg : Gl X "isinstance") (hm : X.mg "isinstance" = none) (hv : bootBuiltins "isinstance" = some (.builtin "isinstance")) (he : PE X e (tE X.K H0 W g)) (ht : PA X es (tTys Ts)) (hl : Ts.length ≤ 10 := by decide)
    (hs : starEach (e :: [.Tuple es k pos2]) X.env = (false, eval e X.env) :: starEach [.Tuple es k pos2] X.env := by rfl) (hpl : (backTo pos (starEach [.Tuple es k pos2] X.env)).any (·.1) = false := by rfl) :
    PE X (.Call (.Name "isinstance" p) (e :: [.Tuple es k pos2]) [] pos) (tE X.K H0 W (gIsT Ts g)) :=
  (pe_callB call_isiT hg hm hv (pa_cons he (pa_cons (pe_tup ht) pa_nil) hs) (by decide) (by decide) hs hpl).weak fun σ H Q h => by
    obtain ⟨F, ρ, A, h⟩ := h
    refine ⟨F, ρ, A, h.bind fun v r F1 H1 ρ1 tr sb ra h1 => ?_⟩
    obtain ⟨er, kn, o, eo, q⟩ := h1
    dsimp only at eo
    cases e1 : view ρ1 r with
    | none => rw [e1] at eo; cases eo
    | some d =>
      rw [e1] at eo
      obtain ⟨b, e2, rfl⟩ := map_some' eo
      have e3 : isAny d Ts = some b := by
        by_cases c : Ts = []
        · rw [if_pos c] at e2; cases e2
        · rw [if_neg c] at e2; exact e2
      have e4 : ∃ T b', isB d T = some b' := by
        cases Ts with
        | nil => rw [if_pos rfl] at e2; cases e2
        | cons T r =>
          unfold isAny at e3
          obtain ⟨k, z, _⟩ := bind_some' e3
          exact ⟨T, k, z⟩
      obtain ⟨T, b', hb⟩ := e4
      refine ⟨by rw [List.length_map]; show Ts.length ≤ sizeLine; unfold sizeLine; omega, fun p hp => ?_⟩
      have er2 := er.laid (o := .tup (Ts.map V.ty)) hp
      refine ⟨v, p, Ts.map V.ty, .type (tyN d), Ts.map Value.type, b, rfl, upd_same, cls_tys Ts, ?_, kit_any e3, q (.bl b) F1 _ (Tr.laid hp) er2 .refl (.bl b)⟩
      have t0 : Top X.K F1 H1 v d := ra.top er e1
      have t1 : Top X.K F1 (upd H1 p (.tup (Ts.map V.ty))) v d := by
        cases d with
        | lst ds =>
          obtain ⟨a, xs, rfl, s1, r1⟩ := t0
          exact ⟨a, xs, rfl, by rw [upd_ne (ne_of_none s1 hp)]; exact s1, r1⟩
        | dct ds =>
          obtain ⟨a, xs, rfl, s1, r1⟩ := t0
          obtain ⟨y, hy⟩ := rd_there s1
          exact ⟨a, xs, rfl, (rd_ne (ne_of_none hy hp)).mpr s1, r1⟩
        | _ => exact t0
      exact tyX_top er2.le t1 hb
end
end M

/-! M25: the text's own constants. -/
namespace M
open PySem PySem.Spec PyProof.Rows L2
section
variable {X : Cx} {H0 : HE} {W : WX} {x : Str} {pos : Pos}
theorem p_gintE {i : Int} (hg : Gl X x) (h : ∃ t, X.mg x = some (.int i t)) (hd : (x == ("__debug__" : Str)) = false := by decide) : PE X (.Name x pos) (tE X.K H0 W (gC (.int i))) :=
  let ⟨t, hm⟩ := h; p_gint hg hm ⟨t, rfl⟩ hd
theorem p_gstrE {i : Str} (hg : Gl X x) (h : ∃ t, X.mg x = some (.str i t)) (hd : (x == ("__debug__" : Str)) = false := by decide) : PE X (.Name x pos) (tE X.K H0 W (gC (.str i))) :=
  let ⟨t, hm⟩ := h; p_gstr hg hm ⟨t, rfl⟩ hd
end
end M

/-! M26: dict displays (keys constants): the pairs. -/
namespace M
open PySem PySem.Spec PyProof.Rows L2
def gAll : List (EM Res) → EM (List Res)
  | [] => gNil
  | g :: gs => gCons g (gAll gs)
section
variable {K : PySem.W.Frag} {H0 : HE} {W : WX}
def trsOf (K : PySem.W.Frag) (H0 : HE) (W : WX) : List Key → List (EM Res) → List (TE × TE)
  | k :: ks, g :: gs => (tC (kV k), tE K H0 W g) :: trsOf K H0 W ks gs
  | _, _ => []
theorem cons_step {g : EM Res} {gs : EM (List Res)} {σ : L2.St} {H : Hp} {Q : List V → Hp → Prop} (h : Wp K H0 W (RAts K H0) (gCons g gs) σ H Q) : tE K H0 W g σ H fun x H1 => Wp K H0 W (RAts K H0) gs σ H1 fun xs H2 => Q (x :: xs) H2 := by
  obtain ⟨F, ρ, A, h⟩ := h
  refine ⟨F, ρ, A, h.bind fun x r F1 H1 ρ1 tr1 sb1 ra h1 => ⟨F1, ρ1, A, h1.bind fun xs rs F2 H2 ρ2 tr2 sb2 rb h2 => ?_⟩⟩
  obtain ⟨er, kn, o, e, p⟩ := h2
  unfold consM at e
  obtain ⟨al, e⟩ := ite_some' e
  cases e
  refine p (x :: xs) F2 H2 .refl er .refl ⟨.cons (ra.go tr2 sb2 al) (mono_rats _ _ _ _ _ _ _ _ (fun q z => z.back tr1 sb1) rb).1, ?_⟩
  cases r with
  | val d => exact rb.2
  | brw i => exact rb.2
  | new m =>
    refine List.nodup_cons.mpr ⟨fun hx => ?_, rb.2⟩
    obtain ⟨q, e1, e2⟩ := newAt_ok rb.1 x hx
    obtain ⟨pp, e3, _, no, mo, _, _⟩ := ra
    obtain ⟨ob, hob⟩ := mo.there
    have : q = pp := V.ref.inj (e1.symm.trans e3)
    subst this
    rcases e2 with z | z
    · rw [hob] at z; cases z
    · exact no z
theorem wp_mono {α β : Type} {R : (Addr → Prop) → Hp → Hp → En → (Nat → Addr) → β → α → Prop} {g : EM α} {σ : L2.St} {H : Hp} {Q Q' : β → Hp → Prop} (m : ∀ b H, Q b H → Q' b H) (h : Wp K H0 W R g σ H Q) : Wp K H0 W R g σ H Q' := by
  obtain ⟨F, ρ, A, er, kn, o, e, p⟩ := h
  refine ⟨F, ρ, A, er, kn, o, e, ?_⟩
  cases o with
  | ok r ρ1 => exact fun v F1 H1 tr er1 sb ra => m _ _ (p v F1 H1 tr er1 sb ra)
  | ex C fs ρ1 => exact p
theorem pairs_weak : ∀ (ks : List Key) (gs : List (EM Res)) (σ : L2.St) (H : Hp) (Q' : List V → Hp → Prop) (Q : List (V × V) → Hp → Prop), ks.length = gs.length →
    (∀ vs H', vs.length = ks.length → Q' vs H' → Q ((ks.zip vs).map fun kv => (kV kv.1, kv.2)) H') → Wp K H0 W (RAts K H0) (gAll gs) σ H Q' → tPairs (trsOf K H0 W ks gs) σ H Q
  | [], [], σ, H, Q', Q, _, hq, h => by
    obtain ⟨F, ρ, A, er, kn, o, e, p⟩ := h
    cases e
    exact hq [] H rfl (p [] F H .refl er .refl ⟨.nil, List.nodup_nil⟩)
  | k :: ks, g :: gs, σ, H, Q', Q, hl, hq, h => by
    show tE K H0 W g σ H fun y H2 => tPairs (trsOf K H0 W ks gs) σ H2 fun ps H3 => Q ((kV k, y) :: ps) H3
    exact wp_mono (fun x H1 h1 => pairs_weak ks gs σ H1 (fun xs H2 => Q' (x :: xs) H2) (fun ps H3 => Q ((kV k, x) :: ps) H3) (by simpa using hl) (fun vs H' hv hQ => hq (x :: vs) H' (by simp [hv]) hQ) h1) (cons_step h)
end
end M

/-! M27: dict displays. -/
namespace M
open PySem PySem.Spec PyProof.Rows L2
def gDct (ks : List Key) (gs : List (EM Res)) : EM Res := (gAll gs).bind fun rs => EM.lift ((valsR rs).bind fun ds => if ks.length = ds.length ∧ ks.length ≤ 15 then some (.new (.d (mergeD [] (ks.zip ds)))) else none)
theorem repK_zip {K : PySem.W.Frag} {F : Hp} : ∀ {ks : List Key} {vs : List V} {ds : List D}, Reps K F vs ds → RepK K F (ks.zip vs) (ks.zip ds)
  | [], _, _, _ => .nil
  | _ :: _, _, _, .nil => .nil
  | _ :: _, _, _, .cons h r => .cons h (repK_zip r)
section
variable {X : Cx} {H0 : HE} {W : WX} {pos : Pos} {keys : List (Option Expr)} {values : List Expr} {ks : List Key} {gs : List (EM Res)}
theorem p_dct (h : PPs X pos keys values (trsOf X.K H0 W ks gs)) (hk : ks.length = gs.length := by rfl) (hall : keys.all (·.isSome) = true := by rfl) (hl : keys.length = values.length := by rfl) (h0 : keys ≠ [] := by simp)
    (h15 : keys.length ≤ 15 := by decide) (k15 : ks.length ≤ 15 := by decide) : PE X (.Dict keys values pos) (tE X.K H0 W (gDct ks gs)) := (pe_disp h hall hl h0 h15).weak fun σ H Q q p hp => by
  obtain ⟨F, ρ, A, er, kn, o, e, post⟩ := q
  refine pairs_weak ks gs σ _ (fun vs H2 => H2 p = some (.dK []) ∧ Q (.ref p) (upd H2 p (.dK (mergeK [] (ks.zip vs))))) _ hk (fun vs H' hv ⟨a, b⟩ => ⟨a, ks.zip vs, rfl, by rw [List.length_zip]; omega, b⟩) ?_
  have fp : F p = none := free_F er.le hp
  have no : ¬ OwnA ρ A p := free_own er hp
  have t0 : Tr (OwnA ρ A) F H F (upd H p (.dK [])) := Tr.laid hp
  unfold gDct EM.bind at e
  cases eg : gAll gs ρ with
  | none => rw [eg] at e; cases e
  | some og =>
    rw [eg] at e
    refine ⟨F, ρ, A, er.laid hp, fun _ z => z, og, eg, ?_⟩
    cases og with
    | ex C fs ρ1 =>
      cases e
      intro d F' H' tr er' sb x
      exact post d F' H' (t0.trans tr fun x z => .inl z) er' sb x
    | ok rs ρ1 =>
      intro vs F1 H1 tr er1 sb ra
      dsimp only at e
      unfold EM.lift at e
      cases ed : valsR rs with
      | none => rw [ed] at e; cases e
      | some ds =>
        rw [ed] at e
        by_cases c : ks.length = ds.length ∧ ks.length ≤ 15
        · rw [Option.bind_some, if_pos c] at e
          cases e
          have hH1 : H1 p = some (.dK []) := tr.keep p _ no (fun _ z => nomatch z) upd_same
          have f1 : F1 p = none := by
            cases z : F1 p with
            | none => rfl
            | some x =>
              rcases tr.fresh p x z with ⟨y, q⟩ | q | q
              · rw [fp] at q; cases q
              · rw [upd_same] at q; cases q
              · exact absurd q no
          have no1 : ¬ OwnA ρ1 A p := fun ⟨i, m, a, b⟩ => let ⟨m0, z⟩ := sb.own i m a; no ⟨i, m0, z, b⟩
          have h00 := free_0 er hp
          refine ⟨hH1, post (.ref p) F1 _ ((t0.trans tr fun x z => .inl z).touch hp) (er1.touch f1 no1 h00 (.inr ⟨[], hH1⟩)) sb ⟨p, rfl, f1, no1, ⟨_, upd_same, RepK.merge (repK_zip (rats_reps ra.1 ed)) .nil⟩, h00, kn p (.inl hp)⟩⟩
        · rw [Option.bind_some, if_neg c] at e; cases e
end
end M

/-! M28: a lambda without parameters, handed to a def of the form try: act() / except .. / what follows. -/
namespace M
open PySem PySem.Spec PyProof.Rows L2

/-- the callee's end, seen from the caller's names ρ' -/
def finR (ρ' : En) : Out Fl → Option (Out Res)
  | .ok (.rt (.val d)) _ => some (.ok (.val d) ρ')
  | .ok (.rt (.new m)) _ => some (.ok (.new m) ρ')
  | _ => none
/-- try: act() / except (l) / tail; N the callee's names -/
def gHeardB (N : Nat) (l : List HM) (gt : EM Fl) (ge : EM Res) : EM Res := fun ρ => if noE ρ = true then (match ge ρ with
  | some (.ok _ ρ') => (gt (List.replicate N .un)).bind (finR ρ')
  | some (.ex C fs ρ') => (gHs C fs l (List.replicate N .un)).bind (finR ρ')
  | none => none) else none
section
variable {K : PySem.W.Frag} {H0 : HE} {F H F' H' : Hp} {ρ ρ' : En} {A : Nat → Addr} {σ : L2.St} {W : WX}
theorem bare_get {N i : Nat} {s : Slot} (q : (List.replicate N Slot.un)[i]? = some s) : s = .un := by
  rw [List.getElem?_replicate] at q
  split at q
  · exact (Option.some.inj q).symm
  · cases q
theorem bare_mo {N i : Nat} {m : Mo} : moAt (List.replicate N Slot.un) i ≠ some m := fun q => by
  unfold moAt at q
  cases w : (List.replicate N Slot.un)[i]? with
  | none => rw [w] at q; cases q
  | some s => rw [w] at q; rw [bare_get w] at q; cases q
theorem bare_own {N : Nat} {B : Nat → Addr} {b : Addr} : ¬ OwnA (List.replicate N Slot.un) B b := fun ⟨i, m, q, _⟩ => bare_mo q
/-- the callee's names, none told -/
theorem er_bare {H1 : Hp} {T : List (Addr × Str)} {N : Nat} (hl : σ.length = N) (le : Le F H) (dom : ∀ a x, H1 a = some x → ∃ y, H a = some y) (tb : LamX.Tabs T H) : ER K ⟨H1, fun _ _ _ => False, T⟩ F H σ (List.replicate N .un) (fun _ => 0) := by
  refine ⟨by rw [hl, List.length_replicate], le, fun i s q => ?_, fun i j m m' q => absurd q bare_mo, dom, tb⟩
  rw [bare_get q]
  trivial
theorem fin_post {Q : VK} {H1 : Hp} {N : Nat} {D : Ends} {o : Out Fl} {o' : Out Res} (e : finR ρ' o = some o') (er0 : ER K H0 F H σ ρ A) (tr : Tr (OwnA ρ A) F H F' H') (er' : ER K H0 F' H' σ ρ' A) (sb : Sb ρ ρ') (hd : ∀ a, H1 a = none → H a = none)
    (post : Post K H0 W (RAt K H0) (Okp ρ A H) σ F H ρ A Q o') (hD : D.rt = Q) : PostS K ⟨H1, fun _ _ _ => False, H0.T⟩ (fun _ _ _ _ => False) D F' H' (List.replicate N .un) (fun _ => 0) o := by
  cases o with
  | ex C fs ρs => cases e
  | ok fl ρs =>
    cases fl with
    | nx => cases e
    | bk => cases e
    | ct => cases e
    | rt r =>
      cases r with
      | brw i => cases e
      | val d =>
        cases e
        intro v σ2 F2 H2 A2 tr2 er2 s2 ra2
        have tr3 : Tr (fun _ => False) F' H' F2 H2 := tr2.mono fun b z => bare_own z
        obtain ⟨er3, _⟩ := ER.change (ρ' := ρ') er' tr3 er2.le er2.tabs rfl fun i => .inl ⟨rfl, fun _ _ z => z⟩
        rw [hD]
        exact post v F2 H2 (tr.trans tr3 fun _ z => z.elim) er3 sb (show Rep K F2 v d from ra2)
      | new m =>
        cases e
        intro v σ2 F2 H2 A2 tr2 er2 s2 ra2
        have tr3 : Tr (fun _ => False) F' H' F2 H2 := tr2.mono fun b z => bare_own z
        obtain ⟨er3, _⟩ := ER.change (ρ' := ρ') er' tr3 er2.le er2.tabs rfl fun i => .inl ⟨rfl, fun _ _ z => z⟩
        rw [hD]
        obtain ⟨p, h1, h2, h3, h4, h5, _⟩ := ra2
        have hp := hd p h5
        refine post v F2 H2 (tr.trans tr3 fun _ z => z.elim) er3 sb ⟨p, h1, h2, fun q => ?_, h4, free_0 er0 hp, .inl hp⟩
        exact free_own er0 hp (sb.ownA q)
end
section
variable {X : Cx} {H0 : HE} {W : WX}
theorem p_heardB {x a : Str} {g c P : Addr} {k : Nat} {pg : Arguments} {sg : Scope} {dV kV doc pm cdv ct oc : Value} {an od : Option Addr} {osl : Array (Option Value)} {Ng : List Str}
    {params : Arguments} {body : Expr} {scope : Scope} {p lpos pos q2 q3 q5 q7 : Pos} {h₀ : ExceptHandler} {hds : List ExceptHandler} {tail : List Stmt} {l : List HM} {gt : EM Fl} {ge : EM Res} {nN : Nat}
    (hg : Gl X x) (hm : X.mg x = some (.ref g)) (hk : PySem.W.keepIn X.K (.ref g) = true)
    (lk : X.K.lookup g = some ⟨oc, od, .func (PySem.W.fnOf x x pg (.Try [.Expr (.Call (.Name a q2) [] [] q3) q5] (h₀ :: hds) [] [] q7 :: tail) sg dV kV doc pm an cdv ct), osl⟩) (hcg : PySem.W.codeIn X.K cdv x = true)
    (hb : L2.Binds X.K (PySem.W.fnOf x x pg (.Try [.Expr (.Call (.Name a q2) [] [] q3) q5] (h₀ :: hds) [] [] q7 :: tail) sg dV kV doc pm an cdv ct) [a] []) (Sg : FnScope Ng [a] sg) (hN0 : Ng[0]? = some a) (hva : Vis sg a) (hNl : Ng.length = nN)
    (TB : LamX.TabB X.base X.mg c P) (hcode : X.env.code = .ref c) (hmT : (P, X.env.qual ++ "<lambda>") ∈ H0.T) (hu : ∀ p ∈ H0.T, p.1 = P → p.2 = X.env.qual ++ "<lambda>") (hr : Room (k + 2) X.A) (L : LamX.LamS X.env.scope scope) (hdef : defaultsOf params X.env = ([], []))
    (hbind : ∀ (q : Str) (cl : List (Str × Addr)) (pm cv ctv : Value), bindArgs (PySem.W.kla_fn "<lambda>" q params body scope cl pm cv ctv) ⟨[], []⟩ = pure [])
    (hbody : ∀ (A : Around) (outer : List Env) (s : Shared) (H : Hp) (E : XK) (f c' : Addr), Room k (A.deeper (LamX.lamEnv X scope s.heap.objs.size f c')) → Takes (LamX.lamCx X A outer s H E scope f c') (fun cls d _ H' => E cls d H') → PE (LamX.lamCx X A outer s H E scope f c') body (tE X.K H0 (fun cls d _ H' => E cls d H') ge))
    (hhs : ∀ (s : Shared) (H : Hp) (h0 : HE), h0.T = H0.T → Room (k + 1) (X.A.deeper (envOfC x sg s.heap.objs.size g cdv)) → ∃ ls, HsOk (cxOf C8.CX0 X.prog X.w X.K X.mg X.base Ng x sg g cdv X.A X.stack s H C8.E0) h0 (h₀ :: hds) l ls)
    (htl : ∀ (s : Shared) (H : Hp) (h0 : HE), h0.T = H0.T → Room (k + 1) (X.A.deeper (envOfC x sg s.heap.objs.size g cdv)) → PSs (cxOf C8.CX0 X.prog X.w X.K X.mg X.base Ng x sg g cdv X.A X.stack s H C8.E0) tail (tSt X.K h0 (fun _ _ _ _ => False) gt))
    (hdb : (x == ("__debug__" : Str)) = false := by decide) (hd : (a == ("__debug__" : Str)) = false := by decide) (hcd : (a == ("__classdict__" : Str)) = false := by decide) :
    PE X (.Call (.Name x p) [.Lambda params body scope lpos] [] pos) (tE X.K H0 W (gHeardB nN l gt ge)) := by
  subst hNl
  refine ⟨fun pins s σ H Q I h => ?_⟩
  obtain ⟨F, ρ, A, er, kn, o, e, post⟩ := h
  unfold gHeardB at e
  obtain ⟨hno, e⟩ := ite_some' e
  refine wpAny_Call_Name_kw (ld_glob I hg hm ?_ hdb)
  refine PySem.W.callWith_K (h₀ := X.base) I.ok.mod.kin hk ?_ (by rfl) (by rfl)
  show wpAny _ _ (spliced ((false, eval (.Lambda params body scope lpos) X.env) :: backTo pos (starEach [] X.env))) _ _ s
  refine Calls.spliced_cons (lam_new I TB hcode hmT hu er.tabs hdef (L.has I.ok) fun f c' pm' ctv H1 s' I1 eN th T1 hf hfn hfr hco => ?_)
  refine Calls.spliced_nil ⟨I1.kIn, ?_⟩
  have er1 : ER X.K H0 F H1 σ ρ A := by
    refine ⟨er.len, ⟨fun b u n z => ?_, fun b u z => ?_, fun b xs z => eN _ _ (er.le.ls b xs z) (fun _ w => nomatch w), fun b xs z => eN _ _ (er.le.xd b xs z) (fun _ w => nomatch w), fun b o u z => eN _ _ (er.le.fz b o u z) (fun _ w => nomatch w)⟩, fun i sl q => ?_, er.inj, fun b u z => ?_, T1⟩
    · rcases er.le.rd b u n z with q | ⟨y, q⟩
      · exact .inl (eN _ _ q n)
      · exact .inr ⟨y, eN _ _ q (fun _ w => nomatch w)⟩
    · obtain ⟨y, hy⟩ := er.le.th b u z
      exact th b y hy
    · have so := er.sl i sl q
      have mk : ∀ {b : Addr} {m : Mo}, MoAt X.K F H b m → MoAt X.K F H1 b m := fun {b m} mo => by
        obtain ⟨ob, hob⟩ := mo.there
        exact mo.keep ((eN _ _ hob (mo.ntbl hob)).trans hob.symm)
      cases sl with
      | un => trivial
      | val d => exact so
      | exc C fs => exact so
      | own m => exact ⟨so.1, so.2.1, mk so.2.2.1, so.2.2.2⟩
      | par m => exact ⟨so.1, so.2.1, mk so.2.2⟩
    · obtain ⟨y, hy⟩ := er.dom b u z
      exact th b y hy
  have tr1 : Tr (OwnA ρ A) F H F H1 := ⟨Le.refl F, fun b u _ n z => eN _ _ z n, fun b u z => .inl ⟨u, z⟩, th⟩
  have back1 : ∀ b, H1 b = none → H b = none := fun b z => none_back th z
  have rc : codeAny (model X.prog X.w) X.A (.call (.ref g) ⟨[.ref f], []⟩) (CR C8.CX0 X.stack X.prog X.w H1 s' Q C8.E0) s' := by
    refine LamX.run_ofS (N := Ng) (ps := [a]) (us := [.ref f]) (vs := [.ref f]) lk hcg Sg hr I1.env0 (hb s' [.ref f] I1.kIn rfl) (.cons rfl .nil) rfl fun hr' => ?_
    have act := fun (W : WX) (pn : List (Addr × Obj)) (xe : Value → Shared → Prop) (E : XK) (p1 p2 : Pos) (tk : Takes ((cxOf C8.CX0 X.prog X.w X.K X.mg X.base Ng x sg g cdv X.A X.stack s' H1 C8.E0).tr pn xe) W) (hW : ∀ cls d σ' H', E cls d H' → W cls d σ' H') =>
      LamX.pe_act (i := 0) (p1 := p1) (p2 := p2) (pn := pn) (xe := xe) (W := W) (E := E) I1 L hf hfn hfr (hbind _ _ _ _ _) tk hW hr' (fun A outer s H hr2 => hbody A outer s H E f c' hr2 (takes_of rfl rfl rfl rfl)) hN0 hva hd hcd
    let h0 : HE := ⟨H1, fun _ _ _ => False, H0.T⟩
    obtain ⟨ls, hs⟩ := hhs s' H1 h0 rfl hr'
    have ht := htl s' H1 h0 rfl hr'
    let D0 : Ends := { nx := fun _ H' => Q .non H', rt := Q }
    let D1 : Ends := { D0 with nx := tSt X.K h0 (fun _ _ _ _ => False) gt D0 }
    let Ech : XK := fun cls d H' => ∀ σ' : L2.St, σ'.length = Ng.length → wCl X.K (fun _ _ _ _ => False) D1 ls cls d σ' H'
    let tb : WX → TS := fun W D σZ HZ => ∃ Ec : XK, (∀ cls d σ' H', Ec cls d H' → σ'.length = Ng.length → W cls d σ' H') ∧ σZ.length = Ng.length ∧ σZ[0]? = some (some (.ref f)) ∧ HZ c' = some (LamX.CodeO c' (X.env.qual ++ "<lambda>")) ∧ tE X.K H0 (fun cls d _ H' => Ec cls d H') ge σ HZ (fun v H' => ∀ σ' : L2.St, σ'.length = Ng.length → D.nx σ' H')
    refine ⟨_, pss_cons (ps_try_cl (l := ls) (tb := tb) (Wout := fun _ _ _ _ => False) rfl rfl Sg.nd LamX.takes0 (fun W pn xe tk _ => ?_) hs.cls) ht, ?_⟩
    · refine ⟨fun pinsZ sZ σZ HZ D IZ hq => ?_⟩
      obtain ⟨Ec, hW, zl, z0, zc, zt⟩ := hq
      have hp := act (fun cls d σ' H' => σ'.length = Ng.length → W cls d σ' H') pn xe Ec q2 q3 (takes_len tk) (fun cls d σ' H' hE hl => hW cls d σ' H' hE hl)
      refine (pss_one (ps_expr (pos := q5) hp)).run pinsZ sZ σZ HZ D IZ ?_
      obtain ⟨F2, ρ2, A2, er2, kn2, o2, e2, po2⟩ := zt
      refine ⟨z0, zc, F2, ρ2, A2, er2, kn2, o2, e2, ?_⟩
      cases o2 with
      | ok r ρ3 => exact fun v F' H' tr' er' sb' ra' => po2 v F' H' tr' er' sb' ra' σZ zl
      | ex C fs ρ3 => exact po2
    · show tb (wCl X.K (fun _ _ _ _ => False) D1 ls) D1 _ _
      have n1 : 1 ≤ Ng.length := by
        cases Ng with
        | nil => cases hN0
        | cons _ _ => simp
      have zl : (L2.start Ng [V.ref f]).length = Ng.length := by
        unfold L2.start
        simp only [List.length_append, List.length_map, List.length_replicate, List.length_cons, List.length_nil]
        omega
      refine ⟨Ech, fun cls d σ' H' hE hl => hE σ' hl, zl, rfl, hco, F, ρ, A, er1, fun _ z => z, ?_⟩
      cases eg : ge ρ with
      | none => rw [eg] at e; cases e
      | some og =>
        rw [eg] at e
        refine ⟨og, rfl, ?_⟩
        have tt : ∀ {F' H' : Hp}, Tr (OwnA ρ A) F H1 F' H' → Tr (OwnA ρ A) F H F' H' := fun t => tr1.trans t fun _ z => .inl z
        cases og with
        | ok r ρ' =>
          dsimp only at e
          cases eo : gt (List.replicate Ng.length .un) with
          | none => rw [eo] at e; cases e
          | some ot =>
            rw [eo] at e
            intro v F' H' tr' er' sb' ra' σ' hl
            exact ⟨F', _, _, er_bare hl er'.le (fun b u z => tr'.there b u z) er'.tabs, ot, eo, fin_post e er (tt tr') er' sb' back1 post rfl⟩
        | ex C fs ρ' =>
          dsimp only at e
          cases eo : gHs C fs l (List.replicate Ng.length .un) with
          | none => rw [eo] at e; cases e
          | some ot =>
            rw [eo] at e
            intro dx F' H' tr' er' sb' xa σ' hl
            exact hs_weak hs (er_bare hl er'.le (fun b u z => tr'.there b u z) er'.tabs) xa eo (fin_post e er (tt tr') er' sb' back1 post rfl)
  refine wpAny_call (codeAny_mono rc fun r s2 hq => ?_)
  cases r with
  | error e => exact (show False from hq).elim
  | ok fl =>
    cases fl with
    | ret u => exact I1.after hq
    | next => exact False.elim hq
    | brk => exact False.elim hq
    | cont => exact False.elim hq
end
end M

/-! M29: {}; f(e, .., k = v, ..). -/
namespace M
open PySem PySem.Spec PyProof.Rows L2
def gDct0 : EM Res := EM.pure (.new (.d []))
/-- f(e, .., k = v, ..): n1 positional values, n2 keywords -/
def gFnM (P : Perm) (n1 n2 : Nat) (m : Mir) (gs gk : EM (List Res)) : EM Res := gs.bind fun rs => gk.bind fun qs => fun ρ => if allVal rs = true ∧ allVal qs = true ∧ rs.length = n1 ∧ qs.length = n2 then callM m (P.f (rs ++ qs)) ρ else none
theorem allVal_app : ∀ {rs qs : List Res}, allVal rs = true → allVal qs = true → allVal (rs ++ qs) = true
  | [], _, _, h => h
  | .val _ :: rs, qs, h, k => allVal_app (rs := rs) h k
  | .new _ :: _, _, h, _ => by cases h
  | .brw _ :: _, _, h, _ => by cases h
section
variable {X : Cx} {H0 : HE} {W : WX} {pos : Pos}
theorem p_dct0 : PE X (.Dict [] [] pos) (tE X.K H0 W gDct0) := pe_dnewK.weak fun σ H Q h => by
  obtain ⟨F, ρ, A, h⟩ := h
  exact fun p hp => h.dct .nil hp
theorem vals_go {K : PySem.W.Frag} {F H F' H' : Hp} {ρ ρ' : En} {A : Nat → Addr} {ok ok' : Addr → Prop} (tr : Le F F') : ∀ {vs : List V} {rs : List Res}, allVal rs = true → Paired (RAt K H0 ok F H ρ A) vs rs → Paired (RAt K H0 ok' F' H' ρ' A) vs rs
  | _, _, _, .nil => .nil
  | _, .val d :: rs, h, .cons a t => .cons (show Rep K F' _ d from Rep.mono tr a) (vals_go tr (rs := rs) h t)
  | _, .new _ :: _, h, .cons _ _ => by cases h
  | _, .brw _ :: _, h, .cons _ _ => by cases h
theorem paired_app {α β : Type} {P : α → β → Prop} : ∀ {xs : List α} {ys : List β} {xs' : List α} {ys' : List β}, Paired P xs ys → Paired P xs' ys' → Paired P (xs ++ xs') (ys ++ ys')
  | _, _, _, _, .nil, h => h
  | _, _, _, _, .cons a t, h => .cons a (paired_app t h)
theorem p_callM {k : Nat} {f : Addr} {fd : FuncData} {ps ks : List Str} {x : Str} {p : Pos} {m : Mir} {n1 n2 : Nat} {e : Expr} {es : List Expr} {kws : List Keyword} {gs gk : EM (List Res)} (P : Perm) (F : FnOk X.prog X.w X.K X.mg X.base (L2.CX X.prog X.w) k f fd ps (spM X.K H0.T (n1 + n2) m)) (hr : Room k X.A) (hg : Gl X x) (hm : X.mg x = some (.ref f)) (hk : PySem.W.keepIn X.K (.ref f) = true)
    (hb : ∀ (us ws : List Value), us.length = n1 → ws.length = ks.length → bindArgs fd ⟨us, ks.zip ws⟩ = pure (ps.zip (P.f (us ++ ws)))) (tk : Takes X W) (ha : PA X (e :: es) (tA X.K H0 W gs)) (hkw : PK X kws (tA X.K H0 W gk)) (hnk : ks.length = n2) (hln : ∀ {α : Type} (l : List α), l.length = n1 + n2 → (P.f l).length = n1 + n2)
    (hall : (backToKw pos (keywordEach kws X.env)).all (·.1.isSome) = true := by rfl) (hks : (backToKw pos (keywordEach kws X.env)).filterMap (·.1) = ks := by rfl)
    (hdb : (x == ("__debug__" : Str)) = false := by decide) (he : starEach (e :: es) X.env = (false, eval e X.env) :: starEach es X.env := by rfl)
    (hpl : ((backTo pos (starEach (e :: es) X.env)).any (·.1) || (backToKw pos (keywordEach kws X.env)).any (·.1.isNone)) = false := by rfl) :
    PE X (.Call (.Name x p) (e :: es) kws pos) (tE X.K H0 W (gFnM P n1 n2 m gs gk)) := by
  subst hnk
  refine ⟨fun pins s σ H Q I h => ?_⟩
  refine wpAny_Call_Name_kw (ld_glob I hg hm ?_ hdb)
  obtain ⟨F1, ρ, A, h⟩ := h
  refine PySem.W.callWith_KW (h₀ := X.base) I.ok.mod.kin hk hall (thn (ha.run pos pins s σ H (fun vs H1 => Wp X.K H0 W (RAts X.K H0) gk σ H1 fun zs H2 => vs.length = n1 ∧ zs.length = ks.length ∧ spM X.K H0.T (n1 + ks.length) m (P.f (vs ++ zs)) H2 Q (WE W σ)) I
    ⟨F1, ρ, A, h.bind fun vs rs F2 H2 ρ2 tr sb ra h1 => ⟨F2, ρ2, A, h1.bind0 fun zs qs F3 H3 ρ3 o tr3 sb3 er3 rb e p kn => ?_⟩⟩) fun us s1 ⟨vs, H1, I1, r, q⟩ => ?_) hpl he
  · obtain ⟨⟨c1, c2, c3, c4⟩, e⟩ := ite_some' e
    have pr : Paired (RAt X.K H0 (Okp ρ2 A H2) F3 H3 ρ3 A) (vs ++ zs) (rs ++ qs) := paired_app (vals_go tr3.ff c1 ra.1) rb.1
    have hl : (P.f (rs ++ qs)).length = n1 + ks.length := hln _ (by rw [List.length_append, c3, c4])
    refine ⟨(Paired.length ra.1).trans c3, (Paired.length rb.1).trans c4, call_sp tr3 sb3 er3 ⟨P.pr _ _ _ pr, ?_⟩ e p kn hl⟩
    rw [allVal_new (P.av _ (allVal_app c1 c2))]
    exact List.nodup_nil
  · refine thn (hkw.run pos pins s1 σ H1 _ I1 q) fun ws s2 ⟨zs, H2, I2, rz, l1, l2, q2⟩ => ⟨I2.kIn, ?_⟩
    rw [hks]
    have r2 := P.pr _ _ _ (paired_app r rz)
    have b : BindsTo s2 fd ⟨us, ks.zip ws⟩ (ps.zip (P.f (us ++ ws))) := .of_eq (hb us ws ((Paired.length r).symm.trans l1) ((Paired.length rz).symm.trans l2))
    refine wpAny_call (codeAny_mono (F.run X.A X.stack s2 H2 ⟨us, ks.zip ws⟩ (P.f (us ++ ws)) (P.f (vs ++ zs)) Q (WE W σ) hr I2.env0 b r2 q2) fun r s' hq => ?_)
    cases r with
    | error e => exact passAt tk σ pins H2 s2 e s' I2 hq
    | ok fl =>
      cases fl with
      | ret u => exact I2.after hq
      | next => exact False.elim hq
      | brk => exact False.elim hq
      | cont => exact False.elim hq
end
end M

/-! M30: dict displays, the keys expressions. -/
namespace M
open PySem PySem.Spec PyProof.Rows L2
def flatP : List (EM Res × EM Res) → List (EM Res)
  | [] => []
  | g :: gs => g.1 :: g.2 :: flatP gs
def pairV : List V → List (V × V)
  | x :: y :: r => (x, y) :: pairV r
  | _ => []
def pairD : List D → Option (List (Key × D))
  | [] => some []
  | [_] => none
  | x :: y :: r => match keyD x, pairD r with
    | some k, some kds => some ((k, y) :: kds)
    | _, _ => none
def gDctE (gs : List (EM Res × EM Res)) : EM Res := (gAll (flatP gs)).bind fun rs => EM.lift ((valsR rs).bind fun ds => (pairD ds).bind fun kds => if kds.length ≤ 15 then some (.new (.d (mergeD [] kds))) else none)
theorem pair_rep {K : PySem.W.Frag} {F : Hp} : ∀ {ds : List D} {vs : List V} {kds : List (Key × D)}, Reps K F vs ds → pairD ds = some kds → ∃ kvs : List (Key × V), pairV vs = kvs.map (fun kv => (kV kv.1, kv.2)) ∧ RepK K F kvs kds
  | [], _, _, .nil, e => by cases e; exact ⟨[], rfl, .nil⟩
  | [_], _, _, _, e => by cases e
  | x :: y :: r, _, kds, .cons (x := v) hx (.cons (x := w) (xs := t) hy hr), e => by
    unfold pairD at e
    cases ek : keyD x with
    | none => rw [ek] at e; cases e
    | some k =>
      cases ep : pairD r with
      | none => rw [ek, ep] at e; cases e
      | some q =>
        rw [ek, ep] at e
        cases e
        obtain ⟨kvs, h1, h2⟩ := pair_rep hr ep
        refine ⟨(k, w) :: kvs, ?_, .cons hy h2⟩
        show (v, w) :: pairV t = _
        rw [key_rep hx ek, h1]
        rfl
theorem repK_len {K : PySem.W.Frag} {F : Hp} {xs : List (Key × V)} {ds : List (Key × D)} (r : RepK K F xs ds) : xs.length = ds.length := r.length
section
variable {K : PySem.W.Frag} {H0 : HE} {W : WX}
def trsE (K : PySem.W.Frag) (H0 : HE) (W : WX) : List (EM Res × EM Res) → List (TE × TE)
  | [] => []
  | g :: gs => (tE K H0 W g.1, tE K H0 W g.2) :: trsE K H0 W gs
theorem pairsE_weak : ∀ (gs : List (EM Res × EM Res)) (σ : L2.St) (H : Hp) (Q' : List V → Hp → Prop) (Q : List (V × V) → Hp → Prop),
    (∀ vs H', Q' vs H' → Q (pairV vs) H') → Wp K H0 W (RAts K H0) (gAll (flatP gs)) σ H Q' → tPairs (trsE K H0 W gs) σ H Q
  | [], σ, H, Q', Q, hq, h => by
    obtain ⟨F, ρ, A, er, kn, o, e, p⟩ := h
    cases e
    exact hq [] H (p [] F H .refl er .refl ⟨.nil, List.nodup_nil⟩)
  | g :: gs, σ, H, Q', Q, hq, h => by
    show tE K H0 W g.1 σ H fun x H1 => tE K H0 W g.2 σ H1 fun y H2 => tPairs (trsE K H0 W gs) σ H2 fun ps H3 => Q ((x, y) :: ps) H3
    exact wp_mono (fun x H1 h1 => wp_mono (fun y H2 h2 => pairsE_weak gs σ H2 (fun xs H3 => Q' (x :: y :: xs) H3) (fun ps H3 => Q ((x, y) :: ps) H3) (fun vs H' hQ => hq (x :: y :: vs) H' hQ) h2) (cons_step h1)) (cons_step h)
end
section
variable {X : Cx} {H0 : HE} {W : WX} {pos : Pos} {keys : List (Option Expr)} {values : List Expr} {gs : List (EM Res × EM Res)}
theorem p_dctE (h : PPs X pos keys values (trsE X.K H0 W gs)) (hall : keys.all (·.isSome) = true := by rfl) (hl : keys.length = values.length := by rfl) (h0 : keys ≠ [] := by simp)
    (h15 : keys.length ≤ 15 := by decide) : PE X (.Dict keys values pos) (tE X.K H0 W (gDctE gs)) := (pe_disp h hall hl h0 h15).weak fun σ H Q q p hp => by
  obtain ⟨F, ρ, A, er, kn, o, e, post⟩ := q
  refine pairsE_weak gs σ _ (fun vs H2 => H2 p = some (.dK []) ∧ ∃ kvs : List (Key × V), pairV vs = kvs.map (fun kv => (kV kv.1, kv.2)) ∧ kvs.length ≤ 15 ∧ Q (.ref p) (upd H2 p (.dK (mergeK [] kvs)))) _ (fun vs H' ⟨a, kvs, b, c, d⟩ => ⟨a, kvs, b, c, d⟩) ?_
  have fp : F p = none := free_F er.le hp
  have no : ¬ OwnA ρ A p := free_own er hp
  have t0 : Tr (OwnA ρ A) F H F (upd H p (.dK [])) := Tr.laid hp
  unfold gDctE EM.bind at e
  cases eg : gAll (flatP gs) ρ with
  | none => rw [eg] at e; cases e
  | some og =>
    rw [eg] at e
    refine ⟨F, ρ, A, er.laid hp, fun _ z => z, og, eg, ?_⟩
    cases og with
    | ex C fs ρ1 =>
      cases e
      intro d F' H' tr er' sb x
      exact post d F' H' (t0.trans tr fun x z => .inl z) er' sb x
    | ok rs ρ1 =>
      intro vs F1 H1 tr er1 sb ra
      dsimp only at e
      unfold EM.lift at e
      cases ed : valsR rs with
      | none => rw [ed] at e; cases e
      | some ds =>
        rw [ed, Option.bind_some] at e
        cases ek : pairD ds with
        | none => rw [ek] at e; cases e
        | some kds =>
          rw [ek, Option.bind_some] at e
          by_cases c : kds.length ≤ 15
          · rw [if_pos c] at e
            cases e
            have hH1 : H1 p = some (.dK []) := tr.keep p _ no (fun _ z => nomatch z) upd_same
            have f1 : F1 p = none := by
              cases z : F1 p with
              | none => rfl
              | some x =>
                rcases tr.fresh p x z with ⟨y, q⟩ | q | q
                · rw [fp] at q; cases q
                · rw [upd_same] at q; cases q
                · exact absurd q no
            have no1 : ¬ OwnA ρ1 A p := fun ⟨i, m, a, b⟩ => let ⟨m0, z⟩ := sb.own i m a; no ⟨i, m0, z, b⟩
            have h00 := free_0 er hp
            obtain ⟨kvs, k1, k2⟩ := pair_rep (rats_reps ra.1 ed) ek
            refine ⟨hH1, kvs, k1, by rw [repK_len k2]; exact c, post (.ref p) F1 _ ((t0.trans tr fun x z => .inl z).touch hp) (er1.touch f1 no1 h00 (.inr ⟨[], hH1⟩)) sb ⟨p, rfl, f1, no1, ⟨_, upd_same, RepK.merge k2 .nil⟩, h00, kn p (.inl hp)⟩⟩
          · rw [if_neg c] at e; cases e
end
end M

/-! M31: for x in e, whatever e is. -/
namespace M
open PySem PySem.Spec PyProof.Rows L2
def anyItems (d : D) : Option (List D) := match d with
  | .tup _ => tupItems d
  | .str _ => strItems d
  | .dct _ => dctItems d
  | d => lstItems d
section
variable {X : Cx} {H0 : HE} {W : WX} {e tg : Expr} {g : EM Res}
theorem items_same {f f' : D → Option (List D)} {ρ : En} (h : ∀ d ρ1, g ρ = some (.ok (.val d) ρ1) → f d = f' d) : gItems f g ρ = gItems f' g ρ := by
  unfold gItems EM.bind
  cases hg : g ρ with
  | none => rfl
  | some og =>
    cases og with
    | ex C fs ρ1 => rfl
    | ok r ρ1 =>
      cases r with
      | val d =>
        dsimp only
        unfold itemsM
        dsimp only
        rw [h d ρ1 hg]
      | new m => rfl
      | brw i => rfl
theorem i_any (he : PE X e (tE X.K H0 W g)) : PI X tg e (tI X.K H0 W (gItems anyItems g)) := ⟨fun pins s σ H R I h => by
  obtain ⟨F, ρ, A, er, kn, o, eo, p⟩ := h
  have go : ∀ (f : D → Option (List D)), PI X tg e (tI X.K H0 W (gItems f g)) → (∀ d ρ1, g ρ = some (.ok (.val d) ρ1) → f d = anyItems d) → _ := fun f hf hh =>
    hf.run pins s σ H R I ⟨F, ρ, A, er, kn, o, (items_same hh).trans eo, p⟩
  cases hg : g ρ with
  | none => exact go lstItems (i_lst he) fun d ρ1 z => by rw [hg] at z; cases z
  | some og =>
    cases og with
    | ex C fs ρ1 => exact go lstItems (i_lst he) fun d ρ1 z => by rw [hg] at z; cases z
    | ok r ρ1 =>
      cases r with
      | new m => exact go lstItems (i_lst he) fun d ρ1 z => by rw [hg] at z; cases z
      | brw i => exact go lstItems (i_lst he) fun d ρ1 z => by rw [hg] at z; cases z
      | val d =>
        cases d with
        | tup ds => exact go tupItems (i_tup he) fun d ρ1 z => by rw [hg] at z; cases z; rfl
        | str ds => exact go strItems (i_str he) fun d ρ1 z => by rw [hg] at z; cases z; rfl
        | dct ds => exact go dctItems (i_keys he) fun d ρ1 z => by rw [hg] at z; cases z; rfl
        | non => exact go lstItems (i_lst he) fun d ρ1 z => by rw [hg] at z; cases z; rfl
        | bl b => exact go lstItems (i_lst he) fun d ρ1 z => by rw [hg] at z; cases z; rfl
        | int b => exact go lstItems (i_lst he) fun d ρ1 z => by rw [hg] at z; cases z; rfl
        | adr b => exact go lstItems (i_lst he) fun d ρ1 z => by rw [hg] at z; cases z; rfl
        | ty b => exact go lstItems (i_lst he) fun d ρ1 z => by rw [hg] at z; cases z; rfl
        | lst b => exact go lstItems (i_lst he) fun d ρ1 z => by rw [hg] at z; cases z; rfl
        | rol b => exact go lstItems (i_lst he) fun d ρ1 z => by rw [hg] at z; cases z; rfl
        | ins b c => exact go lstItems (i_lst he) fun d ρ1 z => by rw [hg] at z; cases z; rfl⟩
end
end M

/-! M32: == of unlike kinds: dicts, tuples, lists, ints. -/
namespace PySem.SeqAt
open AutoSeq1 (wpAny_loadPart')
open MeetsSeq
theorem tuple_eq_declines_dict (l b : Addr) (items : Array Value) (n : Nat) (dd : Option Addr) (sl : Array (Option Value)) (o2 : Obj) (ho : o2.cls = .type "dict") :
    Meets (Builtin.«tuple.__eq__» ⟨[.ref l, .ref b], []⟩) (fun _ R s => s.heap.get? l = some { cls := .type "tuple", dict := dd, data := .seq items n, slots := sl } ∧ s.heap.get? b = some o2 ∧ R (.ok (.ret .notImplemented)) s) :=
  .of_wp fun prog w A R s h => by obtain ⟨hp, g, d, tk, os⟩ := s; obtain ⟨cls, dct, dat, slo⟩ := o2; simp only at ho; subst ho; obtain ⟨hl, hb, h⟩ := h; have f1 := F.sub_dict_tuple; wp_walk using wpAny_loadPart' hl, wpAny_loadPart' hb; exact ⟨_, rfl, h⟩
theorem int_eq_declines_dict (b : Int) (u : Tok) (l : Addr) (es : Array DictEntry) (n : Nat) (dd : Option Addr) (sl : Array (Option Value)) :
    Meets (Builtin.«int.__eq__» ⟨[.int b u, .ref l], []⟩) (fun _ R s => s.heap.get? l = some { cls := .type "dict", dict := dd, data := .dict es n, slots := sl } ∧ R (.ok (.ret .notImplemented)) s) :=
  .of_wp fun prog w A R s h => by obtain ⟨hp, g, d, tk, os⟩ := s; obtain ⟨hl, h⟩ := h; wp_walk using wpAny_loadPart' hl, wpAny_load hl; exact ⟨_, rfl, h⟩
end PySem.SeqAt

/-! M33: name = [..] on one line, a plain local name; a, b = x, y with a captured name. -/
namespace M
open PySem PySem.Spec PyProof.Rows L2
section
variable {X : Cx} {H0 : HE} {W : WX}
theorem c_setLc (i : Nat) {y : Str} {py spos : Pos} {elt tg iter : Expr} {ifs : List Expr} {scope : Scope} (own : List (Str × Nat)) {vs : List Nat} {pos : Pos} {gi : EM (List D)} {t : Tg} {gc : EM Bool} {ge : EM Res} (hc : X.calm = true) (hN : X.N.Nodup) (ok : BlkOk X.N X.env.scope scope own) (hi : PI X tg iter (tI X.K H0 W gi))
    (hg : ∀ (s : Shared) (H : Hp) (C : Addr) (cl : List (Str × Addr)) (fp : List Addr), PG (X.blk s H scope (compEnvC scope cl C X.env) fp) tg (tGT X.K H0 t)) (ht : ∀ (s : Shared) (H : Hp) (C : Addr) (cl : List (Str × Addr)) (fp : List Addr), PTs (X.blk s H scope (compEnvC scope cl C X.env) fp) ifs (tT X.K H0 (fun _ _ _ _ => False) gc))
    (he : ∀ (s : Shared) (H : Hp) (C : Addr) (cl : List (Str × Addr)) (fp : List Addr), PE (X.blk s H scope (compEnvC scope cl C X.env) fp) elt (tE X.K H0 (fun _ _ _ _ => False) ge)) (hv : own.map (·.2) = vs := by rfl)
    (hy : X.N[i]? = some y := by rfl) (hyl : X.env.scope.names.lookup y = some .local := by rfl) (hsw : swapsWith (.ListComp elt [⟨tg, iter, ifs, 0⟩] scope pos) (some (.Name y py)) spos.line X.env = pure true := by rfl) (hs : ∀ x, foldedSetIterable iter X.env x = pure x := by intro _; rfl) :
    PS X (.Assign [.Name y py] (.ListComp elt [⟨tg, iter, ifs, 0⟩] scope pos) spos) (tSt X.K H0 W (gSet i (gLc gi t vs gc ge))) := by
  subst hv
  exact (ps_setLc hc hN hy hyl hsw hi ok hg ht he hs).weak fun D σ H h => lc_weak (set_weak h)
/-- what is laid behind the end means nothing to it -/
theorem nx_laid {K : PySem.W.Frag} {g : EM Fl} {G : Ends} {σ : L2.St} {H : Hp} (h : tSt K H0 W g G σ H) : tSt K H0 W g { G with nx := fun σ' H' => ∀ p o, H' p = none → G.nx σ' (upd H' p o) } σ H := by
  obtain ⟨F, ρ, A, er, o, e, p⟩ := h
  refine ⟨F, ρ, A, er, o, e, ?_⟩
  cases o with
  | ex C fs ρ' => exact p
  | ok fl ρ' =>
    cases fl with
    | nx => exact fun σ' F' H' A' t e s q ob hq => p σ' F' _ A' (t.trans (Tr.laid (S := fun _ => False) hq) fun _ z => z.elim) (e.laid hq) s
    | bk => exact p
    | ct => exact p
    | rt r => exact p
theorem c_parC (i j : Nat) {a b : Expr} {pos px py pt pt2 : Pos} {x y : Str} {kt k2 : Nat} {gs : EM (List Res)} (hc : X.calm = true) (hN : X.N.Nodup) (ha : PA X [a, b] (tA X.K H0 W gs))
    (hi : X.N[i]? = some x := by rfl) (hj : X.N[j]? = some y := by rfl) (hx : Loc X.env.scope x := by first | exact .inl rfl | exact .inr rfl) (hy : Loc X.env.scope y := by first | exact .inl rfl | exact .inr rfl)
    (hfx : X.fn x = true ∨ X.env.scope.names.lookup x = some .local := by first | exact .inl rfl | exact .inr rfl | assumption) (hfy : X.fn y = true ∨ X.env.scope.names.lookup y = some .local := by first | exact .inl rfl | exact .inr rfl | assumption)
    (hs : swapsWithSole [.Tuple [.Name x px, .Name y py] kt pt] (.Tuple [a, b] k2 pt2) pos.line X.env = pure false := by rfl) (hw : swappedStores [.Tuple [.Name x px, .Name y py] kt pt] (.Tuple [a, b] k2 pt2) X.env = pure none := by rfl)
    (h1 : (assignEach [.Tuple [.Name x px, .Name y py] kt pt] X.env).map (·.2) = [assign (.Tuple [.Name x px, .Name y py] kt pt) X.env] := by rfl)
    (h2 : (assignEach [.Name x px, .Name y py] X.env).map (·.2) = assign (.Name x px) X.env :: (assignEach [.Name y py] X.env).map (·.2) := by rfl) (h3 : (assignEach [.Name y py] X.env).map (·.2) = assign (.Name y py) X.env :: (assignEach [] X.env).map (·.2) := by rfl)
    (hn : (assignEach [.Name x px, .Name y py] X.env).length = 2 := by rfl) (hst : (assignEach [.Name x px, .Name y py] X.env).findIdx? (·.1) = none := by rfl) :
    PS X (.Assign [.Tuple [.Name x px, .Name y py] kt pt] (.Tuple [a, b] k2 pt2) pos) (tSt X.K H0 W (gPar i j gs)) := by
  refine (ps_asg (pe_tup ha) (pg_tup hc (pgs_cons (pg_name hN hi hx hfx) (pgs_cons (pg_name hN hj hy hfy) pgs_nil h3) h2) hn hst) hs hw h1).weak fun G σ H h => ?_
  have q := par_weak (nx_laid h)
  obtain ⟨F, ρ, A, er, kn, o, e, p⟩ := q
  refine ⟨F, ρ, A, er, kn, o, e, ?_⟩
  cases o with
  | ex C fs ρ' => exact p
  | ok rs ρ' =>
    intro vs F' H' tr er' sb ra
    obtain ⟨v, w, rfl, nx⟩ := p vs F' H' tr er' sb ra
    refine ⟨by rw [sizeLine_eq]; simp, fun pp hp => ⟨pp, [v, w], rfl, .inl (.inl upd_same), rfl, v, [w], rfl, w, [], rfl, rfl, nx pp _ hp⟩⟩
end
end M

/-! M34: == of unlike kinds; == and != of a tuple and the empty one, whatever is in it. -/
namespace PySem.SeqAt
open AutoSeq1 (wpAny_loadPart')
open MeetsSeq
theorem dict_eq_declines_int (l : Addr) (es : Array DictEntry) (n : Nat) (dd : Option Addr) (sl : Array (Option Value)) (b : Int) (u : Tok) :
    Meets (Builtin.«dict.__eq__» ⟨[.ref l, .int b u], []⟩) (fun _ R s => s.heap.get? l = some { cls := .type "dict", dict := dd, data := .dict es n, slots := sl } ∧ R (.ok (.ret .notImplemented)) s) :=
  .of_wp fun prog w A R s h => by obtain ⟨hp, g, d, tk, os⟩ := s; obtain ⟨hl, h⟩ := h; have f1 := F.sub_int_dict; wp_walk using wpAny_loadPart' hl, wpAny_load hl; exact ⟨_, rfl, h⟩
theorem dict_eq_declines_tuple (l b : Addr) (es : Array DictEntry) (n n2 : Nat) (dd dd2 : Option Addr) (sl sl2 : Array (Option Value)) (items2 : Array Value) :
    Meets (Builtin.«dict.__eq__» ⟨[.ref l, .ref b], []⟩) (fun _ R s => s.heap.get? l = some { cls := .type "dict", dict := dd, data := .dict es n, slots := sl } ∧ s.heap.get? b = some { cls := .type "tuple", dict := dd2, data := .seq items2 n2, slots := sl2 } ∧ R (.ok (.ret .notImplemented)) s) :=
  .of_wp fun prog w A R s h => by obtain ⟨hp, g, d, tk, os⟩ := s; obtain ⟨hl, hb, h⟩ := h; have f1 := F.sub_tuple_dict; wp_walk using wpAny_loadPart' hl, wpAny_loadPart' hb; exact ⟨_, rfl, h⟩
/-- a dict, whatever is in it -/
def IsDct (h : Heap) (a : Addr) : Prop := ∃ o es ep, h.get? a = some o ∧ o.cls = .type "dict" ∧ o.data = .dict es ep
section
variable {A : Around} {s : Shared}
theorem RcAt.dict_int {l : Addr} (b : Int) (u : Tok) (hl : IsDct s.heap l) (hu : A.units < cLine) : RcAt A s (.ref l) (.int b u) false := fun prog w E Q h => by
  obtain ⟨⟨cls, dd, data, sl⟩, es, ep, ho, hc, hd⟩ := id hl
  simp only at hc hd
  subst hc hd
  exact rc_eq_decline_or (k := false) ⟨_, ho, rfl⟩ (typeIs_int s b u) (by decide) F.sub_int_dict F.slot_dict_eq F.slot_int_eq_refl
    (fun _ hq => call_meets F.slot_dict_eq ⟨_, ho, rfl⟩ F.entry_dict_eq (F.args_dict_eq_2 _ _) (dict_eq_declines_int l es ep dd sl b u) ⟨ho, hq⟩)
    (fun _ hq => call_meets F.slot_int_eq_refl (typeIs_int s b u) F.entry_int_eq (F.args_int_eq_2 _ _) (int_eq_declines_dict b u l es ep dd sl) ⟨ho, hq⟩)
    (fun _ hq => wpAny_of_eq (rfl : isSame (.ref l) (.int b u) = pure false) hq) (.inr hu) h
theorem RcAt.int_dict {l : Addr} (b : Int) (u : Tok) (hl : IsDct s.heap l) (hu : A.units < cLine) : RcAt A s (.int b u) (.ref l) false := fun prog w E Q h => by
  obtain ⟨⟨cls, dd, data, sl⟩, es, ep, ho, hc, hd⟩ := id hl
  simp only at hc hd
  subst hc hd
  exact rc_eq_decline_or (k := false) (typeIs_int s b u) ⟨_, ho, rfl⟩ (by decide) F.sub_dict_int F.slot_int_eq F.slot_dict_eq_refl
    (fun _ hq => call_meets F.slot_int_eq (typeIs_int s b u) F.entry_int_eq (F.args_int_eq_2 _ _) (int_eq_declines_dict b u l es ep dd sl) ⟨ho, hq⟩)
    (fun _ hq => call_meets F.slot_dict_eq_refl ⟨_, ho, rfl⟩ F.entry_dict_eq (F.args_dict_eq_2 _ _) (dict_eq_declines_int l es ep dd sl b u) ⟨ho, hq⟩)
    (fun _ hq => wpAny_of_eq (rfl : isSame (.int b u) (.ref l) = pure false) hq) (.inr hu) h
theorem ne_of_dct_tup {l b : Addr} {items2 : Array Value} (hl : IsDct s.heap l) (hb : s.heap.IsTuple b items2) : l ≠ b := fun e => by
  subst e
  obtain ⟨o, es, ep, ho, hc, _⟩ := hl
  obtain ⟨o2, ho2, hc2, _⟩ := hb
  rw [ho] at ho2
  cases ho2
  rw [hc] at hc2
  exact absurd hc2 (by simp)
theorem RcAt.dict_tuple {l b : Addr} {items2 : Array Value} (hl : IsDct s.heap l) (hb : s.heap.IsTuple b items2) (hu : A.units < cLine) : RcAt A s (.ref l) (.ref b) false := fun prog w E Q h => by
  have hne := ne_of_dct_tup hl hb
  obtain ⟨⟨cls, dd, data, sl⟩, es, ep, ho, hc, hd⟩ := id hl
  obtain ⟨⟨cls2, dd2, data2, sl2⟩, ho2, hc2, n2, hd2⟩ := id hb
  simp only at hc hd hc2 hd2
  subst hc hd hc2 hd2
  exact rc_eq_decline_or (k := false) ⟨_, ho, rfl⟩ ⟨_, ho2, rfl⟩ (by decide) F.sub_tuple_dict F.slot_dict_eq F.slot_tuple_eq_refl
    (fun _ hq => call_meets F.slot_dict_eq ⟨_, ho, rfl⟩ F.entry_dict_eq (F.args_dict_eq_2 _ _) (dict_eq_declines_tuple l b es ep n2 dd dd2 sl sl2 items2) ⟨ho, ho2, hq⟩)
    (fun _ hq => call_meets F.slot_tuple_eq_refl ⟨_, ho2, rfl⟩ F.entry_tuple_eq (F.args_tuple_eq_2 _ _) (tuple_eq_declines_dict b l items2 n2 dd2 sl2 _ rfl) ⟨ho2, ho, hq⟩)
    (fun _ hq => wpAny_isSame_ref_other hne ho ho2 (by simp) hq) (.inr hu) h
theorem RcAt.tuple_dict {l b : Addr} {items2 : Array Value} (hb : s.heap.IsTuple b items2) (hl : IsDct s.heap l) (hu : A.units < cLine) : RcAt A s (.ref b) (.ref l) false := fun prog w E Q h => by
  have hne := (ne_of_dct_tup hl hb).symm
  obtain ⟨⟨cls, dd, data, sl⟩, es, ep, ho, hc, hd⟩ := id hl
  obtain ⟨⟨cls2, dd2, data2, sl2⟩, ho2, hc2, n2, hd2⟩ := id hb
  simp only at hc hd hc2 hd2
  subst hc hd hc2 hd2
  exact rc_eq_decline_or (k := false) ⟨_, ho2, rfl⟩ ⟨_, ho, rfl⟩ (by decide) F.sub_dict_tuple F.slot_tuple_eq F.slot_dict_eq_refl
    (fun _ hq => call_meets F.slot_tuple_eq ⟨_, ho2, rfl⟩ F.entry_tuple_eq (F.args_tuple_eq_2 _ _) (tuple_eq_declines_dict b l items2 n2 dd2 sl2 _ rfl) ⟨ho2, ho, hq⟩)
    (fun _ hq => call_meets F.slot_dict_eq_refl ⟨_, ho, rfl⟩ F.entry_dict_eq (F.args_dict_eq_2 _ _) (dict_eq_declines_tuple l b es ep n2 dd dd2 sl sl2 items2) ⟨ho, ho2, hq⟩)
    (fun _ hq => wpAny_isSame_ref_other' hne ho2 ho (by simp) hq) (.inr hu) h
end
end PySem.SeqAt
namespace M
open PySem PySem.Spec PyProof.Rows L2
/-- == told by the kinds alone, or by a tuple that is empty -/
def eqK : D → D → Option Bool
  | .tup xs, .tup ys => if xs.isEmpty || ys.isEmpty then some (xs.isEmpty && ys.isEmpty) else none
  | .tup _, .int _ => some false | .int _, .tup _ => some false
  | .dct _, .int _ => some false | .int _, .dct _ => some false
  | .dct _, .tup _ => some false | .tup _, .dct _ => some false
  | _, _ => none
def eqKN : D → D → Option Bool
  | .tup xs, .tup ys => if xs.isEmpty || ys.isEmpty then some (!(xs.isEmpty && ys.isEmpty)) else none
  | _, _ => none
def fEqK (d e : D) : Option Res := match fEq d e with
  | some r => some r
  | none => (eqK d e).map fun b => .val (.bl b)
def fNeK (d e : D) : Option Res := match fNe d e with
  | some r => some r
  | none => (eqKN d e).map fun b => .val (.bl b)
/-- a value of one of the kinds -/
inductive Kd where
  | i | t | d
def IsK (K : PySem.W.Frag) (H : Hp) (x : V) : Kd → Prop
  | .i => ∃ i, x = .int i
  | .t => ∃ a xs, x = .ref a ∧ SqT K H a xs
  | .d => ∃ a xs, x = .ref a ∧ Rd H a (.dK xs)
def rEqK (K : PySem.W.Frag) : R2 := fun x y H Q => (∃ i j, i ≠ j ∧ IsK K H x i ∧ IsK K H y j ∧ Q (.bl false) H) ∨
  ∃ a b xs ys, x = .ref a ∧ y = .ref b ∧ SqT K H a xs ∧ SqT K H b ys ∧ (xs.isEmpty || ys.isEmpty) = true ∧ Q (.bl (xs.isEmpty && ys.isEmpty)) H
def rNeK (K : PySem.W.Frag) : R2 := fun x y H Q =>
  ∃ a b xs ys, x = .ref a ∧ y = .ref b ∧ SqT K H a xs ∧ SqT K H b ys ∧ (xs.isEmpty || ys.isEmpty) = true ∧ Q (.bl (!(xs.isEmpty && ys.isEmpty))) H
section
variable {X : Cx} {pins : List (Addr × Obj)} {σ : L2.St} {H : Hp} {s : Shared}
theorem isDct_rd {a : Addr} {xs : List (Key × V)} (I : Inv X pins σ H s) (h : Rd H a (.dK xs)) : PySem.SeqAt.IsDct s.heap a := by
  obtain ⟨_, _, vs, _, o, es, ep, ho, ⟨hc, _⟩, hd, _⟩ := dk_rd I.hok h
  exact ⟨o, es, ep, ho, hc, hd⟩
theorem sz_empty {xs : List V} {its : List Value} (r : Vals xs its) : its.toArray.size = xs.length := by
  rw [List.size_toArray]; exact r.length.symm
theorem op_eqK (hu : X.A.units + 64 < cLine) : OpR X (compareOp .Eq) (rEqK X.K) := by
  intro pins s σ H x y v u Q I rx ry h
  have hu' : X.A.units < cLine := by omega
  show wpAny (model X.prog X.w) X.A (richCompare .Eq v u) _ _ s
  rcases h with ⟨i, j, hij, hx, hy, q⟩ | ⟨a, b, xs, ys, rfl, rfl, ha, hb, he, q⟩
  · have fin : EP X pins σ Q (.bool false) s := ⟨.bl _, H, I, rfl, q⟩
    cases i with
    | i =>
      obtain ⟨i, rfl⟩ := hx
      obtain ⟨t, rfl⟩ := rx
      cases j with
      | i => exact absurd rfl hij
      | t =>
        obtain ⟨b, ys, rfl, hb⟩ := hy
        obtain rfl : u = Value.ref b := ry
        obtain ⟨its, rv, hT, _⟩ := I.tuple hb
        exact PySem.SeqAt.RcAt.int_tuple i t hT hu' X.prog X.w _ _ fin
      | d =>
        obtain ⟨b, ys, rfl, hb⟩ := hy
        obtain rfl : u = Value.ref b := ry
        exact PySem.SeqAt.RcAt.int_dict i t (isDct_rd I hb) hu' X.prog X.w _ _ fin
    | t =>
      obtain ⟨a, xs, rfl, ha⟩ := hx
      obtain rfl : v = Value.ref a := rx
      obtain ⟨its, rv, hT, _⟩ := I.tuple ha
      cases j with
      | i =>
        obtain ⟨i, rfl⟩ := hy
        obtain ⟨t, rfl⟩ := ry
        exact PySem.SeqAt.RcAt.tuple_int i t hT hu' X.prog X.w _ _ fin
      | t => exact absurd rfl hij
      | d =>
        obtain ⟨b, ys, rfl, hb⟩ := hy
        obtain rfl : u = Value.ref b := ry
        exact PySem.SeqAt.RcAt.tuple_dict hT (isDct_rd I hb) hu' X.prog X.w _ _ fin
    | d =>
      obtain ⟨a, xs, rfl, ha⟩ := hx
      obtain rfl : v = Value.ref a := rx
      cases j with
      | i =>
        obtain ⟨i, rfl⟩ := hy
        obtain ⟨t, rfl⟩ := ry
        exact PySem.SeqAt.RcAt.dict_int i t (isDct_rd I ha) hu' X.prog X.w _ _ fin
      | t =>
        obtain ⟨b, ys, rfl, hb⟩ := hy
        obtain rfl : u = Value.ref b := ry
        obtain ⟨its, rv, hT, _⟩ := I.tuple hb
        exact PySem.SeqAt.RcAt.dict_tuple (isDct_rd I ha) hT hu' X.prog X.w _ _ fin
      | d => exact absurd rfl hij
  · obtain rfl : v = Value.ref a := rx
    obtain rfl : u = Value.ref b := ry
    obtain ⟨its, rv, hT, _⟩ := I.tuple ha
    obtain ⟨its2, rv2, hT2, _⟩ := I.tuple hb
    have s1 := sz_empty rv
    have s2 := sz_empty rv2
    refine PySem.SeqAt.RcAt.tuples (e := fun _ => true) hT hT2 hu' (fun k h1 h2 => ?_) X.prog X.w _ _ ⟨.bl _, H, I, ?_, q⟩
    · rw [s1] at h1; rw [s2] at h2
      cases xs with
      | nil => simp at h1
      | cons => cases ys with
        | nil => simp at h2
        | cons => simp at he
    · show Value.bool _ = Value.bool _
      rw [s1, s2]
      cases xs <;> cases ys <;> simp at he ⊢
theorem op_neK (hu : X.A.units + 64 < cLine) : OpR X (compareOp .NotEq) (rNeK X.K) := by
  intro pins s σ H x y v u Q I rx ry h
  have hu' : X.A.units < cLine := by omega
  show wpAny (model X.prog X.w) X.A (richCompare .NotEq v u) _ _ s
  obtain ⟨a, b, xs, ys, rfl, rfl, ha, hb, he, q⟩ := h
  obtain rfl : v = Value.ref a := rx
  obtain rfl : u = Value.ref b := ry
  obtain ⟨its, rv, hT, _⟩ := I.tuple ha
  obtain ⟨its2, rv2, hT2, _⟩ := I.tuple hb
  have s1 := sz_empty rv
  have s2 := sz_empty rv2
  refine PySem.SeqAt.RcNeAt.tuples (e := fun _ => true) hT hT2 hu' (fun k h1 h2 => ?_) X.prog X.w _ _ ⟨.bl _, H, I, ?_, q⟩
  · rw [s1] at h1; rw [s2] at h2
    cases xs with
    | nil => simp at h1
    | cons => cases ys with
      | nil => simp at h2
      | cons => simp at he
  · show Value.bool _ = Value.bool _
    rw [s1, s2]
    cases xs <;> cases ys <;> simp at he ⊢
def rEqAK (K : PySem.W.Frag) : R2 := fun x y H Q => rEqA K x y H Q ∨ rEqK K x y H Q
def rNeAK (K : PySem.W.Frag) : R2 := fun x y H Q => rNeA K x y H Q ∨ rNeK K x y H Q
theorem o_eqK (hu : X.A.units + 64 < cLine) : OpR X (compareOp .Eq) (rEqAK X.K) := (o_eq hu).or (op_eqK hu)
theorem o_neK (hu : X.A.units + 64 < cLine) : OpR X (compareOp .NotEq) (rNeAK X.K) := (o_ne hu).or (op_neK hu)
theorem isK_tup {K : PySem.W.Frag} {F H : Hp} {x : V} {ds : List D} (le : Le F H) (t : Top K F H x (.tup ds)) : IsK K H x .t := by
  obtain ⟨a, xs, rfl, s1, r1⟩ := top_tup t
  exact ⟨a, xs, rfl, le_t le s1⟩
theorem isK_dct {K : PySem.W.Frag} {F H : Hp} {x : V} {ds : List (Key × D)} (t : Top K F H x (.dct ds)) : IsK K H x .d := by
  obtain ⟨a, xs, rfl, s1, r1⟩ := t
  exact ⟨a, xs, rfl, s1⟩
theorem isK_int {K : PySem.W.Frag} {F H : Hp} {x : V} {i : Int} (t : Top K F H x (.int i)) : IsK K H x .i := ⟨i, top_int t⟩
theorem s_eqK {K : PySem.W.Frag} : Snd2 K (rEqAK K) fEqK := by
  intro H0 W ok F H ρ A σ x y d1 d2 res Q t1 t2 e h
  unfold fEqK at e
  cases ee : fEq d1 d2 with
  | some r => rw [ee] at e; cases e; exact .inl (s_eq H0 W ok F H ρ A σ x y d1 d2 _ Q t1 t2 ee h)
  | none =>
    rw [ee] at e
    obtain ⟨b, e1, rfl⟩ := map_some' e
    unfold eqK at e1
    split at e1
    · obtain ⟨c, e2⟩ := ite_some' e1
      cases e2
      obtain ⟨a, xs, rfl, q1, r1⟩ := top_tup t1
      obtain ⟨b, ys, rfl, q2, r2⟩ := top_tup t2
      rw [← r1.isEmpty, ← r2.isEmpty] at c h
      exact .inr (.inr ⟨a, b, xs, ys, rfl, rfl, le_t h.1.le q1, le_t h.1.le q2, c, h.val (.bl _)⟩)
    · cases e1; exact .inr (.inl ⟨.t, .i, by simp, isK_tup h.1.le t1, isK_int t2, h.val (.bl _)⟩)
    · cases e1; exact .inr (.inl ⟨.i, .t, by simp, isK_int t1, isK_tup h.1.le t2, h.val (.bl _)⟩)
    · cases e1; exact .inr (.inl ⟨.d, .i, by simp, isK_dct t1, isK_int t2, h.val (.bl _)⟩)
    · cases e1; exact .inr (.inl ⟨.i, .d, by simp, isK_int t1, isK_dct t2, h.val (.bl _)⟩)
    · cases e1; exact .inr (.inl ⟨.d, .t, by simp, isK_dct t1, isK_tup h.1.le t2, h.val (.bl _)⟩)
    · cases e1; exact .inr (.inl ⟨.t, .d, by simp, isK_tup h.1.le t1, isK_dct t2, h.val (.bl _)⟩)
    · cases e1
theorem s_neK {K : PySem.W.Frag} : Snd2 K (rNeAK K) fNeK := by
  intro H0 W ok F H ρ A σ x y d1 d2 res Q t1 t2 e h
  unfold fNeK at e
  cases ee : fNe d1 d2 with
  | some r => rw [ee] at e; cases e; exact .inl (s_ne H0 W ok F H ρ A σ x y d1 d2 _ Q t1 t2 ee h)
  | none =>
    rw [ee] at e
    obtain ⟨b, e1, rfl⟩ := map_some' e
    unfold eqKN at e1
    split at e1
    · obtain ⟨c, e2⟩ := ite_some' e1
      cases e2
      obtain ⟨a, xs, rfl, q1, r1⟩ := top_tup t1
      obtain ⟨b, ys, rfl, q2, r2⟩ := top_tup t2
      rw [← r1.isEmpty, ← r2.isEmpty] at c h
      exact .inr ⟨a, b, xs, ys, rfl, rfl, le_t h.1.le q1, le_t h.1.le q2, c, h.val (.bl _)⟩
    · cases e1
end
end M

/-! M35: what repr of a tuple, of a dict tells, whoever else is shown just then: a text that begins with its bracket. -/
namespace M
open PySem PySem.Spec PyProof.Rows L2
open PySem.Builtin.Tuple PySem.Builtin
def Bgn (z : Str) : Prop := ∃ c r, z.cps.toList = c :: r ∧ (c = 40 ∨ c = 123)
theorem bgn_app {x : Str} (h : Bgn x) (y : Str) : Bgn (x ++ y) := by
  obtain ⟨c, r, e, k⟩ := h
  exact ⟨c, r ++ y.cps.toList, by rw [Str.cps_append, Array.toList_append, e]; rfl, k⟩
theorem bgn_t : Bgn ("(" : Str) := ⟨40, [], by decide +kernel, .inl rfl⟩
theorem bgn_d : Bgn ("{" : Str) := ⟨123, [], by decide +kernel, .inr rfl⟩
/-- shown within something, at n more levels, the value gives a text of at most L signs -/
def Shw (prog : Program) (w : World) (h : Heap) (n L : Nat) (x : Value) : Prop :=
  ∀ (b : Nat) (A : Around) (E : Value → Shared → Prop) (s : Shared) (Q : Str → Shared → Prop), b + L ≤ sizeLine → A.units + 4 * n + 4 < cLine → (∀ c o, h.get? c = some o → s.heap.get? c = some o) →
    (∀ z tk, z.length ≤ L → Q z { s with toks := tk }) → wpAny (model prog w) A (pyReprUnder b x) Q E s
section
variable {prog : Program} {w : World} {h : Heap} {n L : Nat}
theorem Shw.of_is {x : Value} {t : Str} (r : ReprIs prog w x t) (hl : t.length ≤ L) : Shw prog w h n L x := fun b A E s Q hb _ _ hQ => r b (by omega) A E s Q fun tk => hQ t tk hl
theorem shw_fold : ∀ (l : List Value) (acc : Array Str) (m : Nat) (A : Around) (E : Value → Shared → Prop) (s : Shared) (Q : (Array Str × Nat) → Shared → Prop), (∀ x ∈ l, Shw prog w h n L x) → m + l.length * (L + 2) ≤ sizeLine → A.units + 4 * n + 4 < cLine → (∀ c o, h.get? c = some o → s.heap.get? c = some o) →
    (∀ (ts : List Str) (k : Nat) (tk : Nat), piled ts ≤ l.length * (L + 2) → Q (acc ++ ts.toArray, k) { s with toks := tk }) → wpAny (model prog w) A (forIn l ((acc, m) : Array Str × Nat) tupBody) Q E s
  | [], acc, m, A, E, s, Q, _, _, _, _, hQ => by
    rw [List.forIn_nil]
    have q := hQ [] m s.toks (by simp [piled])
    exact wpAny_pure (by simpa using q)
  | x :: l, acc, m, A, E, s, Q, hx, hm, hu, hk, hQ => by
    rw [List.length_cons, Nat.succ_mul] at hm
    rw [List.forIn_cons]
    by_cases hl : l = []
    · refine wpAny_bind (wpAny_bind (hx x List.mem_cons_self (m + 1) A _ _ _ (by omega) hu hk fun z tk hz => wpAny_pure ?_))
      subst hl
      dsimp only
      rw [List.forIn_nil]
      have q := hQ [z] (m + (z.length + 2)) tk (by simp [piled]; omega)
      exact wpAny_pure (by simpa using q)
    · refine wpAny_bind (wpAny_bind (hx x List.mem_cons_self (m + 1) A _ _ _ (by omega) hu hk fun z tk hz => wpAny_pure ?_))
      dsimp only
      refine shw_fold l (acc.push z) (m + (z.length + 2)) A E { s with toks := tk } Q (fun y hy => hx y (List.mem_cons_of_mem _ hy)) (by omega) hu hk fun ts k tk' hp => ?_
      have q := hQ (z :: ts) k tk' (by rw [piled_cons, List.length_cons, Nat.succ_mul]; omega)
      simpa using q
theorem join_le : ∀ ts : List Str, (Str.join ", " ts).length ≤ piled ts
  | [] => by simp [piled, Str.join]; decide
  | t :: ts => by have := join_length_add (t :: ts) (by simp); omega
/-- a tuple's body -/
theorem tup_shown {c : Code} {A : Around} {E : Value → Shared → Prop} {s : Shared} {Q : Fin → Shared → Prop} {a : Addr} {o : Obj} {items : Array Value} {k b : Nat} (ha : s.heap.get? a = some o) (hd : o.data = .seq items k) (hi : ∀ x ∈ items.toList, Shw prog w h n L x)
    (hk : ∀ c o, h.get? c = some o → s.heap.get? c = some o) (hu : (A.under c).units + 4 * n + 4 < cLine) (hb : b + items.size * (L + 2) + 8 ≤ sizeLine) (hQ : ∀ z u tk, Bgn z → z.length ≤ items.size * (L + 2) + 8 → Q (.done (.ret (.str z u))) { s with toks := tk }) :
    wpOwn (model prog w) A c (tupleReprAt b ⟨[.ref a], []⟩) Q E s := by
  rw [tuple_repr_tree]
  refine wpOwn_of_wpAny ?_
  unfold tupleReprUnderWay
  refine wpAny_bind (wpAny_bind (wpAny_stack_any fun st => wpAny_pure ?_))
  generalize st.tail.any _ = run
  cases run with
  | true =>
    rw [if_pos rfl]
    refine wpAny_bind (wpAny_rule ?_)
    refine wpAny_bind (wpAny_mkStr (wpAny_pure ?_) (by rw [sizeLine_eq]; decide +kernel))
    exact hQ _ _ _ ⟨40, [46, 46, 46, 41], by decide +kernel, .inl rfl⟩ (by rw [show ("(...)" : Str).length = 5 from by decide +kernel]; omega)
  | false =>
    rw [if_neg (by simp)]
    unfold tupleReprRest tupleItemsOf
    refine wpAny_bind (wpAny_bind (wpAny_seqItems ha hd (wpAny_pure ?_)))
    rw [← Array.forIn_toList]
    refine wpAny_bind (shw_fold items.toList _ _ _ _ _ _ hi (by simp; omega) hu hk fun ts m tk hp => ?_)
    have e1 : ("(" : Str).length = 1 := by decide +kernel
    have e2 : ∀ q : Bool, ((if q = true then ",)" else ")" : String) : Str).length ≤ 2 := by intro q; cases q <;> decide +kernel
    have j := join_le ts
    rw [Array.length_toList] at hp
    have hlen : ∀ q : Bool, (("(" : Str) ++ Str.join ", " ts ++ ((if q = true then ",)" else ")" : String) : Str)).length ≤ items.size * (L + 2) + 8 := fun q => by
      rw [Str.length_append, Str.length_append]
      have := e2 q
      omega
    refine wpAny_bind (wpAny_mkStr (wpAny_pure ?_) ?_)
    · refine hQ _ _ _ (bgn_app (bgn_app bgn_t _) _) ?_
      simpa using hlen (items.size == 1)
    · have := hlen (items.size == 1)
      simp at this ⊢
      omega
/-- a tuple within something -/
theorem Shw.tup {a : Addr} {o : Obj} {items : Array Value} {k : Nat} (ha : h.get? a = some o) (hc : o.cls = .type "tuple") (hd : o.data = .seq items k) (hi : ∀ x ∈ items.toList, Shw prog w h n L x) : Shw prog w h (n + 1) (items.size * (L + 2) + 8) (.ref a) := fun b A E s Q hb hu hk hQ => by
  have hs := hk _ _ ha
  refine wpAny_pyReprUnder_ref (by omega) (wpAny_pyReprObjUnder_twin (twin := "tuple.__repr__.under") ⟨o, hs, hc⟩ F.slot_tuple_repr rfl (by omega) (call_twin_own (F.quiet_tuple_repr_under _) F.entry_tuple_repr_under F.check_tuple_repr_under ⟨o, hs, hc⟩ F.slot_tuple_repr (F.args_tuple_repr_1 _) ?_))
  exact tup_shown hs hd hi hk (by rw [units_under_tuple_repr_under]; omega) (by omega) fun z u tk _ hz => ⟨⟨_, _, rfl⟩, z, u, rfl, hQ z tk hz⟩
/-- a dict's body -/
theorem dct_shown {c : Code} {A : Around} {E : Value → Shared → Prop} {s : Shared} {Q : Fin → Shared → Prop} {a : Addr} {o : Obj} {es : Array DictEntry} {k b : Nat} (ha : s.heap.get? a = some o) (hc : o.cls = .type "dict") (hd : o.data = .dict es k) (hm : (a == sysModules) = false)
    (hi : ∀ e ∈ es.toList, Shw prog w h n L e.key ∧ Shw prog w h n L e.val)
    (hk : ∀ c o, h.get? c = some o → s.heap.get? c = some o) (hu : (A.under c).units + 4 * n + 4 < cLine) (hb : b + es.size * (2 * L + 4) + 8 ≤ sizeLine) (hQ : ∀ z u tk, Bgn z → z.length ≤ es.size * (2 * L + 4) + 8 → Q (.done (.ret (.str z u))) { s with toks := tk }) :
    wpOwn (model prog w) A c (dictReprAt b ⟨[.ref a], []⟩) Q E s := by
  refine wpOwn_of_wpAny ?_
  unfold dictReprAt Dict.dictSlotNone
  refine wpAny_bind (wpAny_bind (wpAny_notOrdered_dict ⟨o, ha, hc⟩ (wpAny_pure ?_)))
  unfold Dict.dictReprRunning
  refine wpAny_bind (wpAny_bind (wpAny_stack_any fun st => wpAny_pure ?_))
  generalize st.tail.any _ = run
  cases run with
  | true =>
    rw [if_pos rfl]
    refine wpAny_bind (wpAny_rule (wpAny_bind (wpAny_mkStr (wpAny_pure ?_) (by rw [sizeLine_eq]; decide +kernel))))
    exact hQ _ _ _ ⟨123, [46, 46, 46, 125], by decide +kernel, .inr rfl⟩ (by rw [show ("{...}" : Str).length = 5 from by decide +kernel]; omega)
  | false =>
    rw [if_neg (by simp)]
    refine wpAny_bind (m := Dict.addrOf (.ref a)) (wpAny_pure ?_)
    unfold Dict.showsAll
    rw [if_neg (by rw [hm]; simp)]
    refine wpAny_bind (wpAny_pure (wpAny_bind (wpAny_dictEpoch ha hd (wpAny_bind (wpAny_dictEntries ha hd (wpAny_bind ?_))))))
    rw [Std.Legacy.Range.forIn_eq_forIn_range']
    simp only [Std.Legacy.Range.size, Nat.sub_zero, Nat.add_sub_cancel, Nat.div_one]
    refine wpAny_forIn_list _ (fun rest r s' => ∃ (i : Nat) (ts : List Str) (tk : Nat), rest = List.range' i (es.size - i) ∧ i ≤ es.size ∧ r = (ts.toArray, b + piled ts) ∧ piled ts ≤ i * (2 * L + 4) ∧ s' = { s with toks := tk }) _ ?_ ?_ _ _ ⟨0, [], s.toks, by simp, Nat.zero_le _, by simp [piled], by simp [piled], rfl⟩
    · rintro x rest _ s' ⟨i, ts, tk, e, hi', rfl, hp, rfl⟩
      have hlt : i < es.size := by
        rcases Nat.lt_or_ge i es.size with z | z
        · exact z
        · rw [Nat.sub_eq_zero_of_le z] at e; cases e
      have e2 : es.size - i = (es.size - (i + 1)) + 1 := by omega
      rw [e2, List.range'_succ] at e
      injection e with ex er
      subst ex
      have hin := hi es[x] (by simp)
      have hmul : (x + 1) * (2 * L + 4) ≤ es.size * (2 * L + 4) := Nat.mul_le_mul_right _ hlt
      rw [Nat.succ_mul] at hmul
      refine wpAny_bind (wpAny_dictEntries ha hd ?_)
      rw [Array.getElem?_eq_getElem hlt]
      refine wpAny_bind (wpAny_holding (wpAny_bind (hin.1 _ _ _ _ _ (by omega) hu hk fun z1 t1 l1 => wpAny_bind (hin.2 _ _ _ _ _ (by omega) hu hk fun z2 t2 l2 => wpAny_pure ?_))))
      refine wpAny_bind (wpAny_dictEpoch ha hd ?_)
      rw [if_neg (by simp)]
      have l3 : (z1 ++ ": " ++ z2).length = z1.length + 2 + z2.length := by
        rw [Str.length_append, Str.length_append]
        have : (": " : Str).length = 2 := by decide +kernel
        omega
      have pa : piled (ts ++ [z1 ++ ": " ++ z2]) = piled ts + (z1.length + z2.length + 4) := by
        rw [piled_append, piled_cons, piled_nil, l3]; omega
      refine wpAny_pure ⟨x + 1, ts ++ [z1 ++ ": " ++ z2], t2, er, hlt, ?_, by rw [pa, Nat.succ_mul]; omega, rfl⟩
      rw [pa, Nat.add_assoc]
      simp
    · rintro _ s' ⟨i, ts, tk, e, hi', rfl, hp, rfl⟩
      have hin : i = es.size := by
        rcases Nat.lt_or_ge i es.size with z | z
        · have e2 : es.size - i = (es.size - (i + 1)) + 1 := by omega
          rw [e2, List.range'_succ] at e; cases e
        · omega
      subst hin
      have j := join_le ts
      have e1 : ("{" : Str).length = 1 := by decide +kernel
      have e3 : ("}" : Str).length = 1 := by decide +kernel
      have hlen : (("{" : Str) ++ Str.join ", " ts ++ "}").length ≤ es.size * (2 * L + 4) + 8 := by
        rw [Str.length_append, Str.length_append]; omega
      refine wpAny_bind (wpAny_mkStr (wpAny_pure ?_) ?_)
      · exact hQ _ _ _ (bgn_app (bgn_app bgn_d _) _) hlen
      · have : (("{" : Str) ++ Str.join ", " ts ++ "}").length ≤ sizeLine := by omega
        simpa using this
theorem Shw.dct {a : Addr} {o : Obj} {es : Array DictEntry} {k : Nat} (ha : h.get? a = some o) (hc : o.cls = .type "dict") (hd : o.data = .dict es k) (hm : (a == sysModules) = false) (hi : ∀ e ∈ es.toList, Shw prog w h n L e.key ∧ Shw prog w h n L e.val) : Shw prog w h (n + 1) (es.size * (2 * L + 4) + 8) (.ref a) := fun b A E s Q hb hu hk hQ => by
  have hs := hk _ _ ha
  refine wpAny_pyReprUnder_ref (by omega) (wpAny_pyReprObjUnder_twin (twin := "dict.__repr__.under") ⟨o, hs, hc⟩ F.slot_dict_repr rfl (by omega) (call_twin_own (F.quiet_dict_repr_under _) F.entry_dict_repr_under F.check_dict_repr_under ⟨o, hs, hc⟩ F.slot_dict_repr (F.args_dict_repr_1 _) ?_))
  exact dct_shown hs hc hd hm hi hk (by rw [units_under_dict_repr_under]; omega) (by omega) fun z u tk _ hz => ⟨⟨_, _, rfl⟩, z, u, rfl, hQ z tk hz⟩
theorem Shw.mono {n' L' : Nat} {x : Value} (r : Shw prog w h n L x) (hn : n ≤ n') (hL : L ≤ L') : Shw prog w h n' L' x := fun b A E s Q hb hu hk hQ => r b A E s Q (by omega) (by omega) hk fun z tk hz => hQ z tk (by omega)
/-- repr(t), repr(d) -/
theorem repr_tup {A : Around} {E : Value → Shared → Prop} {s : Shared} {Q : Value → Shared → Prop} {a : Addr} {o : Obj} {items : Array Value} {k : Nat} (ha : s.heap.get? a = some o) (hc : o.cls = .type "tuple") (hd : o.data = .seq items k) (hi : ∀ x ∈ items.toList, Shw prog w s.heap n L x)
    (hu : A.units + 4 * n + 8 < cLine) (hb : items.size * (L + 2) + 8 ≤ sizeLine) (hQ : ∀ z u tk, Bgn z → Q (.str z u) { s with toks := tk }) : wpAny (model prog w) A (call (.builtin "repr") [.ref a]) Q E s := by
  refine call_repr_slot (by omega) ⟨o, ha, hc⟩ F.slot_tuple_repr (wpAny_call (codeAny_call_builtin_own (Code.quiet_builtin _ (by decide +kernel)) F.entry_tuple_repr (F.slot_tuple_repr.check _ _ _ _ _ _ _ _ ⟨o, ha, hc⟩ (F.args_tuple_repr_1 _) ?_)))
  exact tup_shown (b := 0) ha hd hi (fun _ _ e => e) (by rw [units_under_tuple_repr]; show A.units + 1 + 1 + 4 * n + 4 < cLine; omega) (by omega) fun z u tk hz _ => ⟨_, _, rfl, hQ z u tk hz⟩
theorem repr_dct {A : Around} {E : Value → Shared → Prop} {s : Shared} {Q : Value → Shared → Prop} {a : Addr} {o : Obj} {es : Array DictEntry} {k : Nat} (ha : s.heap.get? a = some o) (hc : o.cls = .type "dict") (hd : o.data = .dict es k) (hm : (a == sysModules) = false) (hi : ∀ e ∈ es.toList, Shw prog w s.heap n L e.key ∧ Shw prog w s.heap n L e.val)
    (hu : A.units + 4 * n + 8 < cLine) (hb : es.size * (2 * L + 4) + 8 ≤ sizeLine) (hQ : ∀ z u tk, Bgn z → Q (.str z u) { s with toks := tk }) : wpAny (model prog w) A (call (.builtin "repr") [.ref a]) Q E s := by
  refine call_repr_slot (by omega) ⟨o, ha, hc⟩ F.slot_dict_repr (wpAny_call (codeAny_call_builtin_own (Code.quiet_builtin _ (by decide +kernel)) F.entry_dict_repr (F.slot_dict_repr.check _ _ _ _ _ _ _ _ ⟨o, ha, hc⟩ (F.args_dict_repr_1 _) ?_)))
  exact dct_shown (b := 0) ha hc hd hm hi (fun _ _ e => e) (by rw [units_under_dict_repr]; show A.units + 1 + 1 + 4 * n + 4 < cLine; omega) (by omega) fun z u tk hz _ => ⟨_, _, rfl, hQ z u tk hz⟩
end
end M

/-! M36: repr(x) == repr(y), x a tuple or a dict, y none. -/
namespace M
open PySem PySem.Spec PyProof.Rows L2
/-- shown, the datum has at most n levels and L signs -/
def Shd : Nat → Nat → D → Prop
  | _, L, .non => 4 ≤ L
  | _, L, .bl _ => 5 ≤ L
  | _, L, .int i => i.natAbs.log2 < 1920 ∧ (toString i : Str).length ≤ L
  | _, L, .str z => (reprText z).length ≤ L
  | n + 1, L, .tup ds => ∃ K, ds.length * (K + 2) + 8 ≤ L ∧ ∀ d ∈ ds, Shd n K d
  | n + 1, L, .dct kvs => ∃ K, kvs.length * (2 * K + 4) + 8 ≤ L ∧ ∀ kv ∈ kvs, Shd n K (kD kv.1) ∧ Shd n K kv.2
  | _, _, _ => False
theorem pairs_mem {P : Program} {w : World} : ∀ {es : List DictEntry} {vs : List (Key × Value)}, Pairs (mixKind P w) es vs → ∀ e ∈ es, ∃ kv ∈ vs, keyIs kv.1 e.key = true ∧ e.val = kv.2
  | _, _, .nil, e, h => by cases h
  | _, _, .cons (kv := kv) a b t, e, h => by
    rcases List.mem_cons.mp h with rfl | h
    · exact ⟨kv, List.mem_cons_self, a, b⟩
    · obtain ⟨kv', h1, h2⟩ := pairs_mem t e h
      exact ⟨kv', List.mem_cons_of_mem _ h1, h2⟩
theorem reps_vals {K : PySem.W.Frag} {F : Hp} : ∀ {xs : List V} {ds : List D} {its : List Value}, Reps K F xs ds → Vals xs its → ∀ u ∈ its, ∃ v d, d ∈ ds ∧ Rep K F v d ∧ RelV v u
  | _, _, _, .nil, .nil, u, h => by cases h
  | _, _, _, .cons a t, .cons b r, u, h => by
    rcases List.mem_cons.mp h with rfl | h
    · exact ⟨_, _, List.mem_cons_self, a, b⟩
    · obtain ⟨v, d, h1, h2⟩ := reps_vals t r u h
      exact ⟨v, d, List.mem_cons_of_mem _ h1, h2⟩
theorem repk_vals {K : PySem.W.Frag} {F : Hp} : ∀ {xs : List (Key × V)} {ds : List (Key × D)} {vs : List (Key × Value)}, RepK K F xs ds → KV xs vs → ∀ u ∈ vs, ∃ v d, (u.1, d) ∈ ds ∧ Rep K F v d ∧ RelV v u.2
  | _, _, _, .nil, .nil, u, h => by cases h
  | _, _, _, .cons a t, .cons b r, u, h => by
    rcases List.mem_cons.mp h with rfl | h
    · exact ⟨_, _, by rw [← b.1]; exact List.mem_cons_self, a, b.2⟩
    · obtain ⟨v, d, h1, h2⟩ := repk_vals t r u h
      exact ⟨v, d, List.mem_cons_of_mem _ h1, h2⟩
theorem repk_len {K : PySem.W.Frag} {F : Hp} {xs : List (Key × V)} {ds : List (Key × D)} {vs : List (Key × Value)} (r : RepK K F xs ds) (k : KV xs vs) : vs.length = ds.length := by
  rw [← r.length]
  exact (Paired.length k).symm
theorem pairs_len {P : Program} {w : World} {es : List DictEntry} {vs : List (Key × Value)} (p : Pairs (mixKind P w) es vs) : es.length = vs.length := p.length
section
variable {X : Cx} {pins : List (Addr × Obj)} {σ : L2.St} {F H : Hp} {s : Shared}
theorem key_shw {h : Heap} {n L : Nat} {k : Key} {v : Value} (e : keyIs k v = true) (q : Shd n L (kD k)) : Shw X.prog X.w h n L v := by
  rcases keyIs_shape e with ⟨i, t, rfl, rfl⟩ | ⟨x, t, rfl, rfl⟩
  · have q' : i.natAbs.log2 < 1920 ∧ (toString i : Str).length ≤ L := by cases n <;> exact q
    exact Shw.of_is (.int t q'.1) q'.2
  · have q' : (reprText x).length ≤ L := by cases n <;> exact q
    exact fun b A E s Q hb hu hk hQ => Shw.of_is (.str x t (by omega)) q' b A E s Q hb hu hk hQ
/-- what represents the datum is shown so -/
theorem shd_shw (I : Inv X pins σ H s) (le : Le F H) : ∀ {n L : Nat} {d : D} {v : V} {u : Value}, Rep X.K F v d → RelV v u → Shd n L d → Shw X.prog X.w s.heap n L u
  | n, L, .non, v, u, r, rv, q => by
    cases r; cases rv
    have q' : 4 ≤ L := by cases n <;> exact q
    exact Shw.of_is .none (by show ("None" : Str).length ≤ L; rw [show ("None" : Str).length = 4 from by decide +kernel]; exact q')
  | n, L, .bl b, v, u, r, rv, q => by
    cases r; cases rv
    have q' : 5 ≤ L := by cases n <;> exact q
    refine Shw.of_is (.bool b) (Nat.le_trans (m := 5) ?_ q')
    cases b <;> decide +kernel
  | n, L, .int i, v, u, r, rv, q => by
    cases r
    obtain ⟨t, rfl⟩ := rv
    have q' : i.natAbs.log2 < 1920 ∧ (toString i : Str).length ≤ L := by cases n <;> exact q
    exact Shw.of_is (.int t q'.1) q'.2
  | n, L, .str z, v, u, r, rv, q => by
    cases r
    obtain ⟨t, rfl⟩ := rv
    have q' : (reprText z).length ≤ L := by cases n <;> exact q
    exact fun b A E s Q hb hu hk hQ => Shw.of_is (.str z t (by omega)) q' b A E s Q hb hu hk hQ
  | n + 1, L, .tup ds, v, u, r, rv, q => by
    obtain ⟨K, hl, hd⟩ := q
    cases r with
    | @tup a xs _ h r =>
      obtain rfl : u = Value.ref a := rv
      obtain ⟨its, rvs, ⟨o, ho, hc, k, hdd⟩, _⟩ := I.tuple (le_t le h)
      refine (Shw.tup ho hc hdd fun x hx => ?_).mono (Nat.le_refl _) (L' := L) (by rw [List.size_toArray, ← rvs.length, r.length]; exact hl)
      obtain ⟨v, d, h1, h2, h3⟩ := reps_vals r rvs x (by simpa using hx)
      exact shd_shw I le h2 h3 (hd d h1)
  | n + 1, L, .dct kvs, v, u, r, rv, q => by
    obtain ⟨K, hl, hd⟩ := q
    cases r with
    | @dct a xs _ h r =>
      obtain rfl : u = Value.ref a := rv
      obtain ⟨od, hf⟩ := h
      obtain ⟨_, hm, vs, kv, o, es, ep, ho, ⟨hc, _⟩, hdd, _, hp, _⟩ := dk_rd I.hok (le.rd a _ (fun _ z => nomatch z) (.inr ⟨od, hf⟩))
      have hlen : es.size = kvs.length := by
        rw [← Array.length_toList, pairs_len hp, repk_len r kv]
      refine (Shw.dct (n := n) (L := K) ho hc hdd hm fun e he => ?_).mono (Nat.le_refl _) (by rw [hlen]; exact hl)
      obtain ⟨kv', m1, m2, m3⟩ := pairs_mem hp e he
      obtain ⟨v, d, h1, h2, h3⟩ := repk_vals r kv kv' m1
      obtain ⟨q1, q2⟩ := hd _ h1
      exact ⟨key_shw m2 q1, by rw [m3]; exact shd_shw I le h2 h3 q2⟩
  | 0, L, .tup ds, _, _, _, _, q => q.elim
  | 0, L, .dct ds, _, _, _, _, q => q.elim
  | 0, L, .adr _, _, _, _, _, q => q.elim
  | n + 1, L, .adr _, _, _, _, _, q => q.elim
  | 0, L, .ty _, _, _, _, _, q => q.elim
  | n + 1, L, .ty _, _, _, _, _, q => q.elim
  | 0, L, .lst _, _, _, _, _, q => q.elim
  | n + 1, L, .lst _, _, _, _, _, q => q.elim
  | 0, L, .rol _, _, _, _, _, q => q.elim
  | n + 1, L, .rol _, _, _, _, _, q => q.elim
  | 0, L, .ins _ _, _, _, _, _, q => q.elim
  | n + 1, L, .ins _ _, _, _, _, _, q => q.elim
end
/-- a datum with a bracket -/
def brk : D → Bool
  | .tup _ => true
  | .dct _ => true
  | _ => false
def rReprC (K : PySem.W.Frag) : List V → Hp → VK → Prop := fun xs H Q => ∃ x d F n L, xs = [x] ∧ Le F H ∧ Rep K F x d ∧ brk d = true ∧ Shd n L d ∧ n ≤ 12 ∧ L ≤ sizeLine ∧ ∀ z, Bgn z → Q (.str z) H
theorem call_reprC {X : Cx} (hu : X.A.units + 64 < cLine) : CallR X (.builtin "repr") (rReprC X.K) := by
  intro pins s σ H xs us Q I rs h
  obtain ⟨x, d, F, n, L, rfl, le, r, hb, q, hn, hL, hQ⟩ := h
  obtain ⟨u, rfl, rv⟩ := vals1 rs
  have fin : ∀ z u tk, Bgn z → EP X pins σ Q (.str z u) { s with toks := tk } := fun z u tk hz => ⟨.str z, H, I.tok _, ⟨_, rfl⟩, hQ z hz⟩
  cases d with
  | tup ds =>
    cases n with
    | zero => exact q.elim
    | succ n =>
      obtain ⟨K, hl, hd⟩ := q
      cases r with
      | @tup a xs _ h r =>
        obtain rfl : u = Value.ref a := rv
        obtain ⟨its, rvs, ⟨o, ho, hc, k, hdd⟩, _⟩ := I.tuple (le_t le h)
        refine repr_tup (n := n) (L := K) ho hc hdd (fun x hx => ?_) (by omega) (by rw [List.size_toArray, ← rvs.length, r.length]; omega) fin
        obtain ⟨v, d, h1, h2, h3⟩ := reps_vals r rvs x (by simpa using hx)
        exact shd_shw I le h2 h3 (hd d h1)
  | dct kvs =>
    cases n with
    | zero => exact q.elim
    | succ n =>
      obtain ⟨K, hl, hd⟩ := q
      cases r with
      | @dct a xs _ h r =>
        obtain rfl : u = Value.ref a := rv
        obtain ⟨od, hf⟩ := h
        obtain ⟨_, hm, vs, kv, o, es, ep, ho, ⟨hc, _⟩, hdd, _, hp, _⟩ := dk_rd I.hok (le.rd a _ (fun _ z => nomatch z) (.inr ⟨od, hf⟩))
        have hlen : es.size = kvs.length := by
          rw [← Array.length_toList, pairs_len hp, repk_len r kv]
        refine repr_dct (n := n) (L := K) ho hc hdd hm (fun e he => ?_) (by omega) (by rw [hlen]; omega) fin
        obtain ⟨kv', m1, m2, m3⟩ := pairs_mem hp e he
        obtain ⟨v, d, h1, h2, h3⟩ := repk_vals r kv kv' m1
        obtain ⟨q1, q2⟩ := hd _ h1
        exact ⟨key_shw m2 q1, by rw [m3]; exact shd_shw I le h2 h3 q2⟩
  | _ => cases hb

/-! ### the comparison -/
def bgnB (z : Str) : Bool := match z.cps.toList with
  | c :: _ => c == 40 || c == 123
  | [] => false
theorem bgn_no {x z : Str} (h : Bgn x) (hz : bgnB z = false) : x ≠ z := fun e => by
  subst e
  obtain ⟨c, r, e, k⟩ := h
  unfold bgnB at hz
  rw [e] at hz
  rcases k with rfl | rfl <;> simp at hz
open Classical in
noncomputable def gReprK (gb : EM (List Res)) (rs : List Res) : EM Res := match rs with
  | [.val d] => if brk d = true ∧ ∃ n L, Shd n L d ∧ n ≤ 12 ∧ L ≤ sizeLine then (gCall fRepr gb).bind fun r => match r with
      | .val (.str z) => if bgnB z = false then EM.pure (.val (.bl false)) else fun _ => none
      | _ => fun _ => none
    else fun _ => none
  | _ => fun _ => none
noncomputable def gReprC (ga gb : EM (List Res)) : EM Res := ga.bind (gReprK gb)
/-- repr(a) == repr(b) -/
noncomputable def gReprEq (ga gb : EM (List Res)) : EM Res := fun ρ => match gOp fEq (gCall fRepr ga) (gCall fRepr gb) ρ with
  | some o => some o
  | none => gReprC ga gb ρ
section
variable {X : Cx} {H0 : HE} {W : WX} {a b : Expr} {as bs : List Expr} {p1 p2 q1 q2 pos : Pos} {ga gb : EM (List Res)}
theorem _root_.L2.PE.either {e : Expr} {t1 t2 : TE} (h1 : PE X e t1) (h2 : PE X e t2) : PE X e (fun σ H Q => t1 σ H Q ∨ t2 σ H Q) := ⟨fun pins s σ H Q I q => q.elim (h1.run pins s σ H Q I) (h2.run pins s σ H Q I)⟩
theorem p_reprEq (hu : X.A.units + 64 < cLine) (hg : Gl X "repr") (hm : X.mg "repr" = none) (ha : PA X (a :: as) (tA X.K H0 W ga)) (hb : PA X (b :: bs) (tA X.K H0 W gb)) (hmk : behindInMarks .Eq (.Call (.Name "repr" q1) (b :: bs) [] q2) = false)
    (he : starEach (a :: as) X.env = (false, eval a X.env) :: starEach as X.env := by rfl) (hpl : (backTo p2 (starEach as X.env)).any (·.1) = false := by rfl)
    (he2 : starEach (b :: bs) X.env = (false, eval b X.env) :: starEach bs X.env := by rfl) (hpl2 : (backTo q2 (starEach bs X.env)).any (·.1) = false := by rfl) :
    PE X (.Compare (.Call (.Name "repr" p1) (a :: as) [] p2) [.Eq] [.Call (.Name "repr" q1) (b :: bs) [] q2] pos) (tE X.K H0 W (gReprEq ga gb)) := by
  have pb : PE X (.Call (.Name "repr" q1) (b :: bs) [] q2) (tE X.K H0 W (gCall fRepr gb)) := p_callB s_repr call_repr hg hm Boot.«repr» hb (he := he2) (hpl := hpl2)
  have h1 : PE X (.Compare (.Call (.Name "repr" p1) (a :: as) [] p2) [.Eq] [.Call (.Name "repr" q1) (b :: bs) [] q2] pos) (tE X.K H0 W (gOp fEq (gCall fRepr ga) (gCall fRepr gb))) :=
    p_cmp (o_eq hu) s_eq (p_callB s_repr call_repr hg hm Boot.«repr» ha (he := he) (hpl := hpl)) pb hmk
  have h2 : PE X (.Compare (.Call (.Name "repr" p1) (a :: as) [] p2) [.Eq] [.Call (.Name "repr" q1) (b :: bs) [] q2] pos) (tOp rEq (tCB (rReprC X.K) (tA X.K H0 W ga)) (tE X.K H0 W (gCall fRepr gb))) :=
    pe_cmpR op_eq (pe_callB (call_reprC hu) hg hm Boot.«repr» ha (he := he) (hpl := hpl)) pb hmk
  refine (h1.either h2).weak fun σ H Q h => ?_
  obtain ⟨F, ρ, A, er, kn, o, e, p⟩ := h
  unfold gReprEq at e
  cases e1 : gOp fEq (gCall fRepr ga) (gCall fRepr gb) ρ with
  | some o1 =>
    rw [e1] at e
    cases e
    exact .inl ⟨F, ρ, A, er, kn, o, e1, p⟩
  | none =>
    rw [e1] at e
    dsimp only at e
    refine .inr ⟨F, ρ, A, WpAt.bind (f := gReprK gb) (R' := RAt X.K H0) (ok := Okp ρ A H) (Q := Q) ⟨er, kn, o, e, p⟩ fun vs rs F1 H1 ρ1 tr sb ra hh => ?_⟩
    unfold gReprK at hh
    split at hh
    · rename_i d
      split at hh
      · rename_i hc
        obtain ⟨hbk, n, L, hs, hn, hL⟩ := hc
        obtain ⟨pr, _⟩ := ra
        cases pr with
        | cons a1 t1 =>
          cases t1
          refine ⟨_, d, F1, n, L, rfl, hh.1.le, a1, hbk, hs, hn, hL, fun z hz => ⟨F1, ρ1, A, hh.bind fun y r2 F2 H2 ρ2 tr2 sb2 rb h2 => ?_⟩⟩
          split at h2
          · rename_i z2
            split at h2
            · rename_i hz2
              cases rb
              refine ⟨rfl, ?_⟩
              have : decide (V.str z = V.str z2) = false := decide_eq_false fun q => bgn_no hz hz2 (V.str.inj q)
              rw [this]
              exact h2.val (.bl false)
            · exact bad_lift (γ := Res) h2
          · exact bad_lift (γ := Res) h2
      · exact bad_lift (γ := Res) hh
    · exact bad_lift (γ := Res) hh
end
end M

/-! M37: text * int. -/
namespace M
open PySem PySem.Spec PyProof.Rows L2
def repS (x : Str) (k : Int) : Str := if k < 1 then Str.empty else if (k == 1 || x.length == 0) = true then x else ⟨(List.replicate k.toNat x.cps).foldl (· ++ ·) #[]⟩
theorem fold_size (a : Array Nat) : ∀ (k : Nat) (acc : Array Nat), ((List.replicate k a).foldl (· ++ ·) acc).size = acc.size + k * a.size
  | 0, acc => by simp
  | k + 1, acc => by
    rw [List.replicate_succ, List.foldl_cons, fold_size a k]
    rw [Array.size_append, Nat.succ_mul]; omega
theorem repS_len {x : Str} {k : Int} (hk : k ≤ 1000) (hx : x.length ≤ 1000) : (repS x k).length ≤ 1000000 := by
  unfold repS
  split
  · show Str.empty.length ≤ _; decide
  · split
    · omega
    · show ((List.replicate k.toNat x.cps).foldl (· ++ ·) #[]).size ≤ _
      rw [fold_size]
      have h1 : x.cps.size ≤ 1000 := hx
      have h2 : k.toNat * x.cps.size ≤ 1000 * 1000 := Nat.mul_le_mul (by omega) h1
      simp
      omega
def rMulS : R2 := fun x y H Q => ∃ i k, x = .str i ∧ y = .int k ∧ -1000 ≤ k ∧ k ≤ 1000 ∧ i.length ≤ 1000 ∧ Q (.str (repS i k)) H
theorem op_mulS {X : Cx} : OpR X (binaryOp .Mult) rMulS := by
  intro pins s σ H x y v u Q I rx ry h
  obtain ⟨i, k, rfl, rfl, h1, h2, h3, q⟩ := h
  obtain ⟨t, rfl⟩ := rx
  obtain ⟨t', rfl⟩ := ry
  have hl := repS_len (x := i) h2 h3
  refine PySem.P.mul_str ?_ (fun a b => ?_) (fun a b => ?_) ?_
  · rw [decide_eq_false (by omega), decide_eq_false (by omega)]; rfl
  · have : (1000 : Int) ≤ (2 ^ 63 - 1) / k := by
      rw [Int.le_ediv_iff_mul_le (by omega)]; omega
    omega
  · have : i.length * k.toNat ≤ 1000 * 1000 := Nat.mul_le_mul h3 (by omega)
    unfold Builtin.Str.tooLong
    simp [sizeLine_eq]
    omega
  · unfold repS at hl q
    split
    · rename_i c
      rw [if_pos c] at q
      exact ⟨by decide, .str _, H, I.tok _, ⟨_, rfl⟩, q⟩
    · rename_i c
      rw [if_neg c] at q hl
      split
      · rename_i d
        rw [if_pos d] at q
        exact ⟨.str i, H, I, ⟨_, rfl⟩, q⟩
      · rename_i d
        rw [if_neg d] at q hl
        exact ⟨by rw [sizeLine_eq]; omega, .str _, H, I.tok _, ⟨_, rfl⟩, q⟩
def fMulS (d e : D) : Option Res := match d, e with
  | .str i, .int k => if -1000 ≤ k ∧ k ≤ 1000 ∧ i.length ≤ 1000 then rv (.str (repS i k)) else none
  | d, e => fMul d e
def rMulAS (K : PySem.W.Frag) : R2 := fun x y H Q => rMulA K x y H Q ∨ rMulS x y H Q
theorem o_mulS {X : Cx} : OpR X (binaryOp .Mult) (rMulAS X.K) := o_mul.or op_mulS
theorem s_mulS {K : PySem.W.Frag} : Snd2 K (rMulAS K) fMulS := by
  intro H0 W ok F H ρ A σ x y d1 d2 res Q t1 t2 e h
  unfold fMulS at e
  split at e
  · obtain ⟨⟨c1, c2, c3⟩, e⟩ := ite_some' e
    cases e
    cases top_str t1; cases top_int t2
    exact .inr ⟨_, _, rfl, rfl, c1, c2, c3, h.val (.str _)⟩
  · exact .inl (s_mul H0 W ok F H ρ A σ x y _ _ res Q t1 t2 e h)
end M
namespace M
open PySem PySem.Spec PyProof.Rows L2
/-! ### str(flag) -/
def fStrB : List D → Option Res
  | [.bl b] => some (.val (.str (if b then "True" else "False")))
  | ds => fStr ds
def rStrB : List V → Hp → VK → Prop := fun xs H Q => (∃ b, xs = [.bl b] ∧ Q (.str (if b then "True" else "False")) H) ∨ rStr xs H Q
theorem call_strB {X : Cx} : CallR X (.type "str") rStrB := by
  intro pins s σ H xs us Q I r h
  rcases h with ⟨b, rfl, q⟩ | h
  · obtain ⟨u, rfl, r1⟩ := vals1 r
    cases r1
    exact PySem.P.str_of_bool ⟨.str _, H, I.tok _, ⟨_, rfl⟩, q⟩
  · exact call_strA pins s σ H xs us Q I r h
theorem s_strB {K : PySem.W.Frag} : SndL K rStrB fStrB := by
  intro H0 W ok F H ρ A σ xs ds res Q t e h
  unfold fStrB at e
  split at e
  · cases e
    obtain ⟨x, rfl, t1⟩ := tops1 t
    cases top_bl t1
    exact .inl ⟨_, rfl, h.val (.str _)⟩
  · exact .inr (s_str H0 W ok F H ρ A σ xs _ res Q t e h)
end M

namespace My
open PySem PySem.Spec PyProof.Rows L2 M
noncomputable section
def topS (i : Nat) : Stmt := PySem.Challenge.pw_shapekeep_k04_main_whole_values_that_are.main.body.getD i (.Pass ⟨0, 0, 0, 0⟩)
/-- the addresses that the mirrors lean on -/
structure Ads where
  (ShapeError InvalidValue : Addr)
def ads (K : PySem.W.Frag) : Ads := ⟨He.ga K "ShapeError", He.ga K "InvalidValue"⟩
def TT (K : PySem.W.Frag) : List (Addr × Str) := [((He.cT K ("_law_right", none)).2, "_law_right" ++ ".<locals>." ++ "<lambda>")]
/-- what the head tells of K -/
structure Fx (K : PySem.W.Frag) (mg : Str → Option Value) (base : Heap) : Prop where
  F_is_name : ∃ fd, FunD K "is_name" "is_name" (defArgs (topS 4)) (defBody (topS 4)) (defScope (topS 4)) [] [] (He.fAd K ("is_name", none)) fd
  F_has_level : ∃ fd, FunD K "has_level" "has_level" (defArgs (topS 5)) (defBody (topS 5)) (defScope (topS 5)) [] [] (He.fAd K ("has_level", none)) fd
  F_same_values : ∃ fd, FunD K "same_values" "same_values" (defArgs (topS 6)) (defBody (topS 6)) (defScope (topS 6)) [] [] (He.fAd K ("same_values", none)) fd
  F_InvalidValue_init : ∃ fd, FunD K "__init__" "InvalidValue.__init__" (defArgs (inClass (topS 9) 0)) (defBody (inClass (topS 9) 0)) (defScope (inClass (topS 9) 0)) [] [] (He.fAd K ("InvalidValue", some "__init__")) fd
  F_is_value : ∃ fd, FunD K "is_value" "is_value" (defArgs (topS 11)) (defBody (topS 11)) (defScope (topS 11)) [] [] (He.fAd K ("is_value", none)) fd
  F_same : ∃ fd, FunD K "same" "same" (defArgs (topS 12)) (defBody (topS 12)) (defScope (topS 12)) [] [] (He.fAd K ("same", none)) fd
  F__law_pail : ∃ fd, FunD K "_law_pail" "_law_pail" (defArgs (topS 14)) (defBody (topS 14)) (defScope (topS 14)) [] [] (He.fAd K ("_law_pail", none)) fd
  F__law_deal : ∃ fd, FunD K "_law_deal" "_law_deal" (defArgs (topS 15)) (defBody (topS 15)) (defScope (topS 15)) [] [] (He.fAd K ("_law_deal", none)) fd
  F__law_any : ∃ fd, FunD K "_law_any" "_law_any" (defArgs (topS 16)) (defBody (topS 16)) (defScope (topS 16)) [] [] (He.fAd K ("_law_any", none)) fd
  F__law_shuffled : ∃ fd, FunD K "_law_shuffled" "_law_shuffled" (defArgs (topS 17)) (defBody (topS 17)) (defScope (topS 17)) [] [] (He.fAd K ("_law_shuffled", none)) fd
  F__law_same : ∃ fd, FunD K "_law_same" "_law_same" (defArgs (topS 18)) (defBody (topS 18)) (defScope (topS 18)) [] [] (He.fAd K ("_law_same", none)) fd
  F__law_swapped : ∃ fd, FunD K "_law_swapped" "_law_swapped" (defArgs (topS 19)) (defBody (topS 19)) (defScope (topS 19)) [] [] (He.fAd K ("_law_swapped", none)) fd
  F__law_name : ∃ fd, FunD K "_law_name" "_law_name" (defArgs (topS 20)) (defBody (topS 20)) (defScope (topS 20)) [] [] (He.fAd K ("_law_name", none)) fd
  F__law_names : ∃ fd, FunD K "_law_names" "_law_names" (defArgs (topS 21)) (defBody (topS 21)) (defScope (topS 21)) [] [] (He.fAd K ("_law_names", none)) fd
  F__law_text : ∃ fd, FunD K "_law_text" "_law_text" (defArgs (topS 22)) (defBody (topS 22)) (defScope (topS 22)) [] [] (He.fAd K ("_law_text", none)) fd
  F__law_number : ∃ fd, FunD K "_law_number" "_law_number" (defArgs (topS 23)) (defBody (topS 23)) (defScope (topS 23)) [] [] (He.fAd K ("_law_number", none)) fd
  F__law_any_value : ∃ fd, FunD K "_law_any_value" "_law_any_value" (defArgs (topS 24)) (defBody (topS 24)) (defScope (topS 24)) [] [] (He.fAd K ("_law_any_value", none)) fd
  F__law_copy : ∃ fd, FunD K "_law_copy" "_law_copy" (defArgs (topS 25)) (defBody (topS 25)) (defScope (topS 25)) [] [] (He.fAd K ("_law_copy", none)) fd
  F__law_otherwise : ∃ fd, FunD K "_law_otherwise" "_law_otherwise" (defArgs (topS 26)) (defBody (topS 26)) (defScope (topS 26)) [] [] (He.fAd K ("_law_otherwise", none)) fd
  F__law_refused : ∃ fd, FunD K "_law_refused" "_law_refused" (defArgs (topS 27)) (defBody (topS 27)) (defScope (topS 27)) [] [] (He.fAd K ("_law_refused", none)) fd
  F__law_bounds_right : ∃ fd, FunD K "_law_bounds_right" "_law_bounds_right" (defArgs (topS 28)) (defBody (topS 28)) (defScope (topS 28)) [] [] (He.fAd K ("_law_bounds_right", none)) fd
  F__law_right : ∃ fd, FunD K "_law_right" "_law_right" (defArgs (topS 29)) (defBody (topS 29)) (defScope (topS 29)) [] [] (He.fAd K ("_law_right", none)) fd
  F_law : ∃ fd, FunD K "law" "law" (defArgs (topS 30)) (defBody (topS 30)) (defScope (topS 30)) [] [] (He.fAd K ("law", none)) fd
  g_is_name : mg "is_name" = some (.ref (He.fAd K ("is_name", none)))
  g_has_level : mg "has_level" = some (.ref (He.fAd K ("has_level", none)))
  g_same_values : mg "same_values" = some (.ref (He.fAd K ("same_values", none)))
  g_is_value : mg "is_value" = some (.ref (He.fAd K ("is_value", none)))
  g_same : mg "same" = some (.ref (He.fAd K ("same", none)))
  g__law_pail : mg "_law_pail" = some (.ref (He.fAd K ("_law_pail", none)))
  g__law_deal : mg "_law_deal" = some (.ref (He.fAd K ("_law_deal", none)))
  g__law_any : mg "_law_any" = some (.ref (He.fAd K ("_law_any", none)))
  g__law_shuffled : mg "_law_shuffled" = some (.ref (He.fAd K ("_law_shuffled", none)))
  g__law_same : mg "_law_same" = some (.ref (He.fAd K ("_law_same", none)))
  g__law_swapped : mg "_law_swapped" = some (.ref (He.fAd K ("_law_swapped", none)))
  g__law_name : mg "_law_name" = some (.ref (He.fAd K ("_law_name", none)))
  g__law_names : mg "_law_names" = some (.ref (He.fAd K ("_law_names", none)))
  g__law_text : mg "_law_text" = some (.ref (He.fAd K ("_law_text", none)))
  g__law_number : mg "_law_number" = some (.ref (He.fAd K ("_law_number", none)))
  g__law_any_value : mg "_law_any_value" = some (.ref (He.fAd K ("_law_any_value", none)))
  g__law_copy : mg "_law_copy" = some (.ref (He.fAd K ("_law_copy", none)))
  g__law_otherwise : mg "_law_otherwise" = some (.ref (He.fAd K ("_law_otherwise", none)))
  g__law_refused : mg "_law_refused" = some (.ref (He.fAd K ("_law_refused", none)))
  g__law_bounds_right : mg "_law_bounds_right" = some (.ref (He.fAd K ("_law_bounds_right", none)))
  g__law_right : mg "_law_right" = some (.ref (He.fAd K ("_law_right", none)))
  g_law : mg "law" = some (.ref (He.fAd K ("law", none)))
  g_ShapeError : mg "ShapeError" = some (.ref (He.ga K "ShapeError"))
  g_InvalidValue : mg "InvalidValue" = some (.ref (He.ga K "InvalidValue"))
  n_abs : mg "abs" = none
  n_all : mg "all" = none
  n_bool : mg "bool" = none
  n_dict : mg "dict" = none
  n_divmod : mg "divmod" = none
  n_int : mg "int" = none
  n_isinstance : mg "isinstance" = none
  n_len : mg "len" = none
  n_list : mg "list" = none
  n_min : mg "min" = none
  n_range : mg "range" = none
  n_repr : mg "repr" = none
  n_sorted : mg "sorted" = none
  n_str : mg "str" = none
  n_tuple : mg "tuple" = none
  n_zip : mg "zip" = none
  c_LETTERS : ∃ t, mg "LETTERS" = some (.str "abcdefghijklmnopqrstuvwxyz" t)
  c_MAX_ELEMENTS : ∃ t, mg "MAX_ELEMENTS" = some (.int 60 t)
  c_MAX_LEVELS : ∃ t, mg "MAX_LEVELS" = some (.int 6 t)
  x_InvalidValue : OexC K (He.ga K "InvalidValue")
  i_InvalidValue : PySem.W.findIn K (.ref (He.ga K "InvalidValue")) "__init__" = some (some (.ref (He.fAd K ("InvalidValue", some "__init__"))))
  t_InvalidValue : PySem.W.typeIn K (.ref (He.fAd K ("InvalidValue", some "__init__"))) = some (.type "function")
  no_InvalidValue : ∀ f ∈ (["value"] : List Str), PySem.W.findIn K (.ref (He.ga K "InvalidValue")) f = some none
  xf_InvalidValue : XfC K (He.ga K "InvalidValue")
  xe_InvalidValue : L2.ExcC K (He.ga K "InvalidValue")
  m__law_refused_InvalidValue : PySem.W.exmAny K (.ref (He.ga K "InvalidValue")) [.ref (He.ga K "InvalidValue")] = some true
  tb__law_right : LamX.TabB base mg (He.cT K ("_law_right", none)).1 (He.cT K ("_law_right", none)).2
def P_value (c : Ads) : Value → Bool := isR [c.InvalidValue]
def mt__law_refused (c : Ads) : Value → Option Bool := tabM [(c.InvalidValue, true)]
section
variable {P : Program} {w : World} {K : PySem.W.Frag} {mg : Str → Option Value} {base : Heap}
theorem P_value_ok (fx : Fx K mg base) (C : Value) (e : P_value (ads K) C = true) : ∃ c, C = .ref c ∧ XfC K c ∧ PySem.W.findIn K (.ref c) "value" = some none := isR_ok (P := fun a => XfC K a ∧ PySem.W.findIn K (.ref a) "value" = some none) (by
  intro a ha
  simp only [List.mem_cons, List.not_mem_nil, or_false] at ha
  rcases ha with rfl
  · exact ⟨fx.xf_InvalidValue, fx.no_InvalidValue "value" (by simp)⟩
  ) e
theorem mt__law_refused_ok (fx : Fx K mg base) (C : Value) (b : Bool) (e : mt__law_refused (ads K) C = some b) : PySem.W.exmAny K C [.ref (He.ga K "InvalidValue")] = some b := by
  obtain ⟨a, rfl, h⟩ := tabM_ok (P := fun a b => PySem.W.exmAny K (.ref a) [.ref (He.ga K "InvalidValue")] = some b) (by
    intro p hp
    simp only [List.mem_cons, List.not_mem_nil, or_false] at hp
    rcases hp with rfl
    · exact fx.m__law_refused_InvalidValue
    ) e
  exact h
theorem sc_is_name : FnScope ["thing", "letter"] ["thing"] (defScope (topS 4)) := ⟨rfl, rfl, rfl, by decide +kernel, rfl, by decide +kernel, by decide +kernel⟩
theorem B_is_name {fd : FuncData} (F : FunD K "is_name" "is_name" (defArgs (topS 4)) (defBody (topS 4)) (defScope (topS 4)) [] [] (He.fAd K ("is_name", none)) fd) : L2.Binds K fd ["thing"] [] := FunD.bindsN F fun _ _ _ _ _ _ us hl => match us, hl with | [_], _ => rfl
theorem sc_has_level : FnScope ["thing", "most", "part", "name"] ["thing", "most"] (defScope (topS 5)) := ⟨rfl, rfl, rfl, by decide +kernel, rfl, by decide +kernel, by decide +kernel⟩
theorem B_has_level {fd : FuncData} (F : FunD K "has_level" "has_level" (defArgs (topS 5)) (defBody (topS 5)) (defScope (topS 5)) [] [] (He.fAd K ("has_level", none)) fd) : L2.Binds K fd ["thing", "most"] [] := FunD.bindsN F fun _ _ _ _ _ _ us hl => match us, hl with | [_, _], _ => rfl
theorem sc_same_values : FnScope ["one", "other", "x", "y", "name"] ["one", "other"] (defScope (topS 6)) := ⟨rfl, rfl, rfl, by decide +kernel, rfl, by decide +kernel, by decide +kernel⟩
theorem B_same_values {fd : FuncData} (F : FunD K "same_values" "same_values" (defArgs (topS 6)) (defBody (topS 6)) (defScope (topS 6)) [] [] (He.fAd K ("same_values", none)) fd) : L2.Binds K fd ["one", "other"] [] := FunD.bindsN F fun _ _ _ _ _ _ us hl => match us, hl with | [_, _], _ => rfl
theorem sc_InvalidValue_init : FnScope ["self", "value"] ["self", "value"] (defScope (inClass (topS 9) 0)) := ⟨rfl, rfl, rfl, by decide +kernel, rfl, by decide +kernel, by decide +kernel⟩
theorem B_InvalidValue_init {fd : FuncData} (F : FunD K "__init__" "InvalidValue.__init__" (defArgs (inClass (topS 9) 0)) (defBody (inClass (topS 9) 0)) (defScope (inClass (topS 9) 0)) [] [] (He.fAd K ("InvalidValue", some "__init__")) fd) : L2.Binds K fd ["self", "value"] [] := FunD.bindsN F fun _ _ _ _ _ _ us hl => match us, hl with | [_, _], _ => rfl
theorem sc_is_value : FnScope ["thing"] ["thing"] (defScope (topS 11)) := ⟨rfl, rfl, rfl, by decide +kernel, rfl, by decide +kernel, by decide +kernel⟩
theorem B_is_value {fd : FuncData} (F : FunD K "is_value" "is_value" (defArgs (topS 11)) (defBody (topS 11)) (defScope (topS 11)) [] [] (He.fAd K ("is_value", none)) fd) : L2.Binds K fd ["thing"] [] := FunD.bindsN F fun _ _ _ _ _ _ us hl => match us, hl with | [_], _ => rfl
theorem K_is_value {fd : FuncData} (F : FunD K "is_value" "is_value" (defArgs (topS 11)) (defBody (topS 11)) (defScope (topS 11)) [] [] (He.fAd K ("is_value", none)) fd) (ws : List Value) (hl : ws.length = (["thing"] : List Str).length) : bindArgs fd ⟨[], (["thing"] : List Str).zip ws⟩ = pure ((["thing"] : List Str).zip (Perm.f (Perm.id) ws)) := by
  obtain ⟨oc, od, dV, kV, doc, pm, an, cdv, ct, osl, rfl, lk, hcd, hD, hK⟩ := F.ex
  rcases hD with ⟨_, rfl⟩ | ⟨e, _⟩
  · match ws, hl with | [_], _ => rfl
  · exact absurd rfl e
theorem K_is_value_len {α : Type} (l : List α) (h : (Perm.f (Perm.id) l).length = (["thing"] : List Str).length) : l.length = (["thing"] : List Str).length := by
  match l, h with
  | [], h => cases h
  | [_], h => first | rfl | cases h
  | [_, _], h => first | rfl | cases h
  | _ :: _ :: _ :: _, h => cases h
theorem sc_same : FnScope ["one", "other", "value"] ["one", "other"] (defScope (topS 12)) := ⟨rfl, rfl, rfl, by decide +kernel, rfl, by decide +kernel, by decide +kernel⟩
theorem B_same {fd : FuncData} (F : FunD K "same" "same" (defArgs (topS 12)) (defBody (topS 12)) (defScope (topS 12)) [] [] (He.fAd K ("same", none)) fd) : L2.Binds K fd ["one", "other"] [] := FunD.bindsN F fun _ _ _ _ _ _ us hl => match us, hl with | [_, _], _ => rfl
theorem K_same {fd : FuncData} (F : FunD K "same" "same" (defArgs (topS 12)) (defBody (topS 12)) (defScope (topS 12)) [] [] (He.fAd K ("same", none)) fd) (ws : List Value) (hl : ws.length = (["other", "one"] : List Str).length) : bindArgs fd ⟨[], (["other", "one"] : List Str).zip ws⟩ = pure ((["one", "other"] : List Str).zip (Perm.f (Perm.swap) ws)) := by
  obtain ⟨oc, od, dV, kV, doc, pm, an, cdv, ct, osl, rfl, lk, hcd, hD, hK⟩ := F.ex
  rcases hD with ⟨_, rfl⟩ | ⟨e, _⟩
  · match ws, hl with | [_, _], _ => rfl
  · exact absurd rfl e
theorem K_same_len {α : Type} (l : List α) (h : (Perm.f (Perm.swap) l).length = (["one", "other"] : List Str).length) : l.length = (["other", "one"] : List Str).length := by
  match l, h with
  | [], h => cases h
  | [_], h => first | rfl | cases h
  | [_, _], h => first | rfl | cases h
  | [_, _, _], h => first | rfl | cases h
  | _ :: _ :: _ :: _ :: _, h => cases h
theorem sc__law_pail : FnScope ["script", "turn", "mixed", "cell", "own"] ["script", "turn"] (defScope (topS 14)) := ⟨rfl, rfl, rfl, by decide +kernel, rfl, by decide +kernel, by decide +kernel⟩
theorem B__law_pail {fd : FuncData} (F : FunD K "_law_pail" "_law_pail" (defArgs (topS 14)) (defBody (topS 14)) (defScope (topS 14)) [] [] (He.fAd K ("_law_pail", none)) fd) : L2.Binds K fd ["script", "turn"] [] := FunD.bindsN F fun _ _ _ _ _ _ us hl => match us, hl with | [_, _], _ => rfl
theorem sc__law_deal : FnScope ["pail", "top", "figure", "mixed"] ["pail", "top"] (defScope (topS 15)) := ⟨rfl, rfl, rfl, by decide +kernel, rfl, by decide +kernel, by decide +kernel⟩
theorem B__law_deal {fd : FuncData} (F : FunD K "_law_deal" "_law_deal" (defArgs (topS 15)) (defBody (topS 15)) (defScope (topS 15)) [] [] (He.fAd K ("_law_deal", none)) fd) : L2.Binds K fd ["pail", "top"] [] := FunD.bindsN F fun _ _ _ _ _ _ us hl => match us, hl with | [_, _], _ => rfl
theorem sc__law_any : FnScope ["pail", "some"] ["pail", "some"] (defScope (topS 16)) := ⟨rfl, rfl, rfl, by decide +kernel, rfl, by decide +kernel, by decide +kernel⟩
theorem B__law_any {fd : FuncData} (F : FunD K "_law_any" "_law_any" (defArgs (topS 16)) (defBody (topS 16)) (defScope (topS 16)) [] [] (He.fAd K ("_law_any", none)) fd) : L2.Binds K fd ["pail", "some"] [] := FunD.bindsN F fun _ _ _ _ _ _ us hl => match us, hl with | [_, _], _ => rfl
theorem sc__law_shuffled : FnScope ["pail", "some", "rest", "found", "turn"] ["pail", "some"] (defScope (topS 17)) := ⟨rfl, rfl, rfl, by decide +kernel, rfl, by decide +kernel, by decide +kernel⟩
theorem B__law_shuffled {fd : FuncData} (F : FunD K "_law_shuffled" "_law_shuffled" (defArgs (topS 17)) (defBody (topS 17)) (defScope (topS 17)) [] [] (He.fAd K ("_law_shuffled", none)) fd) : L2.Binds K fd ["pail", "some"] [] := FunD.bindsN F fun _ _ _ _ _ _ us hl => match us, hl with | [_, _], _ => rfl
theorem sc__law_same : FnScope ["had", "due", "key", "is_row", "k"] ["had", "due"] (defScope (topS 18)) := ⟨rfl, rfl, rfl, by decide +kernel, rfl, by decide +kernel, by decide +kernel⟩
theorem B__law_same {fd : FuncData} (F : FunD K "_law_same" "_law_same" (defArgs (topS 18)) (defBody (topS 18)) (defScope (topS 18)) [] [] (He.fAd K ("_law_same", none)) fd) : L2.Binds K fd ["had", "due"] [] := FunD.bindsN F fun _ _ _ _ _ _ us hl => match us, hl with | [_, _], _ => rfl
theorem sc__law_swapped : FnScope ["row", "at", "thing"] ["row", "at", "thing"] (defScope (topS 19)) := ⟨rfl, rfl, rfl, by decide +kernel, rfl, by decide +kernel, by decide +kernel⟩
theorem B__law_swapped {fd : FuncData} (F : FunD K "_law_swapped" "_law_swapped" (defArgs (topS 19)) (defBody (topS 19)) (defScope (topS 19)) [] [] (He.fAd K ("_law_swapped", none)) fd) : L2.Binds K fd ["row", "at", "thing"] [] := FunD.bindsN F fun _ _ _ _ _ _ us hl => match us, hl with | [_, _, _], _ => rfl
theorem sc__law_name : FnScope ["pail", "letters", "found", "turn"] ["pail"] (defScope (topS 20)) := ⟨rfl, rfl, rfl, by decide +kernel, rfl, by decide +kernel, by decide +kernel⟩
theorem B__law_name {fd : FuncData} (F : FunD K "_law_name" "_law_name" (defArgs (topS 20)) (defBody (topS 20)) (defScope (topS 20)) [] [] (He.fAd K ("_law_name", none)) fd) : L2.Binds K fd ["pail"] [] := FunD.bindsN F fun _ _ _ _ _ _ us hl => match us, hl with | [_], _ => rfl
theorem sc__law_names : FnScope ["pail", "many", "letters", "found", "place", "word", "near", "sign", "own"] ["pail", "many"] (defScope (topS 21)) := ⟨rfl, rfl, rfl, by decide +kernel, rfl, by decide +kernel, by decide +kernel⟩
theorem B__law_names {fd : FuncData} (F : FunD K "_law_names" "_law_names" (defArgs (topS 21)) (defBody (topS 21)) (defScope (topS 21)) [] [] (He.fAd K ("_law_names", none)) fd) : L2.Binds K fd ["pail", "many"] [] := FunD.bindsN F fun _ _ _ _ _ _ us hl => match us, hl with | [_, _], _ => rfl
theorem sc__law_text : FnScope ["pail", "many", "found", "turn"] ["pail", "many"] (defScope (topS 22)) := ⟨rfl, rfl, rfl, by decide +kernel, rfl, by decide +kernel, by decide +kernel⟩
theorem B__law_text {fd : FuncData} (F : FunD K "_law_text" "_law_text" (defArgs (topS 22)) (defBody (topS 22)) (defScope (topS 22)) [] [] (He.fAd K ("_law_text", none)) fd) : L2.Binds K fd ["pail", "many"] [] := FunD.bindsN F fun _ _ _ _ _ _ us hl => match us, hl with | [_, _], _ => rfl
theorem sc__law_number : FnScope ["pail"] ["pail"] (defScope (topS 23)) := ⟨rfl, rfl, rfl, by decide +kernel, rfl, by decide +kernel, by decide +kernel⟩
theorem B__law_number {fd : FuncData} (F : FunD K "_law_number" "_law_number" (defArgs (topS 23)) (defBody (topS 23)) (defScope (topS 23)) [] [] (He.fAd K ("_law_number", none)) fd) : L2.Binds K fd ["pail"] [] := FunD.bindsN F fun _ _ _ _ _ _ us hl => match us, hl with | [_], _ => rfl
theorem sc__law_any_value : FnScope ["pail", "deep", "sort", "turn", "names", "name"] ["pail", "deep"] (defScope (topS 24)) := ⟨rfl, rfl, rfl, by decide +kernel, rfl, by decide +kernel, by decide +kernel⟩
theorem B__law_any_value {fd : FuncData} (F : FunD K "_law_any_value" "_law_any_value" (defArgs (topS 24)) (defBody (topS 24)) (defScope (topS 24)) [] [] (He.fAd K ("_law_any_value", none)) fd) : L2.Binds K fd ["pail", "deep"] [] := FunD.bindsN F fun _ _ _ _ _ _ us hl => match us, hl with | [_, _], _ => rfl
theorem sc__law_copy : FnScope ["pail", "value", "key", "own"] ["pail", "value"] (defScope (topS 25)) := ⟨rfl, rfl, rfl, by decide +kernel, rfl, by decide +kernel, by decide +kernel⟩
theorem B__law_copy {fd : FuncData} (F : FunD K "_law_copy" "_law_copy" (defArgs (topS 25)) (defBody (topS 25)) (defScope (topS 25)) [] [] (He.fAd K ("_law_copy", none)) fd) : L2.Binds K fd ["pail", "value"] [] := FunD.bindsN F fun _ _ _ _ _ _ us hl => match us, hl with | [_, _], _ => rfl
theorem sc__law_otherwise : FnScope ["pail", "value", "found", "k", "names", "name", "new"] ["pail", "value"] (defScope (topS 26)) := ⟨rfl, rfl, rfl, by decide +kernel, rfl, by decide +kernel, by decide +kernel⟩
theorem B__law_otherwise {fd : FuncData} (F : FunD K "_law_otherwise" "_law_otherwise" (defArgs (topS 26)) (defBody (topS 26)) (defScope (topS 26)) [] [] (He.fAd K ("_law_otherwise", none)) fd) : L2.Binds K fd ["pail", "value"] [] := FunD.bindsN F fun _ _ _ _ _ _ us hl => match us, hl with | [_, _], _ => rfl
theorem sc__law_refused : FnScope ["act", "e"] ["act"] (defScope (topS 27)) := ⟨rfl, rfl, rfl, by decide +kernel, rfl, by decide +kernel, by decide +kernel⟩
theorem B__law_refused {fd : FuncData} (F : FunD K "_law_refused" "_law_refused" (defArgs (topS 27)) (defBody (topS 27)) (defScope (topS 27)) [] [] (He.fAd K ("_law_refused", none)) fd) : L2.Binds K fd ["act"] [] := FunD.bindsN F fun _ _ _ _ _ _ us hl => match us, hl with | [_], _ => rfl
theorem sc__law_bounds_right : FnScope ["deep", "wide", "turn", "own"] [] (defScope (topS 28)) := ⟨rfl, rfl, rfl, by decide +kernel, rfl, by decide +kernel, by decide +kernel⟩
theorem B__law_bounds_right {fd : FuncData} (F : FunD K "_law_bounds_right" "_law_bounds_right" (defArgs (topS 28)) (defBody (topS 28)) (defScope (topS 28)) [] [] (He.fAd K ("_law_bounds_right", none)) fd) : L2.Binds K fd [] [] := FunD.bindsN F fun _ _ _ _ _ _ us hl => match us, hl with | [], _ => rfl
theorem sc__law_right : FnScope ["pail", "values", "turn", "value", "one", "two", "other", "odd"] ["pail"] (defScope (topS 29)) := ⟨rfl, rfl, rfl, by decide +kernel, rfl, by decide +kernel, by decide +kernel⟩
theorem B__law_right {fd : FuncData} (F : FunD K "_law_right" "_law_right" (defArgs (topS 29)) (defBody (topS 29)) (defScope (topS 29)) [] [] (He.fAd K ("_law_right", none)) fd) : L2.Binds K fd ["pail"] [] := FunD.bindsN F fun _ _ _ _ _ _ us hl => match us, hl with | [_], _ => rfl
theorem sc_law : FnScope ["script", "turn"] ["script"] (defScope (topS 30)) := ⟨rfl, rfl, rfl, by decide +kernel, rfl, by decide +kernel, by decide +kernel⟩
theorem B_law {fd : FuncData} (F : FunD K "law" "law" (defArgs (topS 30)) (defBody (topS 30)) (defScope (topS 30)) [] [] (He.fAd K ("law", none)) fd) : L2.Binds K fd ["script"] [] := FunD.bindsN F fun _ _ _ _ _ _ us hl => match us, hl with | [_], _ => rfl
theorem KM_same_1 {fd : FuncData} (F : FunD K "same" "same" (defArgs (topS 12)) (defBody (topS 12)) (defScope (topS 12)) [] [] (He.fAd K ("same", none)) fd) (us ws : List Value) (h1 : us.length = 1) (h2 : ws.length = (["other"] : List Str).length) : bindArgs fd ⟨us, (["other"] : List Str).zip ws⟩ = pure ((["one", "other"] : List Str).zip (Perm.f Perm.id (us ++ ws))) := by
  obtain ⟨oc, od, dV, kV, doc, pm, an, cdv, ct, osl, rfl, lk, hcd, hD, hK⟩ := F.ex
  rcases hD with ⟨_, rfl⟩ | ⟨e, _⟩
  · match us, h1, ws, h2 with | [_], _, [_], _ => rfl
  · exact absurd rfl e
theorem K0__law_bounds_right {fd : FuncData} (F : FunD K "_law_bounds_right" "_law_bounds_right" (defArgs (topS 28)) (defBody (topS 28)) (defScope (topS 28)) [] [] (He.fAd K ("_law_bounds_right", none)) fd) (ws : List Value) (h : ws.length = ([] : List Str).length) : bindArgs fd ⟨[], ([] : List Str).zip ws⟩ = pure (([] : List Str).zip (Perm.f Perm.id ws)) := by
  obtain ⟨oc, od, dV, kV, doc, pm, an, cdv, ct, osl, rfl, lk, hcd, hD, hK⟩ := F.ex
  rcases hD with ⟨_, rfl⟩ | ⟨e, _⟩
  · match ws, h with | [], _ => rfl
  · exact absurd rfl e
def b_is_name (c : Ads) : EM Fl := (gRet (gAndV (gCall fIsi (gCons (gVar 0) (gCons (gC (.ty "str")) gNil))) (gAndV (gChain fLt fLt (gC (.int 0)) (gCall fLen (gCons (gVar 0) gNil)) (gC (.int 13))) (gCall fAll (gCons (gLc (gItems anyItems (gFz 0)) (.nm 1) [1] gYes (gOp (fInA false) (gVar 1) (gC (.str "abcdefghijklmnopqrstuvwxyz")))) gNil)))))
def m_is_name (c : Ads) : Mir := runM 2 (b_is_name c)
theorem ok_is_name (fx : Fx K mg base) (fd : FuncData) (F : FunD K "is_name" "is_name" (defArgs (topS 4)) (defBody (topS 4)) (defScope (topS 4)) [] [] (He.fAd K ("is_name", none)) fd) : FnOk P w K mg base (L2.CX P w) 1 (He.fAd K ("is_name", none)) fd ["thing"] (spM K (TT K) 1 (m_is_name (ads K))) := by
  exact fn_ok F sc_is_name (fun _ _ => rfl) fun cdv A outer s H E hcode hr tk po =>
    (b_one (c_ret (p_and (p_callB s_isi call_isi rfl fx.n_isinstance Boot.«isinstance» (a_cons (p_var 0) (a_cons (p_ty rfl (fx.n_str) Boot.«str») a_nil))) (p_and (p_chain o_lt s_lt o_lt s_lt p_int (p_callB s_len call_len rfl fx.n_len Boot.«len» (a_cons (p_var 0) a_nil)) p_int) (p_and1 (p_callB s_all (cr_all rfl) rfl fx.n_all Boot.«all» (a_cons (p_lc [("letter", 1)] rfl sc_is_name.nd (blkOk_by (by rfl)) (i_any (p_fz 0)) (fun _ _ _ _ _ => (g_nm 1 sc_is_name.nd)) (fun _ _ _ _ _ => ts_nil) (fun _ _ _ _ _ => (p_cmp op_inA s_inA (p_var 1) (p_gstrE rfl fx.c_LETTERS) (by rfl)))) a_nil)))))))
def m_has_level (c : Ads) : Nat → Mir
  | 0 => fun _ => none
  | n + 1 => runM 4 ((gSeq (gIfS (gOr (gBl (gOp (fIsN false) (gVar 0) (gC .non))) (gTru (gIsT ["str", "int"] (gVar 0))))
    (gRet (gC (.bl true)))
    gPass)
    (gSeq (gIfS (gTru (gCall fIsi (gCons (gVar 0) (gCons (gC (.ty "tuple")) gNil))))
    (gRet (gAndV (gOp fGt (gVar 1) (gC (.int 0))) (gAndV (gOp fLe (gCall fLen (gCons (gVar 0) gNil)) (gC (.int 60))) (gCall fAll (gCons (gLc (gItems anyItems (gFz 0)) (.nm 2) [2] gYes (gFrz (gFn 2 (m_has_level c n) (gCons (gFz 2) (gCons (gFrz (gOp fSub (gVar 1) (gC (.int 1)))) gNil))))) gNil)))))
    gPass)
    (gSeq (gIfS (gOr (gNot (gTru (gCall fIsi (gCons (gVar 0) (gCons (gC (.ty "dict")) gNil))))) (gBl (gOp fEqK (gVar 1) (gC (.int 0)))))
    (gRet (gC (.bl false)))
    gPass)
    (gRet (gCall fAll (gCons (gLc (gItems anyItems (gFz 0)) (.nm 3) [3] gYes (gAndV (gFn 1 (m_is_name c) (gCons (gFz 3) gNil)) (gFn 2 (m_has_level c n) (gCons (gOp fIx (gVar 0) (gVar 3)) (gCons (gFrz (gOp fSub (gVar 1) (gC (.int 1)))) gNil))))) gNil)))))))
theorem ok_has_level (fx : Fx K mg base) (n : Nat) (fd : FuncData) (F : FunD K "has_level" "has_level" (defArgs (topS 5)) (defBody (topS 5)) (defScope (topS 5)) [] [] (He.fAd K ("has_level", none)) fd) : FnOk P w K mg base (L2.CX P w) (2 + n) (He.fAd K ("has_level", none)) fd ["thing", "most"] (spM K (TT K) 2 (m_has_level (ads K) n)) := by
  induction n with
  | zero => exact ⟨fun vs H Q E h => h.1, fun A outer s H args us vs Q E hr he hb hv h => by obtain ⟨_, _, _, _, _, e, _⟩ := h; cases e⟩
  | succ n ih =>
    have G_has_level := ih
    have F_has_level := F
    obtain ⟨fd_is_name, F_is_name⟩ := fx.F_is_name
    have G_is_name := (ok_is_name (P := P) (w := w) fx fd_is_name F_is_name).mono (k := (2 + n)) (by omega)
    exact fn_ok F sc_has_level (fun _ _ => rfl) fun cdv A outer s H E hcode hr tk po =>
      (b_cons (c_if (PW.pt (w_or (p_tcmp op_isN s_isN (p_var 0) p_non (nomark _)) (w_or1 (p_tru (p_isT rfl fx.n_isinstance Boot.«isinstance» (p_var 0) (ty_cons rfl fx.n_str Boot.«str» (ty_cons rfl fx.n_int Boot.«int» ty_nil)))))))
    (b_one (c_ret p_bl))
    b_nil)
    (b_cons (c_if (p_tru (p_callB s_isi call_isi rfl fx.n_isinstance Boot.«isinstance» (a_cons (p_var 0) (a_cons (p_ty rfl (fx.n_tuple) Boot.«tuple») a_nil))))
    (b_one (c_ret (p_and (p_cmp op_gt s_ii (p_var 1) p_int (nomark _)) (p_and (p_cmp op_le s_ii (p_callB s_len call_len rfl fx.n_len Boot.«len» (a_cons (p_var 0) a_nil)) (p_gintE rfl fx.c_MAX_ELEMENTS) (nomark _)) (p_and1 (p_callB s_all (cr_all rfl) rfl fx.n_all Boot.«all» (a_cons (p_lc [("part", 2)] rfl sc_has_level.nd (blkOk_by (by rfl)) (i_any (p_fz 0)) (fun _ _ _ _ _ => (g_nm 2 sc_has_level.nd)) (fun _ _ _ _ _ => ts_nil) (fun _ _ _ _ _ => (p_frz (p_call G_has_level hr rfl fx.g_has_level F_has_level.kp (B_has_level F_has_level) LamX.takes0 (a_cons (p_fz 2) (a_cons (p_frz (p_op op_sub s_sub (p_var 1) p_int)) a_nil)))))) a_nil)))))))
    b_nil)
    (b_cons (c_if (PW.pt (w_or (t_not (p_tru (p_callB s_isi call_isi rfl fx.n_isinstance Boot.«isinstance» (a_cons (p_var 0) (a_cons (p_ty rfl (fx.n_dict) Boot.«dict») a_nil))))) (w_or1 (p_tcmp (o_eqK hr.units) s_eqK (p_var 1) p_int (nomark _)))))
    (b_one (c_ret p_bl))
    b_nil)
    (b_one (c_ret (p_callB s_all (cr_all rfl) rfl fx.n_all Boot.«all» (a_cons (p_lc [("name", 3)] rfl sc_has_level.nd (blkOk_by (by rfl)) (i_any (p_fz 0)) (fun _ _ _ _ _ => (g_nm 3 sc_has_level.nd)) (fun _ _ _ _ _ => ts_nil) (fun _ _ _ _ _ => (p_and (p_call G_is_name hr rfl fx.g_is_name F_is_name.kp (B_is_name F_is_name) LamX.takes0 (a_cons (p_fz 3) a_nil)) (p_and1 (p_call G_has_level hr rfl fx.g_has_level F_has_level.kp (B_has_level F_has_level) LamX.takes0 (a_cons (p_ix (Nat.lt_of_le_of_lt (Nat.add_le_add_left (by decide) _) hr.units) (p_var 0) (p_var 3)) (a_cons (p_frz (p_op op_sub s_sub (p_var 1) p_int)) a_nil))))))) a_nil)))))))
def m_same_values (c : Ads) : Nat → Mir
  | 0 => fun _ => none
  | n + 1 => runM 5 ((gSeq (gIfS (gOr (gTru (gCall fIsi (gCons (gVar 0) (gCons (gC (.ty "bool")) gNil)))) (gOr (gTru (gCall fIsi (gCons (gVar 1) (gCons (gC (.ty "bool")) gNil)))) (gOr (gBl (gOp (fIsN false) (gVar 0) (gC .non))) (gBl (gOp (fIsN false) (gVar 1) (gC .non))))))
    (gRet (gAndV (gOp fEqK (gCall fIsi (gCons (gVar 0) (gCons (gC (.ty "bool")) gNil))) (gCall fIsi (gCons (gVar 1) (gCons (gC (.ty "bool")) gNil)))) (gAndV (gOp fEqK (gOp (fIsN false) (gVar 0) (gC .non)) (gOp (fIsN false) (gVar 1) (gC .non))) (gOp fEqK (gVar 0) (gVar 1)))))
    gPass)
    (gSeq (gIfS (gAnd (gTru (gCall fIsi (gCons (gVar 0) (gCons (gC (.ty "tuple")) gNil)))) (gTru (gCall fIsi (gCons (gVar 1) (gCons (gC (.ty "tuple")) gNil)))))
    (gRet (gAndV (gOp fEqK (gCall fLen (gCons (gVar 0) gNil)) (gCall fLen (gCons (gVar 1) gNil))) (gCall fAll (gCons (gLc (gZip tupItems (gCons (gFz 0) (gCons (gFz 1) gNil))) (.tp [(.nm 2), (.nm 3)]) [2, 3] gYes (gFrz (gFn 2 (m_same_values c n) (gCons (gFz 2) (gCons (gFz 3) gNil))))) gNil))))
    gPass)
    (gSeq (gIfS (gAnd (gTru (gCall fIsi (gCons (gVar 0) (gCons (gC (.ty "dict")) gNil)))) (gTru (gCall fIsi (gCons (gVar 1) (gCons (gC (.ty "dict")) gNil)))))
    (gSeq (gIfS (gBl (gOp fNeK (gCall fSorted (gCons (gLc (gItems anyItems (gFz 0)) (.nm 4) [4] gYes (gFz 4)) gNil)) (gCall fSorted (gCons (gLc (gItems anyItems (gFz 1)) (.nm 4) [4] gYes (gFz 4)) gNil))))
    (gRet (gC (.bl false)))
    gPass)
    (gRet (gCall fAll (gCons (gLc (gItems anyItems (gFz 0)) (.nm 4) [4] gYes (gFrz (gFn 2 (m_same_values c n) (gCons (gOp fIx (gVar 0) (gVar 4)) (gCons (gOp fIx (gVar 1) (gVar 4)) gNil))))) gNil))))
    gPass)
    (gRet (gAndV (gOp fEqK (gCall fIsi (gCons (gVar 0) (gCons (gC (.ty "str")) gNil))) (gCall fIsi (gCons (gVar 1) (gCons (gC (.ty "str")) gNil)))) (gOp fEqK (gVar 0) (gVar 1))))))))
theorem ok_same_values (fx : Fx K mg base) (n : Nat) (fd : FuncData) (F : FunD K "same_values" "same_values" (defArgs (topS 6)) (defBody (topS 6)) (defScope (topS 6)) [] [] (He.fAd K ("same_values", none)) fd) : FnOk P w K mg base (L2.CX P w) (1 + n) (He.fAd K ("same_values", none)) fd ["one", "other"] (spM K (TT K) 2 (m_same_values (ads K) n)) := by
  induction n with
  | zero => exact ⟨fun vs H Q E h => h.1, fun A outer s H args us vs Q E hr he hb hv h => by obtain ⟨_, _, _, _, _, e, _⟩ := h; cases e⟩
  | succ n ih =>
    have G_same_values := ih
    have F_same_values := F
    exact fn_ok F sc_same_values (fun _ _ => rfl) fun cdv A outer s H E hcode hr tk po =>
      (b_cons (c_if (PW.pt (w_or (p_tru (p_callB s_isi call_isi rfl fx.n_isinstance Boot.«isinstance» (a_cons (p_var 0) (a_cons (p_ty rfl (fx.n_bool) Boot.«bool») a_nil)))) (w_or (p_tru (p_callB s_isi call_isi rfl fx.n_isinstance Boot.«isinstance» (a_cons (p_var 1) (a_cons (p_ty rfl (fx.n_bool) Boot.«bool») a_nil)))) (w_or (p_tcmp op_isN s_isN (p_var 0) p_non (nomark _)) (w_or1 (p_tcmp op_isN s_isN (p_var 1) p_non (nomark _)))))))
    (b_one (c_ret (p_and (p_cmp (o_eqK hr.units) s_eqK (p_callB s_isi call_isi rfl fx.n_isinstance Boot.«isinstance» (a_cons (p_var 0) (a_cons (p_ty rfl (fx.n_bool) Boot.«bool») a_nil))) (p_callB s_isi call_isi rfl fx.n_isinstance Boot.«isinstance» (a_cons (p_var 1) (a_cons (p_ty rfl (fx.n_bool) Boot.«bool») a_nil))) (nomark _)) (p_and (p_cmp (o_eqK hr.units) s_eqK (p_cmp op_isN s_isN (p_var 0) p_non (nomark _)) (p_cmp op_isN s_isN (p_var 1) p_non (nomark _)) (nomark _)) (p_and1 (p_cmp (o_eqK hr.units) s_eqK (p_var 0) (p_var 1) (nomark _)))))))
    b_nil)
    (b_cons (c_if (PW.pt (w_and (p_tru (p_callB s_isi call_isi rfl fx.n_isinstance Boot.«isinstance» (a_cons (p_var 0) (a_cons (p_ty rfl (fx.n_tuple) Boot.«tuple») a_nil)))) (w_and1 (p_tru (p_callB s_isi call_isi rfl fx.n_isinstance Boot.«isinstance» (a_cons (p_var 1) (a_cons (p_ty rfl (fx.n_tuple) Boot.«tuple») a_nil)))))))
    (b_one (c_ret (p_and (p_cmp (o_eqK hr.units) s_eqK (p_callB s_len call_len rfl fx.n_len Boot.«len» (a_cons (p_var 0) a_nil)) (p_callB s_len call_len rfl fx.n_len Boot.«len» (a_cons (p_var 1) a_nil)) (nomark _)) (p_and1 (p_callB s_all (cr_all rfl) rfl fx.n_all Boot.«all» (a_cons (p_lc [("x", 2), ("y", 3)] rfl sc_same_values.nd (blkOk_by (by rfl)) (i_zipT rfl fx.n_zip (a_cons (p_fz 0) (a_cons (p_fz 1) a_nil))) (fun _ _ _ _ _ => (g_tp rfl (gs_cons (g_nm 2 sc_same_values.nd) (gs_cons (g_nm 3 sc_same_values.nd) gs_nil)))) (fun _ _ _ _ _ => ts_nil) (fun _ _ _ _ _ => (p_frz (p_call G_same_values hr rfl fx.g_same_values F_same_values.kp (B_same_values F_same_values) LamX.takes0 (a_cons (p_fz 2) (a_cons (p_fz 3) a_nil)))))) a_nil))))))
    b_nil)
    (b_cons (c_if (PW.pt (w_and (p_tru (p_callB s_isi call_isi rfl fx.n_isinstance Boot.«isinstance» (a_cons (p_var 0) (a_cons (p_ty rfl (fx.n_dict) Boot.«dict») a_nil)))) (w_and1 (p_tru (p_callB s_isi call_isi rfl fx.n_isinstance Boot.«isinstance» (a_cons (p_var 1) (a_cons (p_ty rfl (fx.n_dict) Boot.«dict») a_nil)))))))
    (b_cons (c_if (p_tcmp (o_neK hr.units) s_neK (p_callB s_sorted (call_sortAll rfl) rfl fx.n_sorted Boot.«sorted» (a_cons (p_lc [("name", 4)] rfl sc_same_values.nd (blkOk_by (by rfl)) (i_any (p_fz 0)) (fun _ _ _ _ _ => (g_nm 4 sc_same_values.nd)) (fun _ _ _ _ _ => ts_nil) (fun _ _ _ _ _ => (p_fz 4))) a_nil)) (p_callB s_sorted (call_sortAll rfl) rfl fx.n_sorted Boot.«sorted» (a_cons (p_lc [("name", 4)] rfl sc_same_values.nd (blkOk_by (by rfl)) (i_any (p_fz 1)) (fun _ _ _ _ _ => (g_nm 4 sc_same_values.nd)) (fun _ _ _ _ _ => ts_nil) (fun _ _ _ _ _ => (p_fz 4))) a_nil)) (nomark _))
    (b_one (c_ret p_bl))
    b_nil)
    (b_one (c_ret (p_callB s_all (cr_all rfl) rfl fx.n_all Boot.«all» (a_cons (p_lc [("name", 4)] rfl sc_same_values.nd (blkOk_by (by rfl)) (i_any (p_fz 0)) (fun _ _ _ _ _ => (g_nm 4 sc_same_values.nd)) (fun _ _ _ _ _ => ts_nil) (fun _ _ _ _ _ => (p_frz (p_call G_same_values hr rfl fx.g_same_values F_same_values.kp (B_same_values F_same_values) LamX.takes0 (a_cons (p_ix (Nat.lt_of_le_of_lt (Nat.add_le_add_left (by decide) _) hr.units) (p_var 0) (p_var 4)) (a_cons (p_ix (Nat.lt_of_le_of_lt (Nat.add_le_add_left (by decide) _) hr.units) (p_var 1) (p_var 4)) a_nil)))))) a_nil)))))
    b_nil)
    (b_one (c_ret (p_and (p_cmp (o_eqK hr.units) s_eqK (p_callB s_isi call_isi rfl fx.n_isinstance Boot.«isinstance» (a_cons (p_var 0) (a_cons (p_ty rfl (fx.n_str) Boot.«str») a_nil))) (p_callB s_isi call_isi rfl fx.n_isinstance Boot.«isinstance» (a_cons (p_var 1) (a_cons (p_ty rfl (fx.n_str) Boot.«str») a_nil))) (nomark _)) (p_and1 (p_cmp (o_eqK hr.units) s_eqK (p_var 0) (p_var 1) (nomark _)))))))))
theorem ok_InvalidValue_init {CX : CXT} (fd : FuncData) (F : FunD K "__init__" "InvalidValue.__init__" (defArgs (inClass (topS 9) 0)) (defBody (inClass (topS 9) 0)) (defScope (inClass (topS 9) 0)) [] [] (He.fAd K ("InvalidValue", some "__init__")) fd) : FnOk P w K mg base CX 1 (He.fAd K ("InvalidValue", some "__init__")) fd ["self", "value"] (spInit K ["value"]) := init1 F sc_InvalidValue_init (by intro _; rfl) (by decide) (by decide) (by decide) (by decide)
def b_is_value (c : Ads) : EM Fl := (gRet (gFn 2 (m_has_level c 9) (gCons (gFz 0) (gCons (gC (.int 6)) gNil))))
def m_is_value (c : Ads) : Mir := runM 1 (b_is_value c)
theorem ok_is_value (fx : Fx K mg base) (fd : FuncData) (F : FunD K "is_value" "is_value" (defArgs (topS 11)) (defBody (topS 11)) (defScope (topS 11)) [] [] (He.fAd K ("is_value", none)) fd) : FnOk P w K mg base (L2.CX P w) 12 (He.fAd K ("is_value", none)) fd ["thing"] (spM K (TT K) 1 (m_is_value (ads K))) := by
  obtain ⟨fd_has_level, F_has_level⟩ := fx.F_has_level
  have G_has_level := (ok_has_level (P := P) (w := w) fx 9 fd_has_level F_has_level).mono (k := 11) (by omega)
  exact fn_ok F sc_is_value (fun _ _ => rfl) fun cdv A outer s H E hcode hr tk po =>
    (b_one (c_ret (p_call G_has_level hr rfl fx.g_has_level F_has_level.kp (B_has_level F_has_level) tk (a_cons (p_fz 0) (a_cons (p_gintE rfl fx.c_MAX_LEVELS) a_nil)))))
def b_same (c : Ads) : EM Fl := (gSeq (gFor (gItems anyItems (gTup (gCons (gFz 0) (gCons (gFz 1) gNil)))) (.nm 2)
    (gIfS (gNot (gTru (gFn 1 (m_is_value c) (gCons (gFz 2) gNil))))
    (gRaise (.ref c.InvalidValue) ["value"] (gCons (gFz 2) gNil))
    gPass))
    (gRet (gFn 2 (m_same_values c 9) (gCons (gFz 0) (gCons (gFz 1) gNil)))))
def m_same (c : Ads) : Mir := runM 3 (b_same c)
theorem ok_same (fx : Fx K mg base) (fd : FuncData) (F : FunD K "same" "same" (defArgs (topS 12)) (defBody (topS 12)) (defScope (topS 12)) [] [] (He.fAd K ("same", none)) fd) : FnOk P w K mg base (L2.CX P w) 13 (He.fAd K ("same", none)) fd ["one", "other"] (spM K (TT K) 2 (m_same (ads K))) := by
  obtain ⟨fd_same_values, F_same_values⟩ := fx.F_same_values
  have G_same_values := (ok_same_values (P := P) (w := w) fx 9 fd_same_values F_same_values).mono (k := 12) (by omega)
  obtain ⟨fd_InvalidValue_init, F_InvalidValue_init⟩ := fx.F_InvalidValue_init
  have G_InvalidValue_init := (ok_InvalidValue_init (P := P) (w := w) (K := K) (mg := mg) (base := base) (CX := L2.CX P w) fd_InvalidValue_init F_InvalidValue_init).mono (k := 11) (by omega)
  obtain ⟨fd_is_value, F_is_value⟩ := fx.F_is_value
  have G_is_value := (ok_is_value (P := P) (w := w) fx fd_is_value F_is_value).mono (k := 12) (by omega)
  exact fn_ok F sc_same (fun _ _ => rfl) fun cdv A outer s H E hcode hr tk po =>
    (b_cons (c_for po rfl (i_any (p_tup (a_cons (p_fz 0) (a_cons (p_fz 1) a_nil)))) (g_nm 2 sc_same.nd)
    (b_one (c_if (t_not (p_tru (p_call G_is_value hr rfl fx.g_is_value F_is_value.kp (B_is_value F_is_value) tk (a_cons (p_fz 2) a_nil))))
    (b_one (c_raise fx.x_InvalidValue fx.i_InvalidValue fx.t_InvalidValue fx.no_InvalidValue G_InvalidValue_init hr (B_InvalidValue_init F_InvalidValue_init) rfl fx.g_InvalidValue rfl tk (a_cons (p_fz 2) a_nil)))
    b_nil)))
    (b_one (c_ret (p_call G_same_values hr rfl fx.g_same_values F_same_values.kp (B_same_values F_same_values) tk (a_cons (p_fz 0) (a_cons (p_fz 1) a_nil))))))
def b__law_pail (c : Ads) : EM Fl := (gSeq (gSet 2 (gOp fAdd (gC (.int 5100043)) (gOp fMulS (gC (.int 17011)) (gVar 1))))
    (gSeq (gFor (gItems anyItems (gFrz (gSl (gVar 0) gNoP (gPt (gC (.int 12)))))) (.nm 3)
    (gSet 2 (gOp fMod (gCall fInt (gCons (gOp fAdd (gOp fAdd (gOp fMulS (gVar 2) (gC (.int 57047))) (gOp fMulS (gOp fMod (gCall fInt (gCons (gVar 3) gNil)) (gC (.int 2147483323))) (gC (.int 29)))) (gC (.int 11))) gNil)) (gC (.int 2147483323)))))
    (gSeq (gSet 4 (gIf (gBl (gOp fLt (gVar 1) (gCall fLen (gCons (gVar 0) gNil)))) (gCall fInt (gCons (gOp fIx (gVar 0) (gVar 1)) gNil)) (gC (.int 0))))
    (gSeq (gSet 2 (gOp fMod (gCall fInt (gCons (gOp fAdd (gOp fAdd (gOp fMulS (gVar 2) (gC (.int 83))) (gOp fMulS (gOp fMod (gCall fInt (gCons (gVar 4) gNil)) (gC (.int 2147483323))) (gC (.int 33013)))) (gC (.int 23))) gNil)) (gC (.int 2147483323))))
    (gRet (gLst (gCons (gIf (gOr (gBl (gOp fLt (gVar 4) (gC (.int 0)))) (gBl (gOp fGe (gVar 4) (gOp fPow (gC (.int 10)) (gC (.int 15)))))) (gFrz (gOp fMod (gCall fAbs (gCons (gVar 4) gNil)) (gOp fPow (gC (.int 10)) (gC (.int 60))))) (gC (.int 0))) (gCons (gFz 2) (gCons (gC (.int 0)) gNil)))))))))
def m__law_pail (c : Ads) : Mir := runM 5 (b__law_pail c)
theorem ok__law_pail (fx : Fx K mg base) (fd : FuncData) (F : FunD K "_law_pail" "_law_pail" (defArgs (topS 14)) (defBody (topS 14)) (defScope (topS 14)) [] [] (He.fAd K ("_law_pail", none)) fd) : FnOk P w K mg base (L2.CX P w) 1 (He.fAd K ("_law_pail", none)) fd ["script", "turn"] (spM K (TT K) 2 (m__law_pail (ads K))) := by
  exact fn_ok F sc__law_pail (fun _ _ => rfl) fun cdv A outer s H E hcode hr tk po =>
    (b_cons (c_set 2 sc__law_pail.nd (p_op o_add s_add p_int (p_op o_mulS s_mulS p_int (p_var 1))))
    (b_cons (c_for po rfl (i_any (p_frz (p_sl (p_var 0) o_none (o_some p_int)))) (g_nm 3 sc__law_pail.nd)
    (b_one (c_set 2 sc__law_pail.nd (p_op op_mod s_mod (p_callTy s_int call_int1 rfl fx.n_int Boot.«int» (a_cons (p_op o_add s_add (p_op o_add s_add (p_op o_mulS s_mulS (p_var 2) p_int) (p_op o_mulS s_mulS (p_op op_mod s_mod (p_callTy s_int call_int1 rfl fx.n_int Boot.«int» (a_cons (p_var 3) a_nil)) p_int) p_int)) p_int) a_nil)) p_int))))
    (b_cons (c_set 4 sc__law_pail.nd (p_if (p_tcmp o_lt s_lt (p_var 1) (p_callB s_len call_len rfl fx.n_len Boot.«len» (a_cons (p_var 0) a_nil)) (nomark _)) (p_callTy s_int call_int1 rfl fx.n_int Boot.«int» (a_cons (p_ix (Nat.lt_of_le_of_lt (Nat.add_le_add_left (by decide) _) hr.units) (p_var 0) (p_var 1)) a_nil)) p_int))
    (b_cons (c_set 2 sc__law_pail.nd (p_op op_mod s_mod (p_callTy s_int call_int1 rfl fx.n_int Boot.«int» (a_cons (p_op o_add s_add (p_op o_add s_add (p_op o_mulS s_mulS (p_var 2) p_int) (p_op o_mulS s_mulS (p_op op_mod s_mod (p_callTy s_int call_int1 rfl fx.n_int Boot.«int» (a_cons (p_var 4) a_nil)) p_int) p_int)) p_int) a_nil)) p_int))
    (b_one (c_ret (p_lst (a_cons (p_if (PW.pt (w_or (p_tcmp o_lt s_lt (p_var 4) p_int (nomark _)) (w_or1 (p_tcmp op_ge s_ii (p_var 4) (p_op op_pow s_pow p_int p_int) (nomark _))))) (p_frz (p_op op_mod s_mod (p_callB s_abs call_abs rfl fx.n_abs Boot.«abs» (a_cons (p_var 4) a_nil)) (p_op op_pow s_pow p_int p_int))) p_int) (a_cons (p_fz 2) (a_cons p_int a_nil))))))))))
def b__law_deal (c : Ads) : EM Fl := (gSeq (gIfS (gBl (gOp fGt (gOp fIx (gVar 0) (gC (.int 0))) (gC (.int 0))))
    (gSeq (gAsg (gdTup 2 (gdCons (gdSub 0 (gC (.int 0))) (gdCons (Tg.bind (.nm 2)) gdNil))) (gCall fDivmod (gCons (gOp fIx (gVar 0) (gC (.int 0))) (gCons (gVar 1) gNil))))
    (gRet (gVar 2)))
    gPass)
    (gSeq (gAsg (gdSub 0 (gC (.int 2))) (gFrz (gOp fAdd (gOp fIx (gVar 0) (gC (.int 2))) (gC (.int 1)))))
    (gSeq (gSet 3 (gOp fMod (gCall fInt (gCons (gOp fAdd (gOp fMulS (gOp fIx (gVar 0) (gC (.int 1))) (gC (.int 15559))) (gOp fMulS (gC (.int 11959)) (gOp fIx (gVar 0) (gC (.int 2))))) gNil)) (gC (.int 2147483323))))
    (gSeq (gAsg (gdSub 0 (gC (.int 1))) (gFrz (gOp fMod (gCall fInt (gCons (gOp fAdd (gOp fMulS (gVar 3) (gOp fAdd (gOp fMod (gCall fInt (gCons (gVar 3) gNil)) (gC (.int 5113))) (gC (.int 30059)))) (gOp fMulS (gC (.int 41)) (gOp fIx (gVar 0) (gC (.int 2))))) gNil)) (gC (.int 2147483323)))))
    (gRet (gOp fMod (gCall fInt (gCons (gOp fFdiv (gOp fIx (gVar 0) (gC (.int 1))) (gC (.int 373))) gNil)) (gVar 1)))))))
def m__law_deal (c : Ads) : Mir := runM 4 (b__law_deal c)
theorem ok__law_deal (fx : Fx K mg base) (fd : FuncData) (F : FunD K "_law_deal" "_law_deal" (defArgs (topS 15)) (defBody (topS 15)) (defScope (topS 15)) [] [] (He.fAd K ("_law_deal", none)) fd) : FnOk P w K mg base (L2.CX P w) 1 (He.fAd K ("_law_deal", none)) fd ["pail", "top"] (spM K (TT K) 2 (m__law_deal (ads K))) := by
  exact fn_ok F sc__law_deal (fun _ _ => rfl) fun cdv A outer s H E hcode hr tk po =>
    (b_cons (c_if (p_tcmp op_gt s_ii (p_ix (Nat.lt_of_le_of_lt (Nat.add_le_add_left (by decide) _) hr.units) (p_var 0) p_int) p_int (nomark _))
    (b_cons (c_asg (p_callB s_divmod call_divmodW rfl fx.n_divmod Boot.«divmod» (a_cons (p_ix (Nat.lt_of_le_of_lt (Nat.add_le_add_left (by decide) _) hr.units) (p_var 0) p_int) (a_cons (p_var 1) a_nil))) (gd_tup 2 rfl (gds_cons (gd_sub 0 (Nat.lt_of_le_of_lt (Nat.add_le_add_left (by decide) _) hr.units) p_int) (gds_cons (gd_of (g_nm 2 sc__law_deal.nd)) gds_nil))))
    (b_one (c_ret (p_var 2))))
    b_nil)
    (b_cons (c_asg (p_frz (p_op o_add s_add (p_ix (Nat.lt_of_le_of_lt (Nat.add_le_add_left (by decide) _) hr.units) (p_var 0) p_int) p_int)) (gd_sub 0 (Nat.lt_of_le_of_lt (Nat.add_le_add_left (by decide) _) hr.units) p_int))
    (b_cons (c_set 3 sc__law_deal.nd (p_op op_mod s_mod (p_callTy s_int call_int1 rfl fx.n_int Boot.«int» (a_cons (p_op o_add s_add (p_op o_mulS s_mulS (p_ix (Nat.lt_of_le_of_lt (Nat.add_le_add_left (by decide) _) hr.units) (p_var 0) p_int) p_int) (p_op o_mulS s_mulS p_int (p_ix (Nat.lt_of_le_of_lt (Nat.add_le_add_left (by decide) _) hr.units) (p_var 0) p_int))) a_nil)) p_int))
    (b_cons (c_asg (p_frz (p_op op_mod s_mod (p_callTy s_int call_int1 rfl fx.n_int Boot.«int» (a_cons (p_op o_add s_add (p_op o_mulS s_mulS (p_var 3) (p_op o_add s_add (p_op op_mod s_mod (p_callTy s_int call_int1 rfl fx.n_int Boot.«int» (a_cons (p_var 3) a_nil)) p_int) p_int)) (p_op o_mulS s_mulS p_int (p_ix (Nat.lt_of_le_of_lt (Nat.add_le_add_left (by decide) _) hr.units) (p_var 0) p_int))) a_nil)) p_int)) (gd_sub 0 (Nat.lt_of_le_of_lt (Nat.add_le_add_left (by decide) _) hr.units) p_int))
    (b_one (c_ret (p_op op_mod s_mod (p_callTy s_int call_int1 rfl fx.n_int Boot.«int» (a_cons (p_op op_fdivW s_fdiv (p_ix (Nat.lt_of_le_of_lt (Nat.add_le_add_left (by decide) _) hr.units) (p_var 0) p_int) p_int) a_nil)) (p_var 1))))))))
def b__law_any (c : Ads) : EM Fl := (gRet (gOp fIx (gVar 1) (gFn 2 (m__law_deal c) (gCons (gVar 0) (gCons (gCall fLen (gCons (gVar 1) gNil)) gNil)))))
def m__law_any (c : Ads) : Mir := runM 2 (b__law_any c)
theorem ok__law_any (fx : Fx K mg base) (fd : FuncData) (F : FunD K "_law_any" "_law_any" (defArgs (topS 16)) (defBody (topS 16)) (defScope (topS 16)) [] [] (He.fAd K ("_law_any", none)) fd) : FnOk P w K mg base (L2.CX P w) 2 (He.fAd K ("_law_any", none)) fd ["pail", "some"] (spM K (TT K) 2 (m__law_any (ads K))) := by
  obtain ⟨fd__law_deal, F__law_deal⟩ := fx.F__law_deal
  have G__law_deal := (ok__law_deal (P := P) (w := w) fx fd__law_deal F__law_deal).mono (k := 1) (by omega)
  exact fn_ok F sc__law_any (fun _ _ => rfl) fun cdv A outer s H E hcode hr tk po =>
    (b_one (c_ret (p_ix (Nat.lt_of_le_of_lt (Nat.add_le_add_left (by decide) _) hr.units) (p_var 1) (p_call G__law_deal hr rfl fx.g__law_deal F__law_deal.kp (B__law_deal F__law_deal) tk (a_cons (p_var 0) (a_cons (p_callB s_len call_len rfl fx.n_len Boot.«len» (a_cons (p_var 1) a_nil)) a_nil))))))
def b__law_shuffled (c : Ads) : EM Fl := (gSeq (gPar 2 3 (gCons (gCall fList (gCons (gVar 1) gNil)) (gCons (gLst gNil) gNil)))
    (gSeq (gFor (gRange1 (gCons (gCall fLen (gCons (gVar 2) gNil)) gNil)) (.nm 4)
    (gDrop (gRcv 3 (gApp 3 (gFrz (gRcv 2 (gPopAt 2 (gFn 2 (m__law_deal c) (gCons (gVar 0) (gCons (gCall fLen (gCons (gVar 2) gNil)) gNil))))))))))
    (gRet (gVar 3))))
def m__law_shuffled (c : Ads) : Mir := runM 5 (b__law_shuffled c)
theorem ok__law_shuffled (fx : Fx K mg base) (fd : FuncData) (F : FunD K "_law_shuffled" "_law_shuffled" (defArgs (topS 17)) (defBody (topS 17)) (defScope (topS 17)) [] [] (He.fAd K ("_law_shuffled", none)) fd) : FnOk P w K mg base (L2.CX P w) 2 (He.fAd K ("_law_shuffled", none)) fd ["pail", "some"] (spM K (TT K) 2 (m__law_shuffled (ads K))) := by
  obtain ⟨fd__law_deal, F__law_deal⟩ := fx.F__law_deal
  have G__law_deal := (ok__law_deal (P := P) (w := w) fx fd__law_deal F__law_deal).mono (k := 1) (by omega)
  exact fn_ok F sc__law_shuffled (fun _ _ => rfl) fun cdv A outer s H E hcode hr tk po =>
    (b_cons (c_par 2 3 rfl sc__law_shuffled.nd (a_cons (p_callTy s_list call_list_of rfl fx.n_list Boot.«list» (a_cons (p_var 1) a_nil)) (a_cons (p_lst a_nil) a_nil)) (by rfl))
    (b_cons (c_for po rfl (i_range1 rfl fx.n_range (a_cons (p_callB s_len call_len rfl fx.n_len Boot.«len» (a_cons (p_var 2) a_nil)) a_nil)) (g_nm 4 sc__law_shuffled.nd)
    (b_one (c_expr (p_append 3 (p_frz (p_popAt 2 (p_call G__law_deal hr rfl fx.g__law_deal F__law_deal.kp (B__law_deal F__law_deal) tk (a_cons (p_var 0) (a_cons (p_callB s_len call_len rfl fx.n_len Boot.«len» (a_cons (p_var 2) a_nil)) a_nil)))))))))
    (b_one (c_ret (p_var 3)))))
def m__law_same (c : Ads) : Nat → Mir
  | 0 => fun _ => none
  | n + 1 => runM 5 ((gSeq (gIfS (gTru (gCall fIsi (gCons (gVar 1) (gCons (gC (.ty "dict")) gNil))))
    (gRet (gAndV (gCall fIsi (gCons (gVar 0) (gCons (gC (.ty "dict")) gNil))) (gAndV (gOp fEqK (gCall fSorted (gCons (gVar 0) gNil)) (gCall fSorted (gCons (gVar 1) gNil))) (gOp fEqK (gLc (gItems anyItems (gFz 1)) (.nm 2) [2] (gNot (gTru (gFn 2 (m__law_same c n) (gCons (gOp fIx (gVar 0) (gVar 2)) (gCons (gOp fIx (gVar 1) (gVar 2)) gNil))))) (gFz 2)) (gLst gNil)))))
    gPass)
    (gSeq (gIfS (gOr (gTru (gCall fIsi (gCons (gVar 1) (gCons (gC (.ty "tuple")) gNil)))) (gTru (gCall fIsi (gCons (gVar 1) (gCons (gC (.ty "list")) gNil)))))
    (gSeq (gSet 3 (gIf (gTru (gCall fIsi (gCons (gVar 1) (gCons (gC (.ty "tuple")) gNil)))) (gCall fIsi (gCons (gVar 0) (gCons (gC (.ty "tuple")) gNil))) (gCall fIsi (gCons (gVar 0) (gCons (gC (.ty "list")) gNil)))))
    (gRet (gAndV (gVar 3) (gAndV (gOp fEqK (gCall fLen (gCons (gVar 0) gNil)) (gCall fLen (gCons (gVar 1) gNil))) (gOp fEqK (gLc (gRange1 (gCons (gCall fLen (gCons (gVar 1) gNil)) gNil)) (.nm 4) [4] (gNot (gTru (gFn 2 (m__law_same c n) (gCons (gOp fIx (gVar 0) (gVar 4)) (gCons (gOp fIx (gVar 1) (gVar 4)) gNil))))) (gFz 4)) (gLst gNil))))))
    gPass)
    (gRet (gAndV (gOp fEqK (gCall fIsi (gCons (gVar 0) (gCons (gC (.ty "bool")) gNil))) (gCall fIsi (gCons (gVar 1) (gCons (gC (.ty "bool")) gNil)))) (gReprEq (gCons (gFz 0) gNil) (gCons (gFz 1) gNil)))))))
theorem ok__law_same (fx : Fx K mg base) (n : Nat) (fd : FuncData) (F : FunD K "_law_same" "_law_same" (defArgs (topS 18)) (defBody (topS 18)) (defScope (topS 18)) [] [] (He.fAd K ("_law_same", none)) fd) : FnOk P w K mg base (L2.CX P w) (1 + n) (He.fAd K ("_law_same", none)) fd ["had", "due"] (spM K (TT K) 2 (m__law_same (ads K) n)) := by
  induction n with
  | zero => exact ⟨fun vs H Q E h => h.1, fun A outer s H args us vs Q E hr he hb hv h => by obtain ⟨_, _, _, _, _, e, _⟩ := h; cases e⟩
  | succ n ih =>
    have G__law_same := ih
    have F__law_same := F
    exact fn_ok F sc__law_same (fun _ _ => rfl) fun cdv A outer s H E hcode hr tk po =>
      (b_cons (c_if (p_tru (p_callB s_isi call_isi rfl fx.n_isinstance Boot.«isinstance» (a_cons (p_var 1) (a_cons (p_ty rfl (fx.n_dict) Boot.«dict») a_nil))))
    (b_one (c_ret (p_and (p_callB s_isi call_isi rfl fx.n_isinstance Boot.«isinstance» (a_cons (p_var 0) (a_cons (p_ty rfl (fx.n_dict) Boot.«dict») a_nil))) (p_and (p_cmp (o_eqK hr.units) s_eqK (p_callB s_sorted (call_sortAll rfl) rfl fx.n_sorted Boot.«sorted» (a_cons (p_var 0) a_nil)) (p_callB s_sorted (call_sortAll rfl) rfl fx.n_sorted Boot.«sorted» (a_cons (p_var 1) a_nil)) (nomark _)) (p_and1 (p_cmp (o_eqK hr.units) s_eqK (p_lc [("key", 2)] rfl sc__law_same.nd (blkOk_by (by rfl)) (i_any (p_fz 1)) (fun _ _ _ _ _ => (g_nm 2 sc__law_same.nd)) (fun _ _ _ _ _ => (ts_one (t_not (p_tru (p_call G__law_same hr rfl fx.g__law_same F__law_same.kp (B__law_same F__law_same) LamX.takes0 (a_cons (p_ix (Nat.lt_of_le_of_lt (Nat.add_le_add_left (by decide) _) hr.units) (p_var 0) (p_var 2)) (a_cons (p_ix (Nat.lt_of_le_of_lt (Nat.add_le_add_left (by decide) _) hr.units) (p_var 1) (p_var 2)) a_nil))))))) (fun _ _ _ _ _ => (p_fz 2))) (p_lst a_nil) (nomark _)))))))
    b_nil)
    (b_cons (c_if (PW.pt (w_or (p_tru (p_callB s_isi call_isi rfl fx.n_isinstance Boot.«isinstance» (a_cons (p_var 1) (a_cons (p_ty rfl (fx.n_tuple) Boot.«tuple») a_nil)))) (w_or1 (p_tru (p_callB s_isi call_isi rfl fx.n_isinstance Boot.«isinstance» (a_cons (p_var 1) (a_cons (p_ty rfl (fx.n_list) Boot.«list») a_nil)))))))
    (b_cons (c_set 3 sc__law_same.nd (p_if (p_tru (p_callB s_isi call_isi rfl fx.n_isinstance Boot.«isinstance» (a_cons (p_var 1) (a_cons (p_ty rfl (fx.n_tuple) Boot.«tuple») a_nil)))) (p_callB s_isi call_isi rfl fx.n_isinstance Boot.«isinstance» (a_cons (p_var 0) (a_cons (p_ty rfl (fx.n_tuple) Boot.«tuple») a_nil))) (p_callB s_isi call_isi rfl fx.n_isinstance Boot.«isinstance» (a_cons (p_var 0) (a_cons (p_ty rfl (fx.n_list) Boot.«list») a_nil)))))
    (b_one (c_ret (p_and (p_var 3) (p_and (p_cmp (o_eqK hr.units) s_eqK (p_callB s_len call_len rfl fx.n_len Boot.«len» (a_cons (p_var 0) a_nil)) (p_callB s_len call_len rfl fx.n_len Boot.«len» (a_cons (p_var 1) a_nil)) (nomark _)) (p_and1 (p_cmp (o_eqK hr.units) s_eqK (p_lc [("k", 4)] rfl sc__law_same.nd (blkOk_by (by rfl)) (i_range1 rfl fx.n_range (a_cons (p_callB s_len call_len rfl fx.n_len Boot.«len» (a_cons (p_var 1) a_nil)) a_nil)) (fun _ _ _ _ _ => (g_nm 4 sc__law_same.nd)) (fun _ _ _ _ _ => (ts_one (t_not (p_tru (p_call G__law_same hr rfl fx.g__law_same F__law_same.kp (B__law_same F__law_same) LamX.takes0 (a_cons (p_ix (Nat.lt_of_le_of_lt (Nat.add_le_add_left (by decide) _) hr.units) (p_var 0) (p_var 4)) (a_cons (p_ix (Nat.lt_of_le_of_lt (Nat.add_le_add_left (by decide) _) hr.units) (p_var 1) (p_var 4)) a_nil))))))) (fun _ _ _ _ _ => (p_fz 4))) (p_lst a_nil) (nomark _))))))))
    b_nil)
    (b_one (c_ret (p_and (p_cmp (o_eqK hr.units) s_eqK (p_callB s_isi call_isi rfl fx.n_isinstance Boot.«isinstance» (a_cons (p_var 0) (a_cons (p_ty rfl (fx.n_bool) Boot.«bool») a_nil))) (p_callB s_isi call_isi rfl fx.n_isinstance Boot.«isinstance» (a_cons (p_var 1) (a_cons (p_ty rfl (fx.n_bool) Boot.«bool») a_nil))) (nomark _)) (p_and1 (p_reprEq (Nat.lt_of_le_of_lt (Nat.add_le_add_left (by decide) _) hr.units) rfl fx.n_repr (a_cons (p_fz 0) a_nil) (a_cons (p_fz 1) a_nil) (nomark _))))))))
def b__law_swapped (c : Ads) : EM Fl := (gRet (gOp fAdd (gOp fAdd (gSl (gVar 0) gNoP (gPt (gVar 1))) (gTup (gCons (gFz 2) gNil))) (gSl (gVar 0) (gPt (gOp fAdd (gVar 1) (gC (.int 1)))) gNoP)))
def m__law_swapped (c : Ads) : Mir := runM 3 (b__law_swapped c)
theorem ok__law_swapped (fx : Fx K mg base) (fd : FuncData) (F : FunD K "_law_swapped" "_law_swapped" (defArgs (topS 19)) (defBody (topS 19)) (defScope (topS 19)) [] [] (He.fAd K ("_law_swapped", none)) fd) : FnOk P w K mg base (L2.CX P w) 1 (He.fAd K ("_law_swapped", none)) fd ["row", "at", "thing"] (spM K (TT K) 3 (m__law_swapped (ads K))) := by
  exact fn_ok F sc__law_swapped (fun _ _ => rfl) fun cdv A outer s H E hcode hr tk po =>
    (b_one (c_ret (p_op o_add s_add (p_op o_add s_add (p_sl (p_var 0) o_none (o_some (p_var 1))) (p_tup (a_cons (p_fz 2) a_nil))) (p_sl (p_var 0) (o_some (p_op o_add s_add (p_var 1) p_int)) o_none))))
def b__law_name (c : Ads) : EM Fl := (gSeq (gAsg (Tg.bind (.tp [(.nm 1), (.nm 2)])) (gTup (gCons (gC (.str "abcdefghijklmnopqrstuvwxyz")) (gCons (gC (.str "")) gNil))))
    (gSeq (gFor (gRange1 (gCons (gFn 2 (m__law_any c) (gCons (gVar 0) (gCons (gFrz (gLst (gCons (gC (.int 1)) (gCons (gC (.int 1)) (gCons (gC (.int 1)) (gCons (gC (.int 2)) (gCons (gC (.int 3)) (gCons (gC (.int 4)) (gCons (gC (.int 12)) gNil))))))))) gNil))) gNil)) (.nm 3)
    (gSet 2 (gOp fAdd (gVar 2) (gFn 2 (m__law_any c) (gCons (gVar 0) (gCons (gFz 1) gNil))))))
    (gRet (gVar 2))))
def m__law_name (c : Ads) : Mir := runM 4 (b__law_name c)
theorem ok__law_name (fx : Fx K mg base) (fd : FuncData) (F : FunD K "_law_name" "_law_name" (defArgs (topS 20)) (defBody (topS 20)) (defScope (topS 20)) [] [] (He.fAd K ("_law_name", none)) fd) : FnOk P w K mg base (L2.CX P w) 3 (He.fAd K ("_law_name", none)) fd ["pail"] (spM K (TT K) 1 (m__law_name (ads K))) := by
  obtain ⟨fd__law_any, F__law_any⟩ := fx.F__law_any
  have G__law_any := (ok__law_any (P := P) (w := w) fx fd__law_any F__law_any).mono (k := 2) (by omega)
  exact fn_ok F sc__law_name (fun _ _ => rfl) fun cdv A outer s H E hcode hr tk po =>
    (b_cons (c_asg (p_tup (a_cons p_str (a_cons p_str a_nil))) (gd_of (g_tp rfl (gs_cons (g_nm 1 sc__law_name.nd) (gs_cons (g_nm 2 sc__law_name.nd) gs_nil)))))
    (b_cons (c_for po rfl (i_range1 rfl fx.n_range (a_cons (p_call G__law_any hr rfl fx.g__law_any F__law_any.kp (B__law_any F__law_any) tk (a_cons (p_var 0) (a_cons (p_frz (p_lst (a_cons p_int (a_cons p_int (a_cons p_int (a_cons p_int (a_cons p_int (a_cons p_int (a_cons p_int a_nil))))))))) a_nil))) a_nil)) (g_nm 3 sc__law_name.nd)
    (b_one (c_set 2 sc__law_name.nd (p_op o_add s_add (p_var 2) (p_call G__law_any hr rfl fx.g__law_any F__law_any.kp (B__law_any F__law_any) tk (a_cons (p_var 0) (a_cons (p_fz 1) a_nil)))))))
    (b_one (c_ret (p_var 2)))))
def b__law_names (c : Ads) : EM Fl := (gSeq (gPar 2 3 (gCons (gC (.str "abcdefghijklmnopqrstuvwxyz")) (gCons (gLst gNil) gNil)))
    (gSeq (gFor (gRange1 (gCons (gVar 1) gNil)) (.nm 4)
    (gSeq (gSet 5 (gFn 2 (m__law_any c) (gCons (gVar 0) (gCons (gFrz (gLst (gCons (gFrz (gFn 1 (m__law_name c) (gCons (gVar 0) gNil))) (gCons (gFrz (gFn 2 (m__law_any c) (gCons (gVar 0) (gCons (gFrz (gLst (gCons (gC (.str "id")) (gCons (gC (.str "k")) (gCons (gC (.str "list")) (gCons (gC (.str "text")) (gCons (gC (.str "number")) (gCons (gC (.str "by")) (gCons (gC (.str "if")) (gCons (gC (.str "end")) (gCons (gC (.str "null")) (gCons (gC (.str "size")) (gCons (gC (.str "sum")) (gCons (gC (.str "h")) (gCons (gC (.str "hre")) (gCons (gC (.str "hrefs")) (gCons (gC (.str "datas")) (gCons (gC (.str "dat")) gNil)))))))))))))))))) gNil)))) gNil)))) gNil))))
    (gSeq (gSet 6 (gOp fAdd (gLst (gCons (gFz 5) gNil)) (gLc (gItems anyItems (gFz 2)) (.nm 7) [7] gYes (gFrz (gOp fAdd (gOp fAdd (gSl (gVar 5) gNoP (gPt (gC (.int 10)))) (gOp fIx (gVar 2) (gOp fMod (gVar 4) (gC (.int 26))))) (gVar 7))))))
    (gDrop (gRcv 3 (gApp 3 (gOp fIx (gLc (gItems anyItems (gFz 6)) (.nm 8) [8] (gAnd (gBl (gOp (fInA true) (gVar 8) (gVar 3))) (gBl (gOp (fInA true) (gVar 8) (gTup (gCons (gC (.str "true")) (gCons (gC (.str "false")) (gCons (gC (.str "self")) (gCons (gC (.str "data")) (gCons (gC (.str "href")) gNil))))))))) (gFz 8)) (gC (.int 0)))))))))
    (gRet (gVar 3))))
def m__law_names (c : Ads) : Mir := runM 9 (b__law_names c)
theorem ok__law_names (fx : Fx K mg base) (fd : FuncData) (F : FunD K "_law_names" "_law_names" (defArgs (topS 21)) (defBody (topS 21)) (defScope (topS 21)) [] [] (He.fAd K ("_law_names", none)) fd) : FnOk P w K mg base (L2.CX P w) 4 (He.fAd K ("_law_names", none)) fd ["pail", "many"] (spM K (TT K) 2 (m__law_names (ads K))) := by
  obtain ⟨fd__law_any, F__law_any⟩ := fx.F__law_any
  have G__law_any := (ok__law_any (P := P) (w := w) fx fd__law_any F__law_any).mono (k := 3) (by omega)
  obtain ⟨fd__law_name, F__law_name⟩ := fx.F__law_name
  have G__law_name := (ok__law_name (P := P) (w := w) fx fd__law_name F__law_name).mono (k := 3) (by omega)
  exact fn_ok F sc__law_names (fun _ _ => rfl) fun cdv A outer s H E hcode hr tk po =>
    (b_cons (c_parC 2 3 rfl sc__law_names.nd (a_cons p_str (a_cons (p_lst a_nil) a_nil)))
    (b_cons (c_for po rfl (i_range1 rfl fx.n_range (a_cons (p_var 1) a_nil)) (g_nm 4 sc__law_names.nd)
    (b_cons (c_set 5 sc__law_names.nd (p_call G__law_any hr rfl fx.g__law_any F__law_any.kp (B__law_any F__law_any) tk (a_cons (p_var 0) (a_cons (p_frz (p_lst (a_cons (p_frz (p_call G__law_name hr rfl fx.g__law_name F__law_name.kp (B__law_name F__law_name) tk (a_cons (p_var 0) a_nil))) (a_cons (p_frz (p_call G__law_any hr rfl fx.g__law_any F__law_any.kp (B__law_any F__law_any) tk (a_cons (p_var 0) (a_cons (p_frz (p_lst (a_cons p_str (a_cons p_str (a_cons p_str (a_cons p_str (a_cons p_str (a_cons p_str (a_cons p_str (a_cons p_str (a_cons p_str (a_cons p_str (a_cons p_str (a_cons p_str (a_cons p_str (a_cons p_str (a_cons p_str (a_cons p_str a_nil)))))))))))))))))) a_nil)))) a_nil)))) a_nil))))
    (b_cons (c_set 6 sc__law_names.nd (p_op o_add s_add (p_lst (a_cons (p_fz 5) a_nil)) (p_lc [("sign", 7)] rfl sc__law_names.nd (blkOk_by (by rfl)) (i_any (p_fz 2)) (fun _ _ _ _ _ => (g_nm 7 sc__law_names.nd)) (fun _ _ _ _ _ => ts_nil) (fun _ _ _ _ _ => (p_frz (p_op o_add s_add (p_op o_add s_add (p_sl (p_var 5) o_none (o_some p_int)) (p_ix (Nat.lt_of_le_of_lt (Nat.add_le_add_left (by decide) _) hr.units) (p_var 2) (p_op op_mod s_mod (p_var 4) p_int))) (p_var 7)))))))
    (b_one (c_expr (p_append 3 (p_ix (Nat.lt_of_le_of_lt (Nat.add_le_add_left (by decide) _) hr.units) (p_lc [("own", 8)] rfl sc__law_names.nd (blkOk_by (by rfl)) (i_any (p_fz 6)) (fun _ _ _ _ _ => (g_nm 8 sc__law_names.nd)) (fun _ _ _ _ _ => (ts_one (PW.pt (w_and (p_tcmp op_notInA s_inA (p_var 8) (p_var 3) (by rfl)) (w_and1 (p_tcmp op_notInA s_inA (p_var 8) (p_tup (a_cons p_str (a_cons p_str (a_cons p_str (a_cons p_str (a_cons p_str a_nil)))))) (by rfl))))))) (fun _ _ _ _ _ => (p_fz 8))) p_int)))))))
    (b_one (c_ret (p_var 3)))))
def b__law_text (c : Ads) : EM Fl := (gSeq (gSet 2 (gC (.str "")))
    (gSeq (gFor (gRange1 (gCons (gFn 2 (m__law_deal c) (gCons (gVar 0) (gCons (gFrz (gOp fAdd (gVar 1) (gC (.int 1)))) gNil))) gNil)) (.nm 3)
    (gSet 2 (gOp fAdd (gVar 2) (gFn 2 (m__law_any c) (gCons (gVar 0) (gCons (gFrz (gFn 2 (m__law_any c) (gCons (gVar 0) (gCons (gFrz (gLst (gCons (gC (.str "abcxyz")) (gCons (gC (.str "ABZ")) (gCons (gC (.str "0a8")) (gCons (gC (.str " -_.")) (gCons (gC (.str "&<>\"'")) (gCons (gC (.str "{}()[]")) (gCons (gC (.str "~/?=;:")) (gCons (gC (.str "\n\\,*")) (gCons (gC (.str "&&<<\"\"~~")) gNil))))))))))) gNil)))) gNil))))))
    (gRet (gVar 2))))
def m__law_text (c : Ads) : Mir := runM 4 (b__law_text c)
theorem ok__law_text (fx : Fx K mg base) (fd : FuncData) (F : FunD K "_law_text" "_law_text" (defArgs (topS 22)) (defBody (topS 22)) (defScope (topS 22)) [] [] (He.fAd K ("_law_text", none)) fd) : FnOk P w K mg base (L2.CX P w) 3 (He.fAd K ("_law_text", none)) fd ["pail", "many"] (spM K (TT K) 2 (m__law_text (ads K))) := by
  obtain ⟨fd__law_deal, F__law_deal⟩ := fx.F__law_deal
  have G__law_deal := (ok__law_deal (P := P) (w := w) fx fd__law_deal F__law_deal).mono (k := 2) (by omega)
  obtain ⟨fd__law_any, F__law_any⟩ := fx.F__law_any
  have G__law_any := (ok__law_any (P := P) (w := w) fx fd__law_any F__law_any).mono (k := 2) (by omega)
  exact fn_ok F sc__law_text (fun _ _ => rfl) fun cdv A outer s H E hcode hr tk po =>
    (b_cons (c_set 2 sc__law_text.nd p_str)
    (b_cons (c_for po rfl (i_range1 rfl fx.n_range (a_cons (p_call G__law_deal hr rfl fx.g__law_deal F__law_deal.kp (B__law_deal F__law_deal) tk (a_cons (p_var 0) (a_cons (p_frz (p_op o_add s_add (p_var 1) p_int)) a_nil))) a_nil)) (g_nm 3 sc__law_text.nd)
    (b_one (c_set 2 sc__law_text.nd (p_op o_add s_add (p_var 2) (p_call G__law_any hr rfl fx.g__law_any F__law_any.kp (B__law_any F__law_any) tk (a_cons (p_var 0) (a_cons (p_frz (p_call G__law_any hr rfl fx.g__law_any F__law_any.kp (B__law_any F__law_any) tk (a_cons (p_var 0) (a_cons (p_frz (p_lst (a_cons p_str (a_cons p_str (a_cons p_str (a_cons p_str (a_cons p_str (a_cons p_str (a_cons p_str (a_cons p_str (a_cons p_str a_nil))))))))))) a_nil)))) a_nil)))))))
    (b_one (c_ret (p_var 2)))))
def b__law_number (c : Ads) : EM Fl := (gRet (gFn 2 (m__law_any c) (gCons (gVar 0) (gCons (gFrz (gLst (gCons (gC (.int 0)) (gCons (gC (.int 1)) (gCons (gUn fNeg (gC (.int 1))) (gCons (gC (.int 2)) (gCons (gC (.int 7)) (gCons (gC (.int 10)) (gCons (gUn fNeg (gC (.int 12))) (gCons (gC (.int 255)) (gCons (gFrz (gOp fSub (gOp fPow (gC (.int 10)) (gC (.int 15))) (gC (.int 1)))) (gCons (gFrz (gOp fPow (gC (.int 10)) (gC (.int 15)))) (gCons (gUn fNeg (gOp fPow (gC (.int 10)) (gC (.int 19)))) (gCons (gFrz (gOp fSub (gOp fPow (gC (.int 10)) (gC (.int 20))) (gC (.int 1)))) (gCons (gFrz (gFn 2 (m__law_deal c) (gCons (gVar 0) (gCons (gC (.int 1000)) gNil)))) gNil))))))))))))))) gNil))))
def m__law_number (c : Ads) : Mir := runM 1 (b__law_number c)
theorem ok__law_number (fx : Fx K mg base) (fd : FuncData) (F : FunD K "_law_number" "_law_number" (defArgs (topS 23)) (defBody (topS 23)) (defScope (topS 23)) [] [] (He.fAd K ("_law_number", none)) fd) : FnOk P w K mg base (L2.CX P w) 3 (He.fAd K ("_law_number", none)) fd ["pail"] (spM K (TT K) 1 (m__law_number (ads K))) := by
  obtain ⟨fd__law_any, F__law_any⟩ := fx.F__law_any
  have G__law_any := (ok__law_any (P := P) (w := w) fx fd__law_any F__law_any).mono (k := 2) (by omega)
  obtain ⟨fd__law_deal, F__law_deal⟩ := fx.F__law_deal
  have G__law_deal := (ok__law_deal (P := P) (w := w) fx fd__law_deal F__law_deal).mono (k := 2) (by omega)
  exact fn_ok F sc__law_number (fun _ _ => rfl) fun cdv A outer s H E hcode hr tk po =>
    (b_one (c_ret (p_call G__law_any hr rfl fx.g__law_any F__law_any.kp (B__law_any F__law_any) tk (a_cons (p_var 0) (a_cons (p_frz (p_lst (a_cons p_int (a_cons p_int (a_cons (p_un un_neg s_neg p_int) (a_cons p_int (a_cons p_int (a_cons p_int (a_cons (p_un un_neg s_neg p_int) (a_cons p_int (a_cons (p_frz (p_op op_sub s_sub (p_op op_pow s_pow p_int p_int) p_int)) (a_cons (p_frz (p_op op_pow s_pow p_int p_int)) (a_cons (p_un un_neg s_neg (p_op op_pow s_pow p_int p_int)) (a_cons (p_frz (p_op op_sub s_sub (p_op op_pow s_pow p_int p_int) p_int)) (a_cons (p_frz (p_call G__law_deal hr rfl fx.g__law_deal F__law_deal.kp (B__law_deal F__law_deal) tk (a_cons (p_var 0) (a_cons p_int a_nil)))) a_nil))))))))))))))) a_nil)))))
def m__law_any_value (c : Ads) : Nat → Mir
  | 0 => fun _ => none
  | n + 1 => runM 6 ((gSeq (gSet 2 (gFn 2 (m__law_deal c) (gCons (gVar 0) (gCons (gC (.int 9)) gNil))))
    (gSeq (gIfS (gAnd (gBl (gOp fGt (gVar 1) (gC (.int 0)))) (gBl (gOp fLt (gVar 2) (gC (.int 2)))))
    (gRet (gCall fTuple (gCons (gLc (gRange1 (gCons (gFn 2 (m__law_any c) (gCons (gVar 0) (gCons (gFrz (gLst (gCons (gC (.int 0)) (gCons (gC (.int 1)) (gCons (gC (.int 2)) (gCons (gC (.int 3)) gNil)))))) gNil))) gNil)) (.nm 3) [3] gYes (gFrz (gFn 2 (m__law_any_value c n) (gCons (gVar 0) (gCons (gFrz (gOp fSub (gVar 1) (gC (.int 1)))) gNil))))) gNil)))
    gPass)
    (gSeq (gIfS (gAnd (gBl (gOp fGt (gVar 1) (gC (.int 0)))) (gBl (gOp fLt (gVar 2) (gC (.int 4)))))
    (gSeq (gSet 4 (gFn 2 (m__law_names c) (gCons (gVar 0) (gCons (gFrz (gFn 2 (m__law_any c) (gCons (gVar 0) (gCons (gFrz (gLst (gCons (gC (.int 0)) (gCons (gC (.int 1)) (gCons (gC (.int 2)) (gCons (gC (.int 3)) gNil)))))) gNil)))) gNil))))
    (gRet (gCall fDict (gCons (gLc (gItems anyItems (gFz 4)) (.nm 5) [5] gYes (gTup (gCons (gFz 5) (gCons (gFrz (gFn 2 (m__law_any_value c n) (gCons (gVar 0) (gCons (gFrz (gOp fSub (gVar 1) (gC (.int 1)))) gNil)))) gNil)))) gNil))))
    gPass)
    (gRet (gFn 2 (m__law_any c) (gCons (gVar 0) (gCons (gFrz (gLst (gCons (gC .non) (gCons (gC (.bl true)) (gCons (gC (.bl false)) (gCons (gFrz (gFn 1 (m__law_number c) (gCons (gVar 0) gNil))) (gCons (gFrz (gFn 2 (m__law_text c) (gCons (gVar 0) (gCons (gC (.int 5)) gNil)))) (gCons (gC (.str "")) gNil)))))))) gNil))))))))
theorem ok__law_any_value (fx : Fx K mg base) (n : Nat) (fd : FuncData) (F : FunD K "_law_any_value" "_law_any_value" (defArgs (topS 24)) (defBody (topS 24)) (defScope (topS 24)) [] [] (He.fAd K ("_law_any_value", none)) fd) : FnOk P w K mg base (L2.CX P w) (5 + n) (He.fAd K ("_law_any_value", none)) fd ["pail", "deep"] (spM K (TT K) 2 (m__law_any_value (ads K) n)) := by
  induction n with
  | zero => exact ⟨fun vs H Q E h => h.1, fun A outer s H args us vs Q E hr he hb hv h => by obtain ⟨_, _, _, _, _, e, _⟩ := h; cases e⟩
  | succ n ih =>
    have G__law_any_value := ih
    have F__law_any_value := F
    obtain ⟨fd__law_deal, F__law_deal⟩ := fx.F__law_deal
    have G__law_deal := (ok__law_deal (P := P) (w := w) fx fd__law_deal F__law_deal).mono (k := (5 + n)) (by omega)
    obtain ⟨fd__law_any, F__law_any⟩ := fx.F__law_any
    have G__law_any := (ok__law_any (P := P) (w := w) fx fd__law_any F__law_any).mono (k := (5 + n)) (by omega)
    obtain ⟨fd__law_names, F__law_names⟩ := fx.F__law_names
    have G__law_names := (ok__law_names (P := P) (w := w) fx fd__law_names F__law_names).mono (k := (5 + n)) (by omega)
    obtain ⟨fd__law_number, F__law_number⟩ := fx.F__law_number
    have G__law_number := (ok__law_number (P := P) (w := w) fx fd__law_number F__law_number).mono (k := (5 + n)) (by omega)
    obtain ⟨fd__law_text, F__law_text⟩ := fx.F__law_text
    have G__law_text := (ok__law_text (P := P) (w := w) fx fd__law_text F__law_text).mono (k := (5 + n)) (by omega)
    exact fn_ok F sc__law_any_value (fun _ _ => rfl) fun cdv A outer s H E hcode hr tk po =>
      (b_cons (c_set 2 sc__law_any_value.nd (p_call G__law_deal hr rfl fx.g__law_deal F__law_deal.kp (B__law_deal F__law_deal) tk (a_cons (p_var 0) (a_cons p_int a_nil))))
    (b_cons (c_if (PW.pt (w_and (p_tcmp op_gt s_ii (p_var 1) p_int (nomark _)) (w_and1 (p_tcmp o_lt s_lt (p_var 2) p_int (nomark _)))))
    (b_one (c_ret (p_callTy s_tuple call_tuple_of rfl fx.n_tuple Boot.«tuple» (a_cons (p_lc [("turn", 3)] rfl sc__law_any_value.nd (blkOk_by (by rfl)) (i_range1 rfl fx.n_range (a_cons (p_call G__law_any hr rfl fx.g__law_any F__law_any.kp (B__law_any F__law_any) tk (a_cons (p_var 0) (a_cons (p_frz (p_lst (a_cons p_int (a_cons p_int (a_cons p_int (a_cons p_int a_nil)))))) a_nil))) a_nil)) (fun _ _ _ _ _ => (g_nm 3 sc__law_any_value.nd)) (fun _ _ _ _ _ => ts_nil) (fun _ _ _ _ _ => (p_frz (p_call G__law_any_value hr rfl fx.g__law_any_value F__law_any_value.kp (B__law_any_value F__law_any_value) LamX.takes0 (a_cons (p_var 0) (a_cons (p_frz (p_op op_sub s_sub (p_var 1) p_int)) a_nil)))))) a_nil))))
    b_nil)
    (b_cons (c_if (PW.pt (w_and (p_tcmp op_gt s_ii (p_var 1) p_int (nomark _)) (w_and1 (p_tcmp o_lt s_lt (p_var 2) p_int (nomark _)))))
    (b_cons (c_set 4 sc__law_any_value.nd (p_call G__law_names hr rfl fx.g__law_names F__law_names.kp (B__law_names F__law_names) tk (a_cons (p_var 0) (a_cons (p_frz (p_call G__law_any hr rfl fx.g__law_any F__law_any.kp (B__law_any F__law_any) tk (a_cons (p_var 0) (a_cons (p_frz (p_lst (a_cons p_int (a_cons p_int (a_cons p_int (a_cons p_int a_nil)))))) a_nil)))) a_nil))))
    (b_one (c_ret (p_callTy s_dict (call_dictA rfl) rfl fx.n_dict Boot.«dict» (a_cons (p_lc [("name", 5)] rfl sc__law_any_value.nd (blkOk_by (by rfl)) (i_any (p_fz 4)) (fun _ _ _ _ _ => (g_nm 5 sc__law_any_value.nd)) (fun _ _ _ _ _ => ts_nil) (fun _ _ _ _ _ => (p_tup (a_cons (p_fz 5) (a_cons (p_frz (p_call G__law_any_value hr rfl fx.g__law_any_value F__law_any_value.kp (B__law_any_value F__law_any_value) LamX.takes0 (a_cons (p_var 0) (a_cons (p_frz (p_op op_sub s_sub (p_var 1) p_int)) a_nil)))) a_nil))))) a_nil)))))
    b_nil)
    (b_one (c_ret (p_call G__law_any hr rfl fx.g__law_any F__law_any.kp (B__law_any F__law_any) tk (a_cons (p_var 0) (a_cons (p_frz (p_lst (a_cons p_non (a_cons p_bl (a_cons p_bl (a_cons (p_frz (p_call G__law_number hr rfl fx.g__law_number F__law_number.kp (B__law_number F__law_number) tk (a_cons (p_var 0) a_nil))) (a_cons (p_frz (p_call G__law_text hr rfl fx.g__law_text F__law_text.kp (B__law_text F__law_text) tk (a_cons (p_var 0) (a_cons p_int a_nil)))) (a_cons p_str a_nil)))))))) a_nil))))))))
def m__law_copy (c : Ads) : Nat → Mir
  | 0 => fun _ => none
  | n + 1 => runM 4 ((gSeq (gIfS (gTru (gCall fIsi (gCons (gVar 1) (gCons (gC (.ty "dict")) gNil))))
    (gRet (gCall fDict (gCons (gLc (gItems anyItems (gFrz (gFn 2 (m__law_shuffled c) (gCons (gVar 0) (gCons (gFrz (gCall fSorted (gCons (gVar 1) gNil))) gNil))))) (.nm 2) [2] gYes (gTup (gCons (gFz 2) (gCons (gFrz (gFn 2 (m__law_copy c n) (gCons (gVar 0) (gCons (gOp fIx (gVar 1) (gVar 2)) gNil)))) gNil)))) gNil)))
    gPass)
    (gRet (gIf (gTru (gCall fIsi (gCons (gVar 1) (gCons (gC (.ty "tuple")) gNil)))) (gCall fTuple (gCons (gLc (gItems anyItems (gFz 1)) (.nm 3) [3] gYes (gFrz (gFn 2 (m__law_copy c n) (gCons (gVar 0) (gCons (gFz 3) gNil))))) gNil)) (gVar 1)))))
theorem ok__law_copy (fx : Fx K mg base) (n : Nat) (fd : FuncData) (F : FunD K "_law_copy" "_law_copy" (defArgs (topS 25)) (defBody (topS 25)) (defScope (topS 25)) [] [] (He.fAd K ("_law_copy", none)) fd) : FnOk P w K mg base (L2.CX P w) (3 + n) (He.fAd K ("_law_copy", none)) fd ["pail", "value"] (spM K (TT K) 2 (m__law_copy (ads K) n)) := by
  induction n with
  | zero => exact ⟨fun vs H Q E h => h.1, fun A outer s H args us vs Q E hr he hb hv h => by obtain ⟨_, _, _, _, _, e, _⟩ := h; cases e⟩
  | succ n ih =>
    have G__law_copy := ih
    have F__law_copy := F
    obtain ⟨fd__law_shuffled, F__law_shuffled⟩ := fx.F__law_shuffled
    have G__law_shuffled := (ok__law_shuffled (P := P) (w := w) fx fd__law_shuffled F__law_shuffled).mono (k := (3 + n)) (by omega)
    exact fn_ok F sc__law_copy (fun _ _ => rfl) fun cdv A outer s H E hcode hr tk po =>
      (b_cons (c_if (p_tru (p_callB s_isi call_isi rfl fx.n_isinstance Boot.«isinstance» (a_cons (p_var 1) (a_cons (p_ty rfl (fx.n_dict) Boot.«dict») a_nil))))
    (b_one (c_ret (p_callTy s_dict (call_dictA rfl) rfl fx.n_dict Boot.«dict» (a_cons (p_lc [("key", 2)] rfl sc__law_copy.nd (blkOk_by (by rfl)) (i_any (p_frz (p_call G__law_shuffled hr rfl fx.g__law_shuffled F__law_shuffled.kp (B__law_shuffled F__law_shuffled) tk (a_cons (p_var 0) (a_cons (p_frz (p_callB s_sorted (call_sortAll rfl) rfl fx.n_sorted Boot.«sorted» (a_cons (p_var 1) a_nil))) a_nil))))) (fun _ _ _ _ _ => (g_nm 2 sc__law_copy.nd)) (fun _ _ _ _ _ => ts_nil) (fun _ _ _ _ _ => (p_tup (a_cons (p_fz 2) (a_cons (p_frz (p_call G__law_copy hr rfl fx.g__law_copy F__law_copy.kp (B__law_copy F__law_copy) LamX.takes0 (a_cons (p_var 0) (a_cons (p_ix (Nat.lt_of_le_of_lt (Nat.add_le_add_left (by decide) _) hr.units) (p_var 1) (p_var 2)) a_nil)))) a_nil))))) a_nil))))
    b_nil)
    (b_one (c_ret (p_if (p_tru (p_callB s_isi call_isi rfl fx.n_isinstance Boot.«isinstance» (a_cons (p_var 1) (a_cons (p_ty rfl (fx.n_tuple) Boot.«tuple») a_nil)))) (p_callTy s_tuple call_tuple_of rfl fx.n_tuple Boot.«tuple» (a_cons (p_lc [("own", 3)] rfl sc__law_copy.nd (blkOk_by (by rfl)) (i_any (p_fz 1)) (fun _ _ _ _ _ => (g_nm 3 sc__law_copy.nd)) (fun _ _ _ _ _ => ts_nil) (fun _ _ _ _ _ => (p_frz (p_call G__law_copy hr rfl fx.g__law_copy F__law_copy.kp (B__law_copy F__law_copy) LamX.takes0 (a_cons (p_var 0) (a_cons (p_fz 3) a_nil)))))) a_nil)) (p_var 1)))))
def m__law_otherwise (c : Ads) : Nat → Mir
  | 0 => fun _ => none
  | n + 1 => runM 7 ((gSeq (gSet 2 (gLst (gCons (gTup (gCons (gFz 1) gNil)) (gCons (gFrz (gDct [.inr "a"] [(gFz 1)])) (gCons (gTup (gCons (gFz 1) (gCons (gFz 1) gNil))) gNil)))))
    (gSeq (gIfS (gTru (gCall fIsi (gCons (gVar 1) (gCons (gC (.ty "bool")) gNil))))
    (gRet (gOp fAdd (gVar 2) (gLst (gCons (gCall fInt (gCons (gVar 1) gNil)) (gCons (gNotV (gVar 1)) (gCons (gCall fStrB (gCons (gVar 1) gNil)) gNil))))))
    gPass)
    (gSeq (gIfS (gTru (gCall fIsi (gCons (gVar 1) (gCons (gC (.ty "int")) gNil))))
    (gRet (gOp fAdd (gOp fAdd (gVar 2) (gLst (gCons (gIf (gBl (gOp fGt (gVar 1) (gC (.int 0)))) (gFrz (gOp fSub (gVar 1) (gC (.int 1)))) (gFrz (gOp fAdd (gVar 1) (gC (.int 1))))) (gCons (gCall fStrB (gCons (gVar 1) gNil)) gNil)))) (gIf (gBl (gOp (fInA false) (gVar 1) (gTup (gCons (gC (.int 0)) (gCons (gC (.int 1)) gNil))))) (gLst (gCons (gOp fEqK (gVar 1) (gC (.int 1))) gNil)) (gLst gNil))))
    gPass)
    (gSeq (gIfS (gTru (gCall fIsi (gCons (gVar 1) (gCons (gC (.ty "str")) gNil))))
    (gRet (gOp fAdd (gVar 2) (gLst (gCons (gFrz (gOp fAdd (gVar 1) (gC (.str "a")))) (gCons (gC .non) (gCons (gTup (gCons (gFz 1) gNil)) gNil))))))
    gPass)
    (gSeq (gIfS (gTru (gCall fIsi (gCons (gVar 1) (gCons (gC (.ty "tuple")) gNil))))
    (gSeq (gSet 2 (gOp fAdd (gVar 2) (gLst (gCons (gFrz (gOp fAdd (gVar 1) (gTup (gCons (gC .non) gNil)))) (gCons (gIf (gBl (gOp fNeK (gVar 1) (gTup gNil))) (gFrz (gSl (gVar 1) (gPt (gC (.int 1))) gNoP)) (gC .non)) gNil)))))
    (gSeq (gFor (gRange1 (gCons (gCall fMin2 (gCons (gCall fLen (gCons (gVar 1) gNil)) (gCons (gC (.int 2)) gNil))) gNil)) (.nm 3)
    (gDrop (gRcv 2 (gApp 2 (gFrz (gFn 3 (m__law_swapped c) (gCons (gFz 1) (gCons (gFz 3) (gCons (gFrz (gFn 2 (m__law_any c) (gCons (gVar 0) (gCons (gFrz (gFn 2 (m__law_otherwise c n) (gCons (gVar 0) (gCons (gOp fIx (gVar 1) (gVar 3)) gNil)))) gNil)))) gNil)))))))))
    (gRet (gVar 2))))
    gPass)
    (gSeq (gIfS (gTru (gCall fIsi (gCons (gVar 1) (gCons (gC (.ty "dict")) gNil))))
    (gSeq (gSet 4 (gCall fSorted (gCons (gVar 1) gNil)))
    (gSeq (gSet 2 (gIf (gBl (gOp fNeK (gVar 4) (gLst gNil))) (gOp fAdd (gVar 2) (gLst (gCons (gFrz (gCall fDict (gCons (gLc (gItems anyItems (gFrz (gSl (gVar 4) (gPt (gC (.int 1))) gNoP))) (.nm 5) [5] gYes (gTup (gCons (gFz 5) (gCons (gOp fIx (gVar 1) (gVar 5)) gNil)))) gNil))) gNil))) (gOp fAdd (gVar 2) (gLst (gCons (gTup gNil) gNil)))))
    (gSeq (gIfS (gBl (gOp fEqK (gVar 4) (gLst gNil)))
    (gRet (gVar 2))
    gPass)
    (gSeq (gSet 6 (gFn 2 (m__law_any c) (gCons (gVar 0) (gCons (gFrz (gFn 2 (m__law_otherwise c n) (gCons (gVar 0) (gCons (gOp fIx (gVar 1) (gOp fIx (gVar 4) (gC (.int 0)))) gNil)))) gNil))))
    (gRet (gOp fAdd (gVar 2) (gLst (gCons (gFrz (gCall fDict (gCons (gLc (gItems anyItems (gFz 4)) (.nm 5) [5] gYes (gTup (gCons (gFz 5) (gCons (gIf (gBl (gOp fNeK (gVar 5) (gOp fIx (gVar 4) (gC (.int 0))))) (gOp fIx (gVar 1) (gVar 5)) (gFz 6)) gNil)))) gNil))) gNil))))))))
    gPass)
    (gRet (gOp fAdd (gVar 2) (gLst (gCons (gC (.bl false)) (gCons (gC (.int 0)) (gCons (gC (.str "")) gNil)))))))))))))
theorem ok__law_otherwise (fx : Fx K mg base) (n : Nat) (fd : FuncData) (F : FunD K "_law_otherwise" "_law_otherwise" (defArgs (topS 26)) (defBody (topS 26)) (defScope (topS 26)) [] [] (He.fAd K ("_law_otherwise", none)) fd) : FnOk P w K mg base (L2.CX P w) (3 + n) (He.fAd K ("_law_otherwise", none)) fd ["pail", "value"] (spM K (TT K) 2 (m__law_otherwise (ads K) n)) := by
  induction n with
  | zero => exact ⟨fun vs H Q E h => h.1, fun A outer s H args us vs Q E hr he hb hv h => by obtain ⟨_, _, _, _, _, e, _⟩ := h; cases e⟩
  | succ n ih =>
    have G__law_otherwise := ih
    have F__law_otherwise := F
    obtain ⟨fd__law_any, F__law_any⟩ := fx.F__law_any
    have G__law_any := (ok__law_any (P := P) (w := w) fx fd__law_any F__law_any).mono (k := (3 + n)) (by omega)
    obtain ⟨fd__law_swapped, F__law_swapped⟩ := fx.F__law_swapped
    have G__law_swapped := (ok__law_swapped (P := P) (w := w) fx fd__law_swapped F__law_swapped).mono (k := (3 + n)) (by omega)
    exact fn_ok F sc__law_otherwise (fun _ _ => rfl) fun cdv A outer s H E hcode hr tk po =>
      (b_cons (c_set 2 sc__law_otherwise.nd (p_lst (a_cons (p_tup (a_cons (p_fz 1) a_nil)) (a_cons (p_frz (p_dct (pps_cons pe_str (p_fz 1) pps_nil))) (a_cons (p_tup (a_cons (p_fz 1) (a_cons (p_fz 1) a_nil))) a_nil)))))
    (b_cons (c_if (p_tru (p_callB s_isi call_isi rfl fx.n_isinstance Boot.«isinstance» (a_cons (p_var 1) (a_cons (p_ty rfl (fx.n_bool) Boot.«bool») a_nil))))
    (b_one (c_ret (p_op o_add s_add (p_var 2) (p_lst (a_cons (p_callTy s_int call_int1 rfl fx.n_int Boot.«int» (a_cons (p_var 1) a_nil)) (a_cons (p_not (p_var 1)) (a_cons (p_callTy s_strB call_strB rfl fx.n_str Boot.«str» (a_cons (p_var 1) a_nil)) a_nil)))))))
    b_nil)
    (b_cons (c_if (p_tru (p_callB s_isi call_isi rfl fx.n_isinstance Boot.«isinstance» (a_cons (p_var 1) (a_cons (p_ty rfl (fx.n_int) Boot.«int») a_nil))))
    (b_one (c_ret (p_op o_add s_add (p_op o_add s_add (p_var 2) (p_lst (a_cons (p_if (p_tcmp op_gt s_ii (p_var 1) p_int (nomark _)) (p_frz (p_op op_sub s_sub (p_var 1) p_int)) (p_frz (p_op o_add s_add (p_var 1) p_int))) (a_cons (p_callTy s_strB call_strB rfl fx.n_str Boot.«str» (a_cons (p_var 1) a_nil)) a_nil)))) (p_if (p_tcmp op_inA s_inA (p_var 1) (p_tup (a_cons p_int (a_cons p_int a_nil))) (by rfl)) (p_lst (a_cons (p_cmp (o_eqK hr.units) s_eqK (p_var 1) p_int (nomark _)) a_nil)) (p_lst a_nil)))))
    b_nil)
    (b_cons (c_if (p_tru (p_callB s_isi call_isi rfl fx.n_isinstance Boot.«isinstance» (a_cons (p_var 1) (a_cons (p_ty rfl (fx.n_str) Boot.«str») a_nil))))
    (b_one (c_ret (p_op o_add s_add (p_var 2) (p_lst (a_cons (p_frz (p_op o_add s_add (p_var 1) p_str)) (a_cons p_non (a_cons (p_tup (a_cons (p_fz 1) a_nil)) a_nil)))))))
    b_nil)
    (b_cons (c_if (p_tru (p_callB s_isi call_isi rfl fx.n_isinstance Boot.«isinstance» (a_cons (p_var 1) (a_cons (p_ty rfl (fx.n_tuple) Boot.«tuple») a_nil))))
    (b_cons (c_set 2 sc__law_otherwise.nd (p_op o_add s_add (p_var 2) (p_lst (a_cons (p_frz (p_op o_add s_add (p_var 1) (p_tup (a_cons p_non a_nil)))) (a_cons (p_if (p_tcmp (o_neK hr.units) s_neK (p_var 1) (p_tup a_nil) (nomark _)) (p_frz (p_sl (p_var 1) (o_some p_int) o_none)) p_non) a_nil)))))
    (b_cons (c_for po rfl (i_range1 rfl fx.n_range (a_cons (p_callB s_min2 (call_min2 rfl) rfl fx.n_min Boot.«min» (a_cons (p_callB s_len call_len rfl fx.n_len Boot.«len» (a_cons (p_var 1) a_nil)) (a_cons p_int a_nil))) a_nil)) (g_nm 3 sc__law_otherwise.nd)
    (b_one (c_expr (p_append 2 (p_frz (p_call G__law_swapped hr rfl fx.g__law_swapped F__law_swapped.kp (B__law_swapped F__law_swapped) tk (a_cons (p_fz 1) (a_cons (p_fz 3) (a_cons (p_frz (p_call G__law_any hr rfl fx.g__law_any F__law_any.kp (B__law_any F__law_any) tk (a_cons (p_var 0) (a_cons (p_frz (p_call G__law_otherwise hr rfl fx.g__law_otherwise F__law_otherwise.kp (B__law_otherwise F__law_otherwise) tk (a_cons (p_var 0) (a_cons (p_ix (Nat.lt_of_le_of_lt (Nat.add_le_add_left (by decide) _) hr.units) (p_var 1) (p_var 3)) a_nil)))) a_nil)))) a_nil)))))))))
    (b_one (c_ret (p_var 2)))))
    b_nil)
    (b_cons (c_if (p_tru (p_callB s_isi call_isi rfl fx.n_isinstance Boot.«isinstance» (a_cons (p_var 1) (a_cons (p_ty rfl (fx.n_dict) Boot.«dict») a_nil))))
    (b_cons (c_set 4 sc__law_otherwise.nd (p_callB s_sorted (call_sortAll rfl) rfl fx.n_sorted Boot.«sorted» (a_cons (p_var 1) a_nil)))
    (b_cons (c_set 2 sc__law_otherwise.nd (p_if (p_tcmp (o_neK hr.units) s_neK (p_var 4) (p_lst a_nil) (nomark _)) (p_op o_add s_add (p_var 2) (p_lst (a_cons (p_frz (p_callTy s_dict (call_dictA rfl) rfl fx.n_dict Boot.«dict» (a_cons (p_lc [("name", 5)] rfl sc__law_otherwise.nd (blkOk_by (by rfl)) (i_any (p_frz (p_sl (p_var 4) (o_some p_int) o_none))) (fun _ _ _ _ _ => (g_nm 5 sc__law_otherwise.nd)) (fun _ _ _ _ _ => ts_nil) (fun _ _ _ _ _ => (p_tup (a_cons (p_fz 5) (a_cons (p_ix (Nat.lt_of_le_of_lt (Nat.add_le_add_left (by decide) _) hr.units) (p_var 1) (p_var 5)) a_nil))))) a_nil))) a_nil))) (p_op o_add s_add (p_var 2) (p_lst (a_cons (p_tup a_nil) a_nil)))))
    (b_cons (c_if (p_tcmp (o_eqK hr.units) s_eqK (p_var 4) (p_lst a_nil) (nomark _))
    (b_one (c_ret (p_var 2)))
    b_nil)
    (b_cons (c_set 6 sc__law_otherwise.nd (p_call G__law_any hr rfl fx.g__law_any F__law_any.kp (B__law_any F__law_any) tk (a_cons (p_var 0) (a_cons (p_frz (p_call G__law_otherwise hr rfl fx.g__law_otherwise F__law_otherwise.kp (B__law_otherwise F__law_otherwise) tk (a_cons (p_var 0) (a_cons (p_ix (Nat.lt_of_le_of_lt (Nat.add_le_add_left (by decide) _) hr.units) (p_var 1) (p_ix (Nat.lt_of_le_of_lt (Nat.add_le_add_left (by decide) _) hr.units) (p_var 4) p_int)) a_nil)))) a_nil))))
    (b_one (c_ret (p_op o_add s_add (p_var 2) (p_lst (a_cons (p_frz (p_callTy s_dict (call_dictA rfl) rfl fx.n_dict Boot.«dict» (a_cons (p_lc [("name", 5)] rfl sc__law_otherwise.nd (blkOk_by (by rfl)) (i_any (p_fz 4)) (fun _ _ _ _ _ => (g_nm 5 sc__law_otherwise.nd)) (fun _ _ _ _ _ => ts_nil) (fun _ _ _ _ _ => (p_tup (a_cons (p_fz 5) (a_cons (p_if (p_tcmp (o_neK hr.units) s_neK (p_var 5) (p_ix (Nat.lt_of_le_of_lt (Nat.add_le_add_left (by decide) _) hr.units) (p_var 4) p_int) (nomark _)) (p_ix (Nat.lt_of_le_of_lt (Nat.add_le_add_left (by decide) _) hr.units) (p_var 1) (p_var 5)) (p_fz 6)) a_nil))))) a_nil))) a_nil)))))))))
    b_nil)
    (b_one (c_ret (p_op o_add s_add (p_var 2) (p_lst (a_cons p_bl (a_cons p_int (a_cons p_str a_nil)))))))))))))
def su__law_refused (c : Ads) : EM Fl := (gRet (gLst (gCons (gXf (P_value c) 1 "value") gNil)))
def hm__law_refused (c : Ads) : List HM := [⟨mt__law_refused c, some 1, su__law_refused c⟩]
def tl__law_refused (c : Ads) : EM Fl := (gRet (gLst gNil))
def b__law_bounds_right (c : Ads) : EM Fl := (gSeq (gPar 0 1 (gCons (gC (.int 1)) (gCons (gDct [.inr "a"] [(gC (.int 1))]) gNil)))
    (gSeq (gFor (gRange1 (gCons (gC (.int 6)) gNil)) (.nm 2)
    (gSeq (gIfS (gOr (gNot (gTru (gFn 1 (m_is_value c) (gCons (gFz 0) gNil)))) (gAnd (gNot (gTru (gFn 1 (m_is_value c) (gCons (gFz 1) gNil)))) (gBl (gOp fLt (gVar 2) (gC (.int 6))))))
    (gRet (gC (.bl false)))
    gPass)
    (gPar 0 1 (gCons (gTup (gCons (gFz 0) gNil)) (gCons (gIf (gBl (gOp fLt (gVar 2) (gC (.int 5)))) (gDct [.inr "a"] [(gFz 1)]) (gVar 1)) gNil)))))
    (gSeq (gIfS (gOr (gNot (gTru (gFn 1 (m_is_value c) (gCons (gFz 0) gNil)))) (gOr (gTru (gFn 1 (m_is_value c) (gCons (gTup (gCons (gFz 0) gNil)) gNil))) (gOr (gNot (gTru (gFn 1 (m_is_value c) (gCons (gFz 1) gNil)))) (gTru (gFn 1 (m_is_value c) (gCons (gFrz (gDct [.inr "b"] [(gFz 1)])) gNil))))))
    (gRet (gC (.bl false)))
    gPass)
    (gSeq (gIfS (gNot (gTru (gFn 2 (m__law_same c 9) (gCons (gFrz (gLc (gItems anyItems (gTup (gCons (gFrz (gOp fMulS (gTup (gCons (gC (.str "")) gNil)) (gC (.int 60)))) (gCons (gFrz (gDctE [((gFrz (gOp fMulS (gC (.str "a")) (gC (.int 12)))), (gC (.int 1)))])) (gCons (gTup (gCons (gFrz gDct0) gNil)) (gCons (gFrz gDct0) (gCons (gTup gNil) gNil))))))) (.nm 3) [3] gYes (gFrz (gFnK .id 1 (m_is_value c) (gCons (gFz 3) gNil))))) (gCons (gFrz (gOp fMulS (gLst (gCons (gC (.bl true)) gNil)) (gC (.int 5)))) gNil)))))
    (gRet (gC (.bl false)))
    gPass)
    (gRet (gOp fEqK (gLc (gItems anyItems (gTup (gCons (gFrz (gOp fMulS (gTup (gCons (gC (.str "")) gNil)) (gC (.int 61)))) (gCons (gFrz (gDctE [((gFrz (gOp fMulS (gC (.str "a")) (gC (.int 13)))), (gC (.int 1)))])) (gCons (gFrz (gDct [.inr ""] [(gC (.int 1))])) (gCons (gFrz (gDct [.inr "A"] [(gC (.int 1))])) (gCons (gFrz (gDct [.inl 5] [(gC (.int 1))])) (gCons (gFrz (gLst (gCons (gC (.int 1)) gNil))) (gCons (gFrz (gDct [.inr "a"] [(gFrz (gLst (gCons (gC (.int 1)) gNil)))])) gNil))))))))) (.nm 3) [3] (gTru (gFn 1 (m_is_value c) (gCons (gFz 3) gNil))) (gFz 3)) (gLst gNil)))))))
def m__law_bounds_right (c : Ads) : Mir := runM 4 (b__law_bounds_right c)
theorem ok__law_bounds_right (fx : Fx K mg base) (fd : FuncData) (F : FunD K "_law_bounds_right" "_law_bounds_right" (defArgs (topS 28)) (defBody (topS 28)) (defScope (topS 28)) [] [] (He.fAd K ("_law_bounds_right", none)) fd) : FnOk P w K mg base (L2.CX P w) 13 (He.fAd K ("_law_bounds_right", none)) fd [] (spM K (TT K) 0 (m__law_bounds_right (ads K))) := by
  obtain ⟨fd_is_value, F_is_value⟩ := fx.F_is_value
  have G_is_value := (ok_is_value (P := P) (w := w) fx fd_is_value F_is_value).mono (k := 12) (by omega)
  obtain ⟨fd__law_same, F__law_same⟩ := fx.F__law_same
  have G__law_same := (ok__law_same (P := P) (w := w) fx 9 fd__law_same F__law_same).mono (k := 12) (by omega)
  exact fn_ok F sc__law_bounds_right (fun _ _ => rfl) fun cdv A outer s H E hcode hr tk po =>
    (b_cons (c_par 0 1 rfl sc__law_bounds_right.nd (a_cons p_int (a_cons (p_dct (pps_cons pe_str p_int pps_nil)) a_nil)) (by rfl))
    (b_cons (c_for po rfl (i_range1 rfl fx.n_range (a_cons p_int a_nil)) (g_nm 2 sc__law_bounds_right.nd)
    (b_cons (c_if (PW.pt (w_or (t_not (p_tru (p_call G_is_value hr rfl fx.g_is_value F_is_value.kp (B_is_value F_is_value) tk (a_cons (p_fz 0) a_nil)))) (w_or1 (PW.pt (w_and (t_not (p_tru (p_call G_is_value hr rfl fx.g_is_value F_is_value.kp (B_is_value F_is_value) tk (a_cons (p_fz 1) a_nil)))) (w_and1 (p_tcmp o_lt s_lt (p_var 2) p_int (nomark _))))))))
    (b_one (c_ret p_bl))
    b_nil)
    (b_one (c_par 0 1 rfl sc__law_bounds_right.nd (a_cons (p_tup (a_cons (p_fz 0) a_nil)) (a_cons (p_if (p_tcmp o_lt s_lt (p_var 2) p_int (nomark _)) (p_dct (pps_cons pe_str (p_fz 1) pps_nil)) (p_var 1)) a_nil)) (by rfl)))))
    (b_cons (c_if (PW.pt (w_or (t_not (p_tru (p_call G_is_value hr rfl fx.g_is_value F_is_value.kp (B_is_value F_is_value) tk (a_cons (p_fz 0) a_nil)))) (w_or (p_tru (p_call G_is_value hr rfl fx.g_is_value F_is_value.kp (B_is_value F_is_value) tk (a_cons (p_tup (a_cons (p_fz 0) a_nil)) a_nil))) (w_or (t_not (p_tru (p_call G_is_value hr rfl fx.g_is_value F_is_value.kp (B_is_value F_is_value) tk (a_cons (p_fz 1) a_nil)))) (w_or1 (p_tru (p_call G_is_value hr rfl fx.g_is_value F_is_value.kp (B_is_value F_is_value) tk (a_cons (p_frz (p_dct (pps_cons pe_str (p_fz 1) pps_nil))) a_nil))))))))
    (b_one (c_ret p_bl))
    b_nil)
    (b_cons (c_if (t_not (p_tru (p_call G__law_same hr rfl fx.g__law_same F__law_same.kp (B__law_same F__law_same) tk (a_cons (p_frz (p_lc [("own", 3)] rfl sc__law_bounds_right.nd (blkOk_by (by rfl)) (i_any (p_tup (a_cons (p_frz (p_op o_mulS s_mulS (p_tup (a_cons p_str a_nil)) p_int)) (a_cons (p_frz (p_dctE (pps_cons (p_frz (p_op o_mulS s_mulS p_str p_int)) p_int pps_nil))) (a_cons (p_tup (a_cons (p_frz p_dct0) a_nil)) (a_cons (p_frz p_dct0) (a_cons (p_tup a_nil) a_nil))))))) (fun _ _ _ _ _ => (g_nm 3 sc__law_bounds_right.nd)) (fun _ _ _ _ _ => ts_nil) (fun _ _ _ _ _ => (p_frz (p_callK .id G_is_value hr rfl fx.g_is_value F_is_value.kp (K_is_value F_is_value) LamX.takes0 (k_cons (p_fz 3) k_nil) rfl (K_is_value_len)))))) (a_cons (p_frz (p_op o_mulS s_mulS (p_lst (a_cons p_bl a_nil)) p_int)) a_nil)))))
    (b_one (c_ret p_bl))
    b_nil)
    (b_one (c_ret (p_cmp (o_eqK hr.units) s_eqK (p_lc [("own", 3)] rfl sc__law_bounds_right.nd (blkOk_by (by rfl)) (i_any (p_tup (a_cons (p_frz (p_op o_mulS s_mulS (p_tup (a_cons p_str a_nil)) p_int)) (a_cons (p_frz (p_dctE (pps_cons (p_frz (p_op o_mulS s_mulS p_str p_int)) p_int pps_nil))) (a_cons (p_frz (p_dct (pps_cons pe_str p_int pps_nil))) (a_cons (p_frz (p_dct (pps_cons pe_str p_int pps_nil))) (a_cons (p_frz (p_dct (pps_cons pe_int p_int pps_nil))) (a_cons (p_frz (p_lst (a_cons p_int a_nil))) (a_cons (p_frz (p_dct (pps_cons pe_str (p_frz (p_lst (a_cons p_int a_nil))) pps_nil))) a_nil))))))))) (fun _ _ _ _ _ => (g_nm 3 sc__law_bounds_right.nd)) (fun _ _ _ _ _ => (ts_one (p_tru (p_call G_is_value hr rfl fx.g_is_value F_is_value.kp (B_is_value F_is_value) LamX.takes0 (a_cons (p_fz 3) a_nil))))) (fun _ _ _ _ _ => (p_fz 3))) (p_lst a_nil) (nomark _))))))))
def b__law_right (c : Ads) : EM Fl := (gSeq (gSet 1 (gLc (gRange1 (gCons (gC (.int 5)) gNil)) (.nm 2) [2] gYes (gFrz (gFn 2 (m__law_any_value c 6) (gCons (gVar 0) (gCons (gFrz (gFn 2 (m__law_any c) (gCons (gVar 0) (gCons (gFrz (gLst (gCons (gC (.int 0)) (gCons (gC (.int 1)) (gCons (gC (.int 2)) (gCons (gC (.int 4)) gNil)))))) gNil)))) gNil))))))
    (gSeq (gFor (gItems anyItems (gFz 1)) (.nm 3)
    (gSeq (gPar 4 5 (gCons (gFn 2 (m__law_copy c 6) (gCons (gVar 0) (gCons (gFz 3) gNil))) (gCons (gFn 2 (m__law_copy c 6) (gCons (gVar 0) (gCons (gFz 3) gNil))) gNil)))
    (gSeq (gIfS (gNot (gTru (gFn 2 (m__law_same c 9) (gCons (gFrz (gLst (gCons (gFrz (gFn 1 (m_is_value c) (gCons (gFz 3) gNil))) (gCons (gFrz (gFn 2 (m_same c) (gCons (gFz 3) (gCons (gFz 4) gNil)))) (gCons (gFrz (gFn 2 (m_same c) (gCons (gFz 4) (gCons (gFz 5) gNil)))) (gCons (gFrz (gFnK .swap 2 (m_same c) (gCons (gFz 3) (gCons (gFz 5) gNil)))) gNil)))))) (gCons (gFrz (gLst (gCons (gC (.bl true)) (gCons (gC (.bl true)) (gCons (gC (.bl true)) (gCons (gC (.bl true)) gNil)))))) gNil)))))
    (gRet (gC (.bl false)))
    gPass)
    (gSeq (gFor (gItems anyItems (gFrz (gFn 2 (m__law_otherwise c 6) (gCons (gVar 0) (gCons (gFz 3) gNil))))) (.nm 6)
    (gIfS (gNot (gTru (gFn 2 (m__law_same c 9) (gCons (gFrz (gLst (gCons (gFrz (gFn 2 (m_same c) (gCons (gFz 3) (gCons (gFz 6) gNil)))) (gCons (gFrz (gFn 2 (m_same c) (gCons (gFz 6) (gCons (gFz 3) gNil)))) (gCons (gFrz (gFn 2 (m_same c) (gCons (gFz 4) (gCons (gFz 6) gNil)))) gNil))))) (gCons (gFrz (gLst (gCons (gC (.bl false)) (gCons (gC (.bl false)) (gCons (gC (.bl false)) gNil))))) gNil)))))
    (gRet (gC (.bl false)))
    gPass))
    (gSeq (gFor (gItems anyItems (gTup (gCons (gFrz (gLst (gCons (gFz 3) gNil))) (gCons (gFrz (gDct [.inr "a"] [(gFrz (gLst (gCons (gFz 3) gNil)))])) (gCons (gTup (gCons (gFz 3) (gCons (gFrz (gLst gNil)) gNil))) (gCons (gFrz (gDct [.inl 1] [(gFz 3)])) gNil)))))) (.nm 7)
    (gSeq (gIfS (gNot (gTru (gFn 2 (m__law_same c 9) (gCons (gFrz (gHeardB 2 (hm__law_refused c) (tl__law_refused c) (gFrz (gFn 2 (m_same c) (gCons (gFz 7) (gCons (gFz 3) gNil)))))) (gCons (gFrz (gLst (gCons (gFz 7) gNil))) gNil)))))
    (gRet (gC (.bl false)))
    gPass)
    (gIfS (gNot (gTru (gFn 2 (m__law_same c 9) (gCons (gFrz (gHeardB 2 (hm__law_refused c) (tl__law_refused c) (gFrz (gFnM .id 1 1 (m_same c) (gCons (gFz 3) gNil) (gCons (gFz 7) gNil))))) (gCons (gFrz (gLst (gCons (gFz 7) gNil))) gNil)))))
    (gRet (gC (.bl false)))
    gPass)))
    (gIfS (gOr (gBl (gOp fNeK (gHeardB 2 (hm__law_refused c) (tl__law_refused c) (gFrz (gFn 2 (m_same c) (gCons (gFrz (gLst (gCons (gC (.int 1)) gNil))) (gCons (gFrz (gDct [.inl 2] [(gC (.int 2))])) gNil))))) (gLst (gCons (gFrz (gLst (gCons (gC (.int 1)) gNil))) gNil)))) (gTru (gFn 1 (m_is_value c) (gCons (gFrz (gLst (gCons (gFz 3) gNil))) gNil))))
    (gRet (gC (.bl false)))
    gPass))))))
    (gSeq (gFor (gItems anyItems (gFz 1)) (.nm 4)
    (gFor (gItems anyItems (gFz 1)) (.nm 5)
    (gIfS (gOr (gBl (gOp fNeK (gFn 2 (m_same c) (gCons (gFz 4) (gCons (gFz 5) gNil))) (gFn 2 (m__law_same c 9) (gCons (gFz 4) (gCons (gFz 5) gNil))))) (gBl (gOp fNeK (gFn 2 (m_same c) (gCons (gFz 4) (gCons (gFz 5) gNil))) (gFn 2 (m_same c) (gCons (gFz 5) (gCons (gFz 4) gNil))))))
    (gRet (gC (.bl false)))
    gPass)))
    (gRet (gFnK .id 0 (m__law_bounds_right c) gNil)))))
def m__law_right (c : Ads) : Mir := runM 8 (b__law_right c)
theorem ok__law_right (fx : Fx K mg base) (fd : FuncData) (F : FunD K "_law_right" "_law_right" (defArgs (topS 29)) (defBody (topS 29)) (defScope (topS 29)) [] [] (He.fAd K ("_law_right", none)) fd) : FnOk P w K mg base (L2.CX P w) 16 (He.fAd K ("_law_right", none)) fd ["pail"] (spM K (TT K) 1 (m__law_right (ads K))) := by
  obtain ⟨fd__law_bounds_right, F__law_bounds_right⟩ := fx.F__law_bounds_right
  have G__law_bounds_right := (ok__law_bounds_right (P := P) (w := w) fx fd__law_bounds_right F__law_bounds_right).mono (k := 13) (by omega)
  obtain ⟨fd__law_any_value, F__law_any_value⟩ := fx.F__law_any_value
  have G__law_any_value := (ok__law_any_value (P := P) (w := w) fx 6 fd__law_any_value F__law_any_value).mono (k := 13) (by omega)
  obtain ⟨fd__law_otherwise, F__law_otherwise⟩ := fx.F__law_otherwise
  have G__law_otherwise := (ok__law_otherwise (P := P) (w := w) fx 6 fd__law_otherwise F__law_otherwise).mono (k := 13) (by omega)
  obtain ⟨fd__law_any, F__law_any⟩ := fx.F__law_any
  have G__law_any := (ok__law_any (P := P) (w := w) fx fd__law_any F__law_any).mono (k := 13) (by omega)
  obtain ⟨fd__law_copy, F__law_copy⟩ := fx.F__law_copy
  have G__law_copy := (ok__law_copy (P := P) (w := w) fx 6 fd__law_copy F__law_copy).mono (k := 13) (by omega)
  obtain ⟨fd__law_same, F__law_same⟩ := fx.F__law_same
  have G__law_same := (ok__law_same (P := P) (w := w) fx 9 fd__law_same F__law_same).mono (k := 13) (by omega)
  obtain ⟨fd_is_value, F_is_value⟩ := fx.F_is_value
  have G_is_value := (ok_is_value (P := P) (w := w) fx fd_is_value F_is_value).mono (k := 13) (by omega)
  obtain ⟨fd__law_refused, F__law_refused⟩ := fx.F__law_refused
  have FH := F__law_refused
  obtain ⟨oc, od, dV, kV, doc, pm, an, cdvH, ct, osl, rfl, lkH, hcdH, _, _⟩ := F__law_refused.ex
  obtain ⟨fd_same, F_same⟩ := fx.F_same
  have G_same := (ok_same (P := P) (w := w) fx fd_same F_same).mono (k := 13) (by omega)
  exact fn_ok F sc__law_right (fun _ _ => rfl) fun cdv A outer s H E hcode hr tk po =>
    (b_cons (c_setLc 1 [("turn", 2)] rfl sc__law_right.nd (blkOk_by (by rfl)) (i_range1 rfl fx.n_range (a_cons p_int a_nil)) (fun _ _ _ _ _ => (g_nm 2 sc__law_right.nd)) (fun _ _ _ _ _ => ts_nil) (fun _ _ _ _ _ => (p_frz (p_call G__law_any_value (hr.mono (by omega)) rfl fx.g__law_any_value F__law_any_value.kp (B__law_any_value F__law_any_value) LamX.takes0 (a_cons (p_var 0) (a_cons (p_frz (p_call G__law_any (hr.mono (by omega)) rfl fx.g__law_any F__law_any.kp (B__law_any F__law_any) LamX.takes0 (a_cons (p_var 0) (a_cons (p_frz (p_lst (a_cons p_int (a_cons p_int (a_cons p_int (a_cons p_int a_nil)))))) a_nil)))) a_nil))))))
    (b_cons (c_for po rfl (i_any (p_fz 1)) (g_nm 3 sc__law_right.nd)
    (b_cons (c_par 4 5 rfl sc__law_right.nd (a_cons (p_call G__law_copy (hr.mono (by omega)) rfl fx.g__law_copy F__law_copy.kp (B__law_copy F__law_copy) tk (a_cons (p_var 0) (a_cons (p_fz 3) a_nil))) (a_cons (p_call G__law_copy (hr.mono (by omega)) rfl fx.g__law_copy F__law_copy.kp (B__law_copy F__law_copy) tk (a_cons (p_var 0) (a_cons (p_fz 3) a_nil))) a_nil)) (by rfl))
    (b_cons (c_if (t_not (p_tru (p_call G__law_same (hr.mono (by omega)) rfl fx.g__law_same F__law_same.kp (B__law_same F__law_same) tk (a_cons (p_frz (p_lst (a_cons (p_frz (p_call G_is_value (hr.mono (by omega)) rfl fx.g_is_value F_is_value.kp (B_is_value F_is_value) tk (a_cons (p_fz 3) a_nil))) (a_cons (p_frz (p_call G_same (hr.mono (by omega)) rfl fx.g_same F_same.kp (B_same F_same) tk (a_cons (p_fz 3) (a_cons (p_fz 4) a_nil)))) (a_cons (p_frz (p_call G_same (hr.mono (by omega)) rfl fx.g_same F_same.kp (B_same F_same) tk (a_cons (p_fz 4) (a_cons (p_fz 5) a_nil)))) (a_cons (p_frz (p_callK .swap G_same (hr.mono (by omega)) rfl fx.g_same F_same.kp (K_same F_same) tk (k_cons (p_fz 3) (k_cons (p_fz 5) k_nil)) rfl (K_same_len))) a_nil)))))) (a_cons (p_frz (p_lst (a_cons p_bl (a_cons p_bl (a_cons p_bl (a_cons p_bl a_nil)))))) a_nil)))))
    (b_one (c_ret p_bl))
    b_nil)
    (b_cons (c_for po rfl (i_any (p_frz (p_call G__law_otherwise (hr.mono (by omega)) rfl fx.g__law_otherwise F__law_otherwise.kp (B__law_otherwise F__law_otherwise) tk (a_cons (p_var 0) (a_cons (p_fz 3) a_nil))))) (g_nm 6 sc__law_right.nd)
    (b_one (c_if (t_not (p_tru (p_call G__law_same (hr.mono (by omega)) rfl fx.g__law_same F__law_same.kp (B__law_same F__law_same) tk (a_cons (p_frz (p_lst (a_cons (p_frz (p_call G_same (hr.mono (by omega)) rfl fx.g_same F_same.kp (B_same F_same) tk (a_cons (p_fz 3) (a_cons (p_fz 6) a_nil)))) (a_cons (p_frz (p_call G_same (hr.mono (by omega)) rfl fx.g_same F_same.kp (B_same F_same) tk (a_cons (p_fz 6) (a_cons (p_fz 3) a_nil)))) (a_cons (p_frz (p_call G_same (hr.mono (by omega)) rfl fx.g_same F_same.kp (B_same F_same) tk (a_cons (p_fz 4) (a_cons (p_fz 6) a_nil)))) a_nil))))) (a_cons (p_frz (p_lst (a_cons p_bl (a_cons p_bl (a_cons p_bl a_nil))))) a_nil)))))
    (b_one (c_ret p_bl))
    b_nil)))
    (b_cons (c_for po rfl (i_any (p_tup (a_cons (p_frz (p_lst (a_cons (p_fz 3) a_nil))) (a_cons (p_frz (p_dct (pps_cons pe_str (p_frz (p_lst (a_cons (p_fz 3) a_nil))) pps_nil))) (a_cons (p_tup (a_cons (p_fz 3) (a_cons (p_frz (p_lst a_nil)) a_nil))) (a_cons (p_frz (p_dct (pps_cons pe_int (p_fz 3) pps_nil))) a_nil)))))) (g_nm 7 sc__law_right.nd)
    (b_cons (c_if (t_not (p_tru (p_call G__law_same (hr.mono (by omega)) rfl fx.g__law_same F__law_same.kp (B__law_same F__law_same) tk (a_cons (p_frz (p_heardB (x := "_law_refused") (k := 13) (H0 := ⟨H, fun _ _ _ => False, TT K⟩) rfl fx.g__law_refused FH.kp lkH hcdH (B__law_refused FH) sc__law_refused rfl (Or.inl rfl) rfl fx.tb__law_right (code_of hcode) (by exact List.mem_singleton.mpr rfl) (by intro p hp _; rw [List.mem_singleton.mp hp]; rfl) hr (LamX.lamS_by (by rfl)) rfl (fun _ _ _ _ _ => rfl) (fun _ _ _ _ _ _ _ hr tk => (p_frz (p_call G_same (hr.mono (by omega)) rfl fx.g_same F_same.kp (B_same F_same) tk (a_cons (p_fz 7) (a_cons (p_fz 3) a_nil))))) (fun _ _ h0 _ hr => ⟨_, (HsOk.as (cl_name ⟨rfl, by decide, .inl fx.g_InvalidValue⟩) (mt__law_refused_ok fx) rfl rfl (fun _ _ _ _ _ hz hfv => (b_one (c_ret (p_lst (a_cons (p_xf (P_value (ads K)) 1 hz hfv (P_value_ok fx)) a_nil))))) .nil)⟩) (fun _ _ h0 _ hr => (b_one (c_ret (p_lst a_nil)))))) (a_cons (p_frz (p_lst (a_cons (p_fz 7) a_nil))) a_nil)))))
    (b_one (c_ret p_bl))
    b_nil)
    (b_one (c_if (t_not (p_tru (p_call G__law_same (hr.mono (by omega)) rfl fx.g__law_same F__law_same.kp (B__law_same F__law_same) tk (a_cons (p_frz (p_heardB (x := "_law_refused") (k := 13) (H0 := ⟨H, fun _ _ _ => False, TT K⟩) rfl fx.g__law_refused FH.kp lkH hcdH (B__law_refused FH) sc__law_refused rfl (Or.inl rfl) rfl fx.tb__law_right (code_of hcode) (by exact List.mem_singleton.mpr rfl) (by intro p hp _; rw [List.mem_singleton.mp hp]; rfl) hr (LamX.lamS_by (by rfl)) rfl (fun _ _ _ _ _ => rfl) (fun _ _ _ _ _ _ _ hr tk => (p_frz (p_callM .id G_same (hr.mono (by omega)) rfl fx.g_same F_same.kp (KM_same_1 F_same) tk (a_cons (p_fz 3) a_nil) (k_cons (p_fz 7) k_nil) rfl (fun _ h => h)))) (fun _ _ h0 _ hr => ⟨_, (HsOk.as (cl_name ⟨rfl, by decide, .inl fx.g_InvalidValue⟩) (mt__law_refused_ok fx) rfl rfl (fun _ _ _ _ _ hz hfv => (b_one (c_ret (p_lst (a_cons (p_xf (P_value (ads K)) 1 hz hfv (P_value_ok fx)) a_nil))))) .nil)⟩) (fun _ _ h0 _ hr => (b_one (c_ret (p_lst a_nil)))))) (a_cons (p_frz (p_lst (a_cons (p_fz 7) a_nil))) a_nil)))))
    (b_one (c_ret p_bl))
    b_nil))))
    (b_one (c_if (PW.pt (w_or (p_tcmp (o_neK hr.units) s_neK (p_heardB (x := "_law_refused") (k := 13) (H0 := ⟨H, fun _ _ _ => False, TT K⟩) rfl fx.g__law_refused FH.kp lkH hcdH (B__law_refused FH) sc__law_refused rfl (Or.inl rfl) rfl fx.tb__law_right (code_of hcode) (by exact List.mem_singleton.mpr rfl) (by intro p hp _; rw [List.mem_singleton.mp hp]; rfl) hr (LamX.lamS_by (by rfl)) rfl (fun _ _ _ _ _ => rfl) (fun _ _ _ _ _ _ _ hr tk => (p_frz (p_call G_same (hr.mono (by omega)) rfl fx.g_same F_same.kp (B_same F_same) tk (a_cons (p_frz (p_lst (a_cons p_int a_nil))) (a_cons (p_frz (p_dct (pps_cons pe_int p_int pps_nil))) a_nil))))) (fun _ _ h0 _ hr => ⟨_, (HsOk.as (cl_name ⟨rfl, by decide, .inl fx.g_InvalidValue⟩) (mt__law_refused_ok fx) rfl rfl (fun _ _ _ _ _ hz hfv => (b_one (c_ret (p_lst (a_cons (p_xf (P_value (ads K)) 1 hz hfv (P_value_ok fx)) a_nil))))) .nil)⟩) (fun _ _ h0 _ hr => (b_one (c_ret (p_lst a_nil))))) (p_lst (a_cons (p_frz (p_lst (a_cons p_int a_nil))) a_nil)) (nomark _)) (w_or1 (p_tru (p_call G_is_value (hr.mono (by omega)) rfl fx.g_is_value F_is_value.kp (B_is_value F_is_value) tk (a_cons (p_frz (p_lst (a_cons (p_fz 3) a_nil))) a_nil))))))
    (b_one (c_ret p_bl))
    b_nil)))))))
    (b_cons (c_for po rfl (i_any (p_fz 1)) (g_nm 4 sc__law_right.nd)
    (b_one (c_for po rfl (i_any (p_fz 1)) (g_nm 5 sc__law_right.nd)
    (b_one (c_if (PW.pt (w_or (p_tcmp (o_neK hr.units) s_neK (p_call G_same (hr.mono (by omega)) rfl fx.g_same F_same.kp (B_same F_same) tk (a_cons (p_fz 4) (a_cons (p_fz 5) a_nil))) (p_call G__law_same (hr.mono (by omega)) rfl fx.g__law_same F__law_same.kp (B__law_same F__law_same) tk (a_cons (p_fz 4) (a_cons (p_fz 5) a_nil))) (nomark _)) (w_or1 (p_tcmp (o_neK hr.units) s_neK (p_call G_same (hr.mono (by omega)) rfl fx.g_same F_same.kp (B_same F_same) tk (a_cons (p_fz 4) (a_cons (p_fz 5) a_nil))) (p_call G_same (hr.mono (by omega)) rfl fx.g_same F_same.kp (B_same F_same) tk (a_cons (p_fz 5) (a_cons (p_fz 4) a_nil))) (nomark _)))))
    (b_one (c_ret p_bl))
    b_nil)))))
    (b_one (c_ret (p_callK .id G__law_bounds_right (hr.mono (by omega)) rfl fx.g__law_bounds_right F__law_bounds_right.kp (K0__law_bounds_right F__law_bounds_right) tk k_nil rfl (fun _ h => h)))))))
def b_law (c : Ads) : EM Fl := (gRet (gCall fAll (gCons (gLc (gRange1 (gCons (gC (.int 3)) gNil)) (.nm 1) [1] gYes (gFrz (gFn 1 (m__law_right c) (gCons (gFn 2 (m__law_pail c) (gCons (gFz 0) (gCons (gFz 1) gNil))) gNil)))) gNil)))
def m_law (c : Ads) : Mir := runM 2 (b_law c)
theorem ok_law (fx : Fx K mg base) (fd : FuncData) (F : FunD K "law" "law" (defArgs (topS 30)) (defBody (topS 30)) (defScope (topS 30)) [] [] (He.fAd K ("law", none)) fd) : FnOk P w K mg base (L2.CX P w) 17 (He.fAd K ("law", none)) fd ["script"] (spM K (TT K) 1 (m_law (ads K))) := by
  obtain ⟨fd__law_right, F__law_right⟩ := fx.F__law_right
  have G__law_right := (ok__law_right (P := P) (w := w) fx fd__law_right F__law_right).mono (k := 16) (by omega)
  obtain ⟨fd__law_pail, F__law_pail⟩ := fx.F__law_pail
  have G__law_pail := (ok__law_pail (P := P) (w := w) fx fd__law_pail F__law_pail).mono (k := 16) (by omega)
  exact fn_ok F sc_law (fun _ _ => rfl) fun cdv A outer s H E hcode hr tk po =>
    (b_one (c_ret (p_callB s_all (cr_all rfl) rfl fx.n_all Boot.«all» (a_cons (p_lc [("turn", 1)] rfl sc_law.nd (blkOk_by (by rfl)) (i_range1 rfl fx.n_range (a_cons p_int a_nil)) (fun _ _ _ _ _ => (g_nm 1 sc_law.nd)) (fun _ _ _ _ _ => ts_nil) (fun _ _ _ _ _ => (p_frz (p_call G__law_right hr rfl fx.g__law_right F__law_right.kp (B__law_right F__law_right) LamX.takes0 (a_cons (p_call G__law_pail hr rfl fx.g__law_pail F__law_pail.kp (B__law_pail F__law_pail) LamX.takes0 (a_cons (p_fz 0) (a_cons (p_fz 1) a_nil))) a_nil))))) a_nil))))
end
end
end My

/-! Q1: plain tools for the mirrors: bounds of texts, invariants of loops and comprehensions. -/
namespace M
open PySem PySem.Spec PyProof.Rows L2

/-! ### short texts -/
def SB (n : Nat) (x : Str) : Prop := x.length ≤ n ∧ ∀ c ∈ x.cps.toList, c < 16 ^ 8
theorem SB.mono {n m : Nat} {x : Str} (h : SB n x) (l : n ≤ m) : SB m x := ⟨Nat.le_trans h.1 l, h.2⟩
theorem SB.add {n m : Nat} {x y : Str} (h : SB n x) (g : SB m y) : SB (n + m) (x ++ y) := by
  refine ⟨by rw [Str.length_append]; exact Nat.add_le_add h.1 g.1, fun c hc => ?_⟩
  rw [Str.cps_append, Array.toList_append, List.mem_append] at hc
  exact hc.elim (h.2 c) (g.2 c)
theorem SB.cut {n : Nat} {x : Str} (h : SB n x) (lo hi : Option Int) : SB n (cutS x lo hi) := by
  unfold cutS
  refine ⟨?_, fun c hc => h.2 c (List.mem_of_mem_drop (List.mem_of_mem_take (by simpa using hc)))⟩
  have : x.cps.toList.length ≤ n := h.1
  show (List.toArray _).size ≤ n
  rw [List.size_toArray, List.length_take, List.length_drop]
  omega
theorem SB.repr {n : Nat} {x : Str} (h : SB n x) : (reprText x).length ≤ 10 * n + 2 :=
  Nat.le_trans (StrLaws.reprText_len x h.2) (by have := h.1; omega)
theorem SB.join {n : Nat} {sep : Str} {k : Nat} (hs : SB k sep) : ∀ {l : List Str}, (∀ x ∈ l, SB n x) → SB (l.length * (n + k)) (Str.join sep l)
  | [], _ => ⟨Nat.zero_le _, fun c hc => by cases hc⟩
  | [x], h => (h x List.mem_cons_self).mono (by simp)
  | x :: y :: r, h => by
    have := ((h x List.mem_cons_self).add hs).add (SB.join hs (l := y :: r) fun z hz => h z (List.mem_cons_of_mem _ hz))
    exact this.mono (by simp [Nat.add_mul]; omega)
theorem Str.join_len {sep : Str} {n k : Nat} (hs : sep.length ≤ k) : ∀ {l : List Str}, (∀ x ∈ l, x.length ≤ n) → (Str.join sep l).length ≤ l.length * (n + k)
  | [], _ => Nat.zero_le _
  | [x], h => Nat.le_trans (h x List.mem_cons_self) (by simp)
  | x :: y :: r, h => by
    have h1 := h x List.mem_cons_self
    have h2 := Str.join_len hs (l := y :: r) fun z hz => h z (List.mem_cons_of_mem _ hz)
    show (x ++ sep ++ Str.join sep (y :: r)).length ≤ _
    rw [Str.length_append, Str.length_append]
    simp [Nat.add_mul] at h2 ⊢
    omega
theorem sum_le {n : Nat} : ∀ {l : List Str}, (∀ x ∈ l, x.length ≤ n) → (l.map (·.length)).sum ≤ l.length * n
  | [], _ => Nat.zero_le _
  | x :: l, h => by
    have h1 := h x List.mem_cons_self
    have h2 := sum_le (l := l) fun z hz => h z (List.mem_cons_of_mem _ hz)
    simp [Nat.add_mul] at h2 ⊢
    omega

/-! ### picks -/
theorem atI_in {α : Type} {xs : List α} {v : Int} (h0 : 0 ≤ v) (h : v < xs.length) : ∃ x, atI xs v = some x ∧ x ∈ xs := by
  have hj : v.toNat < xs.length := by omega
  refine ⟨xs[v.toNat], ?_, List.getElem_mem hj⟩
  have e : (v.toNat : Int) = v := by omega
  have := atI_nat (xs := xs) (j := v.toNat) (v := xs[v.toNat]) (by simp [hj])
  rwa [e] at this

/-! ### loops -/
/-- a loop that never leaves -/
theorem loopF_inv {t : Tg} {body : EM Fl} (I : Nat → En → Prop) : ∀ (ds : List D) (k : Nat) (ρ : En),
    (∀ j ρ d, d ∈ ds → j < k + ds.length → I j ρ → ∃ ρ1 ρ2, t.bind d ρ = some ρ1 ∧ (body ρ1 = some (.ok .nx ρ2) ∨ body ρ1 = some (.ok .ct ρ2)) ∧ I (j + 1) ρ2) → I k ρ →
    ∃ ρ', loopF t body ds ρ = some (.ok .nx ρ') ∧ I (k + ds.length) ρ'
  | [], k, ρ, _, h => ⟨ρ, rfl, h⟩
  | d :: ds, k, ρ, st, h => by
    obtain ⟨ρ1, ρ2, e1, e2, h2⟩ := st k ρ d List.mem_cons_self (by simp) h
    obtain ⟨ρ', e3, h3⟩ := loopF_inv I ds (k + 1) ρ2 (fun j ρ d hd hj hI => st j ρ d (List.mem_cons_of_mem _ hd) (by rw [List.length_cons]; omega) hI) h2
    refine ⟨ρ', ?_, by rw [List.length_cons, Nat.add_comm ds.length 1, ← Nat.add_assoc]; exact h3⟩
    unfold loopF
    rw [e1]
    dsimp only
    rcases e2 with e2 | e2 <;> rw [e2] <;> exact e3
/-- a comprehension that keeps all -/
theorem compM_inv {t : Tg} {vs : List Nat} {ge : EM Res} (I : List D → En → Prop) : ∀ (ds acc : List D) (ρ : En),
    (∀ a ρ d, d ∈ ds → a.length < acc.length + ds.length → I a ρ → ∃ ρ1 y ρ2, t.bind d (wipeE ρ vs) = some ρ1 ∧ ge ρ1 = some (.ok (.val y) ρ2) ∧ I (a ++ [y]) ρ2) →
    (∀ acc ρ, I acc ρ → noPars ρ vs = true) → acc.length + ds.length ≤ sizeLine → I acc ρ →
    ∃ acc' ρ', compM t vs gYes ge acc ds ρ = some (.ok acc' (wipeE ρ' vs)) ∧ I acc' ρ' ∧ acc'.length = acc.length + ds.length
  | [], acc, ρ, _, _, _, h => ⟨acc, ρ, rfl, h, rfl⟩
  | d :: ds, acc, ρ, st, np, hl, h => by
    obtain ⟨ρ1, y, ρ2, e1, e2, h2⟩ := st acc ρ d List.mem_cons_self (by rw [List.length_cons]; omega) h
    rw [List.length_cons] at hl
    obtain ⟨acc', ρ', e3, h3, h4⟩ := compM_inv I ds (acc ++ [y]) ρ2 (fun a ρ d hd ha hI => st a ρ d (List.mem_cons_of_mem _ hd) (by rw [List.length_append] at ha; rw [List.length_cons]; simp at ha; omega) hI) np (by rw [List.length_append]; simp; omega) h2
    refine ⟨acc', ρ', ?_, h3, by rw [h4, List.length_append]; simp; omega⟩
    unfold compM
    rw [if_pos (np _ _ h), e1]
    dsimp only
    unfold gYes EM.pure
    dsimp only
    rw [e2]
    dsimp only
    rw [if_pos ⟨by omega, np _ _ h2⟩]
    exact e3
end M

/-! Q2: plain tools: comprehensions told as map, filter; draws; names; values. -/
namespace M
open PySem PySem.Spec PyProof.Rows L2
/-! ### comprehensions -/
theorem set_set_i {α : Type} {l : List α} {i : Nat} {a b : α} : (l.set i a).set i b = l.set i b := List.set_set ..
theorem noPars_one {ρ : En} {i : Nat} (h : ∀ m, ρ[i]? ≠ some (.par m)) : noPars ρ [i] = true := by
  unfold noPars
  rw [List.all_cons, List.all_nil, Bool.and_true]
  cases e : ρ[i]? with
  | none => rfl
  | some s => cases s <;> first | rfl | exact absurd e (h _)
theorem setV_at {ρ : En} {i : Nat} {d : D} (hi : i < ρ.length) (h : ∀ m, ρ[i]? ≠ some (.par m)) : setV i d ρ = some (ρ.set i (.val d)) := by
  unfold setV
  rw [List.getElem?_eq_getElem hi]
  have := h
  rw [List.getElem?_eq_getElem hi] at this
  cases e : ρ[i] with
  | par m => rw [e] at this; exact absurd rfl (this m)
  | un => rfl
  | val _ => rfl
  | own _ => rfl
  | exc _ _ => rfl
theorem set_get {ρ : En} {i : Nat} {s : Slot} (hs : ∀ m, s ≠ .par m) : ∀ m, (ρ.set i s)[i]? ≠ some (.par m) := fun m e => by
  by_cases hi : i < ρ.length
  · rw [List.getElem?_set_self hi] at e; exact hs m (Option.some.inj e)
  · rw [List.getElem?_eq_none (by simpa using Nat.le_of_not_lt hi)] at e; cases e
theorem bind_one {ρ : En} {i : Nat} {d : D} {s : Slot} (hi : i < ρ.length) (hs : ∀ m, s ≠ .par m) : (Tg.nm i).bind d (wipeE (ρ.set i s) [i]) = some (ρ.set i (.val d)) := by
  show setV i d ((ρ.set i s).set i .un) = _
  rw [set_set_i, setV_at (by simpa using hi) (set_get (fun _ => by simp)), set_set_i]
theorem compM_fm {i : Nat} {gc : EM Bool} {ge : EM Res} {ρ : En} {p : D → Bool} {f : D → D} (hi : i < ρ.length) : ∀ (ds acc : List D) (s : Slot), (∀ m, s ≠ .par m) → acc.length + ds.length ≤ sizeLine →
    (∀ d ∈ ds, gc (ρ.set i (.val d)) = some (.ok (p d) (ρ.set i (.val d))) ∧ (p d = true → ge (ρ.set i (.val d)) = some (.ok (.val (f d)) (ρ.set i (.val d))))) →
    compM (.nm i) [i] gc ge acc ds (ρ.set i s) = some (.ok (acc ++ (ds.filter p).map f) (ρ.set i .un))
  | [], acc, s, hs, _, _ => by
    show some (Out.ok acc ((ρ.set i s).set i .un)) = _
    rw [set_set_i]; simp
  | d :: ds, acc, s, hs, hl, h => by
    unfold compM
    have hv : ∀ m, Slot.val d ≠ .par m := fun _ => by simp
    rw [if_pos (noPars_one (set_get hs)), bind_one hi hs]
    dsimp only
    obtain ⟨h1, h2⟩ := h d List.mem_cons_self
    rw [List.length_cons] at hl
    cases q : p d with
    | true =>
      rw [h1, q]
      dsimp only
      rw [h2 q]
      dsimp only
      rw [if_pos ⟨by omega, noPars_one (set_get hv)⟩, compM_fm hi ds _ _ hv (by simp; omega) fun e he => h e (List.mem_cons_of_mem _ he), List.filter_cons_of_pos q]
      simp
    | false =>
      rw [h1, q]
      dsimp only
      rw [if_pos (noPars_one (set_get hv)), compM_fm hi ds _ _ hv (by omega) fun e he => h e (List.mem_cons_of_mem _ he), List.filter_cons_of_neg (by rw [q]; simp)]
theorem set_self {ρ : En} {i : Nat} (hi : i < ρ.length) : ρ.set i ρ[i] = ρ := List.set_getElem_self hi
/-- [e for x in ds if t], nothing drawn -/
theorem lc_fm (i : Nat) {gi : EM (List D)} {gc : EM Bool} {ge : EM Res} {ρ ρ1 : En} (ds : List D) (p : D → Bool) (f : D → D) (hi : i < ρ.length) (hp : ∀ m, ρ[i]? ≠ some (.par m)) (hg : gi ρ1 = some (.ok ds ρ)) (hl : ds.length ≤ sizeLine)
    (h : ∀ d ∈ ds, gc (ρ.set i (.val d)) = some (.ok (p d) (ρ.set i (.val d))) ∧ (p d = true → ge (ρ.set i (.val d)) = some (.ok (.val (f d)) (ρ.set i (.val d))))) :
    gLc gi (.nm i) [i] gc ge ρ1 = some (.ok (.new (.l ((ds.filter p).map f))) (ρ.set i .un)) := by
  unfold gLc EM.bind
  rw [hg]
  dsimp only
  have e := compM_fm hi ds [] ρ[i] (fun m z => hp m (by rw [List.getElem?_eq_getElem hi, z])) (by simpa using hl) h
  rw [set_self hi] at e
  rw [if_pos ⟨by simp [tgIn, Tg.slots], noPars_one hp⟩, e]
  simp
theorem lc_map (i : Nat) {gi : EM (List D)} {ge : EM Res} {ρ ρ1 : En} (ds : List D) (f : D → D) (hi : i < ρ.length) (hp : ∀ m, ρ[i]? ≠ some (.par m)) (hg : gi ρ1 = some (.ok ds ρ)) (hl : ds.length ≤ sizeLine)
    (h : ∀ d ∈ ds, ge (ρ.set i (.val d)) = some (.ok (.val (f d)) (ρ.set i (.val d)))) :
    gLc gi (.nm i) [i] gYes ge ρ1 = some (.ok (.new (.l (ds.map f))) (ρ.set i .un)) := by
  have := lc_fm i ds (fun _ => true) f hi hp hg hl (gc := gYes) (ge := ge) fun d hd => ⟨rfl, fun _ => h d hd⟩
  rw [List.filter_eq_self.mpr (fun _ _ => rfl)] at this
  exact this
/-- over pairs -/
theorem compM_map2 {i j : Nat} {ge : EM Res} {ρ : En} {f : D → D → D} (hi : i < ρ.length) (hj : j < ρ.length) (hij : i ≠ j) : ∀ (ds : List (D × D)) (acc : List D) (s t : Slot), (∀ m, s ≠ .par m) → (∀ m, t ≠ .par m) → acc.length + ds.length ≤ sizeLine →
    (∀ d ∈ ds, ge ((ρ.set i (.val d.1)).set j (.val d.2)) = some (.ok (.val (f d.1 d.2)) ((ρ.set i (.val d.1)).set j (.val d.2)))) →
    compM (.tp [.nm i, .nm j]) [i, j] gYes ge acc (ds.map fun d => .tup [d.1, d.2]) ((ρ.set i s).set j t) = some (.ok (acc ++ ds.map fun d => f d.1 d.2) ((ρ.set i .un).set j .un))
  | [], acc, s, t, _, _, _, _ => by
    show some (Out.ok acc ((((ρ.set i s).set j t).set j .un).set i .un)) = _
    rw [set_set_i, List.set_comm _ _ hij.symm, set_set_i]
    simp
  | d :: ds, acc, s, t, hs, ht, hl, h => by
    rw [List.map_cons]
    unfold compM
    have np : ∀ (s t : Slot), (∀ m, s ≠ .par m) → (∀ m, t ≠ .par m) → noPars ((ρ.set i s).set j t) [i, j] = true := fun s t hs ht => by
      have h1 : ((ρ.set i s).set j t)[i]? = some s := by rw [List.getElem?_set_ne (Ne.symm hij), List.getElem?_set_self hi]
      have h2 : ((ρ.set i s).set j t)[j]? = some t := List.getElem?_set_self (by simpa using hj)
      unfold noPars
      simp only [List.all_cons, List.all_nil, Bool.and_true, h1, h2]
      cases s <;> cases t <;> first | rfl | exact absurd rfl (hs _) | exact absurd rfl (ht _)
    rw [if_pos (np s t hs ht)]
    have hb : (Tg.tp [.nm i, .nm j]).bind (.tup [d.1, d.2]) (wipeE ((ρ.set i s).set j t) [i, j]) = some ((ρ.set i (.val d.1)).set j (.val d.2)) := by
      have e0 : wipeE ((ρ.set i s).set j t) [i, j] = (ρ.set i .un).set j .un := by
        show (((ρ.set i s).set j t).set j .un).set i .un = _
        rw [set_set_i, List.set_comm _ _ hij.symm, set_set_i]
      rw [e0]
      have e1 : ((ρ.set i .un).set j .un).set i (.val d.1) = (ρ.set i (.val d.1)).set j .un := (List.set_comm _ _ (Ne.symm hij)).trans (by rw [set_set_i])
      simp only [Tg.bind, Tg.binds]
      rw [setV_at (by simpa using hi) (fun m z => by rw [List.getElem?_set_ne (Ne.symm hij), List.getElem?_set_self hi] at z; cases z), e1, Option.bind_some]
      rw [setV_at (by simpa using hj) (fun m z => by rw [List.getElem?_set_self (by simpa using hj)] at z; cases z), Option.bind_some, set_set_i]
    rw [hb]
    dsimp only
    have h1 := h d List.mem_cons_self
    rw [List.length_cons] at hl
    unfold gYes EM.pure
    dsimp only
    rw [h1]
    dsimp only
    rw [if_pos ⟨by omega, np _ _ (fun _ => by simp) (fun _ => by simp)⟩]
    refine (compM_map2 hi hj hij ds _ _ _ (fun _ => by simp) (fun _ => by simp) (by simp; omega) fun e he => h e (List.mem_cons_of_mem _ he)).trans ?_
    simp
theorem lc_map2 (i j : Nat) {gi : EM (List D)} {ge : EM Res} {ρ ρ1 : En} (ds : List (D × D)) (f : D → D → D) (hi : i < ρ.length) (hj : j < ρ.length) (hij : i ≠ j) (hp : ∀ m, ρ[i]? ≠ some (.par m)) (hq : ∀ m, ρ[j]? ≠ some (.par m)) (hg : gi ρ1 = some (.ok (ds.map fun d => .tup [d.1, d.2]) ρ)) (hl : ds.length ≤ sizeLine)
    (h : ∀ d ∈ ds, ge ((ρ.set i (.val d.1)).set j (.val d.2)) = some (.ok (.val (f d.1 d.2)) ((ρ.set i (.val d.1)).set j (.val d.2)))) :
    gLc gi (.tp [.nm i, .nm j]) [i, j] gYes ge ρ1 = some (.ok (.new (.l (ds.map fun d => f d.1 d.2))) ((ρ.set i .un).set j .un)) := by
  unfold gLc EM.bind
  rw [hg]
  dsimp only
  have gi' : ρ[i]? = some ρ[i] := List.getElem?_eq_getElem hi
  have gj' : ρ[j]? = some ρ[j] := List.getElem?_eq_getElem hj
  have e := compM_map2 hi hj hij ds [] ρ[i] ρ[j] (fun m z => hp m (by rw [gi', z])) (fun m z => hq m (by rw [gj', z])) (by simpa using hl) h
  rw [set_self hi, set_self hj] at e
  have np : noPars ρ [i, j] = true := by
    unfold noPars
    simp only [List.all_cons, List.all_nil, Bool.and_true, gi', gj', Bool.and_eq_true]
    refine ⟨?_, ?_⟩
    · split
      · rename_i m z; exact absurd (gi'.trans z) (hp m)
      · rfl
    · split
      · rename_i m z; exact absurd (gj'.trans z) (hq m)
      · rfl
  rw [if_pos ⟨by simp [tgIn, Tg.slots, Tg.slotss], np⟩, e]
  simp
/-- a comprehension that draws: the well at the first name -/
theorem lc_draw (i : Nat) {gi : EM (List D)} {ge : EM Res} {ρ1 : En} {rest : List Slot} {m : Mo} (ds : List D) (J : List D → Mo → Prop) (h0 : 0 < i) (hi : i < rest.length + 1) (hp : ∀ m, rest[i - 1]? ≠ some (.par m)) (hg : gi ρ1 = some (.ok ds (.par m :: rest))) (hl : ds.length ≤ sizeLine) (hJ : J [] m)
    (st : ∀ acc m d, ds[acc.length]? = some d → J acc m → ∃ y m', ge ((.par m :: rest).set i (.val d)) = some (.ok (.val y) ((.par m' :: rest).set i (.val d))) ∧ J (acc ++ [y]) m') :
    ∃ acc m', gLc gi (.nm i) [i] gYes ge ρ1 = some (.ok (.new (.l acc)) ((.par m' :: rest).set i .un)) ∧ acc.length = ds.length ∧ J acc m' := by
  have np : ∀ m', ∀ q, (Slot.par m' :: rest)[i]? ≠ some (.par q) := fun m' q z => by
    cases i with
    | zero => omega
    | succ k => exact hp q (by simpa using z)
  have main : ∀ (es acc : List D) (m : Mo) (s : Slot), (∀ q, s ≠ .par q) → ds.drop acc.length = es → acc.length + es.length = ds.length → J acc m →
      ∃ acc' m', compM (.nm i) [i] gYes ge acc es ((Slot.par m :: rest).set i s) = some (.ok acc' ((.par m' :: rest).set i .un)) ∧ acc'.length = ds.length ∧ J acc' m' := by
    intro es
    induction es with
    | nil =>
      intro acc m s hs _ hn hJ
      refine ⟨acc, m, ?_, by simpa using hn, hJ⟩
      show some (Out.ok acc (((Slot.par m :: rest).set i s).set i .un)) = _
      rw [set_set_i]
    | cons d es ih =>
      intro acc m s hs hm hn hJ
      rw [List.length_cons] at hn
      have hd : ds[acc.length]? = some d := by
        have := congrArg (·[0]?) hm
        simpa using this
      obtain ⟨y, m', e, hJ'⟩ := st acc m d hd hJ
      have hv : ∀ q, Slot.val d ≠ .par q := fun _ => by simp
      obtain ⟨acc', m2, e2, l2, j2⟩ := ih (acc ++ [y]) m' (.val d) hv (by
        rw [List.length_append, List.length_singleton, ← List.drop_drop, hm]; rfl) (by simp; omega) hJ'
      refine ⟨acc', m2, ?_, l2, j2⟩
      unfold compM
      rw [if_pos (noPars_one (set_get hs)), bind_one (by simpa using hi) hs]
      dsimp only
      unfold gYes EM.pure
      dsimp only
      rw [e]
      dsimp only
      rw [if_pos ⟨by omega, noPars_one (set_get hv)⟩]
      exact e2
  have hi' : i < (Slot.par m :: rest).length := by simpa using hi
  obtain ⟨acc', m', e, l, j⟩ := main ds [] m (Slot.par m :: rest)[i] (fun q z => np m q (by rw [List.getElem?_eq_getElem hi', z])) rfl (by simp) hJ
  rw [set_self hi'] at e
  refine ⟨acc', m', ?_, l, j⟩
  unfold gLc EM.bind
  rw [hg]
  dsimp only
  rw [if_pos ⟨by simp [tgIn, Tg.slots], noPars_one (np m)⟩, e]

/-! ### flags -/
theorem blsD_map (q : D → Bool) : ∀ ds : List D, blsD (ds.map fun d => D.bl (q d)) = some (ds.map q)
  | [] => rfl
  | d :: ds => by rw [List.map_cons]; unfold blsD; rw [blsD_map q ds]; rfl
theorem fAll_map (q : D → Bool) (ds : List D) : fAll [.lst (ds.map fun d => .bl (q d))] = some (.val (.bl (ds.all q))) := by
  unfold fAll lstOf
  dsimp only
  rw [Option.bind_some, blsD_map]
  simp [List.all_map]
theorem fAll_bls (bs : List Bool) : fAll [.lst (bs.map D.bl)] = some (.val (.bl (bs.all id))) := by
  have : blsD (bs.map D.bl) = some bs := by
    induction bs with
    | nil => rfl
    | cons b bs ih => rw [List.map_cons]; unfold blsD; rw [ih]; rfl
  unfold fAll lstOf
  dsimp only
  rw [Option.bind_some, this]
  rfl
/-! ### statements, loops -/
theorem seq_nx {g1 g2 : EM Fl} {ρ ρ' : En} (e : g1 ρ = some (.ok .nx ρ')) : gSeq g1 g2 ρ = g2 ρ' := by unfold gSeq; rw [e]
def upto (k : Int) : List D := (List.range k.toNat).map fun (i : Nat) => D.int (i : Int)
theorem upto_len (k : Int) : (upto k).length = k.toNat := by simp [upto]
theorem upto_mem {k : Int} {d : D} (h : d ∈ upto k) : ∃ i : Nat, d = .int i ∧ (i : Int) < k := by
  obtain ⟨i, h1, rfl⟩ := List.mem_map.mp h
  rw [List.mem_range] at h1
  exact ⟨i, rfl, by omega⟩
theorem range_ok {gs : EM (List Res)} {ρ ρ1 : En} {k : Int} (h : gs ρ = some (.ok [.val (.int k)] ρ1)) (h0 : -1000000 ≤ k) (h1 : k ≤ 1000000) : gRange1 gs ρ = some (.ok (upto k) ρ1) := by
  unfold gRange1 EM.bind
  rw [h]
  dsimp only
  rw [if_pos (by omega)]
  rfl
theorem for_at {gi : EM (List D)} {t : Tg} {body : EM Fl} {ρ ρ1 : En} {ds : List D} (h : gi ρ = some (.ok ds ρ1)) : gFor gi t body ρ = loopF t body ds ρ1 := by
  unfold gFor EM.bind
  rw [h]
theorem items_ok {g : EM Res} {ρ ρ1 : En} {d : D} {ds : List D} (h : g ρ = some (.ok (.val d) ρ1)) (hd : anyItems d = some ds) : gItems anyItems g ρ = some (.ok ds ρ1) := by
  unfold gItems EM.bind
  rw [h]
  dsimp only
  show (anyItems d).map _ = _
  rw [hd]
  rfl
theorem run_nx {N : Nat} {g : EM Fl} {as : List Slot} {r : Ret} {ρ : En} (h : g (as ++ List.replicate (N - as.length) .un) = some (.ok (.rt r.res) ρ)) : runM N g as = some (.ok r (ρ.take as.length)) := by
  unfold runM
  rw [h]
  cases r <;> rfl
/-! ### in -/
theorem any_strs (s : Str) : ∀ ws : List Str, ((ws.map D.str).any fun y => eqF y (.str s)) = ws.contains s
  | [] => rfl
  | w :: ws => by
    rw [List.map_cons, List.any_cons, any_strs s ws, List.contains_cons]
    show (w == s || _) = (s == w || _)
    rw [Bool.beq_comm]
theorem all_scal (ws : List Str) : (ws.map D.str).all scalD = true := by
  rw [List.all_map]; exact List.all_eq_true.mpr fun _ _ => rfl
theorem fIn_lst (s : Str) (ws : List Str) (neg : Bool) : fInA neg (.str s) (.lst (ws.map D.str)) = some (.val (.bl (if neg then !ws.contains s else ws.contains s))) := by
  have h := all_scal ws
  have h2 := any_strs s ws
  unfold fInA seqOf
  dsimp only
  rw [Option.bind_some, if_pos ⟨rfl, h⟩, h2]
theorem fIn_tup (s : Str) (ws : List Str) (neg : Bool) : fInA neg (.str s) (.tup (ws.map D.str)) = some (.val (.bl (if neg then !ws.contains s else ws.contains s))) := by
  have h := all_scal ws
  have h2 := any_strs s ws
  unfold fInA seqOf
  dsimp only
  rw [Option.bind_some, if_pos ⟨rfl, h⟩, h2]
theorem run_own {N : Nat} {g : EM Fl} {as : List Slot} {i : Nat} {m : Mo} {ρ : En} (h : g (as ++ List.replicate (N - as.length) .un) = some (.ok (.rt (.brw i)) ρ)) (hm : ρ[i]? = some (.own m)) : runM N g as = some (.ok (.new m) (ρ.take as.length)) := by
  unfold runM
  rw [h]
  dsimp only
  rw [hm]
/-! ### records -/
def toT (ps : List (Str × D)) : List D := ps.map fun p => .tup [.str p.1, p.2]
def toK (ps : List (Str × D)) : List (Key × D) := ps.map fun p => (.inr p.1, p.2)
theorem pairsD_toT : ∀ ps : List (Str × D), pairsD (toT ps) = some (toK ps)
  | [] => rfl
  | p :: ps => by
    show pairsD (.tup [.str p.1, p.2] :: toT ps) = some ((.inr p.1, p.2) :: toK ps)
    unfold pairsD keyD
    dsimp only
    rw [Option.bind_some, pairsD_toT ps]
    rfl
theorem mergeD_app : ∀ (more acc : List (Key × D)), ((acc ++ more).map (·.1)).Nodup → mergeD acc more = acc ++ more
  | [], acc, _ => by simp [mergeD]
  | kv :: more, acc, h => by
    have hn : (acc.any fun q => decide (q.1 = kv.1)) = false := by
      rw [List.any_eq_false]
      intro q hq
      rw [List.map_append, List.nodup_append] at h
      have := h.2.2 q.1 (List.mem_map.mpr ⟨q, hq, rfl⟩) kv.1 (by simp)
      simpa using this
    show mergeD (putD acc kv.1 kv.2) more = _
    unfold putD
    rw [if_neg (by rw [hn]; simp), mergeD_app more _ (by simpa using h)]
    simp
theorem toK_keys (ps : List (Str × D)) : (toK ps).map (·.1) = (ps.map (·.1)).map Sum.inr := by simp [toK, Function.comp_def]
theorem nodup_inr {l : List Str} (h : l.Nodup) : (l.map (Sum.inr : Str → Key)).Nodup := List.Pairwise.map _ (fun a b n e => n (Sum.inr.inj e)) h
theorem fDict_toT {ps : List (Str × D)} (h : (ps.map (·.1)).Nodup) : fDict [.lst (toT ps)] = some (.new (.d (toK ps))) := by
  unfold fDict lstOf
  dsimp only
  rw [Option.bind_some, pairsD_toT, Option.map_some, mergeD_app _ _ (by rw [List.nil_append, toK_keys]; exact nodup_inr h)]
  rfl
theorem look_toK (x : Str) : ∀ ps : List (Str × D), lookD (toK ps) (.inr x) = ps.lookup x
  | [] => rfl
  | p :: ps => by
    unfold lookD toK
    rw [List.map_cons, List.find?_cons, List.lookup_cons]
    by_cases e : p.1 = x
    · rw [← e]; simp
    · have e1 : (x == p.1) = false := by simpa using fun q => e q.symm
      have e2 : decide ((Sum.inr p.1 : Key) = Sum.inr x) = false := decide_eq_false fun q => e (Sum.inr.inj q)
      simp only [e1, e2]
      exact look_toK x ps
theorem keysS_toK : ∀ ps : List (Str × D), keysS (toK ps) = some (ps.map (·.1))
  | [] => rfl
  | p :: ps => by
    show keysS ((.inr p.1, p.2) :: toK ps) = _
    unfold keysS
    rw [keysS_toK ps]
    rfl
theorem fSorted_toK {ps : List (Str × D)} (h : ps.length < 64) : fSorted [.dct (toK ps)] = some (.new (.l ((sortS (ps.map (·.1))).map D.str))) := by
  unfold fSorted
  simp only [keysS_toK]
  rw [if_pos (by simpa using h)]
theorem dctItems_toK (ps : List (Str × D)) : anyItems (.dct (toK ps)) = dctItems (.dct (toK ps)) := rfl
theorem any_str_items (ws : List Str) : anyItems (.lst (ws.map D.str)) = some (ws.map D.str) := rfl
/-! ### == of unlike kinds -/
theorem fEqK_ti (ds : List D) (i : Int) : fEqK (.tup ds) (.int i) = some (.val (.bl false)) := by
  have e : fEq (.tup ds) (.int i) = none ∨ fEq (.tup ds) (.int i) = some (.val (.bl false)) := by
    unfold fEq eqM eqS
    dsimp only
    cases h : pd (.tup ds) with
    | none => exact .inl rfl
    | some x =>
      unfold pd at h
      obtain ⟨ps, _, rfl⟩ := map_some' h
      have pi : pd (.int i) = some (.int i) := by unfold pd; rfl
      rw [Option.bind_some, pi, Option.bind_some]
      by_cases q : SeqAt.shaped (PyData.tuple ps) = true ∧ SeqAt.shaped (PyData.int i) = true
      · rw [if_pos q]; right; simp [PyData.eqv]
      · rw [if_neg q]; left; rfl
  unfold fEqK
  rcases e with e | e <;> rw [e] <;> rfl
theorem fEqK_it (ds : List D) (i : Int) : fEqK (.int i) (.tup ds) = some (.val (.bl false)) := by
  have e : fEq (.int i) (.tup ds) = none ∨ fEq (.int i) (.tup ds) = some (.val (.bl false)) := by
    unfold fEq eqM eqS
    dsimp only
    have pi : pd (.int i) = some (.int i) := by unfold pd; rfl
    rw [pi, Option.bind_some]
    cases h : pd (.tup ds) with
    | none => exact .inl rfl
    | some x =>
      unfold pd at h
      obtain ⟨ps, _, rfl⟩ := map_some' h
      rw [Option.bind_some]
      by_cases q : SeqAt.shaped (PyData.int i) = true ∧ SeqAt.shaped (PyData.tuple ps) = true
      · rw [if_pos q]; right; simp [PyData.eqv]
      · rw [if_neg q]; left; rfl
  unfold fEqK
  rcases e with e | e <;> rw [e] <;> rfl
theorem fEqK_di (ds : List (Key × D)) (i : Int) : fEqK (.dct ds) (.int i) = some (.val (.bl false)) := rfl
theorem fEqK_id (ds : List (Key × D)) (i : Int) : fEqK (.int i) (.dct ds) = some (.val (.bl false)) := rfl
theorem fEqK_dt (ds : List (Key × D)) (xs : List D) : fEqK (.dct ds) (.tup xs) = some (.val (.bl false)) := rfl
theorem fEqK_td (ds : List (Key × D)) (xs : List D) : fEqK (.tup xs) (.dct ds) = some (.val (.bl false)) := by
  have e : fEq (.tup xs) (.dct ds) = none := by
    unfold fEq eqM eqS
    dsimp only
    cases h : pd (.tup xs) with
    | none => rfl
    | some x => rfl
  unfold fEqK
  rw [e]
  rfl
/-- rows of texts, of numbers, compared -/
theorem pds_strs : ∀ xs : List Str, pds (xs.map D.str) = some (xs.map PyData.str)
  | [] => rfl
  | x :: xs => by rw [List.map_cons]; unfold pds; rw [pds_strs xs]; rfl
theorem pds_ints : ∀ xs : List Int, pds (xs.map D.int) = some (xs.map PyData.int)
  | [] => rfl
  | x :: xs => by rw [List.map_cons]; unfold pds; rw [pds_ints xs]; rfl
theorem eqv_strs : ∀ xs ys : List Str, PyData.eqvAll (xs.map PyData.str) (ys.map PyData.str) = decide (xs = ys)
  | [], [] => by simp [PyData.eqvAll]
  | [], y :: ys => by simp [PyData.eqvAll]
  | x :: xs, [] => by simp [PyData.eqvAll]
  | x :: xs, y :: ys => by
    have h : (x == y) = decide (x = y) := by rw [Bool.eq_iff_iff]; simp
    simp [PyData.eqvAll, PyData.eqv, eqv_strs xs ys, h]
theorem eqv_ints : ∀ xs ys : List Int, PyData.eqvAll (xs.map PyData.int) (ys.map PyData.int) = decide (xs = ys)
  | [], [] => by simp [PyData.eqvAll]
  | [], y :: ys => by simp [PyData.eqvAll]
  | x :: xs, [] => by simp [PyData.eqvAll]
  | x :: xs, y :: ys => by
    have h : (x == y) = decide (x = y) := by rw [Bool.eq_iff_iff]; simp
    simp [PyData.eqvAll, PyData.eqv, eqv_ints xs ys, h]
def StrsOk (xs : List Str) : Prop := ∀ x ∈ xs, PyData.canLay0 (.str x) = true
theorem lay_strs : ∀ {xs : List Str}, StrsOk xs → PyData.canLayAll0 (xs.map PyData.str) = true ∧ PyData.depthAll (xs.map PyData.str) ≤ 1
  | [], _ => ⟨by simp [PyData.canLayAll0], by simp [PyData.depthAll]⟩
  | x :: xs, h => by
    obtain ⟨h1, h2⟩ := lay_strs (xs := xs) fun y hy => h y (List.mem_cons_of_mem _ hy)
    have h3 := h x List.mem_cons_self
    refine ⟨by rw [List.map_cons]; simp [PyData.canLayAll0, h1, h3], ?_⟩
    rw [List.map_cons]
    simp [PyData.depthAll, PyData.depth]
    exact h2
theorem lay_ints : ∀ {xs : List Int}, PyData.canLayAll0 (xs.map PyData.int) = true ∧ PyData.depthAll (xs.map PyData.int) ≤ 1
  | [] => ⟨by simp [PyData.canLayAll0], by simp [PyData.depthAll]⟩
  | x :: xs => by
    obtain ⟨h1, h2⟩ := lay_ints (xs := xs)
    refine ⟨by rw [List.map_cons]; simp [PyData.canLayAll0, PyData.canLay0, h1], ?_⟩
    rw [List.map_cons]
    simp [PyData.depthAll, PyData.depth]
    exact h2
theorem fEq_strs {xs ys : List Str} (hx : StrsOk xs) (hy : StrsOk ys) : eqM (.lst (xs.map .str)) (.lst (ys.map .str)) = some (decide (xs = ys)) := by
  unfold eqM eqS
  dsimp only
  unfold pd
  rw [pds_strs, pds_strs, Option.map_some, Option.map_some, Option.bind_some, Option.bind_some]
  obtain ⟨a1, a2⟩ := lay_strs hx
  obtain ⟨b1, b2⟩ := lay_strs hy
  rw [if_pos ⟨by unfold SeqAt.shaped; simp [PyData.canLay0, PyData.depth, a1]; omega, by unfold SeqAt.shaped; simp [PyData.canLay0, PyData.depth, b1]; omega⟩]
  simp [PyData.eqv, eqv_strs]
theorem fEq_ints {xs ys : List Int} : eqM (.lst (xs.map .int)) (.lst (ys.map .int)) = some (decide (xs = ys)) := by
  unfold eqM eqS
  dsimp only
  unfold pd
  rw [pds_ints, pds_ints, Option.map_some, Option.map_some, Option.bind_some, Option.bind_some]
  obtain ⟨a1, a2⟩ := lay_ints (xs := xs)
  obtain ⟨b1, b2⟩ := lay_ints (xs := ys)
  rw [if_pos ⟨by unfold SeqAt.shaped; simp [PyData.canLay0, PyData.depth, a1]; omega, by unfold SeqAt.shaped; simp [PyData.canLay0, PyData.depth, b1]; omega⟩]
  simp [PyData.eqv, eqv_ints]
theorem fEqK_strs {xs ys : List Str} (hx : StrsOk xs) (hy : StrsOk ys) : fEqK (.lst (xs.map .str)) (.lst (ys.map .str)) = some (.val (.bl (decide (xs = ys)))) := by
  unfold fEqK fEq; rw [fEq_strs hx hy]; rfl
theorem fNeK_strs {xs ys : List Str} (hx : StrsOk xs) (hy : StrsOk ys) : fNeK (.lst (xs.map .str)) (.lst (ys.map .str)) = some (.val (.bl (!decide (xs = ys)))) := by
  unfold fNeK fNe; rw [fEq_strs hx hy]; rfl
theorem fEqK_ints {xs ys : List Int} : fEqK (.lst (xs.map .int)) (.lst (ys.map .int)) = some (.val (.bl (decide (xs = ys)))) := by
  unfold fEqK fEq; rw [fEq_ints]; rfl
theorem fEqK_bl (a b : Bool) : fEqK (.bl a) (.bl b) = some (.val (.bl (a == b))) := rfl
theorem fNeK_bl (a b : Bool) : fNeK (.bl a) (.bl b) = some (.val (.bl (!(a == b)))) := rfl
theorem strsD_map : ∀ xs : List Str, strsD (xs.map D.str) = some xs
  | [] => rfl
  | x :: xs => by rw [List.map_cons]; unfold strsD; rw [strsD_map xs]; rfl
theorem fSorted_strs {xs : List Str} (h : xs.length < 64) : fSorted [.lst (xs.map .str)] = some (.new (.l ((sortS xs).map .str))) := by
  unfold fSorted lstOf
  dsimp only
  rw [Option.bind_some, strsD_map]
  dsimp only
  rw [if_pos h]
theorem sortS_eq {xs ys : List Str} : sortS xs = sortS ys ↔ xs.Perm ys := by
  constructor
  · intro h
    exact ((sortS_perm xs).symm.trans (by rw [h])).trans (sortS_perm ys)
  · intro h
    exact List.Perm.eq_of_pairwise (le := fun a b => leS a b = true) (fun a b _ _ h1 h2 => leS_anti h1 h2) (sortS_rises xs) (sortS_rises ys) (((sortS_perm xs).trans h).trans (sortS_perm ys).symm)
theorem fEqK_ints_nil (xs : List Int) : fEqK (.lst (xs.map .int)) (.lst []) = some (.val (.bl xs.isEmpty)) := by
  have h := fEqK_ints (xs := xs) (ys := [])
  rw [List.map_nil] at h
  rw [h]
  cases xs <;> simp
theorem fEqK_strs_nil {xs : List Str} (hx : StrsOk xs) : fEqK (.lst (xs.map .str)) (.lst []) = some (.val (.bl xs.isEmpty)) := by
  have h := fEqK_strs (xs := xs) (ys := []) hx (fun _ h => by cases h)
  rw [List.map_nil] at h
  rw [h]
  cases xs <;> simp
theorem fNeK_strs_nil {xs : List Str} (hx : StrsOk xs) : fNeK (.lst (xs.map .str)) (.lst []) = some (.val (.bl (!xs.isEmpty))) := by
  have h := fNeK_strs (xs := xs) (ys := []) hx (fun _ h => by cases h)
  rw [List.map_nil] at h
  rw [h]
  cases xs <;> simp
theorem emp_fm {α β : Type} {l : List β} {f : β → α} {q : β → Bool} : ((l.filter q).map f).isEmpty = l.all (fun x => !q x) := by
  rw [Bool.eq_iff_iff, List.isEmpty_iff, List.map_eq_nil_iff, List.filter_eq_nil_iff, List.all_eq_true]
  simp
/-! ### step by step -/
theorem ifS_t {c : EM Bool} {a b : EM Fl} {ρ ρ1 : En} (h : c ρ = some (.ok true ρ1)) : gIfS c a b ρ = a ρ1 := by unfold gIfS EM.bind; rw [h]; rfl
theorem ifS_f {c : EM Bool} {a b : EM Fl} {ρ ρ1 : En} (h : c ρ = some (.ok false ρ1)) : gIfS c a b ρ = b ρ1 := by unfold gIfS EM.bind; rw [h]; rfl
theorem ret_ok {g : EM Res} {ρ ρ1 : En} {r : Res} (h : g ρ = some (.ok r ρ1)) : gRet g ρ = some (.ok (.rt r) ρ1) := by unfold gRet EM.bind; rw [h]; rfl
theorem seq_rt {g1 g2 : EM Fl} {ρ ρ' : En} {r : Res} (e : g1 ρ = some (.ok (.rt r) ρ')) : gSeq g1 g2 ρ = some (.ok (.rt r) ρ') := by unfold gSeq; rw [e]
theorem seq_ex {g1 g2 : EM Fl} {ρ ρ' : En} {C : Value} {fs : List (Str × D)} (e : g1 ρ = some (.ex C fs ρ')) : gSeq g1 g2 ρ = some (.ex C fs ρ') := by unfold gSeq; rw [e]
theorem andV_t {a b : EM Res} {ρ ρ1 : En} (h : a ρ = some (.ok (.val (.bl true)) ρ1)) : gAndV a b ρ = b ρ1 := by unfold gAndV EM.bind; rw [h]; rfl
theorem andV_f {a b : EM Res} {ρ ρ1 : En} (h : a ρ = some (.ok (.val (.bl false)) ρ1)) : gAndV a b ρ = some (.ok (.val (.bl false)) ρ1) := by unfold gAndV EM.bind; rw [h]; rfl
theorem op_ok {f : D → D → Option Res} {ga gb : EM Res} {ρ ρ1 ρ2 : En} {r1 r2 res : Res} {d1 d2 : D} (h1 : ga ρ = some (.ok r1 ρ1)) (h2 : gb ρ1 = some (.ok r2 ρ2)) (v1 : view ρ2 r1 = some d1) (v2 : view ρ2 r2 = some d2) (hf : f d1 d2 = some res) : gOp f ga gb ρ = some (.ok res ρ2) := by
  unfold gOp EM.bind
  rw [h1]
  dsimp only
  rw [h2]
  dsimp only
  unfold op2
  rw [v1, v2]
  dsimp only
  rw [hf]
  rfl
theorem lst0_ok {ρ : En} : M.gLst M.gNil ρ = some (.ok (.new (.l [])) ρ) := by
  unfold M.gLst M.gNil EM.bind EM.pure EM.lift valsR
  simp
theorem brk_case {g1 g2 : EM Fl} {ρ : En} {o : Option (Out Fl)} (h : g1 ρ = o) (h2 : ∀ fl ρ', o = some (.ok fl ρ') → ∃ r, fl = .rt r) (hn : o ≠ none) : gSeq g1 g2 ρ = o := by
  unfold gSeq
  rw [h]
  cases o with
  | none => exact absurd rfl hn
  | some q =>
    cases q with
    | ex => rfl
    | ok fl ρ' => obtain ⟨r, rfl⟩ := h2 fl ρ' rfl; rfl
end M

/-! Q3: what repr tells of numbers and of plain texts: no two alike. -/
namespace M
open PySem.Builtin.Str (reprChar)
open PySem PySem.Spec PyProof.Rows L2
theorem int_text (i : Int) : (toString i : Str).cps.toList = (Int.repr i).toList.map Char.toNat := by
  rw [Str.ofString_eq_toList]
  rfl
theorem toNat_inj {a b : Char} (h : a.toNat = b.toNat) : a = b := by
  have : a.val = b.val := UInt32.toNat_inj.mp h
  exact Char.ext this
theorem map_inj {α β : Type} {f : α → β} (hf : ∀ a b, f a = f b → a = b) : ∀ {xs ys : List α}, xs.map f = ys.map f → xs = ys
  | [], [], _ => rfl
  | [], _ :: _, h => by cases h
  | _ :: _, [], h => by cases h
  | x :: xs, y :: ys, h => by
    rw [List.map_cons, List.map_cons] at h
    injection h with h1 h2
    rw [hf _ _ h1, map_inj hf h2]
theorem int_text_inj {i j : Int} (h : (toString i : Str) = toString j) : i = j := by
  have e := congrArg (fun s : Str => s.cps.toList) h
  simp only [int_text] at e
  exact Int.repr_injective (String.toList_inj.mp (map_inj (fun a b => toNat_inj) e))
/-- a sign that begins a number -/
def numC (c : Nat) : Bool := c == 45 || (decide (48 ≤ c) && decide (c ≤ 57))
theorem int_head (i : Int) : ∃ c r, (toString i : Str).cps.toList = c :: r ∧ numC c = true := by
  rw [int_text, Int.repr_eq_if]
  have dig : ∀ n : Nat, ∃ c r, (n.repr.toList.map Char.toNat) = c :: r ∧ numC c = true := fun n => by
    rw [Nat.repr_eq_ofList_toDigits, String.toList_ofList]
    cases e : Nat.toDigits 10 n with
    | nil => exact absurd e Nat.toDigits_ne_nil
    | cons c r =>
      have hd : c.isDigit = true := Nat.isDigit_of_mem_toDigits (b := 10) (n := n) (by decide) (by decide) (by rw [e]; exact List.mem_cons_self)
      refine ⟨c.toNat, r.map Char.toNat, rfl, ?_⟩
      unfold Char.isDigit at hd
      simp at hd
      unfold numC
      have h1 : 48 ≤ c.toNat := hd.1
      have h2 : c.toNat ≤ 57 := hd.2
      simp [h1, h2]
  split
  · exact dig _
  · rw [String.toList_append, List.map_append]
    exact ⟨45, _, rfl, by decide⟩
theorem int_text_all (i : Int) : ∀ c ∈ (toString i : Str).cps.toList, numC c = true := by
  rw [int_text, Int.repr_eq_if]
  have dig : ∀ n : Nat, ∀ c ∈ (n.repr.toList.map Char.toNat), numC c = true := fun n c hc => by
    rw [Nat.repr_eq_ofList_toDigits, String.toList_ofList] at hc
    obtain ⟨d, hd, rfl⟩ := List.mem_map.mp hc
    have := Nat.isDigit_of_mem_toDigits (b := 10) (n := n) (by decide) (by decide) hd
    unfold Char.isDigit at this
    simp at this
    unfold numC
    have h1 : 48 ≤ d.toNat := this.1
    have h2 : d.toNat ≤ 57 := this.2
    simp [h1, h2]
  split
  · exact dig _
  · intro c hc
    rw [String.toList_append, List.map_append, List.mem_append] at hc
    rcases hc with hc | hc
    · have : c = 45 := by simpa using hc
      rw [this]; decide
    · exact dig _ c hc
/-! ### texts -/
theorem fold_app (q : Nat) : ∀ (l : List Nat) (acc : Array Nat), (l.foldl (fun out c => out ++ (reprChar q c).toArray) acc).toList = acc.toList ++ l.flatMap (reprChar q)
  | [], acc => by simp
  | c :: l, acc => by rw [List.foldl_cons, fold_app q l]; simp
theorem repr_list (x : Str) : (reprText x).cps.toList = reprQuote x :: (x.cps.toList.flatMap (reprChar (reprQuote x)) ++ [reprQuote x]) := by
  unfold reprText
  rw [Array.toList_push, ← Array.foldl_toList, fold_app]
  simp
theorem quote_or (x : Str) : reprQuote x = 39 ∨ reprQuote x = 34 := by unfold reprQuote; split <;> simp
def okc (c : Nat) : Bool := (decide (32 ≤ c) && decide (c < 127)) || c == 10
def unesc (z : Nat) : Nat := if z = 110 then 10 else z
theorem code39 : ∀ c, c < 127 → okc c = true → (reprChar 39 c = [c] ∧ c ≠ 92) ∨ ((reprChar 39 c).length = 2 ∧ (reprChar 39 c)[0]? = some 92 ∧ ((reprChar 39 c)[1]?).map unesc = some c) := by decide +kernel
theorem code34 : ∀ c, c < 127 → okc c = true → (reprChar 34 c = [c] ∧ c ≠ 92) ∨ ((reprChar 34 c).length = 2 ∧ (reprChar 34 c)[0]? = some 92 ∧ ((reprChar 34 c)[1]?).map unesc = some c) := by decide +kernel
theorem code_shape {q c : Nat} (hq : q = 39 ∨ q = 34) (h : okc c = true) : (reprChar q c = [c] ∧ c ≠ 92) ∨ ∃ z, reprChar q c = [92, z] ∧ unesc z = c := by
  have hc : c < 127 := by unfold okc at h; simp at h; omega
  have key : (reprChar q c = [c] ∧ c ≠ 92) ∨ ((reprChar q c).length = 2 ∧ (reprChar q c)[0]? = some 92 ∧ ((reprChar q c)[1]?).map unesc = some c) := by
    rcases hq with rfl | rfl
    · exact code39 c hc h
    · exact code34 c hc h
  rcases key with k | ⟨h1, h2, h3⟩
  · exact .inl k
  · right
    match e : reprChar q c, h1, h2, h3 with
    | [a, z], _, h2, h3 =>
      have ha : a = 92 := by simpa using h2
      exact ⟨z, by rw [ha], by simpa using h3⟩
theorem flat_inj {q : Nat} (hq : q = 39 ∨ q = 34) : ∀ {xs ys : List Nat}, (∀ c ∈ xs, okc c = true) → (∀ c ∈ ys, okc c = true) → xs.flatMap (reprChar q) = ys.flatMap (reprChar q) → xs = ys
  | [], [], _, _, _ => rfl
  | [], y :: ys, _, hy, h => by
    rw [List.flatMap_nil, List.flatMap_cons] at h
    rcases code_shape hq (hy y List.mem_cons_self) with ⟨e, _⟩ | ⟨z, e, _⟩ <;> rw [e] at h <;> cases h
  | x :: xs, [], hx, _, h => by
    rw [List.flatMap_nil, List.flatMap_cons] at h
    rcases code_shape hq (hx x List.mem_cons_self) with ⟨e, _⟩ | ⟨z, e, _⟩ <;> rw [e] at h <;> cases h
  | x :: xs, y :: ys, hx, hy, h => by
    rw [List.flatMap_cons, List.flatMap_cons] at h
    have go : xs.flatMap (reprChar q) = ys.flatMap (reprChar q) → xs = ys := flat_inj hq (fun c hc => hx c (List.mem_cons_of_mem _ hc)) fun c hc => hy c (List.mem_cons_of_mem _ hc)
    rcases code_shape hq (hx x List.mem_cons_self) with ⟨e, n⟩ | ⟨z, e, u⟩
    · rcases code_shape hq (hy y List.mem_cons_self) with ⟨e', n'⟩ | ⟨z', e', u'⟩
      · rw [e, e'] at h
        injection h with h1 h2
        rw [h1, go h2]
      · rw [e, e'] at h
        injection h with h1 h2
        exact absurd h1 n
    · rcases code_shape hq (hy y List.mem_cons_self) with ⟨e', n'⟩ | ⟨z', e', u'⟩
      · rw [e, e'] at h
        injection h with h1 h2
        exact absurd h1.symm n'
      · rw [e, e'] at h
        injection h with h1 h2
        injection h2 with h3 h4
        rw [← u, ← u', h3, go h4]
theorem repr_inj {x y : Str} (hx : ∀ c ∈ x.cps.toList, okc c = true) (hy : ∀ c ∈ y.cps.toList, okc c = true) (h : reprText x = reprText y) : x = y := by
  have e := congrArg (fun s : Str => s.cps.toList) h
  simp only [repr_list] at e
  injection e with e1 e2
  rw [e1] at e2
  have e3 := List.append_cancel_right e2
  exact Str.ext' (Array.toList_inj.mp (flat_inj (quote_or y) hx hy e3))
theorem repr_ne_int {x : Str} {i : Int} : reprText x ≠ (toString i : Str) := fun h => by
  have e := congrArg (fun s : Str => s.cps.toList) h
  simp only [repr_list] at e
  obtain ⟨c, r, e2, n⟩ := int_head i
  rw [e2] at e
  injection e with e1 _
  rw [← e1] at n
  rcases quote_or x with q | q <;> rw [q] at n <;> exact absurd n (by decide)
theorem repr_ne_none {x : Str} : reprText x ≠ ("None" : Str) := fun h => by
  have e := congrArg (fun s : Str => s.cps.toList) h
  simp only [repr_list] at e
  have e2 : ("None" : Str).cps.toList = [78, 111, 110, 101] := by decide +kernel
  rw [e2] at e
  injection e with e1 _
  rcases quote_or x with q | q <;> rw [q] at e1 <;> exact absurd e1 (by decide)
theorem int_ne_none {i : Int} : (toString i : Str) ≠ ("None" : Str) := fun h => by
  have e := congrArg (fun s : Str => s.cps.toList) h
  obtain ⟨c, r, e3, n⟩ := int_head i
  have e2 : ("None" : Str).cps.toList = [78, 111, 110, 101] := by decide +kernel
  simp only [e2, e3] at e
  injection e with e1 _
  rw [e1] at n
  exact absurd n (by decide)
theorem bgn_repr (x : Str) : bgnB (reprText x) = false := by
  unfold bgnB
  rw [repr_list]
  rcases quote_or x with q | q <;> rw [q] <;> rfl
theorem bgn_int (i : Int) : bgnB (toString i : Str) = false := by
  unfold bgnB
  obtain ⟨c, r, e, n⟩ := int_head i
  rw [e]
  unfold numC at n
  have : ¬ (c = 40) ∧ ¬ c = 123 := by
    refine ⟨fun h => ?_, fun h => ?_⟩ <;> rw [h] at n <;> exact absurd n (by decide)
  simp [this.1, this.2]
theorem bgn_none : bgnB ("None" : Str) = false := by decide +kernel
end M

namespace My
open PySem PySem.Spec PyProof.Rows L2 M
/-! draws -/
def WOk (n : Nat) (m : Mo) : Prop := ∃ a b k : Int, m = .l [.int a, .int b, .int k] ∧ 0 ≤ a ∧ a < 10 ^ 61 ∧ 0 ≤ b ∧ b < 2 ^ 31 ∧ 0 ≤ k ∧ k ≤ n
theorem WOk.mono {n k : Nat} {m : Mo} (h : WOk n m) (l : n ≤ k) : WOk k m := by
  obtain ⟨a, b, q, e, h1, h2, h3, h4, h5, h6⟩ := h
  exact ⟨a, b, q, e, h1, h2, h3, h4, h5, by omega⟩
theorem log_lt {i : Int} {b : Nat} (h0 : 0 ≤ i) (h : i < 2 ^ b) (hb : 0 < b) : i.natAbs.log2 < b := by
  have : i.natAbs < 2 ^ b := by
    have e : ((2 ^ b : Nat) : Int) = (2 : Int) ^ b := by simp
    omega
  exact PySem.Flt.log2_lt_of hb this
theorem nopy {i j : Int} (h0 : 0 ≤ j) (h : j < 2 ^ 40) : Builtin.divisionGoesByPylong i j = false := by
  have hl := log_lt h0 h (by decide)
  unfold Builtin.divisionGoesByPylong
  dsimp only
  have : ¬ ((if (j == 0) = true then 0 else j.natAbs.log2 / 30 + 1) > 300) := by
    split
    · decide
    · omega
  by_cases hj : j = 0
  · simp [hj]
  · simp [hj]; intro hh; omega
theorem deal_ok (c : Ads) {n : Nat} {m : Mo} {top : Int} (h : WOk n m) (hn : n ≤ 100000000) (h1 : 1 ≤ top) (h2 : top ≤ 1000000) :
    ∃ (v : Int) (m' : Mo), m__law_deal c [.par m, .val (.int top)] = some (.ok (.val (.int v)) [.par m', .val (.int top)]) ∧ 0 ≤ v ∧ v < top ∧ WOk (n + 1) m' := by
  obtain ⟨a, b, k, rfl, ha, ha2, hb, hb2, hk, hk2⟩ := h
  by_cases h : 0 < a
  · have hp : Builtin.divisionGoesByPylong a top = false := nopy (by omega) (by omega)
    have hm : 0 < top := by omega
    refine ⟨a % top, .l [.int (a / top), .int b, .int k], ?_, Int.emod_nonneg _ (by omega), Int.emod_lt_of_pos _ hm, a / top, b, k, rfl, Int.ediv_nonneg ha (by omega), ?_, hb, hb2, hk, by omega⟩
    · unfold m__law_deal b__law_deal runM
      simp [gSeq, gIfS, gBl, gOp, gVar, gC, EM.bind, EM.pure, EM.lift, op2, op1, gUn, view, moAt, Slot.mo?, Mo.view, fIx, fII, gAsg, gCall, M.gCons, M.gNil, consM, opL, views, aliveR, gdTup, gdCons, gdSub, gdNil, Tg.bind, Tg.binds, setV, putMo, gRet, gPass, M.gSet, setM, storeR, gFz, gFrz, M.gLst, M.gTup, valsR, gSl, slM, gPt, gNoP, fSl, gAnd, gOr, gNot, gTru, truM, tru, gAndV, gOrV, gNotV, stays, gIf, gDrop, gRcv, isL, gApp, gMeth, methM, tyD, gFn, callM, argsOf, argOf, brws, nodupN, putBack, Ret.res, gFnK, allVal, Perm.swap, Perm.id, swapL, gChain, gChain3, blM, gRaise, fAdd, fSub, fLt, fInt, fLen, fDivmod, fMod, fFdiv, fMax2, fIsi, isB, gPar, fEq, fNe, eqM, eqS, keyD, gItems, itemsM, tupItems, lstItems, gFor, gEnum, gRange1, sizeLine, noE, anyItems, dctItems, gDct, gDct0, gDctE, flatP, M.pairD, gAll, gFnM, fEqK, fNeK, fMulS, fStrB, fTuple, fDict, gIsT, isAny, fMul, gYes, gNever, finR, gHeardB, atI, ixN, h, hm, hp]
    · have := Int.ediv_le_self top ha
      omega
  · have e : a = 0 := by omega
    subst e
    have hm : 0 < top := by omega
    have z1 := Int.emod_nonneg (b * 15559 + 11959 * (k + 1)) (show (2147483323 : Int) ≠ 0 by decide)
    have z2 := Int.emod_lt_of_pos (b * 15559 + 11959 * (k + 1)) (show (0 : Int) < 2147483323 by decide)
    have l1 : b.natAbs.log2 + Nat.log2 15559 < 1000000 := by
      have x1 := log_lt (b := 31) hb (by omega) (by decide)
      have : Nat.log2 15559 = 13 := by decide
      omega
    have l2 : Nat.log2 11959 + (k + 1).natAbs.log2 < 1000000 := by
      have x1 := log_lt (i := k + 1) (b := 31) (by omega) (by omega) (by decide)
      have : Nat.log2 11959 = 13 := by decide
      omega
    have l2' : Nat.log2 41 + (k + 1).natAbs.log2 < 1000000 := by
      have x1 := log_lt (i := k + 1) (b := 31) (by omega) (by omega) (by decide)
      have : Nat.log2 41 = 5 := by decide
      omega
    have l3 : Nat.log2 373 < 9000 := by decide
    generalize hx : (b * 15559 + 11959 * (k + 1)) % 2147483323 = x at z1 z2
    have l4 : x.natAbs.log2 + (x % 5113 + 30059).natAbs.log2 < 1000000 := by
      have x1 := log_lt (b := 31) z1 (by omega) (by decide)
      have x2 := log_lt (i := x % 5113 + 30059) (b := 31) (by omega) (by omega) (by decide)
      omega
    have hb' : 0 ≤ (x * (x % 5113 + 30059) + 41 * (k + 1)) % 2147483323 := Int.emod_nonneg _ (by decide)
    have hb3 : (x * (x % 5113 + 30059) + 41 * (k + 1)) % 2147483323 < 2147483323 := Int.emod_lt_of_pos _ (by decide)
    refine ⟨(x * (x % 5113 + 30059) + 41 * (k + 1)) % 2147483323 / 373 % top, .l [.int 0, .int ((x * (x % 5113 + 30059) + 41 * (k + 1)) % 2147483323), .int (k + 1)], ?_, Int.emod_nonneg _ (by omega), Int.emod_lt_of_pos _ hm, 0, _, k + 1, rfl, by decide, by decide, hb', by omega, by omega, by omega⟩
    unfold m__law_deal b__law_deal runM
    simp [gSeq, gIfS, gBl, gOp, gVar, gC, EM.bind, EM.pure, EM.lift, op2, op1, gUn, view, moAt, Slot.mo?, Mo.view, fIx, fII, gAsg, gCall, M.gCons, M.gNil, consM, opL, views, aliveR, gdTup, gdCons, gdSub, gdNil, Tg.bind, Tg.binds, setV, putMo, gRet, gPass, M.gSet, setM, storeR, gFz, gFrz, M.gLst, M.gTup, valsR, gSl, slM, gPt, gNoP, fSl, gAnd, gOr, gNot, gTru, truM, tru, gAndV, gOrV, gNotV, stays, gIf, gDrop, gRcv, isL, gApp, gMeth, methM, tyD, gFn, callM, argsOf, argOf, brws, nodupN, putBack, Ret.res, gFnK, allVal, Perm.swap, Perm.id, swapL, gChain, gChain3, blM, gRaise, fAdd, fSub, fLt, fInt, fLen, fDivmod, fMod, fFdiv, fMax2, fIsi, isB, gPar, fEq, fNe, eqM, eqS, keyD, gItems, itemsM, tupItems, lstItems, gFor, gEnum, gRange1, sizeLine, noE, anyItems, dctItems, gDct, gDct0, gDctE, flatP, M.pairD, gAll, gFnM, fEqK, fNeK, fMulS, fStrB, fTuple, fDict, gIsT, isAny, fMul, gYes, gNever, finR, gHeardB, atI, ixN, h, hm, l1, l2, l2', l3, hx, l4]
theorem any_ok (c : Ads) {n : Nat} {m : Mo} {ds : List D} (h : WOk n m) (hn : n ≤ 100000000) (h1 : ds ≠ []) (h2 : ds.length ≤ 1000) :
    ∃ (d : D) (m' : Mo), m__law_any c [.par m, .val (.lst ds)] = some (.ok (.val d) [.par m', .val (.lst ds)]) ∧ d ∈ ds ∧ WOk (n + 1) m' := by
  have hp : 0 < ds.length := List.length_pos_iff.mpr h1
  obtain ⟨v, m', e, v0, v1, w⟩ := deal_ok c (top := ds.length) h hn (by omega) (by omega)
  obtain ⟨x, e2, hx⟩ := atI_in v0 v1
  refine ⟨x, m', ?_, hx, w⟩
  unfold m__law_any b__law_any runM
  simp [gSeq, gIfS, gBl, gOp, gVar, gC, EM.bind, EM.pure, EM.lift, op2, op1, gUn, view, moAt, Slot.mo?, Mo.view, fIx, fII, gAsg, gCall, M.gCons, M.gNil, consM, opL, views, aliveR, gdTup, gdCons, gdSub, gdNil, Tg.bind, Tg.binds, setV, putMo, gRet, gPass, M.gSet, setM, storeR, gFz, gFrz, M.gLst, M.gTup, valsR, gSl, slM, gPt, gNoP, fSl, gAnd, gOr, gNot, gTru, truM, tru, gAndV, gOrV, gNotV, stays, gIf, gDrop, gRcv, isL, gApp, gMeth, methM, tyD, gFn, callM, argsOf, argOf, brws, nodupN, putBack, Ret.res, gFnK, allVal, Perm.swap, Perm.id, swapL, gChain, gChain3, blM, gRaise, fAdd, fSub, fLt, fInt, fLen, fDivmod, fMod, fFdiv, fMax2, fIsi, isB, gPar, fEq, fNe, eqM, eqS, keyD, gItems, itemsM, tupItems, lstItems, gFor, gEnum, gRange1, sizeLine, noE, anyItems, dctItems, gDct, gDct0, gDctE, flatP, M.pairD, gAll, gFnM, fEqK, fNeK, fMulS, fStrB, fTuple, fDict, gIsT, isAny, fMul, gYes, gNever, finR, gHeardB, e, e2]
/-- a list that the caller made -/
theorem any_par (c : Ads) {n : Nat} {m : Mo} {ds : List D} (h : WOk n m) (hn : n ≤ 100000000) (h1 : ds ≠ []) (h2 : ds.length ≤ 1000) :
    ∃ (d : D) (m' : Mo), m__law_any c [.par m, .val (.tup ds)] = some (.ok (.val d) [.par m', .val (.tup ds)]) ∧ d ∈ ds ∧ WOk (n + 1) m' := by
  have hp : 0 < ds.length := List.length_pos_iff.mpr h1
  obtain ⟨v, m', e, v0, v1, w⟩ := deal_ok c (top := ds.length) h hn (by omega) (by omega)
  obtain ⟨x, e2, hx⟩ := atI_in v0 v1
  refine ⟨x, m', ?_, hx, w⟩
  unfold m__law_any b__law_any runM
  simp [gSeq, gIfS, gBl, gOp, gVar, gC, EM.bind, EM.pure, EM.lift, op2, op1, gUn, view, moAt, Slot.mo?, Mo.view, fIx, fII, gAsg, gCall, M.gCons, M.gNil, consM, opL, views, aliveR, gdTup, gdCons, gdSub, gdNil, Tg.bind, Tg.binds, setV, putMo, gRet, gPass, M.gSet, setM, storeR, gFz, gFrz, M.gLst, M.gTup, valsR, gSl, slM, gPt, gNoP, fSl, gAnd, gOr, gNot, gTru, truM, tru, gAndV, gOrV, gNotV, stays, gIf, gDrop, gRcv, isL, gApp, gMeth, methM, tyD, gFn, callM, argsOf, argOf, brws, nodupN, putBack, Ret.res, gFnK, allVal, Perm.swap, Perm.id, swapL, gChain, gChain3, blM, gRaise, fAdd, fSub, fLt, fInt, fLen, fDivmod, fMod, fFdiv, fMax2, fIsi, isB, gPar, fEq, fNe, eqM, eqS, keyD, gItems, itemsM, tupItems, lstItems, gFor, gEnum, gRange1, sizeLine, noE, anyItems, dctItems, gDct, gDct0, gDctE, flatP, M.pairD, gAll, gFnM, fEqK, fNeK, fMulS, fStrB, fTuple, fDict, gIsT, isAny, fMul, gYes, gNever, finR, gHeardB, e, e2]
theorem any_str (c : Ads) {n : Nat} {m : Mo} {z : Str} (h : WOk n m) (hn : n ≤ 100000000) (h1 : 0 < z.length) (h2 : z.length ≤ 1000) :
    ∃ (x : Nat) (m' : Mo), m__law_any c [.par m, .val (.str z)] = some (.ok (.val (.str ⟨#[x]⟩)) [.par m', .val (.str z)]) ∧ x ∈ z.cps.toList ∧ WOk (n + 1) m' := by
  obtain ⟨v, m', e, v0, v1, w⟩ := deal_ok c (top := z.length) h hn (by omega) (by omega)
  obtain ⟨x, e2, hx⟩ := atI_in (xs := z.cps.toList) v0 (by rw [Array.length_toList]; exact v1)
  refine ⟨x, m', ?_, hx, w⟩
  have hz : z.length ≤ 16777216 := by omega
  unfold m__law_any b__law_any runM
  simp [gSeq, gIfS, gBl, gOp, gVar, gC, EM.bind, EM.pure, EM.lift, op2, op1, gUn, view, moAt, Slot.mo?, Mo.view, fIx, fII, gAsg, gCall, M.gCons, M.gNil, consM, opL, views, aliveR, gdTup, gdCons, gdSub, gdNil, Tg.bind, Tg.binds, setV, putMo, gRet, gPass, M.gSet, setM, storeR, gFz, gFrz, M.gLst, M.gTup, valsR, gSl, slM, gPt, gNoP, fSl, gAnd, gOr, gNot, gTru, truM, tru, gAndV, gOrV, gNotV, stays, gIf, gDrop, gRcv, isL, gApp, gMeth, methM, tyD, gFn, callM, argsOf, argOf, brws, nodupN, putBack, Ret.res, gFnK, allVal, Perm.swap, Perm.id, swapL, gChain, gChain3, blM, gRaise, fAdd, fSub, fLt, fInt, fLen, fDivmod, fMod, fFdiv, fMax2, fIsi, isB, gPar, fEq, fNe, eqM, eqS, keyD, gItems, itemsM, tupItems, lstItems, gFor, gEnum, gRange1, sizeLine, noE, anyItems, dctItems, gDct, gDct0, gDctE, flatP, M.pairD, gAll, gFnM, fEqK, fNeK, fMulS, fStrB, fTuple, fDict, gIsT, isAny, fMul, gYes, gNever, finR, gHeardB, e, e2, hz]
/-! texts -/
def AllC (p : Nat → Bool) (z : Str) : Prop := ∀ c ∈ z.cps.toList, p c = true
theorem AllC.app {p : Nat → Bool} {x y : Str} (h : AllC p x) (g : AllC p y) : AllC p (x ++ y) := fun c hc => by
  rw [Str.cps_append, Array.toList_append, List.mem_append] at hc
  exact hc.elim (h c) (g c)
theorem AllC.one {p : Nat → Bool} {c : Nat} (h : p c = true) : AllC p ⟨#[c]⟩ := fun d hd => by
  have : d = c := by simpa using hd
  rw [this]; exact h
theorem allC_lit {p : Nat → Bool} {x : Str} (h : x.cps.toList.all p = true) : AllC p x := fun c hc => List.all_eq_true.mp h c hc
def isLo (c : Nat) : Bool := decide (97 ≤ c) && decide (c < 123)
/-- a name -/
def Nm (s : Str) : Prop := 0 < s.length ∧ s.length ≤ 12 ∧ AllC isLo s
theorem abc_lo : AllC isLo ("abcdefghijklmnopqrstuvwxyz" : Str) := allC_lit (by decide +kernel)
theorem one_len (x : Nat) : (⟨#[x]⟩ : Str).length = 1 := rfl
def nm_0 (c : Ads) : EM Fl := (gAsg (Tg.bind (.tp [(.nm 1), (.nm 2)])) (gTup (gCons (gC (.str "abcdefghijklmnopqrstuvwxyz")) (gCons (gC (.str "")) gNil))))
def nm_1 (c : Ads) : EM Fl := (gFor (gRange1 (gCons (gFn 2 (m__law_any c) (gCons (gVar 0) (gCons (gFrz (gLst (gCons (gC (.int 1)) (gCons (gC (.int 1)) (gCons (gC (.int 1)) (gCons (gC (.int 2)) (gCons (gC (.int 3)) (gCons (gC (.int 4)) (gCons (gC (.int 12)) gNil))))))))) gNil))) gNil)) (.nm 3)
    (gSet 2 (gOp fAdd (gVar 2) (gFn 2 (m__law_any c) (gCons (gVar 0) (gCons (gFz 1) gNil))))))
def nm_2 (c : Ads) : EM Fl := (gRet (gVar 2))
theorem nm_eq (c : Ads) : b__law_name c = (gSeq (nm_0 c) (gSeq (nm_1 c) (nm_2 c))) := rfl
def nmL : Str := "abcdefghijklmnopqrstuvwxyz"
theorem name_ok (c : Ads) {n : Nat} {m : Mo} (h : WOk n m) (hn : n ≤ 90000000) : ∃ (s : Str) (m' : Mo), m__law_name c [.par m] = some (.ok (.val (.str s)) [.par m']) ∧ Nm s ∧ WOk (n + 13) m' := by
  obtain ⟨k, m1, e1, hk, w1⟩ := any_ok c (ds := [.int 1, .int 1, .int 1, .int 2, .int 3, .int 4, .int 12]) h (by omega) (by simp) (by simp)
  obtain ⟨k, rfl, k1, k2⟩ : ∃ i : Int, k = .int i ∧ 1 ≤ i ∧ i ≤ 12 := by
    simp only [List.mem_cons, List.not_mem_nil, or_false] at hk
    rcases hk with rfl | rfl | rfl | rfl | rfl | rfl | rfl <;> exact ⟨_, rfl, by decide, by decide⟩
  obtain ⟨ρ', e2, m', s, x, rfl, l2, a2, w2⟩ := loopF_inv (t := .nm 3) (body := (gSet 2 (gOp fAdd (gVar 2) (gFn 2 (m__law_any c) (gCons (gVar 0) (gCons (gFz 1) gNil))))))
    (fun j ρ => ∃ (m : Mo) (s : Str) (x : Slot), ρ = [.par m, .val (.str nmL), .val (.str s), x] ∧ s.length = j ∧ (AllC isLo s ∧ (∀ q, x ≠ .par q)) ∧ WOk (n + 1 + j) m)
    (upto k) 0 [.par m1, .val (.str nmL), .val (.str ""), .un] (by
    rintro j ρ d hd hj ⟨m, s, x, rfl, l, ⟨a, hx⟩, w⟩
    have hj' : j < k.toNat := by rw [upto_len] at hj; omega
    obtain ⟨y, m2, e, hy, w2⟩ := any_str c (z := nmL) w (by omega) (by decide) (by decide)
    refine ⟨[.par m, .val (.str nmL), .val (.str s), .val d], [.par m2, .val (.str nmL), .val (.str (s ++ ⟨#[y]⟩)), .val d], ?_, .inl ?_, m2, _, _, rfl, by rw [Str.length_append, l]; rfl, ⟨a.app (.one (abc_lo y hy)), fun q => by simp⟩, w2⟩
    · cases x <;> first | rfl | exact absurd rfl (hx _)
    · have hs : s.length + (⟨#[y]⟩ : Str).length ≤ 16777216 := by rw [one_len]; omega
      simp [gSeq, gIfS, gBl, gOp, gVar, gC, EM.bind, EM.pure, EM.lift, op2, op1, gUn, view, moAt, Slot.mo?, Mo.view, fIx, fII, gAsg, gCall, M.gCons, M.gNil, consM, opL, views, aliveR, gdTup, gdCons, gdSub, gdNil, Tg.bind, Tg.binds, setV, putMo, gRet, gPass, M.gSet, setM, storeR, gFz, gFrz, M.gLst, M.gTup, valsR, gSl, slM, gPt, gNoP, fSl, gAnd, gOr, gNot, gTru, truM, tru, gAndV, gOrV, gNotV, stays, gIf, gDrop, gRcv, isL, gApp, gMeth, methM, tyD, gFn, callM, argsOf, argOf, brws, nodupN, putBack, Ret.res, gFnK, allVal, Perm.swap, Perm.id, swapL, gChain, gChain3, blM, gRaise, fAdd, fSub, fLt, fInt, fLen, fDivmod, fMod, fFdiv, fMax2, fIsi, isB, gPar, fEq, fNe, eqM, eqS, keyD, gItems, itemsM, tupItems, lstItems, gFor, gEnum, gRange1, sizeLine, noE, anyItems, dctItems, gDct, gDct0, gDctE, flatP, M.pairD, gAll, gFnM, fEqK, fNeK, fMulS, fStrB, fTuple, fDict, gIsT, isAny, fMul, gYes, gNever, finR, gHeardB, atI, ixN, e, hs]) ⟨m1, "", .un, rfl, by decide, ⟨allC_lit (by decide +kernel), fun q => by simp⟩, w1⟩
  rw [upto_len] at l2 w2
  refine ⟨s, m', ?_, ⟨by omega, by omega, a2.1⟩, w2.mono (by omega)⟩
  have s0 : nm_0 c [.par m, .un, .un, .un] = some (.ok .nx [.par m, .val (.str nmL), .val (.str ""), .un]) := by
    unfold nm_0 nmL
    simp [gSeq, gIfS, gBl, gOp, gVar, gC, EM.bind, EM.pure, EM.lift, op2, op1, gUn, view, moAt, Slot.mo?, Mo.view, fIx, fII, gAsg, gCall, M.gCons, M.gNil, consM, opL, views, aliveR, gdTup, gdCons, gdSub, gdNil, Tg.bind, Tg.binds, setV, putMo, gRet, gPass, M.gSet, setM, storeR, gFz, gFrz, M.gLst, M.gTup, valsR, gSl, slM, gPt, gNoP, fSl, gAnd, gOr, gNot, gTru, truM, tru, gAndV, gOrV, gNotV, stays, gIf, gDrop, gRcv, isL, gApp, gMeth, methM, tyD, gFn, callM, argsOf, argOf, brws, nodupN, putBack, Ret.res, gFnK, allVal, Perm.swap, Perm.id, swapL, gChain, gChain3, blM, gRaise, fAdd, fSub, fLt, fInt, fLen, fDivmod, fMod, fFdiv, fMax2, fIsi, isB, gPar, fEq, fNe, eqM, eqS, keyD, gItems, itemsM, tupItems, lstItems, gFor, gEnum, gRange1, sizeLine, noE, anyItems, dctItems, gDct, gDct0, gDctE, flatP, M.pairD, gAll, gFnM, fEqK, fNeK, fMulS, fStrB, fTuple, fDict, gIsT, isAny, fMul, gYes, gNever, finR, gHeardB, atI, ixN]
  have s1 : nm_1 c [.par m, .val (.str nmL), .val (.str ""), .un] = some (.ok .nx [.par m', .val (.str nmL), .val (.str s), x]) := by
    unfold nm_1
    exact (for_at (range_ok (k := k) (by simp [gSeq, gIfS, gBl, gOp, gVar, gC, EM.bind, EM.pure, EM.lift, op2, op1, gUn, view, moAt, Slot.mo?, Mo.view, fIx, fII, gAsg, gCall, M.gCons, M.gNil, consM, opL, views, aliveR, gdTup, gdCons, gdSub, gdNil, Tg.bind, Tg.binds, setV, putMo, gRet, gPass, M.gSet, setM, storeR, gFz, gFrz, M.gLst, M.gTup, valsR, gSl, slM, gPt, gNoP, fSl, gAnd, gOr, gNot, gTru, truM, tru, gAndV, gOrV, gNotV, stays, gIf, gDrop, gRcv, isL, gApp, gMeth, methM, tyD, gFn, callM, argsOf, argOf, brws, nodupN, putBack, Ret.res, gFnK, allVal, Perm.swap, Perm.id, swapL, gChain, gChain3, blM, gRaise, fAdd, fSub, fLt, fInt, fLen, fDivmod, fMod, fFdiv, fMax2, fIsi, isB, gPar, fEq, fNe, eqM, eqS, keyD, gItems, itemsM, tupItems, lstItems, gFor, gEnum, gRange1, sizeLine, noE, anyItems, dctItems, gDct, gDct0, gDctE, flatP, M.pairD, gAll, gFnM, fEqK, fNeK, fMulS, fStrB, fTuple, fDict, gIsT, isAny, fMul, gYes, gNever, finR, gHeardB, atI, ixN, e1]) (by omega) (by omega))).trans e2
  unfold m__law_name
  rw [nm_eq]
  refine run_nx (r := .val (.str s)) (ρ := [.par m', .val (.str nmL), .val (.str s), x]) ?_
  refine (seq_nx s0).trans ((seq_nx s1).trans ?_)
  unfold nm_2
  simp [gSeq, gIfS, gBl, gOp, gVar, gC, EM.bind, EM.pure, EM.lift, op2, op1, gUn, view, moAt, Slot.mo?, Mo.view, fIx, fII, gAsg, gCall, M.gCons, M.gNil, consM, opL, views, aliveR, gdTup, gdCons, gdSub, gdNil, Tg.bind, Tg.binds, setV, putMo, gRet, gPass, M.gSet, setM, storeR, gFz, gFrz, M.gLst, M.gTup, valsR, gSl, slM, gPt, gNoP, fSl, gAnd, gOr, gNot, gTru, truM, tru, gAndV, gOrV, gNotV, stays, gIf, gDrop, gRcv, isL, gApp, gMeth, methM, tyD, gFn, callM, argsOf, argOf, brws, nodupN, putBack, Ret.res, gFnK, allVal, Perm.swap, Perm.id, swapL, gChain, gChain3, blM, gRaise, fAdd, fSub, fLt, fInt, fLen, fDivmod, fMod, fFdiv, fMax2, fIsi, isB, gPar, fEq, fNe, eqM, eqS, keyD, gItems, itemsM, tupItems, lstItems, gFor, gEnum, gRange1, sizeLine, noE, anyItems, dctItems, gDct, gDct0, gDctE, flatP, M.pairD, gAll, gFnM, fEqK, fNeK, fMulS, fStrB, fTuple, fDict, gIsT, isAny, fMul, gYes, gNever, finR, gHeardB, atI, ixN]
end My

namespace My
open PySem PySem.Spec PyProof.Rows L2 M
/-! drawn texts, numbers, names -/
def Tx (n : Nat) (s : Str) : Prop := s.length ≤ n ∧ AllC okc s
def tx_0 (c : Ads) : EM Fl := (gSet 2 (gC (.str "")))
def tx_1 (c : Ads) : EM Fl := (gFor (gRange1 (gCons (gFn 2 (m__law_deal c) (gCons (gVar 0) (gCons (gFrz (gOp fAdd (gVar 1) (gC (.int 1)))) gNil))) gNil)) (.nm 3)
    (gSet 2 (gOp fAdd (gVar 2) (gFn 2 (m__law_any c) (gCons (gVar 0) (gCons (gFrz (gFn 2 (m__law_any c) (gCons (gVar 0) (gCons (gFrz (gLst (gCons (gC (.str "abcxyz")) (gCons (gC (.str "ABZ")) (gCons (gC (.str "0a8")) (gCons (gC (.str " -_.")) (gCons (gC (.str "&<>\"'")) (gCons (gC (.str "{}()[]")) (gCons (gC (.str "~/?=;:")) (gCons (gC (.str "\n\\,*")) (gCons (gC (.str "&&<<\"\"~~")) gNil))))))))))) gNil)))) gNil))))))
def tx_2 (c : Ads) : EM Fl := (gRet (gVar 2))
theorem tx_eq (c : Ads) : b__law_text c = (gSeq (tx_0 c) (gSeq (tx_1 c) (tx_2 c))) := rfl
def txD : List D := [.str "abcxyz", .str "ABZ", .str "0a8", .str " -_.", .str "&<>\"'", .str "{}()[]", .str "~/?=;:", .str "\n\\,*", .str "&&<<\"\"~~"]
theorem txD_ok : ∀ d ∈ txD, ∃ z, d = .str z ∧ 0 < z.length ∧ z.length ≤ 1000 ∧ AllC okc z := by
  intro d hd
  unfold txD at hd
  simp only [List.mem_cons, List.not_mem_nil, or_false] at hd
  rcases hd with rfl | rfl | rfl | rfl | rfl | rfl | rfl | rfl | rfl <;> exact ⟨_, rfl, by decide +kernel, by decide +kernel, allC_lit (by decide +kernel)⟩
theorem text_ok (c : Ads) {n : Nat} {m : Mo} (h : WOk n m) (hn : n ≤ 90000000) : ∃ (s : Str) (m' : Mo), m__law_text c [.par m, .val (.int 5)] = some (.ok (.val (.str s)) [.par m', .val (.int 5)]) ∧ Tx 5 s ∧ WOk (n + 11) m' := by
  obtain ⟨k, m1, e1, k1, k2, w1⟩ := deal_ok c (top := 6) h (by omega) (by decide) (by decide)
  obtain ⟨ρ', e2, m', s, x, rfl, l2, a2, w2⟩ := loopF_inv (t := .nm 3) (body := (gSet 2 (gOp fAdd (gVar 2) (gFn 2 (m__law_any c) (gCons (gVar 0) (gCons (gFrz (gFn 2 (m__law_any c) (gCons (gVar 0) (gCons (gFrz (gLst (gCons (gC (.str "abcxyz")) (gCons (gC (.str "ABZ")) (gCons (gC (.str "0a8")) (gCons (gC (.str " -_.")) (gCons (gC (.str "&<>\"'")) (gCons (gC (.str "{}()[]")) (gCons (gC (.str "~/?=;:")) (gCons (gC (.str "\n\\,*")) (gCons (gC (.str "&&<<\"\"~~")) gNil))))))))))) gNil)))) gNil))))))
    (fun j ρ => ∃ (m : Mo) (s : Str) (x : Slot), ρ = [.par m, .val (.int 5), .val (.str s), x] ∧ s.length = j ∧ (AllC okc s ∧ (∀ q, x ≠ .par q)) ∧ WOk (n + 1 + 2 * j) m)
    (upto k) 0 [.par m1, .val (.int 5), .val (.str ""), .un] (by
    rintro j ρ d hd hj ⟨m, s, x, rfl, l, ⟨a, hx⟩, w⟩
    have hj' : j < k.toNat := by rw [upto_len] at hj; omega
    obtain ⟨z, m2, e, hz, w2⟩ := any_ok c (ds := txD) w (by omega) (by decide) (by decide)
    obtain ⟨z, rfl, z1, z2, z3⟩ := txD_ok z hz
    obtain ⟨y, m3, e', hy, w3⟩ := any_str c (z := z) w2 (by omega) z1 z2
    refine ⟨[.par m, .val (.int 5), .val (.str s), .val d], [.par m3, .val (.int 5), .val (.str (s ++ ⟨#[y]⟩)), .val d], ?_, .inl ?_, m3, _, _, rfl, by rw [Str.length_append, l]; rfl, ⟨a.app (.one (z3 y hy)), fun q => by simp⟩, w3.mono (by omega)⟩
    · cases x <;> first | rfl | exact absurd rfl (hx _)
    · have hs : s.length + (⟨#[y]⟩ : Str).length ≤ 16777216 := by rw [one_len]; omega
      unfold txD at e
      simp [gSeq, gIfS, gBl, gOp, gVar, gC, EM.bind, EM.pure, EM.lift, op2, op1, gUn, view, moAt, Slot.mo?, Mo.view, fIx, fII, gAsg, gCall, M.gCons, M.gNil, consM, opL, views, aliveR, gdTup, gdCons, gdSub, gdNil, Tg.bind, Tg.binds, setV, putMo, gRet, gPass, M.gSet, setM, storeR, gFz, gFrz, M.gLst, M.gTup, valsR, gSl, slM, gPt, gNoP, fSl, gAnd, gOr, gNot, gTru, truM, tru, gAndV, gOrV, gNotV, stays, gIf, gDrop, gRcv, isL, gApp, gMeth, methM, tyD, gFn, callM, argsOf, argOf, brws, nodupN, putBack, Ret.res, gFnK, allVal, Perm.swap, Perm.id, swapL, gChain, gChain3, blM, gRaise, fAdd, fSub, fLt, fInt, fLen, fDivmod, fMod, fFdiv, fMax2, fIsi, isB, gPar, fEq, fNe, eqM, eqS, keyD, gItems, itemsM, tupItems, lstItems, gFor, gEnum, gRange1, sizeLine, noE, anyItems, dctItems, gDct, gDct0, gDctE, flatP, M.pairD, gAll, gFnM, fEqK, fNeK, fMulS, fStrB, fTuple, fDict, gIsT, isAny, fMul, gYes, gNever, finR, gHeardB, atI, ixN, e, e', hs]) ⟨m1, "", .un, rfl, by decide, ⟨allC_lit (by decide +kernel), fun q => by simp⟩, w1⟩
  rw [upto_len] at l2 w2
  refine ⟨s, m', ?_, ⟨by omega, a2.1⟩, w2.mono (by omega)⟩
  have s0 : tx_0 c [.par m, .val (.int 5), .un, .un] = some (.ok .nx [.par m, .val (.int 5), .val (.str ""), .un]) := by
    unfold tx_0
    simp [gSeq, gIfS, gBl, gOp, gVar, gC, EM.bind, EM.pure, EM.lift, op2, op1, gUn, view, moAt, Slot.mo?, Mo.view, fIx, fII, gAsg, gCall, M.gCons, M.gNil, consM, opL, views, aliveR, gdTup, gdCons, gdSub, gdNil, Tg.bind, Tg.binds, setV, putMo, gRet, gPass, M.gSet, setM, storeR, gFz, gFrz, M.gLst, M.gTup, valsR, gSl, slM, gPt, gNoP, fSl, gAnd, gOr, gNot, gTru, truM, tru, gAndV, gOrV, gNotV, stays, gIf, gDrop, gRcv, isL, gApp, gMeth, methM, tyD, gFn, callM, argsOf, argOf, brws, nodupN, putBack, Ret.res, gFnK, allVal, Perm.swap, Perm.id, swapL, gChain, gChain3, blM, gRaise, fAdd, fSub, fLt, fInt, fLen, fDivmod, fMod, fFdiv, fMax2, fIsi, isB, gPar, fEq, fNe, eqM, eqS, keyD, gItems, itemsM, tupItems, lstItems, gFor, gEnum, gRange1, sizeLine, noE, anyItems, dctItems, gDct, gDct0, gDctE, flatP, M.pairD, gAll, gFnM, fEqK, fNeK, fMulS, fStrB, fTuple, fDict, gIsT, isAny, fMul, gYes, gNever, finR, gHeardB, atI, ixN]
  have s1 : tx_1 c [.par m, .val (.int 5), .val (.str ""), .un] = some (.ok .nx [.par m', .val (.int 5), .val (.str s), x]) := by
    unfold tx_1
    exact (for_at (range_ok (k := k) (by simp [gSeq, gIfS, gBl, gOp, gVar, gC, EM.bind, EM.pure, EM.lift, op2, op1, gUn, view, moAt, Slot.mo?, Mo.view, fIx, fII, gAsg, gCall, M.gCons, M.gNil, consM, opL, views, aliveR, gdTup, gdCons, gdSub, gdNil, Tg.bind, Tg.binds, setV, putMo, gRet, gPass, M.gSet, setM, storeR, gFz, gFrz, M.gLst, M.gTup, valsR, gSl, slM, gPt, gNoP, fSl, gAnd, gOr, gNot, gTru, truM, tru, gAndV, gOrV, gNotV, stays, gIf, gDrop, gRcv, isL, gApp, gMeth, methM, tyD, gFn, callM, argsOf, argOf, brws, nodupN, putBack, Ret.res, gFnK, allVal, Perm.swap, Perm.id, swapL, gChain, gChain3, blM, gRaise, fAdd, fSub, fLt, fInt, fLen, fDivmod, fMod, fFdiv, fMax2, fIsi, isB, gPar, fEq, fNe, eqM, eqS, keyD, gItems, itemsM, tupItems, lstItems, gFor, gEnum, gRange1, sizeLine, noE, anyItems, dctItems, gDct, gDct0, gDctE, flatP, M.pairD, gAll, gFnM, fEqK, fNeK, fMulS, fStrB, fTuple, fDict, gIsT, isAny, fMul, gYes, gNever, finR, gHeardB, atI, ixN, e1]) (by omega) (by omega))).trans e2
  unfold m__law_text
  rw [tx_eq]
  refine run_nx (r := .val (.str s)) (ρ := [.par m', .val (.int 5), .val (.str s), x]) ?_
  refine (seq_nx s0).trans ((seq_nx s1).trans ?_)
  unfold tx_2
  simp [gSeq, gIfS, gBl, gOp, gVar, gC, EM.bind, EM.pure, EM.lift, op2, op1, gUn, view, moAt, Slot.mo?, Mo.view, fIx, fII, gAsg, gCall, M.gCons, M.gNil, consM, opL, views, aliveR, gdTup, gdCons, gdSub, gdNil, Tg.bind, Tg.binds, setV, putMo, gRet, gPass, M.gSet, setM, storeR, gFz, gFrz, M.gLst, M.gTup, valsR, gSl, slM, gPt, gNoP, fSl, gAnd, gOr, gNot, gTru, truM, tru, gAndV, gOrV, gNotV, stays, gIf, gDrop, gRcv, isL, gApp, gMeth, methM, tyD, gFn, callM, argsOf, argOf, brws, nodupN, putBack, Ret.res, gFnK, allVal, Perm.swap, Perm.id, swapL, gChain, gChain3, blM, gRaise, fAdd, fSub, fLt, fInt, fLen, fDivmod, fMod, fFdiv, fMax2, fIsi, isB, gPar, fEq, fNe, eqM, eqS, keyD, gItems, itemsM, tupItems, lstItems, gFor, gEnum, gRange1, sizeLine, noE, anyItems, dctItems, gDct, gDct0, gDctE, flatP, M.pairD, gAll, gFnM, fEqK, fNeK, fMulS, fStrB, fTuple, fDict, gIsT, isAny, fMul, gYes, gNever, finR, gHeardB, atI, ixN]
def Nu (i : Int) : Prop := -(10 ^ 20) < i ∧ i < 10 ^ 20
theorem number_ok (c : Ads) {n : Nat} {m : Mo} (h : WOk n m) (hn : n ≤ 90000000) : ∃ (i : Int) (m' : Mo), m__law_number c [.par m] = some (.ok (.val (.int i)) [.par m']) ∧ Nu i ∧ WOk (n + 2) m' := by
  obtain ⟨k, m1, e1, k1, k2, w1⟩ := deal_ok c (top := 1000) h (by omega) (by decide) (by decide)
  obtain ⟨d, m2, e2, hd, w2⟩ := any_ok c (ds := [.int 0, .int 1, .int (-1), .int 2, .int 7, .int 10, .int (-12), .int 255, .int (10 ^ 15 - 1), .int (10 ^ 15), .int (-10 ^ 19), .int (10 ^ 20 - 1), .int k]) w1 (by omega) (by simp) (by simp)
  obtain ⟨i, rfl, hi⟩ : ∃ i, d = .int i ∧ Nu i := by
    simp only [List.mem_cons, List.not_mem_nil, or_false] at hd
    unfold Nu
    rcases hd with rfl | rfl | rfl | rfl | rfl | rfl | rfl | rfl | rfl | rfl | rfl | rfl | rfl <;> exact ⟨_, rfl, by omega, by omega⟩
  refine ⟨i, m2, ?_, hi, w2⟩
  unfold m__law_number b__law_number runM
  simp [gSeq, gIfS, gBl, gOp, gVar, gC, EM.bind, EM.pure, EM.lift, op2, op1, gUn, view, moAt, Slot.mo?, Mo.view, fIx, fII, gAsg, gCall, M.gCons, M.gNil, consM, opL, views, aliveR, gdTup, gdCons, gdSub, gdNil, Tg.bind, Tg.binds, setV, putMo, gRet, gPass, M.gSet, setM, storeR, gFz, gFrz, M.gLst, M.gTup, valsR, gSl, slM, gPt, gNoP, fSl, gAnd, gOr, gNot, gTru, truM, tru, gAndV, gOrV, gNotV, stays, gIf, gDrop, gRcv, isL, gApp, gMeth, methM, tyD, gFn, callM, argsOf, argOf, brws, nodupN, putBack, Ret.res, gFnK, allVal, Perm.swap, Perm.id, swapL, gChain, gChain3, blM, gRaise, fAdd, fSub, fLt, fInt, fLen, fDivmod, fMod, fFdiv, fMax2, fIsi, isB, gPar, fEq, fNe, eqM, eqS, keyD, gItems, itemsM, tupItems, lstItems, gFor, gEnum, gRange1, sizeLine, noE, anyItems, dctItems, gDct, gDct0, gDctE, flatP, M.pairD, gAll, gFnM, fEqK, fNeK, fMulS, fStrB, fTuple, fDict, gIsT, isAny, fMul, gYes, gNever, finR, gHeardB, atI, ixN, fPow, fNeg, e1] at e2 ⊢
  have p1 : CPow 10 15 := by unfold CPow; decide
  have p2 : CPow 10 19 := by unfold CPow; decide
  have p3 : CPow 10 20 := by unfold CPow; decide
  simp [gSeq, gIfS, gBl, gOp, gVar, gC, EM.bind, EM.pure, EM.lift, op2, op1, gUn, view, moAt, Slot.mo?, Mo.view, fIx, fII, gAsg, gCall, M.gCons, M.gNil, consM, opL, views, aliveR, gdTup, gdCons, gdSub, gdNil, Tg.bind, Tg.binds, setV, putMo, gRet, gPass, M.gSet, setM, storeR, gFz, gFrz, M.gLst, M.gTup, valsR, gSl, slM, gPt, gNoP, fSl, gAnd, gOr, gNot, gTru, truM, tru, gAndV, gOrV, gNotV, stays, gIf, gDrop, gRcv, isL, gApp, gMeth, methM, tyD, gFn, callM, argsOf, argOf, brws, nodupN, putBack, Ret.res, gFnK, allVal, Perm.swap, Perm.id, swapL, gChain, gChain3, blM, gRaise, fAdd, fSub, fLt, fInt, fLen, fDivmod, fMod, fFdiv, fMax2, fIsi, isB, gPar, fEq, fNe, eqM, eqS, keyD, gItems, itemsM, tupItems, lstItems, gFor, gEnum, gRange1, sizeLine, noE, anyItems, dctItems, gDct, gDct0, gDctE, flatP, M.pairD, gAll, gFnM, fEqK, fNeK, fMulS, fStrB, fTuple, fDict, gIsT, isAny, fMul, gYes, gNever, finR, gHeardB, atI, ixN, p1, p2, p3, e2]

/-! names -/
theorem left_out {α : Type} [DecidableEq α] : ∀ {l E : List α}, l.Nodup → E.length < l.length → ∃ x ∈ l, x ∉ E
  | [], _, _, h => by cases h
  | x :: l, E, nd, h => by
    by_cases hx : x ∈ E
    · obtain ⟨n1, n2⟩ := List.nodup_cons.mp nd
      have hl : (E.erase x).length < l.length := by
        rw [List.length_erase_of_mem hx]
        have := List.length_pos_of_mem hx
        rw [List.length_cons] at h
        omega
      obtain ⟨y, h1, h2⟩ := left_out n2 hl
      refine ⟨y, List.mem_cons_of_mem _ h1, fun hy => h2 ?_⟩
      exact (List.mem_erase_of_ne (fun e => n1 (by rw [← e]; exact h1))).mpr hy
    · exact ⟨x, List.mem_cons_self, hx⟩
def nmNear (c : Ads) : EM Res := (gLc (gItems anyItems (gFz 2)) (.nm 7) [7] gYes (gFrz (gOp fAdd (gOp fAdd (gSl (gVar 5) gNoP (gPt (gC (.int 10)))) (gOp fIx (gVar 2) (gOp fMod (gVar 4) (gC (.int 26))))) (gVar 7))))
def nmOwn (c : Ads) : EM Res := (gLc (gItems anyItems (gFz 6)) (.nm 8) [8] (gAnd (gBl (gOp (fInA true) (gVar 8) (gVar 3))) (gBl (gOp (fInA true) (gVar 8) (gTup (gCons (gC (.str "true")) (gCons (gC (.str "false")) (gCons (gC (.str "self")) (gCons (gC (.str "data")) (gCons (gC (.str "href")) gNil))))))))) (gFz 8))
def nb_0 (c : Ads) : EM Fl := (gSet 5 (gFn 2 (m__law_any c) (gCons (gVar 0) (gCons (gFrz (gLst (gCons (gFrz (gFn 1 (m__law_name c) (gCons (gVar 0) gNil))) (gCons (gFrz (gFn 2 (m__law_any c) (gCons (gVar 0) (gCons (gFrz (gLst (gCons (gC (.str "id")) (gCons (gC (.str "k")) (gCons (gC (.str "list")) (gCons (gC (.str "text")) (gCons (gC (.str "number")) (gCons (gC (.str "by")) (gCons (gC (.str "if")) (gCons (gC (.str "end")) (gCons (gC (.str "null")) (gCons (gC (.str "size")) (gCons (gC (.str "sum")) (gCons (gC (.str "h")) (gCons (gC (.str "hre")) (gCons (gC (.str "hrefs")) (gCons (gC (.str "datas")) (gCons (gC (.str "dat")) gNil)))))))))))))))))) gNil)))) gNil)))) gNil))))
def nb_1 (c : Ads) : EM Fl := (gSet 6 (gOp fAdd (gLst (gCons (gFz 5) gNil)) (nmNear c)))
def nb_2 (c : Ads) : EM Fl := (gDrop (gRcv 3 (gApp 3 (gOp fIx (nmOwn c) (gC (.int 0))))))
theorem nb_eq (c : Ads) : (gSeq (gSet 5 (gFn 2 (m__law_any c) (gCons (gVar 0) (gCons (gFrz (gLst (gCons (gFrz (gFn 1 (m__law_name c) (gCons (gVar 0) gNil))) (gCons (gFrz (gFn 2 (m__law_any c) (gCons (gVar 0) (gCons (gFrz (gLst (gCons (gC (.str "id")) (gCons (gC (.str "k")) (gCons (gC (.str "list")) (gCons (gC (.str "text")) (gCons (gC (.str "number")) (gCons (gC (.str "by")) (gCons (gC (.str "if")) (gCons (gC (.str "end")) (gCons (gC (.str "null")) (gCons (gC (.str "size")) (gCons (gC (.str "sum")) (gCons (gC (.str "h")) (gCons (gC (.str "hre")) (gCons (gC (.str "hrefs")) (gCons (gC (.str "datas")) (gCons (gC (.str "dat")) gNil)))))))))))))))))) gNil)))) gNil)))) gNil))))
    (gSeq (gSet 6 (gOp fAdd (gLst (gCons (gFz 5) gNil)) (nmNear c)))
    (gDrop (gRcv 3 (gApp 3 (gOp fIx (nmOwn c) (gC (.int 0)))))))) = (gSeq (nb_0 c) (gSeq (nb_1 c) (nb_2 c))) := rfl
def ns_0 (c : Ads) : EM Fl := (gPar 2 3 (gCons (gC (.str "abcdefghijklmnopqrstuvwxyz")) (gCons (gLst gNil) gNil)))
def ns_1 (c : Ads) : EM Fl := (gFor (gRange1 (gCons (gVar 1) gNil)) (.nm 4)
    (gSeq (gSet 5 (gFn 2 (m__law_any c) (gCons (gVar 0) (gCons (gFrz (gLst (gCons (gFrz (gFn 1 (m__law_name c) (gCons (gVar 0) gNil))) (gCons (gFrz (gFn 2 (m__law_any c) (gCons (gVar 0) (gCons (gFrz (gLst (gCons (gC (.str "id")) (gCons (gC (.str "k")) (gCons (gC (.str "list")) (gCons (gC (.str "text")) (gCons (gC (.str "number")) (gCons (gC (.str "by")) (gCons (gC (.str "if")) (gCons (gC (.str "end")) (gCons (gC (.str "null")) (gCons (gC (.str "size")) (gCons (gC (.str "sum")) (gCons (gC (.str "h")) (gCons (gC (.str "hre")) (gCons (gC (.str "hrefs")) (gCons (gC (.str "datas")) (gCons (gC (.str "dat")) gNil)))))))))))))))))) gNil)))) gNil)))) gNil))))
    (gSeq (gSet 6 (gOp fAdd (gLst (gCons (gFz 5) gNil)) (nmNear c)))
    (gDrop (gRcv 3 (gApp 3 (gOp fIx (nmOwn c) (gC (.int 0)))))))))
def ns_2 (c : Ads) : EM Fl := (gRet (gVar 3))
theorem ns_eq (c : Ads) : b__law_names c = (gSeq (ns_0 c) (gSeq (ns_1 c) (ns_2 c))) := rfl
def wds : List D := [.str "id", .str "k", .str "list", .str "text", .str "number", .str "by", .str "if", .str "end", .str "null", .str "size", .str "sum", .str "h", .str "hre", .str "hrefs", .str "datas", .str "dat"]
theorem wds_ok : ∀ d ∈ wds, ∃ z, d = .str z ∧ Nm z := by
  intro d hd
  unfold wds at hd
  simp only [List.mem_cons, List.not_mem_nil, or_false] at hd
  rcases hd with rfl | rfl | rfl | rfl | rfl | rfl | rfl | rfl | rfl | rfl | rfl | rfl | rfl | rfl | rfl | rfl <;> exact ⟨_, rfl, by decide +kernel, by decide +kernel, allC_lit (by decide +kernel)⟩
def bads : List Str := ["true", "false", "self", "data", "href"]
def extS (w : Str) (l : Nat) (x : Nat) : Str := cutS w none (some 10) ++ ⟨#[l]⟩ ++ ⟨#[x]⟩
def near (w : Str) (l : Nat) : List Str := w :: nmL.cps.toList.map (extS w l)
theorem cut10 (w : Str) : (cutS w none (some 10)).length ≤ 10 ∧ ∀ c ∈ (cutS w none (some 10)).cps.toList, c ∈ w.cps.toList := by
  unfold cutS
  refine ⟨?_, fun c hc => List.mem_of_mem_drop (List.mem_of_mem_take (by simpa using hc))⟩
  show (List.toArray _).size ≤ 10
  rw [List.size_toArray, List.length_take]
  have : HT.sIx w.length w.length (some 10) ≤ 10 := by
    unfold HT.sIx
    simp
    omega
  omega
theorem ext_nm {w : Str} {l x : Nat} (hw : Nm w) (hl : isLo l = true) (hx : isLo x = true) : Nm (extS w l x) := by
  obtain ⟨c1, c2⟩ := cut10 w
  unfold extS
  refine ⟨?_, ?_, (AllC.app (fun c hc => hw.2.2 c (c2 c hc)) (.one hl)).app (.one hx)⟩
  · rw [Str.length_append, Str.length_append, one_len, one_len]; omega
  · rw [Str.length_append, Str.length_append, one_len, one_len]; omega
theorem near_nm {w : Str} {l : Nat} (hw : Nm w) (hl : isLo l = true) : ∀ s ∈ near w l, Nm s := by
  intro s hs
  rcases List.mem_cons.mp hs with rfl | hs
  · exact hw
  · obtain ⟨x, hx, rfl⟩ := List.mem_map.mp hs
    exact ext_nm hw hl (abc_lo x hx)
theorem ext_inj {w : Str} {l x y : Nat} (h : extS w l x = extS w l y) : x = y := by
  have e := congrArg (fun s : Str => s.cps.toList) h
  unfold extS at e
  simp only [Str.cps_append, Array.toList_append] at e
  simpa using List.append_cancel_left e
theorem ext_nodup (w : Str) (l : Nat) : (nmL.cps.toList.map (extS w l)).Nodup := by
  have h : nmL.cps.toList.Nodup := by decide +kernel
  exact List.Pairwise.map _ (fun a b n e => n (ext_inj e)) h
theorem pick_one {w : Str} {l : Nat} {ws : List Str} (hws : ws.length ≤ 4) : ∃ s r, (near w l).filter (fun s => !ws.contains s && !bads.contains s) = s :: r := by
  obtain ⟨x, h1, h2⟩ := left_out (ext_nodup w l) (E := ws ++ bads) (by
    rw [List.length_append, List.length_map]
    have : nmL.cps.toList.length = 26 := by decide +kernel
    have : bads.length = 5 := rfl
    omega)
  have h3 : x ∈ (near w l).filter (fun s => !ws.contains s && !bads.contains s) := by
    refine List.mem_filter.mpr ⟨List.mem_cons_of_mem _ h1, ?_⟩
    rw [List.mem_append, not_or] at h2
    simp [h2.1, h2.2]
  cases e : (near w l).filter (fun s => !ws.contains s && !bads.contains s) with
  | nil => rw [e] at h3; cases h3
  | cons s r => exact ⟨s, r, rfl⟩
def NmS (ws : List Str) : Prop := ws.Nodup ∧ ∀ s ∈ ws, Nm s
def pD (ws : List Str) : D → Bool
  | .str s => !ws.contains s && !bads.contains s
  | _ => false
section
variable (c : Ads) {m : Mo} {k : Int} {ws : List Str} {i : Int} {x5 x6 : Slot}
theorem nb0_ok {n : Nat} (h : WOk n m) (hn : n ≤ 80000000) (h5 : x5 = .un ∨ ∃ d, x5 = .val d) : ∃ w m', Nm w ∧ WOk (n + 15) m' ∧
    nb_0 c [.par m, .val (.int k), .val (.str nmL), .own (.l (ws.map .str)), .val (.int i), x5, x6, .un, .un] = some (.ok .nx [.par m', .val (.int k), .val (.str nmL), .own (.l (ws.map .str)), .val (.int i), .val (.str w), x6, .un, .un]) := by
  obtain ⟨s, m1, e1, hs, w1⟩ := name_ok c h (by omega)
  obtain ⟨z, m2, e2, hz, w2⟩ := any_ok c (ds := wds) w1 (by omega) (by decide) (by decide)
  obtain ⟨z, rfl, hz'⟩ := wds_ok z hz
  obtain ⟨w, m3, e3, hw, w3⟩ := any_ok c (ds := [.str s, .str z]) w2 (by omega) (by simp) (by simp)
  obtain ⟨w, rfl, hw'⟩ : ∃ q, w = .str q ∧ Nm q := by
    simp only [List.mem_cons, List.not_mem_nil, or_false] at hw
    rcases hw with rfl | rfl
    · exact ⟨_, rfl, hs⟩
    · exact ⟨_, rfl, hz'⟩
  refine ⟨w, m3, hw', w3, ?_⟩
  unfold wds at e2
  unfold nb_0
  rcases h5 with rfl | ⟨d, rfl⟩ <;> simp [gSeq, gIfS, gBl, gOp, gVar, gC, EM.bind, EM.pure, EM.lift, op2, op1, gUn, view, moAt, Slot.mo?, Mo.view, fIx, fII, gAsg, gCall, M.gCons, M.gNil, consM, opL, views, aliveR, gdTup, gdCons, gdSub, gdNil, Tg.bind, Tg.binds, setV, putMo, gRet, gPass, M.gSet, setM, storeR, gFz, gFrz, M.gLst, M.gTup, valsR, gSl, slM, gPt, gNoP, fSl, gAnd, gOr, gNot, gTru, truM, tru, gAndV, gOrV, gNotV, stays, gIf, gDrop, gRcv, isL, gApp, gMeth, methM, tyD, gFn, callM, argsOf, argOf, brws, nodupN, putBack, Ret.res, gFnK, allVal, Perm.swap, Perm.id, swapL, gChain, gChain3, blM, gRaise, fAdd, fSub, fLt, fInt, fLen, fDivmod, fMod, fFdiv, fMax2, fIsi, isB, gPar, fEq, fNe, eqM, eqS, keyD, gItems, itemsM, tupItems, lstItems, gFor, gEnum, gRange1, sizeLine, noE, anyItems, dctItems, gDct, gDct0, gDctE, flatP, M.pairD, gAll, gFnM, fEqK, fNeK, fMulS, fStrB, fTuple, fDict, gIsT, isAny, fMul, gYes, gNever, finR, gHeardB, atI, ixN, e1, e2, e3]
theorem nb1_ok {w : Str} (hw : Nm w) (hi : 0 ≤ i) (h6 : x6 = .un ∨ ∃ d, x6 = .val d) : ∃ l, isLo l = true ∧
    nb_1 c [.par m, .val (.int k), .val (.str nmL), .own (.l (ws.map .str)), .val (.int i), .val (.str w), x6, .un, .un] = some (.ok .nx [.par m, .val (.int k), .val (.str nmL), .own (.l (ws.map .str)), .val (.int i), .val (.str w), .own (.l ((near w l).map .str)), .un, .un]) := by
  obtain ⟨l, e1, hl⟩ := atI_in (xs := nmL.cps.toList) (v := i % 26) (Int.emod_nonneg _ (by decide)) (by
    have : nmL.cps.toList.length = 26 := by decide +kernel
    rw [this]; exact Int.emod_lt_of_pos _ (by decide))
  refine ⟨l, abc_lo l hl, ?_⟩
  have hw1 : w.length ≤ 16777216 := by have := hw.2.1; omega
  have hL : nmL.length ≤ 16777216 := by decide
  have e2 : nmNear c [.par m, .val (.int k), .val (.str nmL), .own (.l (ws.map .str)), .val (.int i), .val (.str w), x6, .un, .un] = some (.ok (.new (.l ((nmL.cps.toList.map (extS w l)).map D.str))) [.par m, .val (.int k), .val (.str nmL), .own (.l (ws.map .str)), .val (.int i), .val (.str w), x6, .un, .un]) := by
    unfold nmNear
    refine (lc_map 7 (ρ := [.par m, .val (.int k), .val (.str nmL), .own (.l (ws.map .str)), .val (.int i), .val (.str w), x6, .un, .un]) (nmL.cps.toList.map fun c => D.str ⟨#[c]⟩) (fun d => match d with
      | .str z => .str (cutS w none (some 10) ++ ⟨#[l]⟩ ++ z)
      | d => d) (by simp) (by simp) (items_ok (d := .str nmL) (by simp [gSeq, gIfS, gBl, gOp, gVar, gC, EM.bind, EM.pure, EM.lift, op2, op1, gUn, view, moAt, Slot.mo?, Mo.view, fIx, fII, gAsg, gCall, M.gCons, M.gNil, consM, opL, views, aliveR, gdTup, gdCons, gdSub, gdNil, Tg.bind, Tg.binds, setV, putMo, gRet, gPass, M.gSet, setM, storeR, gFz, gFrz, M.gLst, M.gTup, valsR, gSl, slM, gPt, gNoP, fSl, gAnd, gOr, gNot, gTru, truM, tru, gAndV, gOrV, gNotV, stays, gIf, gDrop, gRcv, isL, gApp, gMeth, methM, tyD, gFn, callM, argsOf, argOf, brws, nodupN, putBack, Ret.res, gFnK, allVal, Perm.swap, Perm.id, swapL, gChain, gChain3, blM, gRaise, fAdd, fSub, fLt, fInt, fLen, fDivmod, fMod, fFdiv, fMax2, fIsi, isB, gPar, fEq, fNe, eqM, eqS, keyD, gItems, itemsM, tupItems, lstItems, gFor, gEnum, gRange1, sizeLine, noE, anyItems, dctItems, gDct, gDct0, gDctE, flatP, M.pairD, gAll, gFnM, fEqK, fNeK, fMulS, fStrB, fTuple, fDict, gIsT, isAny, fMul, gYes, gNever, finR, gHeardB, atI, ixN]) rfl) (by rw [List.length_map]; decide +kernel) fun d hd => ?_).trans ?_
    · obtain ⟨x, hx, rfl⟩ := List.mem_map.mp hd
      have c1 := (cut10 w).1
      have z1 : (cutS w none (some 10)).length + (⟨#[l]⟩ : Str).length ≤ 16777216 := by rw [one_len]; omega
      have z2 : (cutS w none (some 10)).length + (⟨#[l]⟩ : Str).length + (⟨#[x]⟩ : Str).length ≤ 16777216 := by rw [one_len, one_len]; omega
      simp [gSeq, gIfS, gBl, gOp, gVar, gC, EM.bind, EM.pure, EM.lift, op2, op1, gUn, view, moAt, Slot.mo?, Mo.view, fIx, fII, gAsg, gCall, M.gCons, M.gNil, consM, opL, views, aliveR, gdTup, gdCons, gdSub, gdNil, Tg.bind, Tg.binds, setV, putMo, gRet, gPass, M.gSet, setM, storeR, gFz, gFrz, M.gLst, M.gTup, valsR, gSl, slM, gPt, gNoP, fSl, gAnd, gOr, gNot, gTru, truM, tru, gAndV, gOrV, gNotV, stays, gIf, gDrop, gRcv, isL, gApp, gMeth, methM, tyD, gFn, callM, argsOf, argOf, brws, nodupN, putBack, Ret.res, gFnK, allVal, Perm.swap, Perm.id, swapL, gChain, gChain3, blM, gRaise, fAdd, fSub, fLt, fInt, fLen, fDivmod, fMod, fFdiv, fMax2, fIsi, isB, gPar, fEq, fNe, eqM, eqS, keyD, gItems, itemsM, tupItems, lstItems, gFor, gEnum, gRange1, sizeLine, noE, anyItems, dctItems, gDct, gDct0, gDctE, flatP, M.pairD, gAll, gFnM, fEqK, fNeK, fMulS, fStrB, fTuple, fDict, gIsT, isAny, fMul, gYes, gNever, finR, gHeardB, hw1, hL, e1, z1, z2, Str.length_append]
    · simp [extS, Function.comp_def]
  have hz : nmL.cps.size = 26 := by decide +kernel
  unfold nb_1
  rcases h6 with rfl | ⟨d, rfl⟩ <;> simp [gSeq, gIfS, gBl, gOp, gVar, gC, EM.bind, EM.pure, EM.lift, op2, op1, gUn, view, moAt, Slot.mo?, Mo.view, fIx, fII, gAsg, gCall, M.gCons, M.gNil, consM, opL, views, aliveR, gdTup, gdCons, gdSub, gdNil, Tg.bind, Tg.binds, setV, putMo, gRet, gPass, M.gSet, setM, storeR, gFz, gFrz, M.gLst, M.gTup, valsR, gSl, slM, gPt, gNoP, fSl, gAnd, gOr, gNot, gTru, truM, tru, gAndV, gOrV, gNotV, stays, gIf, gDrop, gRcv, isL, gApp, gMeth, methM, tyD, gFn, callM, argsOf, argOf, brws, nodupN, putBack, Ret.res, gFnK, allVal, Perm.swap, Perm.id, swapL, gChain, gChain3, blM, gRaise, fAdd, fSub, fLt, fInt, fLen, fDivmod, fMod, fFdiv, fMax2, fIsi, isB, gPar, fEq, fNe, eqM, eqS, keyD, gItems, itemsM, tupItems, lstItems, gFor, gEnum, gRange1, sizeLine, noE, anyItems, dctItems, gDct, gDct0, gDctE, flatP, M.pairD, gAll, gFnM, fEqK, fNeK, fMulS, fStrB, fTuple, fDict, gIsT, isAny, fMul, gYes, gNever, finR, gHeardB, atI, ixN, e2, near, hz]
theorem nb2_ok {w : Str} {l : Nat} (hw : Nm w) (hl : isLo l = true) (hs : NmS ws) (hk : ws.length ≤ 4) : ∃ s, NmS (ws ++ [s]) ∧
    nb_2 c [.par m, .val (.int k), .val (.str nmL), .own (.l (ws.map .str)), .val (.int i), .val (.str w), .own (.l ((near w l).map .str)), .un, .un] = some (.ok .nx [.par m, .val (.int k), .val (.str nmL), .own (.l ((ws ++ [s]).map .str)), .val (.int i), .val (.str w), .val (.lst ((near w l).map .str)), .un, .un]) := by
  obtain ⟨s, r, e⟩ := pick_one (w := w) (l := l) hk
  have hm : s ∈ (near w l).filter (fun s => !ws.contains s && !bads.contains s) := by rw [e]; exact List.mem_cons_self
  obtain ⟨m1, m2⟩ := List.mem_filter.mp hm
  have hn : s ∉ ws := fun z => by simp [z] at m2
  refine ⟨s, ⟨List.nodup_append.mpr ⟨hs.1, by simp, fun a ha b hb => by rw [List.mem_singleton.mp hb]; exact fun q => hn (by rw [← q]; exact ha)⟩, fun z hz => ?_⟩, ?_⟩
  · rcases List.mem_append.mp hz with hz | hz
    · exact hs.2 z hz
    · rw [List.mem_singleton.mp hz]; exact near_nm hw hl s m1
  have e2 : nmOwn c [.par m, .val (.int k), .val (.str nmL), .own (.l (ws.map .str)), .val (.int i), .val (.str w), .own (.l ((near w l).map .str)), .un, .un] = some (.ok (.new (.l ((s :: r).map .str))) [.par m, .val (.int k), .val (.str nmL), .own (.l (ws.map .str)), .val (.int i), .val (.str w), .val (.lst ((near w l).map .str)), .un, .un]) := by
    unfold nmOwn
    refine (lc_fm 8 (ρ := [.par m, .val (.int k), .val (.str nmL), .own (.l (ws.map .str)), .val (.int i), .val (.str w), .val (.lst ((near w l).map .str)), .un, .un]) ((near w l).map D.str) (pD ws) (fun d => d) (by simp) (by simp) (items_ok (d := .lst ((near w l).map .str)) (by simp [gSeq, gIfS, gBl, gOp, gVar, gC, EM.bind, EM.pure, EM.lift, op2, op1, gUn, view, moAt, Slot.mo?, Mo.view, fIx, fII, gAsg, gCall, M.gCons, M.gNil, consM, opL, views, aliveR, gdTup, gdCons, gdSub, gdNil, Tg.bind, Tg.binds, setV, putMo, gRet, gPass, M.gSet, setM, storeR, gFz, gFrz, M.gLst, M.gTup, valsR, gSl, slM, gPt, gNoP, fSl, gAnd, gOr, gNot, gTru, truM, tru, gAndV, gOrV, gNotV, stays, gIf, gDrop, gRcv, isL, gApp, gMeth, methM, tyD, gFn, callM, argsOf, argOf, brws, nodupN, putBack, Ret.res, gFnK, allVal, Perm.swap, Perm.id, swapL, gChain, gChain3, blM, gRaise, fAdd, fSub, fLt, fInt, fLen, fDivmod, fMod, fFdiv, fMax2, fIsi, isB, gPar, fEq, fNe, eqM, eqS, keyD, gItems, itemsM, tupItems, lstItems, gFor, gEnum, gRange1, sizeLine, noE, anyItems, dctItems, gDct, gDct0, gDctE, flatP, M.pairD, gAll, gFnM, fEqK, fNeK, fMulS, fStrB, fTuple, fDict, gIsT, isAny, fMul, gYes, gNever, finR, gHeardB, atI, ixN]) rfl) (by rw [List.length_map]; unfold near; rw [List.length_cons, List.length_map]; decide +kernel) fun d hd => ?_).trans ?_
    · obtain ⟨x, hx, rfl⟩ := List.mem_map.mp hd
      have i1 := fIn_lst x ws true
      have i2 := fIn_tup x bads true
      simp [bads] at i2
      refine ⟨?_, fun _ => by simp [gSeq, gIfS, gBl, gOp, gVar, gC, EM.bind, EM.pure, EM.lift, op2, op1, gUn, view, moAt, Slot.mo?, Mo.view, fIx, fII, gAsg, gCall, M.gCons, M.gNil, consM, opL, views, aliveR, gdTup, gdCons, gdSub, gdNil, Tg.bind, Tg.binds, setV, putMo, gRet, gPass, M.gSet, setM, storeR, gFz, gFrz, M.gLst, M.gTup, valsR, gSl, slM, gPt, gNoP, fSl, gAnd, gOr, gNot, gTru, truM, tru, gAndV, gOrV, gNotV, stays, gIf, gDrop, gRcv, isL, gApp, gMeth, methM, tyD, gFn, callM, argsOf, argOf, brws, nodupN, putBack, Ret.res, gFnK, allVal, Perm.swap, Perm.id, swapL, gChain, gChain3, blM, gRaise, fAdd, fSub, fLt, fInt, fLen, fDivmod, fMod, fFdiv, fMax2, fIsi, isB, gPar, fEq, fNe, eqM, eqS, keyD, gItems, itemsM, tupItems, lstItems, gFor, gEnum, gRange1, sizeLine, noE, anyItems, dctItems, gDct, gDct0, gDctE, flatP, M.pairD, gAll, gFnM, fEqK, fNeK, fMulS, fStrB, fTuple, fDict, gIsT, isAny, fMul, gYes, gNever, finR, gHeardB, atI, ixN]⟩
      by_cases hxw : x ∈ ws <;> simp [gSeq, gIfS, gBl, gOp, gVar, gC, EM.bind, EM.pure, EM.lift, op2, op1, gUn, view, moAt, Slot.mo?, Mo.view, fIx, fII, gAsg, gCall, M.gCons, M.gNil, consM, opL, views, aliveR, gdTup, gdCons, gdSub, gdNil, Tg.bind, Tg.binds, setV, putMo, gRet, gPass, M.gSet, setM, storeR, gFz, gFrz, M.gLst, M.gTup, valsR, gSl, slM, gPt, gNoP, fSl, gAnd, gOr, gNot, gTru, truM, tru, gAndV, gOrV, gNotV, stays, gIf, gDrop, gRcv, isL, gApp, gMeth, methM, tyD, gFn, callM, argsOf, argOf, brws, nodupN, putBack, Ret.res, gFnK, allVal, Perm.swap, Perm.id, swapL, gChain, gChain3, blM, gRaise, fAdd, fSub, fLt, fInt, fLen, fDivmod, fMod, fFdiv, fMax2, fIsi, isB, gPar, fEq, fNe, eqM, eqS, keyD, gItems, itemsM, tupItems, lstItems, gFor, gEnum, gRange1, sizeLine, noE, anyItems, dctItems, gDct, gDct0, gDctE, flatP, M.pairD, gAll, gFnM, fEqK, fNeK, fMulS, fStrB, fTuple, fDict, gIsT, isAny, fMul, gYes, gNever, finR, gHeardB, atI, ixN, i1, i2, pD, hxw, bads]
    · rw [List.map_id', List.filter_map]
      have : (near w l).filter (pD ws ∘ D.str) = s :: r := e
      rw [this]
      simp
  have hlt : ws.length < 16777216 := by omega
  unfold nb_2
  simp [gSeq, gIfS, gBl, gOp, gVar, gC, EM.bind, EM.pure, EM.lift, op2, op1, gUn, view, moAt, Slot.mo?, Mo.view, fIx, fII, gAsg, gCall, M.gCons, M.gNil, consM, opL, views, aliveR, gdTup, gdCons, gdSub, gdNil, Tg.bind, Tg.binds, setV, putMo, gRet, gPass, M.gSet, setM, storeR, gFz, gFrz, M.gLst, M.gTup, valsR, gSl, slM, gPt, gNoP, fSl, gAnd, gOr, gNot, gTru, truM, tru, gAndV, gOrV, gNotV, stays, gIf, gDrop, gRcv, isL, gApp, gMeth, methM, tyD, gFn, callM, argsOf, argOf, brws, nodupN, putBack, Ret.res, gFnK, allVal, Perm.swap, Perm.id, swapL, gChain, gChain3, blM, gRaise, fAdd, fSub, fLt, fInt, fLen, fDivmod, fMod, fFdiv, fMax2, fIsi, isB, gPar, fEq, fNe, eqM, eqS, keyD, gItems, itemsM, tupItems, lstItems, gFor, gEnum, gRange1, sizeLine, noE, anyItems, dctItems, gDct, gDct0, gDctE, flatP, M.pairD, gAll, gFnM, fEqK, fNeK, fMulS, fStrB, fTuple, fDict, gIsT, isAny, fMul, gYes, gNever, finR, gHeardB, atI, ixN, e2, hlt]
end
def Xs (x4 x5 x6 : Slot) : Prop := (x4 = .un ∧ x5 = .un ∧ x6 = .un) ∨ ∃ a b d, x4 = .val a ∧ x5 = .val b ∧ x6 = .val d
theorem names_ok (c : Ads) {n : Nat} {m : Mo} {k : Int} (h : WOk n m) (hn : n ≤ 70000000) (hk0 : 0 ≤ k) (hk : k ≤ 4) : ∃ (ws : List Str) (m' : Mo), m__law_names c [.par m, .val (.int k)] = some (.ok (.new (.l (ws.map .str))) [.par m', .val (.int k)]) ∧ ws.length = k.toNat ∧ NmS ws ∧ WOk (n + 60) m' := by
  obtain ⟨ρ', e2, m', ws, x4, x5, x6, rfl, hx, hl, hs, w2⟩ := loopF_inv (t := .nm 4) (body := (gSeq (gSet 5 (gFn 2 (m__law_any c) (gCons (gVar 0) (gCons (gFrz (gLst (gCons (gFrz (gFn 1 (m__law_name c) (gCons (gVar 0) gNil))) (gCons (gFrz (gFn 2 (m__law_any c) (gCons (gVar 0) (gCons (gFrz (gLst (gCons (gC (.str "id")) (gCons (gC (.str "k")) (gCons (gC (.str "list")) (gCons (gC (.str "text")) (gCons (gC (.str "number")) (gCons (gC (.str "by")) (gCons (gC (.str "if")) (gCons (gC (.str "end")) (gCons (gC (.str "null")) (gCons (gC (.str "size")) (gCons (gC (.str "sum")) (gCons (gC (.str "h")) (gCons (gC (.str "hre")) (gCons (gC (.str "hrefs")) (gCons (gC (.str "datas")) (gCons (gC (.str "dat")) gNil)))))))))))))))))) gNil)))) gNil)))) gNil))))
    (gSeq (gSet 6 (gOp fAdd (gLst (gCons (gFz 5) gNil)) (nmNear c)))
    (gDrop (gRcv 3 (gApp 3 (gOp fIx (nmOwn c) (gC (.int 0)))))))))
    (fun j ρ => ∃ (m : Mo) (ws : List Str) (x4 x5 x6 : Slot), ρ = [.par m, .val (.int k), .val (.str nmL), .own (.l (ws.map .str)), x4, x5, x6, .un, .un] ∧ Xs x4 x5 x6 ∧ ws.length = j ∧ NmS ws ∧ WOk (n + 15 * j) m)
    (upto k) 0 [.par m, .val (.int k), .val (.str nmL), .own (.l []), .un, .un, .un, .un, .un] (by
    rintro j ρ d hd hj ⟨m, ws, x4, x5, x6, rfl, hx, hl, hs, w⟩
    rw [upto_len] at hj
    obtain ⟨i, rfl, hi⟩ := upto_mem hd
    have h5 : x5 = .un ∨ ∃ d, x5 = .val d := by
      rcases hx with ⟨_, h, _⟩ | ⟨_, b, _, _, h, _⟩
      · exact .inl h
      · exact .inr ⟨b, h⟩
    have h6 : x6 = .un ∨ ∃ d, x6 = .val d := by
      rcases hx with ⟨_, _, h⟩ | ⟨_, _, b, _, _, h⟩
      · exact .inl h
      · exact .inr ⟨b, h⟩
    obtain ⟨w1, m1, a1, a2, a3⟩ := nb0_ok c (k := k) (ws := ws) (i := i) (x5 := x5) (x6 := x6) w (by omega) h5
    obtain ⟨l, b1, b2⟩ := nb1_ok c (m := m1) (k := k) (ws := ws) (i := i) (x6 := x6) a1 (by omega) h6
    obtain ⟨s, d1, d2⟩ := nb2_ok c (m := m1) (k := k) (ws := ws) (i := i) a1 b1 hs (by omega)
    refine ⟨[.par m, .val (.int k), .val (.str nmL), .own (.l (ws.map .str)), .val (.int i), x5, x6, .un, .un], _, ?_, .inl ((congrFun (nb_eq c) _).trans ((seq_nx a3).trans ((seq_nx b2).trans d2))), m1, ws ++ [s], _, _, _, rfl, .inr ⟨_, _, _, rfl, rfl, rfl⟩, by simp [hl], d1, a2.mono (by omega)⟩
    rcases hx with ⟨rfl, _, _⟩ | ⟨_, _, _, rfl, _, _⟩ <;> rfl) ⟨m, [], _, _, _, rfl, .inl ⟨rfl, rfl, rfl⟩, rfl, ⟨List.nodup_nil, fun s hs => by cases hs⟩, h.mono (by omega)⟩
  rw [upto_len] at hl w2
  refine ⟨ws, m', ?_, by omega, hs, w2.mono (by omega)⟩
  have s0 : ns_0 c [.par m, .val (.int k), .un, .un, .un, .un, .un, .un, .un] = some (.ok .nx [.par m, .val (.int k), .val (.str nmL), .own (.l []), .un, .un, .un, .un, .un]) := by
    unfold ns_0 nmL
    simp [gSeq, gIfS, gBl, gOp, gVar, gC, EM.bind, EM.pure, EM.lift, op2, op1, gUn, view, moAt, Slot.mo?, Mo.view, fIx, fII, gAsg, gCall, M.gCons, M.gNil, consM, opL, views, aliveR, gdTup, gdCons, gdSub, gdNil, Tg.bind, Tg.binds, setV, putMo, gRet, gPass, M.gSet, setM, storeR, gFz, gFrz, M.gLst, M.gTup, valsR, gSl, slM, gPt, gNoP, fSl, gAnd, gOr, gNot, gTru, truM, tru, gAndV, gOrV, gNotV, stays, gIf, gDrop, gRcv, isL, gApp, gMeth, methM, tyD, gFn, callM, argsOf, argOf, brws, nodupN, putBack, Ret.res, gFnK, allVal, Perm.swap, Perm.id, swapL, gChain, gChain3, blM, gRaise, fAdd, fSub, fLt, fInt, fLen, fDivmod, fMod, fFdiv, fMax2, fIsi, isB, gPar, fEq, fNe, eqM, eqS, keyD, gItems, itemsM, tupItems, lstItems, gFor, gEnum, gRange1, sizeLine, noE, anyItems, dctItems, gDct, gDct0, gDctE, flatP, M.pairD, gAll, gFnM, fEqK, fNeK, fMulS, fStrB, fTuple, fDict, gIsT, isAny, fMul, gYes, gNever, finR, gHeardB, atI, ixN]
  have s1 : ns_1 c [.par m, .val (.int k), .val (.str nmL), .own (.l []), .un, .un, .un, .un, .un] = some (.ok .nx [.par m', .val (.int k), .val (.str nmL), .own (.l (ws.map .str)), x4, x5, x6, .un, .un]) := by
    unfold ns_1
    exact (for_at (range_ok (k := k) (by simp [gSeq, gIfS, gBl, gOp, gVar, gC, EM.bind, EM.pure, EM.lift, op2, op1, gUn, view, moAt, Slot.mo?, Mo.view, fIx, fII, gAsg, gCall, M.gCons, M.gNil, consM, opL, views, aliveR, gdTup, gdCons, gdSub, gdNil, Tg.bind, Tg.binds, setV, putMo, gRet, gPass, M.gSet, setM, storeR, gFz, gFrz, M.gLst, M.gTup, valsR, gSl, slM, gPt, gNoP, fSl, gAnd, gOr, gNot, gTru, truM, tru, gAndV, gOrV, gNotV, stays, gIf, gDrop, gRcv, isL, gApp, gMeth, methM, tyD, gFn, callM, argsOf, argOf, brws, nodupN, putBack, Ret.res, gFnK, allVal, Perm.swap, Perm.id, swapL, gChain, gChain3, blM, gRaise, fAdd, fSub, fLt, fInt, fLen, fDivmod, fMod, fFdiv, fMax2, fIsi, isB, gPar, fEq, fNe, eqM, eqS, keyD, gItems, itemsM, tupItems, lstItems, gFor, gEnum, gRange1, sizeLine, noE, anyItems, dctItems, gDct, gDct0, gDctE, flatP, M.pairD, gAll, gFnM, fEqK, fNeK, fMulS, fStrB, fTuple, fDict, gIsT, isAny, fMul, gYes, gNever, finR, gHeardB, atI, ixN]) (by omega) (by omega))).trans e2
  unfold m__law_names runM
  rw [ns_eq]
  have e := (seq_nx (g2 := gSeq (ns_1 c) (ns_2 c)) s0).trans (seq_nx (g2 := ns_2 c) s1)
  have s2 : ns_2 c [.par m', .val (.int k), .val (.str nmL), .own (.l (ws.map .str)), x4, x5, x6, .un, .un] = some (.ok (.rt (.brw 3)) [.par m', .val (.int k), .val (.str nmL), .own (.l (ws.map .str)), x4, x5, x6, .un, .un]) := by
    unfold ns_2
    simp [gSeq, gIfS, gBl, gOp, gVar, gC, EM.bind, EM.pure, EM.lift, op2, op1, gUn, view, moAt, Slot.mo?, Mo.view, fIx, fII, gAsg, gCall, M.gCons, M.gNil, consM, opL, views, aliveR, gdTup, gdCons, gdSub, gdNil, Tg.bind, Tg.binds, setV, putMo, gRet, gPass, M.gSet, setM, storeR, gFz, gFrz, M.gLst, M.gTup, valsR, gSl, slM, gPt, gNoP, fSl, gAnd, gOr, gNot, gTru, truM, tru, gAndV, gOrV, gNotV, stays, gIf, gDrop, gRcv, isL, gApp, gMeth, methM, tyD, gFn, callM, argsOf, argOf, brws, nodupN, putBack, Ret.res, gFnK, allVal, Perm.swap, Perm.id, swapL, gChain, gChain3, blM, gRaise, fAdd, fSub, fLt, fInt, fLen, fDivmod, fMod, fFdiv, fMax2, fIsi, isB, gPar, fEq, fNe, eqM, eqS, keyD, gItems, itemsM, tupItems, lstItems, gFor, gEnum, gRange1, sizeLine, noE, anyItems, dctItems, gDct, gDct0, gDctE, flatP, M.pairD, gAll, gFnM, fEqK, fNeK, fMulS, fStrB, fTuple, fDict, gIsT, isAny, fMul, gYes, gNever, finR, gHeardB, atI, ixN]
  rw [s2] at e
  show (match gSeq (ns_0 c) (gSeq (ns_1 c) (ns_2 c)) [.par m, .val (.int k), .un, .un, .un, .un, .un, .un, .un] with
    | some (.ok .nx ρ) => _
    | some (.ok (.rt (.val d)) ρ) => _
    | some (.ok (.rt (.new m)) ρ) => _
    | some (.ok (.rt (.brw i)) ρ) => _
    | some (.ex C fs ρ) => _
    | _ => _) = _
  rw [e]
  rfl
end My

namespace My
open PySem PySem.Spec PyProof.Rows L2 M
/-! drawn values -/
def LfW (w : Nat) : D → Prop
  | .non => True
  | .bl _ => True
  | .int i => -(10 ^ 20) ≤ i ∧ i ≤ 10 ^ 20
  | .str z => Tx (12 * w) z
  | _ => False
abbrev Lf : D → Prop := LfW 6
def VlW (w : Nat) : Nat → D → Prop
  | 0, d => LfW w d
  | n + 1, d => LfW w d ∨ (∃ ds, d = .tup ds ∧ ds.length ≤ w ∧ ∀ x ∈ ds, VlW w n x) ∨ ∃ ps : List (Str × D), d = .dct (toK ps) ∧ NmS (ps.map (·.1)) ∧ ps.length ≤ w ∧ ∀ p ∈ ps, VlW w n p.2
abbrev Vl : Nat → D → Prop := VlW 6
theorem LfW.wide {w v : Nat} {d : D} (h : LfW w d) (hw : w ≤ v) : LfW v d := by
  cases d with
  | str z => exact ⟨Nat.le_trans h.1 (by omega), h.2⟩
  | _ => exact h
theorem VlW.wide {w v : Nat} (hw : w ≤ v) : ∀ {n : Nat} {d : D}, VlW w n d → VlW v n d
  | 0, d, h => LfW.wide h hw
  | n + 1, d, h => by
    rcases h with h | ⟨ds, rfl, h1, h2⟩ | ⟨ps, rfl, h1, h2, h3⟩
    · exact .inl (h.wide hw)
    · exact .inr (.inl ⟨ds, rfl, by omega, fun x hx => (h2 x hx).wide hw⟩)
    · exact .inr (.inr ⟨ps, rfl, h1, by omega, fun x hx => (h3 x hx).wide hw⟩)
theorem VlW.leaf {w n : Nat} {d : D} (h : LfW w d) : VlW w n d := by cases n with
  | zero => exact h
  | succ n => exact .inl h
theorem VlW.mono {w : Nat} : ∀ {n k : Nat} {d : D}, VlW w n d → n ≤ k → VlW w k d
  | 0, k, d, h, _ => .leaf h
  | n + 1, 0, d, h, hk => by omega
  | n + 1, k + 1, d, h, hk => by
    rcases h with h | ⟨ds, rfl, h1, h2⟩ | ⟨ps, rfl, h1, h2, h3⟩
    · exact .inl h
    · exact .inr (.inl ⟨ds, rfl, h1, fun x hx => (h2 x hx).mono (by omega)⟩)
    · exact .inr (.inr ⟨ps, rfl, h1, h2, fun x hx => (h3 x hx).mono (by omega)⟩)
def Dn (n : Nat) : Nat := 100 * 4 ^ n
theorem dn_succ (n : Nat) : Dn (n + 1) = 4 * Dn n := by unfold Dn; rw [Nat.pow_succ]; omega
theorem dn_pos (n : Nat) : 100 ≤ Dn n := by
  unfold Dn
  have : 0 < 4 ^ n := Nat.pos_of_ne_zero (by simp)
  omega
/-- what a call gives, seen as data -/
def RV (r : Ret) (d : D) : Prop := r = .val d ∨ ∃ kvs, r = .new (.d kvs) ∧ d = .dct kvs
def avT (c : Ads) (n : Nat) : EM Res := (gLc (gRange1 (gCons (gFn 2 (m__law_any c) (gCons (gVar 0) (gCons (gFrz (gLst (gCons (gC (.int 0)) (gCons (gC (.int 1)) (gCons (gC (.int 2)) (gCons (gC (.int 3)) gNil)))))) gNil))) gNil)) (.nm 3) [3] gYes (gFrz (gFn 2 (m__law_any_value c n) (gCons (gVar 0) (gCons (gFrz (gOp fSub (gVar 1) (gC (.int 1)))) gNil)))))
def avD (c : Ads) (n : Nat) : EM Res := (gLc (gItems anyItems (gFz 4)) (.nm 5) [5] gYes (gTup (gCons (gFz 5) (gCons (gFrz (gFn 2 (m__law_any_value c n) (gCons (gVar 0) (gCons (gFrz (gOp fSub (gVar 1) (gC (.int 1)))) gNil)))) gNil))))
def av_0 (c : Ads) : EM Fl := (gSet 2 (gFn 2 (m__law_deal c) (gCons (gVar 0) (gCons (gC (.int 9)) gNil))))
def av_1 (c : Ads) (n : Nat) : EM Fl := (gIfS (gAnd (gBl (gOp fGt (gVar 1) (gC (.int 0)))) (gBl (gOp fLt (gVar 2) (gC (.int 2)))))
    (gRet (gCall fTuple (gCons (avT c n) gNil)))
    gPass)
def av_2 (c : Ads) (n : Nat) : EM Fl := (gIfS (gAnd (gBl (gOp fGt (gVar 1) (gC (.int 0)))) (gBl (gOp fLt (gVar 2) (gC (.int 4)))))
    (gSeq (gSet 4 (gFn 2 (m__law_names c) (gCons (gVar 0) (gCons (gFrz (gFn 2 (m__law_any c) (gCons (gVar 0) (gCons (gFrz (gLst (gCons (gC (.int 0)) (gCons (gC (.int 1)) (gCons (gC (.int 2)) (gCons (gC (.int 3)) gNil)))))) gNil)))) gNil))))
    (gRet (gCall fDict (gCons (avD c n) gNil))))
    gPass)
def av_3 (c : Ads) : EM Fl := (gRet (gFn 2 (m__law_any c) (gCons (gVar 0) (gCons (gFrz (gLst (gCons (gC .non) (gCons (gC (.bl true)) (gCons (gC (.bl false)) (gCons (gFrz (gFn 1 (m__law_number c) (gCons (gVar 0) gNil))) (gCons (gFrz (gFn 2 (m__law_text c) (gCons (gVar 0) (gCons (gC (.int 5)) gNil)))) (gCons (gC (.str "")) gNil)))))))) gNil))))
theorem av_eq (c : Ads) (n : Nat) : m__law_any_value c (n + 1) = runM 6 (gSeq (av_0 c) (gSeq (av_1 c n) (gSeq (av_2 c n) (av_3 c)))) := rfl
theorem leaf_ok (c : Ads) {k : Nat} {m : Mo} (h : WOk k m) (hk : k ≤ 60000000) (deep : Int) (s2 s3 s4 s5 : Slot) : ∃ d m', av_3 c [.par m, .val (.int deep), s2, s3, s4, s5] = some (.ok (.rt (.val d)) [.par m', .val (.int deep), s2, s3, s4, s5]) ∧ LfW 5 d ∧ WOk (k + 14) m' := by
  obtain ⟨i, m1, e1, hi, w1⟩ := number_ok c h (by omega)
  obtain ⟨s, m2, e2, hs, w2⟩ := text_ok c w1 (by omega)
  obtain ⟨d, m3, e3, hd, w3⟩ := any_ok c (ds := [.non, .bl true, .bl false, .int i, .str s, .str ""]) w2 (by omega) (by simp) (by simp)
  refine ⟨d, m3, ?_, ?_, w3⟩
  · unfold av_3
    simp [gSeq, gIfS, gBl, gOp, gVar, gC, EM.bind, EM.pure, EM.lift, op2, op1, gUn, view, moAt, Slot.mo?, Mo.view, fIx, fII, gAsg, gCall, M.gCons, M.gNil, consM, opL, views, aliveR, gdTup, gdCons, gdSub, gdNil, Tg.bind, Tg.binds, setV, putMo, gRet, gPass, M.gSet, setM, storeR, gFz, gFrz, M.gLst, M.gTup, valsR, gSl, slM, gPt, gNoP, fSl, gAnd, gOr, gNot, gTru, truM, tru, gAndV, gOrV, gNotV, stays, gIf, gDrop, gRcv, isL, gApp, gMeth, methM, tyD, gFn, callM, argsOf, argOf, brws, nodupN, putBack, Ret.res, gFnK, allVal, Perm.swap, Perm.id, swapL, gChain, gChain3, blM, gRaise, fAdd, fSub, fLt, fInt, fLen, fDivmod, fMod, fFdiv, fMax2, fIsi, isB, gPar, fEq, fNe, eqM, eqS, keyD, gItems, itemsM, tupItems, lstItems, gFor, gEnum, gRange1, sizeLine, noE, anyItems, dctItems, gDct, gDct0, gDctE, flatP, M.pairD, gAll, gFnM, fEqK, fNeK, fMulS, fStrB, fTuple, fDict, gIsT, isAny, fMul, gYes, gNever, finR, gHeardB, atI, ixN, e1, e2, e3]
  · simp only [List.mem_cons, List.not_mem_nil, or_false] at hd
    unfold Nu at hi
    rcases hd with rfl | rfl | rfl | rfl | rfl | rfl
    · trivial
    · trivial
    · trivial
    · exact ⟨by omega, by omega⟩
    · exact ⟨by have := hs.1; omega, hs.2⟩
    · exact ⟨by decide, allC_lit (by decide +kernel)⟩
theorem few_ok (c : Ads) {k : Nat} {m : Mo} (h : WOk k m) (hk : k ≤ 90000000) : ∃ (i : Int) (m' : Mo), m__law_any c [.par m, .val (.lst [.int 0, .int 1, .int 2, .int 3])] = some (.ok (.val (.int i)) [.par m', .val (.lst [.int 0, .int 1, .int 2, .int 3])]) ∧ 0 ≤ i ∧ i ≤ 3 ∧ WOk (k + 1) m' := by
  obtain ⟨d, m1, e1, hd, w1⟩ := any_ok c (ds := [.int 0, .int 1, .int 2, .int 3]) h (by omega) (by simp) (by simp)
  simp only [List.mem_cons, List.not_mem_nil, or_false] at hd
  rcases hd with rfl | rfl | rfl | rfl <;> exact ⟨_, m1, e1, by decide, by decide, w1⟩
theorem value_ok (c : Ads) : ∀ (n f k : Nat) (m : Mo), n < f → n ≤ 4 → WOk k m → k + Dn n ≤ 50000000 → ∃ r d m', m__law_any_value c f [.par m, .val (.int n)] = some (.ok r [.par m', .val (.int n)]) ∧ RV r d ∧ VlW 5 n d ∧ WOk (k + Dn n) m'
  | _, 0, _, _, h, _, _, _ => by omega
  | n, f + 1, k, m, hf, hn, w, hk => by
    obtain ⟨sort, m1, e1, o1, o2, w1⟩ := deal_ok c (top := 9) w (by omega) (by decide) (by decide)
    have tp := dn_pos n
    have s0 : av_0 c [.par m, .val (.int n), .un, .un, .un, .un] = some (.ok .nx [.par m1, .val (.int n), .val (.int sort), .un, .un, .un]) := by
      unfold av_0
      simp [gSeq, gIfS, gBl, gOp, gVar, gC, EM.bind, EM.pure, EM.lift, op2, op1, gUn, view, moAt, Slot.mo?, Mo.view, fIx, fII, gAsg, gCall, M.gCons, M.gNil, consM, opL, views, aliveR, gdTup, gdCons, gdSub, gdNil, Tg.bind, Tg.binds, setV, putMo, gRet, gPass, M.gSet, setM, storeR, gFz, gFrz, M.gLst, M.gTup, valsR, gSl, slM, gPt, gNoP, fSl, gAnd, gOr, gNot, gTru, truM, tru, gAndV, gOrV, gNotV, stays, gIf, gDrop, gRcv, isL, gApp, gMeth, methM, tyD, gFn, callM, argsOf, argOf, brws, nodupN, putBack, Ret.res, gFnK, allVal, Perm.swap, Perm.id, swapL, gChain, gChain3, blM, gRaise, fAdd, fSub, fLt, fInt, fLen, fDivmod, fMod, fFdiv, fMax2, fIsi, isB, gPar, fEq, fNe, eqM, eqS, keyD, gItems, itemsM, tupItems, lstItems, gFor, gEnum, gRange1, sizeLine, noE, anyItems, dctItems, gDct, gDct0, gDctE, flatP, M.pairD, gAll, gFnM, fEqK, fNeK, fMulS, fStrB, fTuple, fDict, gIsT, isAny, fMul, gYes, gNever, finR, gHeardB, atI, ixN, e1]
    have leaf : ∀ s : En, (gSeq (av_0 c) (gSeq (av_1 c f) (gSeq (av_2 c f) (av_3 c)))) [.par m, .val (.int n), .un, .un, .un, .un] = av_3 c [.par m1, .val (.int n), .val (.int sort), .un, .un, .un] → ∃ r d m', m__law_any_value c (f + 1) [.par m, .val (.int n)] = some (.ok r [.par m', .val (.int n)]) ∧ RV r d ∧ VlW 5 n d ∧ WOk (k + Dn n) m' := fun _ e => by
      obtain ⟨d, m2, e2, hd, w2⟩ := leaf_ok c w1 (by omega) n (.val (.int sort)) .un .un .un
      refine ⟨.val d, d, m2, ?_, .inl rfl, .leaf hd, w2.mono (by omega)⟩
      rw [av_eq]
      exact run_nx (N := 6) (as := [.par m, .val (.int n)]) (r := .val d) (ρ := [.par m2, .val (.int n), .val (.int sort), .un, .un, .un]) (e.trans e2)
    by_cases c0 : 0 < (n : Int) ∧ sort < 2
    · -- a tuple
      obtain ⟨n, rfl⟩ : ∃ q, n = q + 1 := ⟨n - 1, by omega⟩
      obtain ⟨q, m2, e2, q0, q3, w2⟩ := few_ok c w1 (by omega)
      have ts := dn_succ n
      have tp' := dn_pos n
      obtain ⟨acc, m3, e3, l3, j1, w3⟩ := lc_draw 3 (gi := (gRange1 (gCons (gFn 2 (m__law_any c) (gCons (gVar 0) (gCons (gFrz (gLst (gCons (gC (.int 0)) (gCons (gC (.int 1)) (gCons (gC (.int 2)) (gCons (gC (.int 3)) gNil)))))) gNil))) gNil))) (ge := (gFrz (gFn 2 (m__law_any_value c f) (gCons (gVar 0) (gCons (gFrz (gOp fSub (gVar 1) (gC (.int 1)))) gNil))))) (ρ1 := [.par m1, .val (.int ((n + 1 : Nat) : Int)), .val (.int sort), .un, .un, .un])
        (rest := [.val (.int ((n + 1 : Nat) : Int)), .val (.int sort), .un, .un, .un]) (m := m2) (upto q) (fun acc m => (∀ x ∈ acc, VlW 5 n x) ∧ WOk (k + 2 + acc.length * Dn n) m) (by decide) (by simp) (by simp)
        (range_ok (k := q) (by simp [gSeq, gIfS, gBl, gOp, gVar, gC, EM.bind, EM.pure, EM.lift, op2, op1, gUn, view, moAt, Slot.mo?, Mo.view, fIx, fII, gAsg, gCall, M.gCons, M.gNil, consM, opL, views, aliveR, gdTup, gdCons, gdSub, gdNil, Tg.bind, Tg.binds, setV, putMo, gRet, gPass, M.gSet, setM, storeR, gFz, gFrz, M.gLst, M.gTup, valsR, gSl, slM, gPt, gNoP, fSl, gAnd, gOr, gNot, gTru, truM, tru, gAndV, gOrV, gNotV, stays, gIf, gDrop, gRcv, isL, gApp, gMeth, methM, tyD, gFn, callM, argsOf, argOf, brws, nodupN, putBack, Ret.res, gFnK, allVal, Perm.swap, Perm.id, swapL, gChain, gChain3, blM, gRaise, fAdd, fSub, fLt, fInt, fLen, fDivmod, fMod, fFdiv, fMax2, fIsi, isB, gPar, fEq, fNe, eqM, eqS, keyD, gItems, itemsM, tupItems, lstItems, gFor, gEnum, gRange1, sizeLine, noE, anyItems, dctItems, gDct, gDct0, gDctE, flatP, M.pairD, gAll, gFnM, fEqK, fNeK, fMulS, fStrB, fTuple, fDict, gIsT, isAny, fMul, gYes, gNever, finR, gHeardB, atI, ixN, e2]) (by omega) (by omega)) (by rw [upto_len, sizeLine_eq]; omega) ⟨fun x hx => (by cases hx), by simpa using w2⟩ (by
        rintro acc m d hd ⟨j1, w3⟩
        have hl : acc.length < (upto q).length := (List.getElem?_eq_some_iff.mp hd).1
        rw [upto_len] at hl
        have hm : acc.length * Dn n ≤ 2 * Dn n := Nat.mul_le_mul_right _ (by omega)
        obtain ⟨r, d', m4, e4, rv, v4, w4⟩ := value_ok c n f _ m (by omega) (by omega) w3 (by omega)
        refine ⟨d', m4, ?_, fun x hx => ?_, w4.mono (by rw [List.length_append, List.length_singleton, Nat.succ_mul]; omega)⟩
        · have en : ((n + 1 : Nat) : Int) - 1 = (n : Int) := by omega
          rcases rv with rfl | ⟨kvs, rfl, rfl⟩ <;> simp [gSeq, gIfS, gBl, gOp, gVar, gC, EM.bind, EM.pure, EM.lift, op2, op1, gUn, view, moAt, Slot.mo?, Mo.view, fIx, fII, gAsg, gCall, M.gCons, M.gNil, consM, opL, views, aliveR, gdTup, gdCons, gdSub, gdNil, Tg.bind, Tg.binds, setV, putMo, gRet, gPass, M.gSet, setM, storeR, gFz, gFrz, M.gLst, M.gTup, valsR, gSl, slM, gPt, gNoP, fSl, gAnd, gOr, gNot, gTru, truM, tru, gAndV, gOrV, gNotV, stays, gIf, gDrop, gRcv, isL, gApp, gMeth, methM, tyD, gFn, callM, argsOf, argOf, brws, nodupN, putBack, Ret.res, gFnK, allVal, Perm.swap, Perm.id, swapL, gChain, gChain3, blM, gRaise, fAdd, fSub, fLt, fInt, fLen, fDivmod, fMod, fFdiv, fMax2, fIsi, isB, gPar, fEq, fNe, eqM, eqS, keyD, gItems, itemsM, tupItems, lstItems, gFor, gEnum, gRange1, sizeLine, noE, anyItems, dctItems, gDct, gDct0, gDctE, flatP, M.pairD, gAll, gFnM, fEqK, fNeK, fMulS, fStrB, fTuple, fDict, gIsT, isAny, fMul, gYes, gNever, finR, gHeardB, atI, ixN, en, e4]
        · rcases List.mem_append.mp hx with hx | hx
          · exact j1 x hx
          · rw [List.mem_singleton.mp hx]; exact v4)
      have s1 : av_1 c f [.par m1, .val (.int ((n + 1 : Nat) : Int)), .val (.int sort), .un, .un, .un] = some (.ok (.rt (.val (.tup acc))) [.par m3, .val (.int ((n + 1 : Nat) : Int)), .val (.int sort), .un, .un, .un]) := by
        have e3' : avT c f [.par m1, .val (.int ((n + 1 : Nat) : Int)), .val (.int sort), .un, .un, .un] = some (.ok (.new (.l acc)) [.par m3, .val (.int ((n + 1 : Nat) : Int)), .val (.int sort), .un, .un, .un]) := e3
        unfold av_1
        have c1 : (0 : Int) < (n : Int) + 1 := by omega
        simp [gSeq, gIfS, gBl, gOp, gVar, gC, EM.bind, EM.pure, EM.lift, op2, op1, gUn, view, moAt, Slot.mo?, Mo.view, fIx, fII, gAsg, gCall, M.gCons, M.gNil, consM, opL, views, aliveR, gdTup, gdCons, gdSub, gdNil, Tg.bind, Tg.binds, setV, putMo, gRet, gPass, M.gSet, setM, storeR, gFz, gFrz, M.gLst, M.gTup, valsR, gSl, slM, gPt, gNoP, fSl, gAnd, gOr, gNot, gTru, truM, tru, gAndV, gOrV, gNotV, stays, gIf, gDrop, gRcv, isL, gApp, gMeth, methM, tyD, gFn, callM, argsOf, argOf, brws, nodupN, putBack, Ret.res, gFnK, allVal, Perm.swap, Perm.id, swapL, gChain, gChain3, blM, gRaise, fAdd, fSub, fLt, fInt, fLen, fDivmod, fMod, fFdiv, fMax2, fIsi, isB, gPar, fEq, fNe, eqM, eqS, keyD, gItems, itemsM, tupItems, lstItems, gFor, gEnum, gRange1, sizeLine, noE, anyItems, dctItems, gDct, gDct0, gDctE, flatP, M.pairD, gAll, gFnM, fEqK, fNeK, fMulS, fStrB, fTuple, fDict, gIsT, isAny, fMul, gYes, gNever, finR, gHeardB, atI, ixN, c0.2, c1] at e3' ⊢
        simp [gSeq, gIfS, gBl, gOp, gVar, gC, EM.bind, EM.pure, EM.lift, op2, op1, gUn, view, moAt, Slot.mo?, Mo.view, fIx, fII, gAsg, gCall, M.gCons, M.gNil, consM, opL, views, aliveR, gdTup, gdCons, gdSub, gdNil, Tg.bind, Tg.binds, setV, putMo, gRet, gPass, M.gSet, setM, storeR, gFz, gFrz, M.gLst, M.gTup, valsR, gSl, slM, gPt, gNoP, fSl, gAnd, gOr, gNot, gTru, truM, tru, gAndV, gOrV, gNotV, stays, gIf, gDrop, gRcv, isL, gApp, gMeth, methM, tyD, gFn, callM, argsOf, argOf, brws, nodupN, putBack, Ret.res, gFnK, allVal, Perm.swap, Perm.id, swapL, gChain, gChain3, blM, gRaise, fAdd, fSub, fLt, fInt, fLen, fDivmod, fMod, fFdiv, fMax2, fIsi, isB, gPar, fEq, fNe, eqM, eqS, keyD, gItems, itemsM, tupItems, lstItems, gFor, gEnum, gRange1, sizeLine, noE, anyItems, dctItems, gDct, gDct0, gDctE, flatP, M.pairD, gAll, gFnM, fEqK, fNeK, fMulS, fStrB, fTuple, fDict, gIsT, isAny, fMul, gYes, gNever, finR, gHeardB, atI, ixN, e3']
      refine ⟨.val (.tup acc), .tup acc, m3, ?_, .inl rfl, .inr (.inl ⟨acc, rfl, by rw [upto_len] at l3; omega, j1⟩), w3.mono ?_⟩
      · rw [av_eq]
        refine run_nx (r := .val (.tup acc)) (ρ := [.par m3, .val (.int ((n + 1 : Nat) : Int)), .val (.int sort), .un, .un, .un]) ((seq_nx s0).trans ?_)
        unfold gSeq
        rw [s1]
        rfl
      · rw [upto_len] at l3
        have hm : acc.length * Dn n ≤ 3 * Dn n := Nat.mul_le_mul_right _ (by omega)
        omega
    · have s1 : av_1 c f [.par m1, .val (.int n), .val (.int sort), .un, .un, .un] = some (.ok .nx [.par m1, .val (.int n), .val (.int sort), .un, .un, .un]) := by
        unfold av_1
        by_cases q : 0 < n
        · have q2 : ¬ sort < 2 := fun z => c0 ⟨by omega, z⟩
          simp [gSeq, gIfS, gBl, gOp, gVar, gC, EM.bind, EM.pure, EM.lift, op2, op1, gUn, view, moAt, Slot.mo?, Mo.view, fIx, fII, gAsg, gCall, M.gCons, M.gNil, consM, opL, views, aliveR, gdTup, gdCons, gdSub, gdNil, Tg.bind, Tg.binds, setV, putMo, gRet, gPass, M.gSet, setM, storeR, gFz, gFrz, M.gLst, M.gTup, valsR, gSl, slM, gPt, gNoP, fSl, gAnd, gOr, gNot, gTru, truM, tru, gAndV, gOrV, gNotV, stays, gIf, gDrop, gRcv, isL, gApp, gMeth, methM, tyD, gFn, callM, argsOf, argOf, brws, nodupN, putBack, Ret.res, gFnK, allVal, Perm.swap, Perm.id, swapL, gChain, gChain3, blM, gRaise, fAdd, fSub, fLt, fInt, fLen, fDivmod, fMod, fFdiv, fMax2, fIsi, isB, gPar, fEq, fNe, eqM, eqS, keyD, gItems, itemsM, tupItems, lstItems, gFor, gEnum, gRange1, sizeLine, noE, anyItems, dctItems, gDct, gDct0, gDctE, flatP, M.pairD, gAll, gFnM, fEqK, fNeK, fMulS, fStrB, fTuple, fDict, gIsT, isAny, fMul, gYes, gNever, finR, gHeardB, atI, ixN, q, q2]
        · simp [gSeq, gIfS, gBl, gOp, gVar, gC, EM.bind, EM.pure, EM.lift, op2, op1, gUn, view, moAt, Slot.mo?, Mo.view, fIx, fII, gAsg, gCall, M.gCons, M.gNil, consM, opL, views, aliveR, gdTup, gdCons, gdSub, gdNil, Tg.bind, Tg.binds, setV, putMo, gRet, gPass, M.gSet, setM, storeR, gFz, gFrz, M.gLst, M.gTup, valsR, gSl, slM, gPt, gNoP, fSl, gAnd, gOr, gNot, gTru, truM, tru, gAndV, gOrV, gNotV, stays, gIf, gDrop, gRcv, isL, gApp, gMeth, methM, tyD, gFn, callM, argsOf, argOf, brws, nodupN, putBack, Ret.res, gFnK, allVal, Perm.swap, Perm.id, swapL, gChain, gChain3, blM, gRaise, fAdd, fSub, fLt, fInt, fLen, fDivmod, fMod, fFdiv, fMax2, fIsi, isB, gPar, fEq, fNe, eqM, eqS, keyD, gItems, itemsM, tupItems, lstItems, gFor, gEnum, gRange1, sizeLine, noE, anyItems, dctItems, gDct, gDct0, gDctE, flatP, M.pairD, gAll, gFnM, fEqK, fNeK, fMulS, fStrB, fTuple, fDict, gIsT, isAny, fMul, gYes, gNever, finR, gHeardB, atI, ixN, q]
      by_cases c1 : 0 < (n : Int) ∧ sort < 4
      · -- a record
        obtain ⟨n, rfl⟩ : ∃ q, n = q + 1 := ⟨n - 1, by omega⟩
        obtain ⟨q, m2, e2, q0, q3, w2⟩ := few_ok c w1 (by omega)
        obtain ⟨ws, m3, e3, l3, hs, w3⟩ := names_ok c w2 (by omega) q0 (by omega)
        have ts := dn_succ n
        have tp' := dn_pos n
        let ρ2 : List Slot := [.val (.int ((n + 1 : Nat) : Int)), .val (.int sort), .un, .val (.lst (ws.map .str)), .un]
        obtain ⟨acc, m4, e4, l4, ps, rfl, j1, j2, w4⟩ := lc_draw 5 (gi := (gItems anyItems (gFz 4))) (ge := (gTup (gCons (gFz 5) (gCons (gFrz (gFn 2 (m__law_any_value c f) (gCons (gVar 0) (gCons (gFrz (gOp fSub (gVar 1) (gC (.int 1)))) gNil)))) gNil)))) (ρ1 := [.par m3, .val (.int ((n + 1 : Nat) : Int)), .val (.int sort), .un, .own (.l (ws.map .str)), .un])
          (rest := ρ2) (m := m3) (ws.map D.str) (fun acc m => ∃ ps : List (Str × D), acc = toT ps ∧ ps.map (·.1) = ws.take ps.length ∧ (∀ p ∈ ps, VlW 5 n p.2) ∧ WOk (k + 62 + ps.length * Dn n) m) (by decide) (by simp [ρ2]) (by simp [ρ2])
          (items_ok (d := .lst (ws.map .str)) (by simp [gSeq, gIfS, gBl, gOp, gVar, gC, EM.bind, EM.pure, EM.lift, op2, op1, gUn, view, moAt, Slot.mo?, Mo.view, fIx, fII, gAsg, gCall, M.gCons, M.gNil, consM, opL, views, aliveR, gdTup, gdCons, gdSub, gdNil, Tg.bind, Tg.binds, setV, putMo, gRet, gPass, M.gSet, setM, storeR, gFz, gFrz, M.gLst, M.gTup, valsR, gSl, slM, gPt, gNoP, fSl, gAnd, gOr, gNot, gTru, truM, tru, gAndV, gOrV, gNotV, stays, gIf, gDrop, gRcv, isL, gApp, gMeth, methM, tyD, gFn, callM, argsOf, argOf, brws, nodupN, putBack, Ret.res, gFnK, allVal, Perm.swap, Perm.id, swapL, gChain, gChain3, blM, gRaise, fAdd, fSub, fLt, fInt, fLen, fDivmod, fMod, fFdiv, fMax2, fIsi, isB, gPar, fEq, fNe, eqM, eqS, keyD, gItems, itemsM, tupItems, lstItems, gFor, gEnum, gRange1, sizeLine, noE, anyItems, dctItems, gDct, gDct0, gDctE, flatP, M.pairD, gAll, gFnM, fEqK, fNeK, fMulS, fStrB, fTuple, fDict, gIsT, isAny, fMul, gYes, gNever, finR, gHeardB, atI, ixN, ρ2]) rfl) (by rw [List.length_map, l3, sizeLine_eq]; omega) ⟨[], rfl, rfl, fun p hp => (by cases hp), w3.mono (by simp)⟩ (by
          rintro acc m d hd ⟨ps, rfl, j1, j2, w4⟩
          have lt : (toT ps).length = ps.length := by simp [toT]
          rw [lt, List.getElem?_map, Option.map_eq_some_iff] at hd
          obtain ⟨x, hx, rfl⟩ := hd
          have hl : ps.length < ws.length := (List.getElem?_eq_some_iff.mp hx).1
          have hm : ps.length * Dn n ≤ 2 * Dn n := Nat.mul_le_mul_right _ (by omega)
          obtain ⟨r, d', m5, e5, rv, v5, w5⟩ := value_ok c n f _ m (by omega) (by omega) w4 (by omega)
          refine ⟨.tup [.str x, d'], m5, ?_, ps ++ [(x, d')], by simp [toT], ?_, fun p hp => ?_, w5.mono (by rw [List.length_append, List.length_singleton, Nat.succ_mul]; omega)⟩
          · have en : ((n + 1 : Nat) : Int) - 1 = (n : Int) := by omega
            rcases rv with rfl | ⟨kvs, rfl, rfl⟩ <;> simp [gSeq, gIfS, gBl, gOp, gVar, gC, EM.bind, EM.pure, EM.lift, op2, op1, gUn, view, moAt, Slot.mo?, Mo.view, fIx, fII, gAsg, gCall, M.gCons, M.gNil, consM, opL, views, aliveR, gdTup, gdCons, gdSub, gdNil, Tg.bind, Tg.binds, setV, putMo, gRet, gPass, M.gSet, setM, storeR, gFz, gFrz, M.gLst, M.gTup, valsR, gSl, slM, gPt, gNoP, fSl, gAnd, gOr, gNot, gTru, truM, tru, gAndV, gOrV, gNotV, stays, gIf, gDrop, gRcv, isL, gApp, gMeth, methM, tyD, gFn, callM, argsOf, argOf, brws, nodupN, putBack, Ret.res, gFnK, allVal, Perm.swap, Perm.id, swapL, gChain, gChain3, blM, gRaise, fAdd, fSub, fLt, fInt, fLen, fDivmod, fMod, fFdiv, fMax2, fIsi, isB, gPar, fEq, fNe, eqM, eqS, keyD, gItems, itemsM, tupItems, lstItems, gFor, gEnum, gRange1, sizeLine, noE, anyItems, dctItems, gDct, gDct0, gDctE, flatP, M.pairD, gAll, gFnM, fEqK, fNeK, fMulS, fStrB, fTuple, fDict, gIsT, isAny, fMul, gYes, gNever, finR, gHeardB, atI, ixN, en, e5, ρ2]
          · rw [List.map_append, j1, List.length_append, List.length_singleton, List.take_add_one, hx]
            rfl
          · rcases List.mem_append.mp hp with hp | hp
            · exact j2 p hp
            · rw [List.mem_singleton.mp hp]; exact v5)
        have lp : ps.length = ws.length := by simpa [toT] using l4
        rw [lp, List.take_length] at j1
        have nd : (ps.map (·.1)).Nodup := by rw [j1]; exact hs.1
        have s2 : av_2 c f [.par m1, .val (.int ((n + 1 : Nat) : Int)), .val (.int sort), .un, .un, .un] = some (.ok (.rt (.new (.d (toK ps)))) [.par m4, .val (.int ((n + 1 : Nat) : Int)), .val (.int sort), .un, .val (.lst (ws.map .str)), .un]) := by
          have e4' : avD c f [.par m3, .val (.int ((n + 1 : Nat) : Int)), .val (.int sort), .un, .own (.l (ws.map .str)), .un] = some (.ok (.new (.l (toT ps))) [.par m4, .val (.int ((n + 1 : Nat) : Int)), .val (.int sort), .un, .val (.lst (ws.map .str)), .un]) := e4
          have md : mergeD [] (toK ps) = toK ps := mergeD_app _ _ (by rw [List.nil_append, toK_keys]; exact nodup_inr nd)
          unfold av_2
          have c2 : (0 : Int) < (n : Int) + 1 := by omega
          simp [gSeq, gIfS, gBl, gOp, gVar, gC, EM.bind, EM.pure, EM.lift, op2, op1, gUn, view, moAt, Slot.mo?, Mo.view, fIx, fII, gAsg, gCall, M.gCons, M.gNil, consM, opL, views, aliveR, gdTup, gdCons, gdSub, gdNil, Tg.bind, Tg.binds, setV, putMo, gRet, gPass, M.gSet, setM, storeR, gFz, gFrz, M.gLst, M.gTup, valsR, gSl, slM, gPt, gNoP, fSl, gAnd, gOr, gNot, gTru, truM, tru, gAndV, gOrV, gNotV, stays, gIf, gDrop, gRcv, isL, gApp, gMeth, methM, tyD, gFn, callM, argsOf, argOf, brws, nodupN, putBack, Ret.res, gFnK, allVal, Perm.swap, Perm.id, swapL, gChain, gChain3, blM, gRaise, fAdd, fSub, fLt, fInt, fLen, fDivmod, fMod, fFdiv, fMax2, fIsi, isB, gPar, fEq, fNe, eqM, eqS, keyD, gItems, itemsM, tupItems, lstItems, gFor, gEnum, gRange1, sizeLine, noE, anyItems, dctItems, gDct, gDct0, gDctE, flatP, M.pairD, gAll, gFnM, fEqK, fNeK, fMulS, fStrB, fTuple, fDict, gIsT, isAny, fMul, gYes, gNever, finR, gHeardB, atI, ixN, c1.2, c2, e2, e3] at e4' ⊢
          simp [gSeq, gIfS, gBl, gOp, gVar, gC, EM.bind, EM.pure, EM.lift, op2, op1, gUn, view, moAt, Slot.mo?, Mo.view, fIx, fII, gAsg, gCall, M.gCons, M.gNil, consM, opL, views, aliveR, gdTup, gdCons, gdSub, gdNil, Tg.bind, Tg.binds, setV, putMo, gRet, gPass, M.gSet, setM, storeR, gFz, gFrz, M.gLst, M.gTup, valsR, gSl, slM, gPt, gNoP, fSl, gAnd, gOr, gNot, gTru, truM, tru, gAndV, gOrV, gNotV, stays, gIf, gDrop, gRcv, isL, gApp, gMeth, methM, tyD, gFn, callM, argsOf, argOf, brws, nodupN, putBack, Ret.res, gFnK, allVal, Perm.swap, Perm.id, swapL, gChain, gChain3, blM, gRaise, fAdd, fSub, fLt, fInt, fLen, fDivmod, fMod, fFdiv, fMax2, fIsi, isB, gPar, fEq, fNe, eqM, eqS, keyD, gItems, itemsM, tupItems, lstItems, gFor, gEnum, gRange1, sizeLine, noE, anyItems, dctItems, gDct, gDct0, gDctE, flatP, M.pairD, gAll, gFnM, fEqK, fNeK, fMulS, fStrB, fTuple, fDict, gIsT, isAny, fMul, gYes, gNever, finR, gHeardB, atI, ixN, e4', lstOf, pairsD_toT, md]
        refine ⟨.new (.d (toK ps)), .dct (toK ps), m4, ?_, .inr ⟨_, rfl, rfl⟩, .inr (.inr ⟨ps, rfl, by rw [j1]; exact hs, by omega, j2⟩), w4.mono ?_⟩
        · rw [av_eq]
          refine run_nx (r := .new (.d (toK ps))) (ρ := [.par m4, .val (.int ((n + 1 : Nat) : Int)), .val (.int sort), .un, .val (.lst (ws.map .str)), .un]) ((seq_nx s0).trans ((seq_nx s1).trans ?_))
          unfold gSeq
          rw [s2]
          rfl
        · have hm : ps.length * Dn n ≤ 3 * Dn n := Nat.mul_le_mul_right _ (by omega)
          omega
      · have s2 : av_2 c f [.par m1, .val (.int n), .val (.int sort), .un, .un, .un] = some (.ok .nx [.par m1, .val (.int n), .val (.int sort), .un, .un, .un]) := by
          unfold av_2
          by_cases q : 0 < n
          · have q2 : ¬ sort < 4 := fun z => c1 ⟨by omega, z⟩
            simp [gSeq, gIfS, gBl, gOp, gVar, gC, EM.bind, EM.pure, EM.lift, op2, op1, gUn, view, moAt, Slot.mo?, Mo.view, fIx, fII, gAsg, gCall, M.gCons, M.gNil, consM, opL, views, aliveR, gdTup, gdCons, gdSub, gdNil, Tg.bind, Tg.binds, setV, putMo, gRet, gPass, M.gSet, setM, storeR, gFz, gFrz, M.gLst, M.gTup, valsR, gSl, slM, gPt, gNoP, fSl, gAnd, gOr, gNot, gTru, truM, tru, gAndV, gOrV, gNotV, stays, gIf, gDrop, gRcv, isL, gApp, gMeth, methM, tyD, gFn, callM, argsOf, argOf, brws, nodupN, putBack, Ret.res, gFnK, allVal, Perm.swap, Perm.id, swapL, gChain, gChain3, blM, gRaise, fAdd, fSub, fLt, fInt, fLen, fDivmod, fMod, fFdiv, fMax2, fIsi, isB, gPar, fEq, fNe, eqM, eqS, keyD, gItems, itemsM, tupItems, lstItems, gFor, gEnum, gRange1, sizeLine, noE, anyItems, dctItems, gDct, gDct0, gDctE, flatP, M.pairD, gAll, gFnM, fEqK, fNeK, fMulS, fStrB, fTuple, fDict, gIsT, isAny, fMul, gYes, gNever, finR, gHeardB, atI, ixN, q, q2]
          · simp [gSeq, gIfS, gBl, gOp, gVar, gC, EM.bind, EM.pure, EM.lift, op2, op1, gUn, view, moAt, Slot.mo?, Mo.view, fIx, fII, gAsg, gCall, M.gCons, M.gNil, consM, opL, views, aliveR, gdTup, gdCons, gdSub, gdNil, Tg.bind, Tg.binds, setV, putMo, gRet, gPass, M.gSet, setM, storeR, gFz, gFrz, M.gLst, M.gTup, valsR, gSl, slM, gPt, gNoP, fSl, gAnd, gOr, gNot, gTru, truM, tru, gAndV, gOrV, gNotV, stays, gIf, gDrop, gRcv, isL, gApp, gMeth, methM, tyD, gFn, callM, argsOf, argOf, brws, nodupN, putBack, Ret.res, gFnK, allVal, Perm.swap, Perm.id, swapL, gChain, gChain3, blM, gRaise, fAdd, fSub, fLt, fInt, fLen, fDivmod, fMod, fFdiv, fMax2, fIsi, isB, gPar, fEq, fNe, eqM, eqS, keyD, gItems, itemsM, tupItems, lstItems, gFor, gEnum, gRange1, sizeLine, noE, anyItems, dctItems, gDct, gDct0, gDctE, flatP, M.pairD, gAll, gFnM, fEqK, fNeK, fMulS, fStrB, fTuple, fDict, gIsT, isAny, fMul, gYes, gNever, finR, gHeardB, atI, ixN, q]
        exact leaf [] ((seq_nx s0).trans ((seq_nx s1).trans (seq_nx s2)))
end My

namespace My
open PySem PySem.Spec PyProof.Rows L2 M
/-! values that are the same -/
def EqS (R : D → D → Prop) : D → D → Prop
  | .non, .non => True
  | .bl a, .bl b => a = b
  | .int a, .int b => a = b
  | .str a, .str b => a = b
  | .tup xs, .tup ys => xs.length = ys.length ∧ ∀ (i : Nat) (x y : D), xs[i]? = some x → ys[i]? = some y → R x y
  | .dct a, .dct b => ∀ k, (lookD a k = none ∧ lookD b k = none) ∨ ∃ x y, lookD a k = some x ∧ lookD b k = some y ∧ R x y
  | _, _ => False
def Eqv : Nat → D → D → Prop
  | 0 => EqS fun _ _ => False
  | n + 1 => EqS (Eqv n)
theorem EqS.symm {R : D → D → Prop} (h : ∀ a b, R a b → R b a) {a b : D} (e : EqS R a b) : EqS R b a := by
  cases a <;> cases b <;> first | exact e.elim | exact Eq.symm (show _ = _ from e) | trivial | skip
  · exact ⟨e.1.symm, fun i x y h1 h2 => h _ _ (e.2 i y x h2 h1)⟩
  · intro k
    rcases e k with ⟨h1, h2⟩ | ⟨x, y, h1, h2, r⟩
    · exact .inl ⟨h2, h1⟩
    · exact .inr ⟨y, x, h2, h1, h _ _ r⟩
theorem EqS.trans {R : D → D → Prop} (h : ∀ a b c, R a b → R b c → R a c) {a b c : D} (e : EqS R a b) (g : EqS R b c) : EqS R a c := by
  cases a <;> cases b <;> first | exact e.elim | skip
  all_goals cases c <;> first | exact g.elim | trivial | exact Eq.trans (show _ = _ from e) (show _ = _ from g) | skip
  · refine ⟨e.1.trans g.1, fun i x z h1 h2 => ?_⟩
    have hl := (List.getElem?_eq_some_iff.mp h1).1
    rw [e.1] at hl
    exact h _ _ _ (e.2 i x _ h1 (List.getElem?_eq_getElem hl)) (g.2 i _ z (List.getElem?_eq_getElem hl) h2)
  · intro k
    rcases e k with ⟨h1, h2⟩ | ⟨x, y, h1, h2, r⟩
    · rcases g k with ⟨h3, h4⟩ | ⟨u, v, h3, h4, r'⟩
      · exact .inl ⟨h1, h4⟩
      · rw [h2] at h3; cases h3
    · rcases g k with ⟨h3, h4⟩ | ⟨u, v, h3, h4, r'⟩
      · rw [h2] at h3; cases h3
      · rw [h2] at h3; cases h3
        exact .inr ⟨x, v, h1, h4, h _ _ _ r r'⟩
theorem Eqv.symm : ∀ {n : Nat} {a b : D}, Eqv n a b → Eqv n b a
  | 0, a, b, h => EqS.symm (R := fun _ _ => False) (fun _ _ z => z) h
  | n + 1, a, b, h => EqS.symm (R := Eqv n) (fun _ _ z => Eqv.symm z) h
theorem Eqv.trans : ∀ {n : Nat} {a b c : D}, Eqv n a b → Eqv n b c → Eqv n a c
  | 0, a, b, c, h, g => EqS.trans (R := fun _ _ => False) (fun _ _ _ z _ => z) h g
  | n + 1, a, b, c, h, g => EqS.trans (R := Eqv n) (fun _ _ _ z w => Eqv.trans z w) h g
theorem EqS.leaf {R : D → D → Prop} {d : D} (h : Lf d) : EqS R d d := by
  cases d <;> first | exact h.elim | exact rfl | trivial
theorem Eqv.leaf {n : Nat} {d : D} (h : Lf d) : Eqv n d d := by
  cases n <;> exact EqS.leaf h
theorem lookup_mem {x : Str} {y : D} : ∀ {ps : List (Str × D)}, ps.lookup x = some y → (x, y) ∈ ps
  | [], h => by cases h
  | p :: ps, h => by
    rw [List.lookup_cons] at h
    by_cases e : (x == p.1) = true
    · rw [e] at h
      have h' : p.2 = y := Option.some.inj h
      have : x = p.1 := by simpa using e
      rw [this, ← h']
      exact List.mem_cons_self
    · have e' : (x == p.1) = false := by simpa using e
      rw [e'] at h
      exact List.mem_cons_of_mem _ (lookup_mem h)
theorem lookup_of_mem {x : Str} {y : D} : ∀ {ps : List (Str × D)}, (ps.map (·.1)).Nodup → (x, y) ∈ ps → ps.lookup x = some y
  | [], _, h => by cases h
  | p :: ps, nd, h => by
    rw [List.lookup_cons]
    rw [List.map_cons, List.nodup_cons] at nd
    rcases List.mem_cons.mp h with e | h
    · rw [← e]; simp
    · have hne : ¬ x = p.1 := fun e => nd.1 (by rw [← e]; exact List.mem_map.mpr ⟨_, h, rfl⟩)
      have e' : (x == p.1) = false := by simpa using hne
      rw [e']
      exact lookup_of_mem nd.2 h
theorem lookup_none {x : Str} : ∀ {ps : List (Str × D)}, ps.lookup x = none ↔ x ∉ ps.map (·.1)
  | [] => by simp
  | p :: ps => by
    rw [List.lookup_cons, List.map_cons, List.mem_cons, not_or]
    by_cases e : x = p.1
    · rw [← e]; simp
    · have e' : (x == p.1) = false := by simpa using e
      rw [e']
      exact ⟨fun h => ⟨e, lookup_none.mp h⟩, fun h => lookup_none.mpr h.2⟩
theorem look_inl (i : Int) : ∀ ps : List (Str × D), lookD (toK ps) (.inl i) = none
  | [] => rfl
  | p :: ps => by
    have := look_inl i ps
    unfold lookD toK at this ⊢
    rw [List.map_cons, List.find?_cons]
    have : decide ((Sum.inr p.1 : Key) = Sum.inl i) = false := decide_eq_false fun q => by cases q
    rw [this]
    assumption
/-- records of the same names, part by part -/
theorem eq_dct {R : D → D → Prop} {ps qs : List (Str × D)} : EqS R (.dct (toK ps)) (.dct (toK qs)) ↔ ∀ x, (ps.lookup x = none ∧ qs.lookup x = none) ∨ ∃ a b, ps.lookup x = some a ∧ qs.lookup x = some b ∧ R a b := by
  constructor
  · intro h x
    have := h (.inr x)
    rw [look_toK, look_toK] at this
    exact this
  · intro h k
    cases k with
    | inl i => exact .inl ⟨look_inl i ps, look_inl i qs⟩
    | inr x =>
      rw [look_toK, look_toK]
      exact h x

/-! shuffled -/
theorem erase_perm {α : Type} {d : α} : ∀ {l : List α} {j : Nat}, l[j]? = some d → l.Perm (d :: l.eraseIdx j)
  | [], _, h => by cases h
  | x :: l, 0, h => by
    have : x = d := by simpa using h
    rw [this]; exact List.Perm.refl _
  | x :: l, j + 1, h => by
    have := erase_perm (l := l) (j := j) (by simpa using h)
    exact (this.cons x).trans (List.Perm.swap ..)
def sh_0 (c : Ads) : EM Fl := (gPar 2 3 (gCons (gCall fList (gCons (gVar 1) gNil)) (gCons (gLst gNil) gNil)))
def sh_1 (c : Ads) : EM Fl := (gFor (gRange1 (gCons (gCall fLen (gCons (gVar 2) gNil)) gNil)) (.nm 4)
    (gDrop (gRcv 3 (gApp 3 (gFrz (gRcv 2 (gPopAt 2 (gFn 2 (m__law_deal c) (gCons (gVar 0) (gCons (gCall fLen (gCons (gVar 2) gNil)) gNil))))))))))
def sh_2 (c : Ads) : EM Fl := (gRet (gVar 3))
theorem sh_eq (c : Ads) : b__law_shuffled c = (gSeq (sh_0 c) (gSeq (sh_1 c) (sh_2 c))) := rfl
theorem shuffled_ok (c : Ads) {n : Nat} {m : Mo} {ds : List D} (h : WOk n m) (hn : n ≤ 90000000) (hl : ds.length ≤ 1000) : ∃ (es : List D) (m' : Mo), m__law_shuffled c [.par m, .val (.lst ds)] = some (.ok (.new (.l es)) [.par m', .val (.lst ds)]) ∧ es.Perm ds ∧ WOk (n + ds.length) m' := by
  obtain ⟨ρ', e2, m', rs, fs, x, rfl, hx, hp, l2, w2⟩ := loopF_inv (t := .nm 4) (body := (gDrop (gRcv 3 (gApp 3 (gFrz (gRcv 2 (gPopAt 2 (gFn 2 (m__law_deal c) (gCons (gVar 0) (gCons (gCall fLen (gCons (gVar 2) gNil)) gNil))))))))))
    (fun j ρ => ∃ (m : Mo) (rs fs : List D) (x : Slot), ρ = [.par m, .val (.lst ds), .own (.l rs), .own (.l fs), x] ∧ (∀ q, x ≠ .par q) ∧ (fs ++ rs).Perm ds ∧ fs.length = j ∧ WOk (n + j) m)
    (upto ds.length) 0 [.par m, .val (.lst ds), .own (.l ds), .own (.l []), .un] (by
    rintro j ρ d hd hj ⟨m, rs, fs, x, rfl, hx, hp, l, w⟩
    rw [upto_len] at hj
    have hpl := hp.length_eq
    rw [List.length_append] at hpl
    obtain ⟨v, m2, e, v0, v1, w2⟩ := deal_ok c (top := rs.length) w (by omega) (by omega) (by omega)
    obtain ⟨y, e3, _⟩ := atI_in (xs := rs) v0 v1
    obtain ⟨k, e4, e5, _⟩ := atI_get e3
    refine ⟨[.par m, .val (.lst ds), .own (.l rs), .own (.l fs), .val d], [.par m2, .val (.lst ds), .own (.l (rs.eraseIdx k)), .own (.l (fs ++ [y])), .val d], ?_, .inl ?_, m2, _, _, _, rfl, fun q => by simp, ?_, by simp [l], w2⟩
    · cases x <;> first | rfl | exact absurd rfl (hx _)
    · have b1 : -9223372036854775808 ≤ v ∧ v < 9223372036854775808 := by omega
      have b2 : fs.length < 16777216 := by omega
      simp [gSeq, gIfS, gBl, gOp, gVar, gC, EM.bind, EM.pure, EM.lift, op2, op1, gUn, view, moAt, Slot.mo?, Mo.view, fIx, fII, gAsg, gCall, M.gCons, M.gNil, consM, opL, views, aliveR, gdTup, gdCons, gdSub, gdNil, Tg.bind, Tg.binds, setV, putMo, gRet, gPass, M.gSet, setM, storeR, gFz, gFrz, M.gLst, M.gTup, valsR, gSl, slM, gPt, gNoP, fSl, gAnd, gOr, gNot, gTru, truM, tru, gAndV, gOrV, gNotV, stays, gIf, gDrop, gRcv, isL, gApp, gMeth, methM, tyD, gFn, callM, argsOf, argOf, brws, nodupN, putBack, Ret.res, gFnK, allVal, Perm.swap, Perm.id, swapL, gChain, gChain3, blM, gRaise, fAdd, fSub, fLt, fInt, fLen, fDivmod, fMod, fFdiv, fMax2, fIsi, isB, gPar, fEq, fNe, eqM, eqS, keyD, gItems, itemsM, tupItems, lstItems, gFor, gEnum, gRange1, sizeLine, noE, anyItems, dctItems, gDct, gDct0, gDctE, flatP, M.pairD, gAll, gFnM, fEqK, fNeK, fMulS, fStrB, fTuple, fDict, gIsT, isAny, fMul, gYes, gNever, finR, gHeardB, atI, ixN, gPopAt, e, b1, b2, e4, e5, putBack, putMo]
    · have := (erase_perm e5).append_left fs
      refine List.Perm.trans ?_ hp
      refine List.Perm.trans ?_ this.symm
      simp) ⟨m, ds, [], .un, rfl, fun q => by simp, by simp, rfl, h⟩
  rw [upto_len] at l2 w2
  have hpl := hp.length_eq
  rw [List.length_append] at hpl
  have hr : rs = [] := List.eq_nil_of_length_eq_zero (by omega)
  subst hr
  rw [List.append_nil] at hp
  refine ⟨fs, m', ?_, hp, w2.mono (by omega)⟩
  have s0 : sh_0 c [.par m, .val (.lst ds), .un, .un, .un] = some (.ok .nx [.par m, .val (.lst ds), .own (.l ds), .own (.l []), .un]) := by
    unfold sh_0
    simp [gSeq, gIfS, gBl, gOp, gVar, gC, EM.bind, EM.pure, EM.lift, op2, op1, gUn, view, moAt, Slot.mo?, Mo.view, fIx, fII, gAsg, gCall, M.gCons, M.gNil, consM, opL, views, aliveR, gdTup, gdCons, gdSub, gdNil, Tg.bind, Tg.binds, setV, putMo, gRet, gPass, M.gSet, setM, storeR, gFz, gFrz, M.gLst, M.gTup, valsR, gSl, slM, gPt, gNoP, fSl, gAnd, gOr, gNot, gTru, truM, tru, gAndV, gOrV, gNotV, stays, gIf, gDrop, gRcv, isL, gApp, gMeth, methM, tyD, gFn, callM, argsOf, argOf, brws, nodupN, putBack, Ret.res, gFnK, allVal, Perm.swap, Perm.id, swapL, gChain, gChain3, blM, gRaise, fAdd, fSub, fLt, fInt, fLen, fDivmod, fMod, fFdiv, fMax2, fIsi, isB, gPar, fEq, fNe, eqM, eqS, keyD, gItems, itemsM, tupItems, lstItems, gFor, gEnum, gRange1, sizeLine, noE, anyItems, dctItems, gDct, gDct0, gDctE, flatP, M.pairD, gAll, gFnM, fEqK, fNeK, fMulS, fStrB, fTuple, fDict, gIsT, isAny, fMul, gYes, gNever, finR, gHeardB, atI, ixN, fList]
  have s1 : sh_1 c [.par m, .val (.lst ds), .own (.l ds), .own (.l []), .un] = some (.ok .nx [.par m', .val (.lst ds), .own (.l []), .own (.l fs), x]) := by
    unfold sh_1
    exact (for_at (range_ok (k := ds.length) (by simp [gSeq, gIfS, gBl, gOp, gVar, gC, EM.bind, EM.pure, EM.lift, op2, op1, gUn, view, moAt, Slot.mo?, Mo.view, fIx, fII, gAsg, gCall, M.gCons, M.gNil, consM, opL, views, aliveR, gdTup, gdCons, gdSub, gdNil, Tg.bind, Tg.binds, setV, putMo, gRet, gPass, M.gSet, setM, storeR, gFz, gFrz, M.gLst, M.gTup, valsR, gSl, slM, gPt, gNoP, fSl, gAnd, gOr, gNot, gTru, truM, tru, gAndV, gOrV, gNotV, stays, gIf, gDrop, gRcv, isL, gApp, gMeth, methM, tyD, gFn, callM, argsOf, argOf, brws, nodupN, putBack, Ret.res, gFnK, allVal, Perm.swap, Perm.id, swapL, gChain, gChain3, blM, gRaise, fAdd, fSub, fLt, fInt, fLen, fDivmod, fMod, fFdiv, fMax2, fIsi, isB, gPar, fEq, fNe, eqM, eqS, keyD, gItems, itemsM, tupItems, lstItems, gFor, gEnum, gRange1, sizeLine, noE, anyItems, dctItems, gDct, gDct0, gDctE, flatP, M.pairD, gAll, gFnM, fEqK, fNeK, fMulS, fStrB, fTuple, fDict, gIsT, isAny, fMul, gYes, gNever, finR, gHeardB, atI, ixN]) (by omega) (by omega))).trans e2
  have s2 : sh_2 c [.par m', .val (.lst ds), .own (.l []), .own (.l fs), x] = some (.ok (.rt (.brw 3)) [.par m', .val (.lst ds), .own (.l []), .own (.l fs), x]) := by
    unfold sh_2
    simp [gSeq, gIfS, gBl, gOp, gVar, gC, EM.bind, EM.pure, EM.lift, op2, op1, gUn, view, moAt, Slot.mo?, Mo.view, fIx, fII, gAsg, gCall, M.gCons, M.gNil, consM, opL, views, aliveR, gdTup, gdCons, gdSub, gdNil, Tg.bind, Tg.binds, setV, putMo, gRet, gPass, M.gSet, setM, storeR, gFz, gFrz, M.gLst, M.gTup, valsR, gSl, slM, gPt, gNoP, fSl, gAnd, gOr, gNot, gTru, truM, tru, gAndV, gOrV, gNotV, stays, gIf, gDrop, gRcv, isL, gApp, gMeth, methM, tyD, gFn, callM, argsOf, argOf, brws, nodupN, putBack, Ret.res, gFnK, allVal, Perm.swap, Perm.id, swapL, gChain, gChain3, blM, gRaise, fAdd, fSub, fLt, fInt, fLen, fDivmod, fMod, fFdiv, fMax2, fIsi, isB, gPar, fEq, fNe, eqM, eqS, keyD, gItems, itemsM, tupItems, lstItems, gFor, gEnum, gRange1, sizeLine, noE, anyItems, dctItems, gDct, gDct0, gDctE, flatP, M.pairD, gAll, gFnM, fEqK, fNeK, fMulS, fStrB, fTuple, fDict, gIsT, isAny, fMul, gYes, gNever, finR, gHeardB, atI, ixN]
  unfold m__law_shuffled
  rw [sh_eq]
  exact run_own (N := 5) (as := [.par m, .val (.lst ds)]) (i := 3) ((seq_nx s0).trans ((seq_nx s1).trans s2)) rfl
end My

namespace My
open PySem PySem.Spec PyProof.Rows L2 M
/-! copies -/
def unS : D → Option Str
  | .str s => some s
  | _ => none
theorem unS_map : ∀ xs : List Str, (xs.map D.str).filterMap unS = xs
  | [] => rfl
  | x :: xs => by rw [List.map_cons, List.filterMap_cons]; show x :: _ = _; rw [unS_map xs]
theorem perm_strs {es : List D} {xs : List Str} (h : es.Perm (xs.map D.str)) : ∃ ys : List Str, es = ys.map D.str ∧ ys.Perm xs := by
  refine ⟨es.filterMap unS, ?_, ?_⟩
  · have hall : ∀ e ∈ es, ∃ s, e = .str s := fun e he => by
      obtain ⟨s, _, rfl⟩ := List.mem_map.mp (h.mem_iff.mp he)
      exact ⟨s, rfl⟩
    clear h
    induction es with
    | nil => rfl
    | cons e es ih =>
      obtain ⟨s, rfl⟩ := hall _ List.mem_cons_self
      rw [List.filterMap_cons]
      show _ = D.str s :: _
      rw [← ih fun e he => hall e (List.mem_cons_of_mem _ he)]
  · have := h.filterMap unS
    rwa [unS_map] at this
def Cn : Nat → Nat
  | 0 => 0
  | n + 1 => 6 + 6 * Cn n
def cpD (c : Ads) (n : Nat) : EM Res := (gLc (gItems anyItems (gFrz (gFn 2 (m__law_shuffled c) (gCons (gVar 0) (gCons (gFrz (gCall fSorted (gCons (gVar 1) gNil))) gNil))))) (.nm 2) [2] gYes (gTup (gCons (gFz 2) (gCons (gFrz (gFn 2 (m__law_copy c n) (gCons (gVar 0) (gCons (gOp fIx (gVar 1) (gVar 2)) gNil)))) gNil))))
def cpT (c : Ads) (n : Nat) : EM Res := (gLc (gItems anyItems (gFz 1)) (.nm 3) [3] gYes (gFrz (gFn 2 (m__law_copy c n) (gCons (gVar 0) (gCons (gFz 3) gNil)))))
def cp_0 (c : Ads) (n : Nat) : EM Fl := (gIfS (gTru (gCall fIsi (gCons (gVar 1) (gCons (gC (.ty "dict")) gNil))))
    (gRet (gCall fDict (gCons (cpD c n) gNil)))
    gPass)
def cp_1 (c : Ads) (n : Nat) : EM Fl := (gRet (gIf (gTru (gCall fIsi (gCons (gVar 1) (gCons (gC (.ty "tuple")) gNil)))) (gCall fTuple (gCons (cpT c n) gNil)) (gVar 1)))
theorem cp_eq (c : Ads) (n : Nat) : m__law_copy c (n + 1) = runM 4 (gSeq (cp_0 c n) (cp_1 c n)) := rfl
theorem tup_vl {n : Nat} {ds : List D} (h : Vl n (.tup ds)) : ∃ k, n = k + 1 ∧ ds.length ≤ 6 ∧ ∀ x ∈ ds, Vl k x := by
  cases n with
  | zero => exact h.elim
  | succ n =>
    rcases h with h | ⟨es, e, h1, h2⟩ | ⟨_, e, _⟩
    · exact h.elim
    · cases e; exact ⟨n, rfl, h1, h2⟩
    · cases e
theorem lf_dct {kvs : List (Key × D)} : ¬ Lf (.dct kvs) := fun h => h
theorem copy_ok (c : Ads) : ∀ (n f k : Nat) (m : Mo) (d : D), n < f → Vl n d → WOk k m → k + Cn n ≤ 50000000 → ∃ r d' m', m__law_copy c f [.par m, .val d] = some (.ok r [.par m', .val d]) ∧ RV r d' ∧ Vl n d' ∧ Eqv n d d' ∧ WOk (k + Cn n) m'
  | _, 0, _, _, _, h, _, _, _ => by omega
  | n, f + 1, k, m, d, hf, hv, w, hk => by
    have leaf : Lf d → ∃ r d' m', m__law_copy c (f + 1) [.par m, .val d] = some (.ok r [.par m', .val d]) ∧ RV r d' ∧ Vl n d' ∧ Eqv n d d' ∧ WOk (k + Cn n) m' := fun h => by
      refine ⟨.val d, d, m, ?_, .inl rfl, hv, Eqv.leaf h, w.mono (by omega)⟩
      rw [cp_eq]
      refine run_nx (N := 4) (as := [.par m, .val d]) (r := .val d) (ρ := [.par m, .val d, .un, .un]) ?_
      unfold cp_0 cp_1
      cases d <;> first | exact h.elim | simp [gSeq, gIfS, gBl, gOp, gVar, gC, EM.bind, EM.pure, EM.lift, op2, op1, gUn, view, moAt, Slot.mo?, Mo.view, fIx, fII, gAsg, gCall, M.gCons, M.gNil, consM, opL, views, aliveR, gdTup, gdCons, gdSub, gdNil, Tg.bind, Tg.binds, setV, putMo, gRet, gPass, M.gSet, setM, storeR, gFz, gFrz, M.gLst, M.gTup, valsR, gSl, slM, gPt, gNoP, fSl, gAnd, gOr, gNot, gTru, truM, tru, gAndV, gOrV, gNotV, stays, gIf, gDrop, gRcv, isL, gApp, gMeth, methM, tyD, gFn, callM, argsOf, argOf, brws, nodupN, putBack, Ret.res, gFnK, allVal, Perm.swap, Perm.id, swapL, gChain, gChain3, blM, gRaise, fAdd, fSub, fLt, fInt, fLen, fDivmod, fMod, fFdiv, fMax2, fIsi, isB, gPar, fEq, fNe, eqM, eqS, keyD, gItems, itemsM, tupItems, lstItems, gFor, gEnum, gRange1, sizeLine, noE, anyItems, dctItems, gDct, gDct0, gDctE, flatP, M.pairD, gAll, gFnM, fEqK, fNeK, fMulS, fStrB, fTuple, fDict, gIsT, isAny, fMul, gYes, gNever, finR, gHeardB, atI, ixN]
    cases n with
    | zero => exact leaf hv
    | succ n =>
      have cn : Cn (n + 1) = 6 + 6 * Cn n := rfl
      rcases hv with h | ⟨ds, rfl, h1, h2⟩ | ⟨ps, rfl, h1, h2, h3⟩
      · exact leaf h
      · -- a tuple
        obtain ⟨acc, m3, e3, l3, j1, j2, w3⟩ := lc_draw 3 (gi := (gItems anyItems (gFz 1))) (ge := (gFrz (gFn 2 (m__law_copy c f) (gCons (gVar 0) (gCons (gFz 3) gNil))))) (ρ1 := [.par m, .val (.tup ds), .un, .un])
          (rest := [.val (.tup ds), .un, .un]) (m := m) ds (fun acc m => (∀ y ∈ acc, Vl n y) ∧ (∀ (i : Nat) (x y : D), ds[i]? = some x → acc[i]? = some y → Eqv n x y) ∧ WOk (k + acc.length * Cn n) m) (by decide) (by simp) (by simp)
          (items_ok (d := .tup ds) (by simp [gSeq, gIfS, gBl, gOp, gVar, gC, EM.bind, EM.pure, EM.lift, op2, op1, gUn, view, moAt, Slot.mo?, Mo.view, fIx, fII, gAsg, gCall, M.gCons, M.gNil, consM, opL, views, aliveR, gdTup, gdCons, gdSub, gdNil, Tg.bind, Tg.binds, setV, putMo, gRet, gPass, M.gSet, setM, storeR, gFz, gFrz, M.gLst, M.gTup, valsR, gSl, slM, gPt, gNoP, fSl, gAnd, gOr, gNot, gTru, truM, tru, gAndV, gOrV, gNotV, stays, gIf, gDrop, gRcv, isL, gApp, gMeth, methM, tyD, gFn, callM, argsOf, argOf, brws, nodupN, putBack, Ret.res, gFnK, allVal, Perm.swap, Perm.id, swapL, gChain, gChain3, blM, gRaise, fAdd, fSub, fLt, fInt, fLen, fDivmod, fMod, fFdiv, fMax2, fIsi, isB, gPar, fEq, fNe, eqM, eqS, keyD, gItems, itemsM, tupItems, lstItems, gFor, gEnum, gRange1, sizeLine, noE, anyItems, dctItems, gDct, gDct0, gDctE, flatP, M.pairD, gAll, gFnM, fEqK, fNeK, fMulS, fStrB, fTuple, fDict, gIsT, isAny, fMul, gYes, gNever, finR, gHeardB, atI, ixN]) rfl) (by rw [sizeLine_eq]; omega) ⟨fun x hx => (by cases hx), fun i x y _ h => (by cases h), by simpa using w⟩ (by
          rintro acc m d hd ⟨j1, j2, w3⟩
          have hl : acc.length < ds.length := (List.getElem?_eq_some_iff.mp hd).1
          have hm : acc.length * Cn n ≤ 5 * Cn n := Nat.mul_le_mul_right _ (by omega)
          obtain ⟨r, d', m4, e4, rv, v4, q4, w4⟩ := copy_ok c n f _ m d (by omega) (h2 d (List.mem_of_getElem? hd)) w3 (by omega)
          refine ⟨d', m4, ?_, fun y hy => ?_, fun i x y hx hy => ?_, w4.mono (by rw [List.length_append, List.length_singleton, Nat.succ_mul]; omega)⟩
          · rcases rv with rfl | ⟨kvs, rfl, rfl⟩ <;> simp [gSeq, gIfS, gBl, gOp, gVar, gC, EM.bind, EM.pure, EM.lift, op2, op1, gUn, view, moAt, Slot.mo?, Mo.view, fIx, fII, gAsg, gCall, M.gCons, M.gNil, consM, opL, views, aliveR, gdTup, gdCons, gdSub, gdNil, Tg.bind, Tg.binds, setV, putMo, gRet, gPass, M.gSet, setM, storeR, gFz, gFrz, M.gLst, M.gTup, valsR, gSl, slM, gPt, gNoP, fSl, gAnd, gOr, gNot, gTru, truM, tru, gAndV, gOrV, gNotV, stays, gIf, gDrop, gRcv, isL, gApp, gMeth, methM, tyD, gFn, callM, argsOf, argOf, brws, nodupN, putBack, Ret.res, gFnK, allVal, Perm.swap, Perm.id, swapL, gChain, gChain3, blM, gRaise, fAdd, fSub, fLt, fInt, fLen, fDivmod, fMod, fFdiv, fMax2, fIsi, isB, gPar, fEq, fNe, eqM, eqS, keyD, gItems, itemsM, tupItems, lstItems, gFor, gEnum, gRange1, sizeLine, noE, anyItems, dctItems, gDct, gDct0, gDctE, flatP, M.pairD, gAll, gFnM, fEqK, fNeK, fMulS, fStrB, fTuple, fDict, gIsT, isAny, fMul, gYes, gNever, finR, gHeardB, atI, ixN, e4]
          · rcases List.mem_append.mp hy with hy | hy
            · exact j1 y hy
            · rw [List.mem_singleton.mp hy]; exact v4
          · rw [List.getElem?_append] at hy
            split at hy
            · exact j2 i x y hx hy
            · rename_i hge
              have hi : i = acc.length := by
                have := (List.getElem?_eq_some_iff.mp hy).1
                simp at this; omega
              subst hi
              rw [hd] at hx
              simp at hy
              cases hx
              rw [← hy]; exact q4)
        have hm : acc.length * Cn n ≤ 6 * Cn n := Nat.mul_le_mul_right _ (by omega)
        refine ⟨.val (.tup acc), .tup acc, m3, ?_, .inl rfl, .inr (.inl ⟨acc, rfl, by omega, j1⟩), ⟨l3.symm, j2⟩, w3.mono (by omega)⟩
        have e3' : cpT c f [.par m, .val (.tup ds), .un, .un] = some (.ok (.new (.l acc)) [.par m3, .val (.tup ds), .un, .un]) := e3
        rw [cp_eq]
        refine run_nx (N := 4) (as := [.par m, .val (.tup ds)]) (r := .val (.tup acc)) (ρ := [.par m3, .val (.tup ds), .un, .un]) ?_
        unfold cp_0 cp_1
        simp [gSeq, gIfS, gBl, gOp, gVar, gC, EM.bind, EM.pure, EM.lift, op2, op1, gUn, view, moAt, Slot.mo?, Mo.view, fIx, fII, gAsg, gCall, M.gCons, M.gNil, consM, opL, views, aliveR, gdTup, gdCons, gdSub, gdNil, Tg.bind, Tg.binds, setV, putMo, gRet, gPass, M.gSet, setM, storeR, gFz, gFrz, M.gLst, M.gTup, valsR, gSl, slM, gPt, gNoP, fSl, gAnd, gOr, gNot, gTru, truM, tru, gAndV, gOrV, gNotV, stays, gIf, gDrop, gRcv, isL, gApp, gMeth, methM, tyD, gFn, callM, argsOf, argOf, brws, nodupN, putBack, Ret.res, gFnK, allVal, Perm.swap, Perm.id, swapL, gChain, gChain3, blM, gRaise, fAdd, fSub, fLt, fInt, fLen, fDivmod, fMod, fFdiv, fMax2, fIsi, isB, gPar, fEq, fNe, eqM, eqS, keyD, gItems, itemsM, tupItems, lstItems, gFor, gEnum, gRange1, sizeLine, noE, anyItems, dctItems, gDct, gDct0, gDctE, flatP, M.pairD, gAll, gFnM, fEqK, fNeK, fMulS, fStrB, fTuple, fDict, gIsT, isAny, fMul, gYes, gNever, finR, gHeardB, atI, ixN]
        simp [gSeq, gIfS, gBl, gOp, gVar, gC, EM.bind, EM.pure, EM.lift, op2, op1, gUn, view, moAt, Slot.mo?, Mo.view, fIx, fII, gAsg, gCall, M.gCons, M.gNil, consM, opL, views, aliveR, gdTup, gdCons, gdSub, gdNil, Tg.bind, Tg.binds, setV, putMo, gRet, gPass, M.gSet, setM, storeR, gFz, gFrz, M.gLst, M.gTup, valsR, gSl, slM, gPt, gNoP, fSl, gAnd, gOr, gNot, gTru, truM, tru, gAndV, gOrV, gNotV, stays, gIf, gDrop, gRcv, isL, gApp, gMeth, methM, tyD, gFn, callM, argsOf, argOf, brws, nodupN, putBack, Ret.res, gFnK, allVal, Perm.swap, Perm.id, swapL, gChain, gChain3, blM, gRaise, fAdd, fSub, fLt, fInt, fLen, fDivmod, fMod, fFdiv, fMax2, fIsi, isB, gPar, fEq, fNe, eqM, eqS, keyD, gItems, itemsM, tupItems, lstItems, gFor, gEnum, gRange1, sizeLine, noE, anyItems, dctItems, gDct, gDct0, gDctE, flatP, M.pairD, gAll, gFnM, fEqK, fNeK, fMulS, fStrB, fTuple, fDict, gIsT, isAny, fMul, gYes, gNever, finR, gHeardB, atI, ixN, e3']
      · -- a record
        have hs : (ps.map (·.1)).length < 64 := by rw [List.length_map]; omega
        have fs := fSorted_toK (ps := ps) (by omega)
        obtain ⟨es, m2, e2, p2, w2⟩ := shuffled_ok c (ds := (sortS (ps.map (·.1))).map D.str) w (by omega) (by
          rw [List.length_map, (sortS_perm _).length_eq, List.length_map]; omega)
        obtain ⟨xs, rfl, px⟩ := perm_strs p2
        have pn : xs.Perm (ps.map (·.1)) := px.trans (sortS_perm _)
        have lx : xs.length = ps.length := by rw [pn.length_eq, List.length_map]
        have w2' : WOk (k + 6) m2 := w2.mono (by rw [List.length_map, (sortS_perm _).length_eq, List.length_map]; omega)
        obtain ⟨acc, m3, e3, l3, qs, rfl, j1, j2, w3⟩ := lc_draw 2 (gi := (gItems anyItems (gFrz (gFn 2 (m__law_shuffled c) (gCons (gVar 0) (gCons (gFrz (gCall fSorted (gCons (gVar 1) gNil))) gNil)))))) (ge := (gTup (gCons (gFz 2) (gCons (gFrz (gFn 2 (m__law_copy c f) (gCons (gVar 0) (gCons (gOp fIx (gVar 1) (gVar 2)) gNil)))) gNil)))) (ρ1 := [.par m, .val (.dct (toK ps)), .un, .un])
          (rest := [.val (.dct (toK ps)), .un, .un]) (m := m2) (xs.map D.str) (fun acc m => ∃ qs : List (Str × D), acc = toT qs ∧ qs.map (·.1) = xs.take qs.length ∧ (∀ q ∈ qs, ∃ y, ps.lookup q.1 = some y ∧ Eqv n y q.2 ∧ Vl n q.2) ∧ WOk (k + 6 + qs.length * Cn n) m) (by decide) (by simp) (by simp)
          (items_ok (d := .lst (xs.map D.str)) (by simp [gSeq, gIfS, gBl, gOp, gVar, gC, EM.bind, EM.pure, EM.lift, op2, op1, gUn, view, moAt, Slot.mo?, Mo.view, fIx, fII, gAsg, gCall, M.gCons, M.gNil, consM, opL, views, aliveR, gdTup, gdCons, gdSub, gdNil, Tg.bind, Tg.binds, setV, putMo, gRet, gPass, M.gSet, setM, storeR, gFz, gFrz, M.gLst, M.gTup, valsR, gSl, slM, gPt, gNoP, fSl, gAnd, gOr, gNot, gTru, truM, tru, gAndV, gOrV, gNotV, stays, gIf, gDrop, gRcv, isL, gApp, gMeth, methM, tyD, gFn, callM, argsOf, argOf, brws, nodupN, putBack, Ret.res, gFnK, allVal, Perm.swap, Perm.id, swapL, gChain, gChain3, blM, gRaise, fAdd, fSub, fLt, fInt, fLen, fDivmod, fMod, fFdiv, fMax2, fIsi, isB, gPar, fEq, fNe, eqM, eqS, keyD, gItems, itemsM, tupItems, lstItems, gFor, gEnum, gRange1, sizeLine, noE, anyItems, dctItems, gDct, gDct0, gDctE, flatP, M.pairD, gAll, gFnM, fEqK, fNeK, fMulS, fStrB, fTuple, fDict, gIsT, isAny, fMul, gYes, gNever, finR, gHeardB, atI, ixN, fs, e2]) rfl) (by rw [List.length_map, sizeLine_eq]; omega) ⟨[], rfl, rfl, fun q hq => (by cases hq), by simpa using w2'⟩ (by
          rintro acc m d hd ⟨qs, rfl, j1, j2, w3⟩
          have lt : (toT qs).length = qs.length := by simp [toT]
          rw [lt, List.getElem?_map, Option.map_eq_some_iff] at hd
          obtain ⟨x, hx, rfl⟩ := hd
          have hl : qs.length < xs.length := (List.getElem?_eq_some_iff.mp hx).1
          have hm : qs.length * Cn n ≤ 5 * Cn n := Nat.mul_le_mul_right _ (by omega)
          have hmem : x ∈ ps.map (·.1) := pn.mem_iff.mp (List.mem_of_getElem? hx)
          obtain ⟨y, hy⟩ : ∃ y, ps.lookup x = some y := by
            cases e : ps.lookup x with
            | none => exact absurd hmem (lookup_none.mp e)
            | some y => exact ⟨y, rfl⟩
          have lk := look_toK x ps
          rw [hy] at lk
          obtain ⟨r, d', m4, e4, rv, v4, q4, w4⟩ := copy_ok c n f _ m y (by omega) (h3 _ (lookup_mem hy)) w3 (by omega)
          refine ⟨.tup [.str x, d'], m4, ?_, qs ++ [(x, d')], by simp [toT], ?_, fun q hq => ?_, w4.mono (by rw [List.length_append, List.length_singleton, Nat.succ_mul]; omega)⟩
          · rcases rv with rfl | ⟨kvs, rfl, rfl⟩ <;> simp [gSeq, gIfS, gBl, gOp, gVar, gC, EM.bind, EM.pure, EM.lift, op2, op1, gUn, view, moAt, Slot.mo?, Mo.view, fIx, fII, gAsg, gCall, M.gCons, M.gNil, consM, opL, views, aliveR, gdTup, gdCons, gdSub, gdNil, Tg.bind, Tg.binds, setV, putMo, gRet, gPass, M.gSet, setM, storeR, gFz, gFrz, M.gLst, M.gTup, valsR, gSl, slM, gPt, gNoP, fSl, gAnd, gOr, gNot, gTru, truM, tru, gAndV, gOrV, gNotV, stays, gIf, gDrop, gRcv, isL, gApp, gMeth, methM, tyD, gFn, callM, argsOf, argOf, brws, nodupN, putBack, Ret.res, gFnK, allVal, Perm.swap, Perm.id, swapL, gChain, gChain3, blM, gRaise, fAdd, fSub, fLt, fInt, fLen, fDivmod, fMod, fFdiv, fMax2, fIsi, isB, gPar, fEq, fNe, eqM, eqS, keyD, gItems, itemsM, tupItems, lstItems, gFor, gEnum, gRange1, sizeLine, noE, anyItems, dctItems, gDct, gDct0, gDctE, flatP, M.pairD, gAll, gFnM, fEqK, fNeK, fMulS, fStrB, fTuple, fDict, gIsT, isAny, fMul, gYes, gNever, finR, gHeardB, atI, ixN, lk, e4]
          · rw [List.map_append, j1, List.length_append, List.length_singleton, List.take_add_one, hx]
            rfl
          · rcases List.mem_append.mp hq with hq | hq
            · exact j2 q hq
            · rw [List.mem_singleton.mp hq]; exact ⟨y, hy, q4, v4⟩)
        have lq : qs.length = xs.length := by simpa [toT] using l3
        rw [lq, List.take_length] at j1
        have nd : (qs.map (·.1)).Nodup := by rw [j1]; exact pn.nodup_iff.mpr h1.1
        have md : mergeD [] (toK qs) = toK qs := mergeD_app _ _ (by rw [List.nil_append, toK_keys]; exact nodup_inr nd)
        have hm : qs.length * Cn n ≤ 6 * Cn n := Nat.mul_le_mul_right _ (by omega)
        refine ⟨.new (.d (toK qs)), .dct (toK qs), m3, ?_, .inr ⟨_, rfl, rfl⟩, .inr (.inr ⟨qs, rfl, ⟨nd, fun s hs => h1.2 s (pn.mem_iff.mp (by rw [← j1]; exact hs))⟩, by omega, fun q hq => ?_⟩), eq_dct.mpr fun x => ?_, w3.mono (by omega)⟩
        · have e3' : cpD c f [.par m, .val (.dct (toK ps)), .un, .un] = some (.ok (.new (.l (toT qs))) [.par m3, .val (.dct (toK ps)), .un, .un]) := e3
          rw [cp_eq]
          refine run_nx (N := 4) (as := [.par m, .val (.dct (toK ps))]) (r := .new (.d (toK qs))) (ρ := [.par m3, .val (.dct (toK ps)), .un, .un]) ?_
          unfold cp_0
          unfold gSeq
          simp [gSeq, gIfS, gBl, gOp, gVar, gC, EM.bind, EM.pure, EM.lift, op2, op1, gUn, view, moAt, Slot.mo?, Mo.view, fIx, fII, gAsg, gCall, M.gCons, M.gNil, consM, opL, views, aliveR, gdTup, gdCons, gdSub, gdNil, Tg.bind, Tg.binds, setV, putMo, gRet, gPass, M.gSet, setM, storeR, gFz, gFrz, M.gLst, M.gTup, valsR, gSl, slM, gPt, gNoP, fSl, gAnd, gOr, gNot, gTru, truM, tru, gAndV, gOrV, gNotV, stays, gIf, gDrop, gRcv, isL, gApp, gMeth, methM, tyD, gFn, callM, argsOf, argOf, brws, nodupN, putBack, Ret.res, gFnK, allVal, Perm.swap, Perm.id, swapL, gChain, gChain3, blM, gRaise, fAdd, fSub, fLt, fInt, fLen, fDivmod, fMod, fFdiv, fMax2, fIsi, isB, gPar, fEq, fNe, eqM, eqS, keyD, gItems, itemsM, tupItems, lstItems, gFor, gEnum, gRange1, sizeLine, noE, anyItems, dctItems, gDct, gDct0, gDctE, flatP, M.pairD, gAll, gFnM, fEqK, fNeK, fMulS, fStrB, fTuple, fDict, gIsT, isAny, fMul, gYes, gNever, finR, gHeardB, atI, ixN]
          simp [gSeq, gIfS, gBl, gOp, gVar, gC, EM.bind, EM.pure, EM.lift, op2, op1, gUn, view, moAt, Slot.mo?, Mo.view, fIx, fII, gAsg, gCall, M.gCons, M.gNil, consM, opL, views, aliveR, gdTup, gdCons, gdSub, gdNil, Tg.bind, Tg.binds, setV, putMo, gRet, gPass, M.gSet, setM, storeR, gFz, gFrz, M.gLst, M.gTup, valsR, gSl, slM, gPt, gNoP, fSl, gAnd, gOr, gNot, gTru, truM, tru, gAndV, gOrV, gNotV, stays, gIf, gDrop, gRcv, isL, gApp, gMeth, methM, tyD, gFn, callM, argsOf, argOf, brws, nodupN, putBack, Ret.res, gFnK, allVal, Perm.swap, Perm.id, swapL, gChain, gChain3, blM, gRaise, fAdd, fSub, fLt, fInt, fLen, fDivmod, fMod, fFdiv, fMax2, fIsi, isB, gPar, fEq, fNe, eqM, eqS, keyD, gItems, itemsM, tupItems, lstItems, gFor, gEnum, gRange1, sizeLine, noE, anyItems, dctItems, gDct, gDct0, gDctE, flatP, M.pairD, gAll, gFnM, fEqK, fNeK, fMulS, fStrB, fTuple, fDict, gIsT, isAny, fMul, gYes, gNever, finR, gHeardB, atI, ixN, e3', lstOf, pairsD_toT, md]
        · obtain ⟨y, _, _, v⟩ := j2 q hq
          exact v
        · cases e : ps.lookup x with
          | none =>
            refine .inl ⟨rfl, lookup_none.mpr fun z => lookup_none.mp e (pn.mem_iff.mp (by rw [← j1]; exact z))⟩
          | some y =>
            have hx : x ∈ qs.map (·.1) := by
              rw [j1]
              refine pn.mem_iff.mpr ?_
              exact List.mem_map.mpr ⟨_, lookup_mem e, rfl⟩
            obtain ⟨q, hq, rfl⟩ := List.mem_map.mp hx
            obtain ⟨y', h4, h5, _⟩ := j2 q hq
            rw [e] at h4
            cases h4
            exact .inr ⟨y, q.2, rfl, lookup_of_mem nd hq, h5⟩
end My

namespace My
open PySem PySem.Spec PyProof.Rows L2 M
/-! is_name, has_level, same_values, same -/
theorem sub_lo {x : Nat} (h : isLo x = true) : subT ⟨#[x]⟩ nmL = true := by
  have key : ∀ k, k < 26 → subT ⟨#[97 + k]⟩ nmL = true := by decide +kernel
  unfold isLo at h
  simp at h
  have := key (x - 97) (by omega)
  rwa [show 97 + (x - 97) = x by omega] at this
def inC (c : Ads) : EM Res := (gLc (gItems anyItems (gFz 0)) (.nm 1) [1] gYes (gOp (fInA false) (gVar 1) (gC (.str "abcdefghijklmnopqrstuvwxyz"))))
def in_0 (c : Ads) : EM Fl := (gRet (gAndV (gCall fIsi (gCons (gVar 0) (gCons (gC (.ty "str")) gNil))) (gAndV (gChain fLt fLt (gC (.int 0)) (gCall fLen (gCons (gVar 0) gNil)) (gC (.int 13))) (gCall fAll (gCons (inC c) gNil)))))
theorem in_eq (c : Ads) : b_is_name c = (in_0 c) := rfl
theorem is_name_ok (c : Ads) {s : Str} (h : Nm s) : m_is_name c [.val (.str s)] = some (.ok (.val (.bl true)) [.val (.str s)]) := by
  obtain ⟨h1, h2, h3⟩ := h
  have e : inC c [.val (.str s), .un] = some (.ok (.new (.l ((s.cps.toList.map fun c => D.str ⟨#[c]⟩).map fun d => D.bl true))) [.val (.str s), .un]) := by
    unfold inC
    refine lc_map 1 (ρ := [.val (.str s), .un]) (s.cps.toList.map fun c => D.str ⟨#[c]⟩) (fun d => D.bl true) (by simp) (by simp) (items_ok (d := .str s) (by simp [gSeq, gIfS, gBl, gOp, gVar, gC, EM.bind, EM.pure, EM.lift, op2, op1, gUn, view, moAt, Slot.mo?, Mo.view, fIx, fII, gAsg, gCall, M.gCons, M.gNil, consM, opL, views, aliveR, gdTup, gdCons, gdSub, gdNil, Tg.bind, Tg.binds, setV, putMo, gRet, gPass, M.gSet, setM, storeR, gFz, gFrz, M.gLst, M.gTup, valsR, gSl, slM, gPt, gNoP, fSl, gAnd, gOr, gNot, gTru, truM, tru, gAndV, gOrV, gNotV, stays, gIf, gDrop, gRcv, isL, gApp, gMeth, methM, tyD, gFn, callM, argsOf, argOf, brws, nodupN, putBack, Ret.res, gFnK, allVal, Perm.swap, Perm.id, swapL, gChain, gChain3, blM, gRaise, fAdd, fSub, fLt, fInt, fLen, fDivmod, fMod, fFdiv, fMax2, fIsi, isB, gPar, fEq, fNe, eqM, eqS, keyD, gItems, itemsM, tupItems, lstItems, gFor, gEnum, gRange1, sizeLine, noE, anyItems, dctItems, gDct, gDct0, gDctE, flatP, M.pairD, gAll, gFnM, fEqK, fNeK, fMulS, fStrB, fTuple, fDict, gIsT, isAny, fMul, gYes, gNever, finR, gHeardB, atI, ixN]) rfl) (by rw [List.length_map, Array.length_toList, sizeLine_eq]; have : s.cps.size ≤ 12 := h2; omega) fun d hd => ?_
    obtain ⟨x, hx, rfl⟩ := List.mem_map.mp hd
    have := sub_lo (h3 x hx)
    unfold nmL at this
    simp [gSeq, gIfS, gBl, gOp, gVar, gC, EM.bind, EM.pure, EM.lift, op2, op1, gUn, view, moAt, Slot.mo?, Mo.view, fIx, fII, gAsg, gCall, M.gCons, M.gNil, consM, opL, views, aliveR, gdTup, gdCons, gdSub, gdNil, Tg.bind, Tg.binds, setV, putMo, gRet, gPass, M.gSet, setM, storeR, gFz, gFrz, M.gLst, M.gTup, valsR, gSl, slM, gPt, gNoP, fSl, gAnd, gOr, gNot, gTru, truM, tru, gAndV, gOrV, gNotV, stays, gIf, gDrop, gRcv, isL, gApp, gMeth, methM, tyD, gFn, callM, argsOf, argOf, brws, nodupN, putBack, Ret.res, gFnK, allVal, Perm.swap, Perm.id, swapL, gChain, gChain3, blM, gRaise, fAdd, fSub, fLt, fInt, fLen, fDivmod, fMod, fFdiv, fMax2, fIsi, isB, gPar, fEq, fNe, eqM, eqS, keyD, gItems, itemsM, tupItems, lstItems, gFor, gEnum, gRange1, sizeLine, noE, anyItems, dctItems, gDct, gDct0, gDctE, flatP, M.pairD, gAll, gFnM, fEqK, fNeK, fMulS, fStrB, fTuple, fDict, gIsT, isAny, fMul, gYes, gNever, finR, gHeardB, atI, ixN, fInA, this]
  have fa := fAll_map (fun _ => true) (s.cps.toList.map fun c => D.str ⟨#[c]⟩)
  have hl : s.length ≤ 16777216 := by omega
  have h1' : (0 : Int) < s.length := by omega
  have h2' : (s.length : Int) < 13 := by omega
  have hall : ((s.cps.toList.map fun c => D.str ⟨#[c]⟩).all fun _ => true) = true := List.all_eq_true.mpr fun _ _ => rfl
  rw [hall] at fa
  unfold m_is_name
  rw [in_eq]
  refine run_nx (N := 2) (as := [.val (.str s)]) (r := .val (.bl true)) (ρ := [.val (.str s), .un]) ?_
  unfold in_0
  simp [gSeq, gIfS, gBl, gOp, gVar, gC, EM.bind, EM.pure, EM.lift, op2, op1, gUn, view, moAt, Slot.mo?, Mo.view, fIx, fII, gAsg, gCall, M.gCons, M.gNil, consM, opL, views, aliveR, gdTup, gdCons, gdSub, gdNil, Tg.bind, Tg.binds, setV, putMo, gRet, gPass, M.gSet, setM, storeR, gFz, gFrz, M.gLst, M.gTup, valsR, gSl, slM, gPt, gNoP, fSl, gAnd, gOr, gNot, gTru, truM, tru, gAndV, gOrV, gNotV, stays, gIf, gDrop, gRcv, isL, gApp, gMeth, methM, tyD, gFn, callM, argsOf, argOf, brws, nodupN, putBack, Ret.res, gFnK, allVal, Perm.swap, Perm.id, swapL, gChain, gChain3, blM, gRaise, fAdd, fSub, fLt, fInt, fLen, fDivmod, fMod, fFdiv, fMax2, fIsi, isB, gPar, fEq, fNe, eqM, eqS, keyD, gItems, itemsM, tupItems, lstItems, gFor, gEnum, gRange1, sizeLine, noE, anyItems, dctItems, gDct, gDct0, gDctE, flatP, M.pairD, gAll, gFnM, fEqK, fNeK, fMulS, fStrB, fTuple, fDict, gIsT, isAny, fMul, gYes, gNever, finR, gHeardB, atI, ixN, hl, h1, h2'] at e fa ⊢
  simp [gSeq, gIfS, gBl, gOp, gVar, gC, EM.bind, EM.pure, EM.lift, op2, op1, gUn, view, moAt, Slot.mo?, Mo.view, fIx, fII, gAsg, gCall, M.gCons, M.gNil, consM, opL, views, aliveR, gdTup, gdCons, gdSub, gdNil, Tg.bind, Tg.binds, setV, putMo, gRet, gPass, M.gSet, setM, storeR, gFz, gFrz, M.gLst, M.gTup, valsR, gSl, slM, gPt, gNoP, fSl, gAnd, gOr, gNot, gTru, truM, tru, gAndV, gOrV, gNotV, stays, gIf, gDrop, gRcv, isL, gApp, gMeth, methM, tyD, gFn, callM, argsOf, argOf, brws, nodupN, putBack, Ret.res, gFnK, allVal, Perm.swap, Perm.id, swapL, gChain, gChain3, blM, gRaise, fAdd, fSub, fLt, fInt, fLen, fDivmod, fMod, fFdiv, fMax2, fIsi, isB, gPar, fEq, fNe, eqM, eqS, keyD, gItems, itemsM, tupItems, lstItems, gFor, gEnum, gRange1, sizeLine, noE, anyItems, dctItems, gDct, gDct0, gDctE, flatP, M.pairD, gAll, gFnM, fEqK, fNeK, fMulS, fStrB, fTuple, fDict, gIsT, isAny, fMul, gYes, gNever, finR, gHeardB, atI, ixN, e, fa]
theorem is_name_int (c : Ads) (i : Int) : m_is_name c [.val (.int i)] = some (.ok (.val (.bl false)) [.val (.int i)]) := by
  unfold m_is_name
  rw [in_eq]
  refine run_nx (N := 2) (as := [.val (.int i)]) (r := .val (.bl false)) (ρ := [.val (.int i), .un]) ?_
  unfold in_0
  simp [gSeq, gIfS, gBl, gOp, gVar, gC, EM.bind, EM.pure, EM.lift, op2, op1, gUn, view, moAt, Slot.mo?, Mo.view, fIx, fII, gAsg, gCall, M.gCons, M.gNil, consM, opL, views, aliveR, gdTup, gdCons, gdSub, gdNil, Tg.bind, Tg.binds, setV, putMo, gRet, gPass, M.gSet, setM, storeR, gFz, gFrz, M.gLst, M.gTup, valsR, gSl, slM, gPt, gNoP, fSl, gAnd, gOr, gNot, gTru, truM, tru, gAndV, gOrV, gNotV, stays, gIf, gDrop, gRcv, isL, gApp, gMeth, methM, tyD, gFn, callM, argsOf, argOf, brws, nodupN, putBack, Ret.res, gFnK, allVal, Perm.swap, Perm.id, swapL, gChain, gChain3, blM, gRaise, fAdd, fSub, fLt, fInt, fLen, fDivmod, fMod, fFdiv, fMax2, fIsi, isB, gPar, fEq, fNe, eqM, eqS, keyD, gItems, itemsM, tupItems, lstItems, gFor, gEnum, gRange1, sizeLine, noE, anyItems, dctItems, gDct, gDct0, gDctE, flatP, M.pairD, gAll, gFnM, fEqK, fNeK, fMulS, fStrB, fTuple, fDict, gIsT, isAny, fMul, gYes, gNever, finR, gHeardB, atI, ixN]
theorem keys_toK (ps : List (Str × D)) : anyItems (.dct (toK ps)) = some (ps.map fun p => D.str p.1) := by
  show some _ = some _
  simp [toK, kD, Function.comp_def]
def hlT (c : Ads) (n : Nat) : EM Res := (gLc (gItems anyItems (gFz 0)) (.nm 2) [2] gYes (gFrz (gFn 2 (m_has_level c n) (gCons (gFz 2) (gCons (gFrz (gOp fSub (gVar 1) (gC (.int 1)))) gNil)))))
def hlD (c : Ads) (n : Nat) : EM Res := (gLc (gItems anyItems (gFz 0)) (.nm 3) [3] gYes (gAndV (gFn 1 (m_is_name c) (gCons (gFz 3) gNil)) (gFn 2 (m_has_level c n) (gCons (gOp fIx (gVar 0) (gVar 3)) (gCons (gFrz (gOp fSub (gVar 1) (gC (.int 1)))) gNil)))))
def hl_0 (c : Ads) : EM Fl := (gIfS (gOr (gBl (gOp (fIsN false) (gVar 0) (gC .non))) (gTru (gIsT ["str", "int"] (gVar 0))))
    (gRet (gC (.bl true)))
    gPass)
def hl_1 (c : Ads) (n : Nat) : EM Fl := (gIfS (gTru (gCall fIsi (gCons (gVar 0) (gCons (gC (.ty "tuple")) gNil))))
    (gRet (gAndV (gOp fGt (gVar 1) (gC (.int 0))) (gAndV (gOp fLe (gCall fLen (gCons (gVar 0) gNil)) (gC (.int 60))) (gCall fAll (gCons (hlT c n) gNil)))))
    gPass)
def hl_2 (c : Ads) : EM Fl := (gIfS (gOr (gNot (gTru (gCall fIsi (gCons (gVar 0) (gCons (gC (.ty "dict")) gNil))))) (gBl (gOp fEqK (gVar 1) (gC (.int 0)))))
    (gRet (gC (.bl false)))
    gPass)
def hl_3 (c : Ads) (n : Nat) : EM Fl := (gRet (gCall fAll (gCons (hlD c n) gNil)))
theorem hl_eq (c : Ads) (n : Nat) : m_has_level c (n + 1) = runM 4 (gSeq (hl_0 c) (gSeq (hl_1 c n) (gSeq (hl_2 c) (hl_3 c n)))) := rfl
theorem hl_true (c : Ads) : ∀ (n f k : Nat) (d : D), Vl n d → n ≤ k → k < f → m_has_level c f [.val d, .val (.int k)] = some (.ok (.val (.bl true)) [.val d, .val (.int k)])
  | _, 0, _, _, _, _, h => by omega
  | n, f + 1, k, d, hv, hk, hf => by
    have leaf : Lf d → m_has_level c (f + 1) [.val d, .val (.int k)] = some (.ok (.val (.bl true)) [.val d, .val (.int k)]) := fun h => by
      rw [hl_eq]
      refine run_nx (N := 4) (as := [.val d, .val (.int k)]) (r := .val (.bl true)) (ρ := [.val d, .val (.int k), .un, .un]) ?_
      unfold hl_0
      unfold gSeq
      cases d <;> first | exact h.elim | simp [gSeq, gIfS, gBl, gOp, gVar, gC, EM.bind, EM.pure, EM.lift, op2, op1, gUn, view, moAt, Slot.mo?, Mo.view, fIx, fII, gAsg, gCall, M.gCons, M.gNil, consM, opL, views, aliveR, gdTup, gdCons, gdSub, gdNil, Tg.bind, Tg.binds, setV, putMo, gRet, gPass, M.gSet, setM, storeR, gFz, gFrz, M.gLst, M.gTup, valsR, gSl, slM, gPt, gNoP, fSl, gAnd, gOr, gNot, gTru, truM, tru, gAndV, gOrV, gNotV, stays, gIf, gDrop, gRcv, isL, gApp, gMeth, methM, tyD, gFn, callM, argsOf, argOf, brws, nodupN, putBack, Ret.res, gFnK, allVal, Perm.swap, Perm.id, swapL, gChain, gChain3, blM, gRaise, fAdd, fSub, fLt, fInt, fLen, fDivmod, fMod, fFdiv, fMax2, fIsi, isB, gPar, fEq, fNe, eqM, eqS, keyD, gItems, itemsM, tupItems, lstItems, gFor, gEnum, gRange1, sizeLine, noE, anyItems, dctItems, gDct, gDct0, gDctE, flatP, M.pairD, gAll, gFnM, fEqK, fNeK, fMulS, fStrB, fTuple, fDict, gIsT, isAny, fMul, gYes, gNever, finR, gHeardB, atI, ixN, fIsN]
    cases n with
    | zero => exact leaf hv
    | succ n =>
      obtain ⟨k, rfl⟩ : ∃ q, k = q + 1 := ⟨k - 1, by omega⟩
      have ek : ((k + 1 : Nat) : Int) - 1 = (k : Int) := by omega
      have k0 : (0 : Int) < (k : Int) + 1 := by omega
      have k1 : ¬ (k : Int) + 1 = 0 := by omega
      rcases hv with h | ⟨ds, rfl, h1, h2⟩ | ⟨ps, rfl, h1, h2, h3⟩
      · exact leaf h
      · have e : hlT c f [.val (.tup ds), .val (.int ((k + 1 : Nat) : Int)), .un, .un] = some (.ok (.new (.l (ds.map fun d => D.bl true))) [.val (.tup ds), .val (.int ((k + 1 : Nat) : Int)), .un, .un]) := by
          unfold hlT
          refine lc_map 2 (ρ := [.val (.tup ds), .val (.int ((k + 1 : Nat) : Int)), .un, .un]) ds (fun d => D.bl true) (by simp) (by simp) (items_ok (d := .tup ds) (by simp [gSeq, gIfS, gBl, gOp, gVar, gC, EM.bind, EM.pure, EM.lift, op2, op1, gUn, view, moAt, Slot.mo?, Mo.view, fIx, fII, gAsg, gCall, M.gCons, M.gNil, consM, opL, views, aliveR, gdTup, gdCons, gdSub, gdNil, Tg.bind, Tg.binds, setV, putMo, gRet, gPass, M.gSet, setM, storeR, gFz, gFrz, M.gLst, M.gTup, valsR, gSl, slM, gPt, gNoP, fSl, gAnd, gOr, gNot, gTru, truM, tru, gAndV, gOrV, gNotV, stays, gIf, gDrop, gRcv, isL, gApp, gMeth, methM, tyD, gFn, callM, argsOf, argOf, brws, nodupN, putBack, Ret.res, gFnK, allVal, Perm.swap, Perm.id, swapL, gChain, gChain3, blM, gRaise, fAdd, fSub, fLt, fInt, fLen, fDivmod, fMod, fFdiv, fMax2, fIsi, isB, gPar, fEq, fNe, eqM, eqS, keyD, gItems, itemsM, tupItems, lstItems, gFor, gEnum, gRange1, sizeLine, noE, anyItems, dctItems, gDct, gDct0, gDctE, flatP, M.pairD, gAll, gFnM, fEqK, fNeK, fMulS, fStrB, fTuple, fDict, gIsT, isAny, fMul, gYes, gNever, finR, gHeardB, atI, ixN]) rfl) (by rw [sizeLine_eq]; omega) fun d hd => ?_
          have := hl_true c n f k d (h2 d hd) (by omega) (by omega)
          simp [gSeq, gIfS, gBl, gOp, gVar, gC, EM.bind, EM.pure, EM.lift, op2, op1, gUn, view, moAt, Slot.mo?, Mo.view, fIx, fII, gAsg, gCall, M.gCons, M.gNil, consM, opL, views, aliveR, gdTup, gdCons, gdSub, gdNil, Tg.bind, Tg.binds, setV, putMo, gRet, gPass, M.gSet, setM, storeR, gFz, gFrz, M.gLst, M.gTup, valsR, gSl, slM, gPt, gNoP, fSl, gAnd, gOr, gNot, gTru, truM, tru, gAndV, gOrV, gNotV, stays, gIf, gDrop, gRcv, isL, gApp, gMeth, methM, tyD, gFn, callM, argsOf, argOf, brws, nodupN, putBack, Ret.res, gFnK, allVal, Perm.swap, Perm.id, swapL, gChain, gChain3, blM, gRaise, fAdd, fSub, fLt, fInt, fLen, fDivmod, fMod, fFdiv, fMax2, fIsi, isB, gPar, fEq, fNe, eqM, eqS, keyD, gItems, itemsM, tupItems, lstItems, gFor, gEnum, gRange1, sizeLine, noE, anyItems, dctItems, gDct, gDct0, gDctE, flatP, M.pairD, gAll, gFnM, fEqK, fNeK, fMulS, fStrB, fTuple, fDict, gIsT, isAny, fMul, gYes, gNever, finR, gHeardB, atI, ixN, ek, this]
        have fa := fAll_map (fun _ => true) ds
        have hall : (ds.all fun _ => true) = true := List.all_eq_true.mpr fun _ _ => rfl
        rw [hall] at fa
        have h60 : (ds.length : Int) ≤ 60 := by omega
        rw [hl_eq]
        refine run_nx (N := 4) (as := [.val (.tup ds), .val (.int ((k + 1 : Nat) : Int))]) (r := .val (.bl true)) (ρ := [.val (.tup ds), .val (.int ((k + 1 : Nat) : Int)), .un, .un]) ?_
        unfold hl_0 hl_1
        unfold gSeq
        simp [gSeq, gIfS, gBl, gOp, gVar, gC, EM.bind, EM.pure, EM.lift, op2, op1, gUn, view, moAt, Slot.mo?, Mo.view, fIx, fII, gAsg, gCall, M.gCons, M.gNil, consM, opL, views, aliveR, gdTup, gdCons, gdSub, gdNil, Tg.bind, Tg.binds, setV, putMo, gRet, gPass, M.gSet, setM, storeR, gFz, gFrz, M.gLst, M.gTup, valsR, gSl, slM, gPt, gNoP, fSl, gAnd, gOr, gNot, gTru, truM, tru, gAndV, gOrV, gNotV, stays, gIf, gDrop, gRcv, isL, gApp, gMeth, methM, tyD, gFn, callM, argsOf, argOf, brws, nodupN, putBack, Ret.res, gFnK, allVal, Perm.swap, Perm.id, swapL, gChain, gChain3, blM, gRaise, fAdd, fSub, fLt, fInt, fLen, fDivmod, fMod, fFdiv, fMax2, fIsi, isB, gPar, fEq, fNe, eqM, eqS, keyD, gItems, itemsM, tupItems, lstItems, gFor, gEnum, gRange1, sizeLine, noE, anyItems, dctItems, gDct, gDct0, gDctE, flatP, M.pairD, gAll, gFnM, fEqK, fNeK, fMulS, fStrB, fTuple, fDict, gIsT, isAny, fMul, gYes, gNever, finR, gHeardB, atI, ixN, fIsN, k0, h60] at e fa ⊢
        simp [gSeq, gIfS, gBl, gOp, gVar, gC, EM.bind, EM.pure, EM.lift, op2, op1, gUn, view, moAt, Slot.mo?, Mo.view, fIx, fII, gAsg, gCall, M.gCons, M.gNil, consM, opL, views, aliveR, gdTup, gdCons, gdSub, gdNil, Tg.bind, Tg.binds, setV, putMo, gRet, gPass, M.gSet, setM, storeR, gFz, gFrz, M.gLst, M.gTup, valsR, gSl, slM, gPt, gNoP, fSl, gAnd, gOr, gNot, gTru, truM, tru, gAndV, gOrV, gNotV, stays, gIf, gDrop, gRcv, isL, gApp, gMeth, methM, tyD, gFn, callM, argsOf, argOf, brws, nodupN, putBack, Ret.res, gFnK, allVal, Perm.swap, Perm.id, swapL, gChain, gChain3, blM, gRaise, fAdd, fSub, fLt, fInt, fLen, fDivmod, fMod, fFdiv, fMax2, fIsi, isB, gPar, fEq, fNe, eqM, eqS, keyD, gItems, itemsM, tupItems, lstItems, gFor, gEnum, gRange1, sizeLine, noE, anyItems, dctItems, gDct, gDct0, gDctE, flatP, M.pairD, gAll, gFnM, fEqK, fNeK, fMulS, fStrB, fTuple, fDict, gIsT, isAny, fMul, gYes, gNever, finR, gHeardB, atI, ixN, e, fa]
      · have e : hlD c f [.val (.dct (toK ps)), .val (.int ((k + 1 : Nat) : Int)), .un, .un] = some (.ok (.new (.l ((ps.map fun p => D.str p.1).map fun d => D.bl true))) [.val (.dct (toK ps)), .val (.int ((k + 1 : Nat) : Int)), .un, .un]) := by
          unfold hlD
          refine lc_map 3 (gi := (gItems anyItems (gFz 0))) (ρ := [.val (.dct (toK ps)), .val (.int ((k + 1 : Nat) : Int)), .un, .un]) (ρ1 := [.val (.dct (toK ps)), .val (.int ((k + 1 : Nat) : Int)), .un, .un]) (ps.map fun p => D.str p.1) (fun d => D.bl true) (by simp) (by simp) (items_ok (d := .dct (toK ps)) (by simp [gSeq, gIfS, gBl, gOp, gVar, gC, EM.bind, EM.pure, EM.lift, op2, op1, gUn, view, moAt, Slot.mo?, Mo.view, fIx, fII, gAsg, gCall, M.gCons, M.gNil, consM, opL, views, aliveR, gdTup, gdCons, gdSub, gdNil, Tg.bind, Tg.binds, setV, putMo, gRet, gPass, M.gSet, setM, storeR, gFz, gFrz, M.gLst, M.gTup, valsR, gSl, slM, gPt, gNoP, fSl, gAnd, gOr, gNot, gTru, truM, tru, gAndV, gOrV, gNotV, stays, gIf, gDrop, gRcv, isL, gApp, gMeth, methM, tyD, gFn, callM, argsOf, argOf, brws, nodupN, putBack, Ret.res, gFnK, allVal, Perm.swap, Perm.id, swapL, gChain, gChain3, blM, gRaise, fAdd, fSub, fLt, fInt, fLen, fDivmod, fMod, fFdiv, fMax2, fIsi, isB, gPar, fEq, fNe, eqM, eqS, keyD, gItems, itemsM, tupItems, lstItems, gFor, gEnum, gRange1, sizeLine, noE, anyItems, dctItems, gDct, gDct0, gDctE, flatP, M.pairD, gAll, gFnM, fEqK, fNeK, fMulS, fStrB, fTuple, fDict, gIsT, isAny, fMul, gYes, gNever, finR, gHeardB, atI, ixN]) (keys_toK ps)) (by rw [List.length_map, sizeLine_eq]; omega) fun d hd => ?_
          obtain ⟨p, hp, rfl⟩ := List.mem_map.mp hd
          have nm := is_name_ok c (h1.2 p.1 (List.mem_map.mpr ⟨p, hp, rfl⟩))
          have lk := look_toK p.1 ps
          rw [lookup_of_mem h1.1 (show (p.1, p.2) ∈ ps from hp)] at lk
          have := hl_true c n f k p.2 (h3 p hp) (by omega) (by omega)
          simp [gSeq, gIfS, gBl, gOp, gVar, gC, EM.bind, EM.pure, EM.lift, op2, op1, gUn, view, moAt, Slot.mo?, Mo.view, fIx, fII, gAsg, gCall, M.gCons, M.gNil, consM, opL, views, aliveR, gdTup, gdCons, gdSub, gdNil, Tg.bind, Tg.binds, setV, putMo, gRet, gPass, M.gSet, setM, storeR, gFz, gFrz, M.gLst, M.gTup, valsR, gSl, slM, gPt, gNoP, fSl, gAnd, gOr, gNot, gTru, truM, tru, gAndV, gOrV, gNotV, stays, gIf, gDrop, gRcv, isL, gApp, gMeth, methM, tyD, gFn, callM, argsOf, argOf, brws, nodupN, putBack, Ret.res, gFnK, allVal, Perm.swap, Perm.id, swapL, gChain, gChain3, blM, gRaise, fAdd, fSub, fLt, fInt, fLen, fDivmod, fMod, fFdiv, fMax2, fIsi, isB, gPar, fEq, fNe, eqM, eqS, keyD, gItems, itemsM, tupItems, lstItems, gFor, gEnum, gRange1, sizeLine, noE, anyItems, dctItems, gDct, gDct0, gDctE, flatP, M.pairD, gAll, gFnM, fEqK, fNeK, fMulS, fStrB, fTuple, fDict, gIsT, isAny, fMul, gYes, gNever, finR, gHeardB, atI, ixN, ek, this, nm, lk]
        have fa := fAll_map (fun _ => true) (ps.map fun p => D.str p.1)
        have hall : ((ps.map fun p => D.str p.1).all fun _ => true) = true := List.all_eq_true.mpr fun _ _ => rfl
        rw [hall] at fa
        rw [hl_eq]
        refine run_nx (N := 4) (as := [.val (.dct (toK ps)), .val (.int ((k + 1 : Nat) : Int))]) (r := .val (.bl true)) (ρ := [.val (.dct (toK ps)), .val (.int ((k + 1 : Nat) : Int)), .un, .un]) ?_
        unfold hl_0 hl_1 hl_2 hl_3
        unfold gSeq
        simp [gSeq, gIfS, gBl, gOp, gVar, gC, EM.bind, EM.pure, EM.lift, op2, op1, gUn, view, moAt, Slot.mo?, Mo.view, fIx, fII, gAsg, gCall, M.gCons, M.gNil, consM, opL, views, aliveR, gdTup, gdCons, gdSub, gdNil, Tg.bind, Tg.binds, setV, putMo, gRet, gPass, M.gSet, setM, storeR, gFz, gFrz, M.gLst, M.gTup, valsR, gSl, slM, gPt, gNoP, fSl, gAnd, gOr, gNot, gTru, truM, tru, gAndV, gOrV, gNotV, stays, gIf, gDrop, gRcv, isL, gApp, gMeth, methM, tyD, gFn, callM, argsOf, argOf, brws, nodupN, putBack, Ret.res, gFnK, allVal, Perm.swap, Perm.id, swapL, gChain, gChain3, blM, gRaise, fAdd, fSub, fLt, fInt, fLen, fDivmod, fMod, fFdiv, fMax2, fIsi, isB, gPar, fEq, fNe, eqM, eqS, keyD, gItems, itemsM, tupItems, lstItems, gFor, gEnum, gRange1, sizeLine, noE, anyItems, dctItems, gDct, gDct0, gDctE, flatP, M.pairD, gAll, gFnM, fEqK, fNeK, fMulS, fStrB, fTuple, fDict, gIsT, isAny, fMul, gYes, gNever, finR, gHeardB, atI, ixN, fIsN, k1] at e fa ⊢
        simp [gSeq, gIfS, gBl, gOp, gVar, gC, EM.bind, EM.pure, EM.lift, op2, op1, gUn, view, moAt, Slot.mo?, Mo.view, fIx, fII, gAsg, gCall, M.gCons, M.gNil, consM, opL, views, aliveR, gdTup, gdCons, gdSub, gdNil, Tg.bind, Tg.binds, setV, putMo, gRet, gPass, M.gSet, setM, storeR, gFz, gFrz, M.gLst, M.gTup, valsR, gSl, slM, gPt, gNoP, fSl, gAnd, gOr, gNot, gTru, truM, tru, gAndV, gOrV, gNotV, stays, gIf, gDrop, gRcv, isL, gApp, gMeth, methM, tyD, gFn, callM, argsOf, argOf, brws, nodupN, putBack, Ret.res, gFnK, allVal, Perm.swap, Perm.id, swapL, gChain, gChain3, blM, gRaise, fAdd, fSub, fLt, fInt, fLen, fDivmod, fMod, fFdiv, fMax2, fIsi, isB, gPar, fEq, fNe, eqM, eqS, keyD, gItems, itemsM, tupItems, lstItems, gFor, gEnum, gRange1, sizeLine, noE, anyItems, dctItems, gDct, gDct0, gDctE, flatP, M.pairD, gAll, gFnM, fEqK, fNeK, fMulS, fStrB, fTuple, fDict, gIsT, isAny, fMul, gYes, gNever, finR, gHeardB, atI, ixN, e, fa]
theorem hl_list (c : Ads) (f : Nat) (k : Int) (ds : List D) : m_has_level c (f + 1) [.val (.lst ds), .val (.int k)] = some (.ok (.val (.bl false)) [.val (.lst ds), .val (.int k)]) := by
  rw [hl_eq]
  refine run_nx (N := 4) (as := [.val (.lst ds), .val (.int k)]) (r := .val (.bl false)) (ρ := [.val (.lst ds), .val (.int k), .un, .un]) ?_
  unfold hl_0 hl_1 hl_2 hl_3
  unfold gSeq
  simp [gSeq, gIfS, gBl, gOp, gVar, gC, EM.bind, EM.pure, EM.lift, op2, op1, gUn, view, moAt, Slot.mo?, Mo.view, fIx, fII, gAsg, gCall, M.gCons, M.gNil, consM, opL, views, aliveR, gdTup, gdCons, gdSub, gdNil, Tg.bind, Tg.binds, setV, putMo, gRet, gPass, M.gSet, setM, storeR, gFz, gFrz, M.gLst, M.gTup, valsR, gSl, slM, gPt, gNoP, fSl, gAnd, gOr, gNot, gTru, truM, tru, gAndV, gOrV, gNotV, stays, gIf, gDrop, gRcv, isL, gApp, gMeth, methM, tyD, gFn, callM, argsOf, argOf, brws, nodupN, putBack, Ret.res, gFnK, allVal, Perm.swap, Perm.id, swapL, gChain, gChain3, blM, gRaise, fAdd, fSub, fLt, fInt, fLen, fDivmod, fMod, fFdiv, fMax2, fIsi, isB, gPar, fEq, fNe, eqM, eqS, keyD, gItems, itemsM, tupItems, lstItems, gFor, gEnum, gRange1, sizeLine, noE, anyItems, dctItems, gDct, gDct0, gDctE, flatP, M.pairD, gAll, gFnM, fEqK, fNeK, fMulS, fStrB, fTuple, fDict, gIsT, isAny, fMul, gYes, gNever, finR, gHeardB, atI, ixN, fIsN]
end My

namespace My
open PySem PySem.Spec PyProof.Rows L2 M
/-! same_values -/
open Classical in
noncomputable def eqB (n : Nat) (a b : D) : Bool := decide (Eqv n a b)
open Classical in
theorem eqB_iff {n : Nat} {a b : D} : eqB n a b = true ↔ Eqv n a b := by unfold eqB; exact decide_eq_true_iff ..
theorem eqB_eq {n : Nat} {a b : D} {q : Bool} (h : q = true ↔ Eqv n a b) : eqB n a b = q := by
  rw [Bool.eq_iff_iff, eqB_iff, h]
/-- the parts' relation -/
def Rn : Nat → D → D → Prop
  | 0 => fun _ _ => False
  | n + 1 => Eqv n
theorem eqv_rn (n : Nat) : Eqv n = EqS (Rn n) := by cases n <;> rfl
def svT (c : Ads) (n : Nat) : EM Res := (gLc (gZip tupItems (gCons (gFz 0) (gCons (gFz 1) gNil))) (.tp [(.nm 2), (.nm 3)]) [2, 3] gYes (gFrz (gFn 2 (m_same_values c n) (gCons (gFz 2) (gCons (gFz 3) gNil)))))
def svA (c : Ads) : EM Res := (gLc (gItems anyItems (gFz 0)) (.nm 4) [4] gYes (gFz 4))
def svB (c : Ads) : EM Res := (gLc (gItems anyItems (gFz 1)) (.nm 4) [4] gYes (gFz 4))
def svD (c : Ads) (n : Nat) : EM Res := (gLc (gItems anyItems (gFz 0)) (.nm 4) [4] gYes (gFrz (gFn 2 (m_same_values c n) (gCons (gOp fIx (gVar 0) (gVar 4)) (gCons (gOp fIx (gVar 1) (gVar 4)) gNil)))))
def sv_0 (c : Ads) : EM Fl := (gIfS (gOr (gTru (gCall fIsi (gCons (gVar 0) (gCons (gC (.ty "bool")) gNil)))) (gOr (gTru (gCall fIsi (gCons (gVar 1) (gCons (gC (.ty "bool")) gNil)))) (gOr (gBl (gOp (fIsN false) (gVar 0) (gC .non))) (gBl (gOp (fIsN false) (gVar 1) (gC .non))))))
    (gRet (gAndV (gOp fEqK (gCall fIsi (gCons (gVar 0) (gCons (gC (.ty "bool")) gNil))) (gCall fIsi (gCons (gVar 1) (gCons (gC (.ty "bool")) gNil)))) (gAndV (gOp fEqK (gOp (fIsN false) (gVar 0) (gC .non)) (gOp (fIsN false) (gVar 1) (gC .non))) (gOp fEqK (gVar 0) (gVar 1)))))
    gPass)
def sv_1 (c : Ads) (n : Nat) : EM Fl := (gIfS (gAnd (gTru (gCall fIsi (gCons (gVar 0) (gCons (gC (.ty "tuple")) gNil)))) (gTru (gCall fIsi (gCons (gVar 1) (gCons (gC (.ty "tuple")) gNil)))))
    (gRet (gAndV (gOp fEqK (gCall fLen (gCons (gVar 0) gNil)) (gCall fLen (gCons (gVar 1) gNil))) (gCall fAll (gCons (svT c n) gNil))))
    gPass)
def sv_2 (c : Ads) (n : Nat) : EM Fl := (gIfS (gAnd (gTru (gCall fIsi (gCons (gVar 0) (gCons (gC (.ty "dict")) gNil)))) (gTru (gCall fIsi (gCons (gVar 1) (gCons (gC (.ty "dict")) gNil)))))
    (gSeq (gIfS (gBl (gOp fNeK (gCall fSorted (gCons (svA c) gNil)) (gCall fSorted (gCons (svB c) gNil))))
    (gRet (gC (.bl false)))
    gPass)
    (gRet (gCall fAll (gCons (svD c n) gNil))))
    gPass)
def sv_3 (c : Ads) : EM Fl := (gRet (gAndV (gOp fEqK (gCall fIsi (gCons (gVar 0) (gCons (gC (.ty "str")) gNil))) (gCall fIsi (gCons (gVar 1) (gCons (gC (.ty "str")) gNil)))) (gOp fEqK (gVar 0) (gVar 1))))
theorem sv_eq (c : Ads) (n : Nat) : m_same_values c (n + 1) = runM 5 (gSeq (sv_0 c) (gSeq (sv_1 c n) (gSeq (sv_2 c n) (sv_3 c)))) := rfl
theorem nm_lay {s : Str} {p : Nat → Bool} (h : AllC p s) (hp : ∀ c, p c = true → c < 1114112) : PyData.canLay0 (.str s) = true := by
  have e : PyData.canLay0 (.str s) = s.cps.all (· < 0x110000) := by unfold PyData.canLay0; rfl
  rw [e, ← Array.all_toList]
  exact List.all_eq_true.mpr fun c hc => by simpa using hp c (h c hc)
theorem lo_small (c : Nat) (h : isLo c = true) : c < 1114112 := by unfold isLo at h; simp at h; omega
theorem nms_ok {l : List Str} (h : ∀ s ∈ l, Nm s) : StrsOk l := fun s hs => nm_lay (h s hs).2.2 lo_small
theorem vl_cases {n : Nat} {d : D} (h : Vl n d) : Lf d ∨ (∃ k ds, n = k + 1 ∧ d = .tup ds ∧ ds.length ≤ 6 ∧ ∀ x ∈ ds, Vl k x) ∨ ∃ k ps, n = k + 1 ∧ d = .dct (toK ps) ∧ NmS (ps.map (·.1)) ∧ ps.length ≤ 6 ∧ ∀ p ∈ ps, Vl k p.2 := by
  cases n with
  | zero => exact .inl h
  | succ n =>
    rcases h with h | ⟨ds, e, h1, h2⟩ | ⟨ps, e, h1, h2, h3⟩
    · exact .inl h
    · exact .inr (.inl ⟨n, ds, rfl, e, h1, h2⟩)
    · exact .inr (.inr ⟨n, ps, rfl, e, h1, h2, h3⟩)
/-- what no road goes down -/
def Flat : D → D → Prop
  | .tup _, .tup _ => False
  | .dct _, .dct _ => False
  | _, _ => True
theorem sv_flat (c : Ads) (f : Nat) {n : Nat} {a b : D} (ha : Vl n a) (hb : Vl n b) (hf : Flat a b) : m_same_values c (f + 1) [.val a, .val b] = some (.ok (.val (.bl (eqB n a b))) [.val a, .val b]) := by
  rw [sv_eq]
  refine run_nx (N := 5) (as := [.val a, .val b]) (r := .val (.bl (eqB n a b))) (ρ := [.val a, .val b, .un, .un, .un]) ?_
  unfold sv_0 sv_1 sv_2 sv_3
  unfold gSeq
  have nl : ∀ {d : D} {n : Nat}, Vl n d → (∀ x, d ≠ .lst x) ∧ (∀ x, d ≠ .rol x) ∧ (∀ x, d ≠ .adr x) ∧ (∀ x, d ≠ .ty x) ∧ ∀ x y, d ≠ .ins x y := fun h => by
    rcases vl_cases h with h | ⟨_, _, _, rfl, _⟩ | ⟨_, _, _, rfl, _⟩
    · refine ⟨?_, ?_, ?_, ?_, ?_⟩ <;> intros <;> rintro rfl <;> exact h.elim
    · simp
    · simp
  obtain ⟨a1, a2, a3, a4, a5⟩ := nl ha
  obtain ⟨b1, b2, b3, b4, b5⟩ := nl hb
  have fin : ∀ q : Bool, (q = true ↔ EqS (Rn n) a b) → eqB n a b = q := fun q h => eqB_eq (by rw [eqv_rn]; exact h)
  cases a <;> first | exact absurd rfl (a1 _) | exact absurd rfl (a2 _) | exact absurd rfl (a3 _) | exact absurd rfl (a4 _) | exact absurd rfl (a5 _ _) | skip
  all_goals cases b <;> first | exact absurd rfl (b1 _) | exact absurd rfl (b2 _) | exact absurd rfl (b3 _) | exact absurd rfl (b4 _) | exact absurd rfl (b5 _ _) | exact hf.elim | skip
  all_goals first
    | (rw [fin false (by simp [EqS])]; simp [gSeq, gIfS, gBl, gOp, gVar, gC, EM.bind, EM.pure, EM.lift, op2, op1, gUn, view, moAt, Slot.mo?, Mo.view, fIx, fII, gAsg, gCall, M.gCons, M.gNil, consM, opL, views, aliveR, gdTup, gdCons, gdSub, gdNil, Tg.bind, Tg.binds, setV, putMo, gRet, gPass, M.gSet, setM, storeR, gFz, gFrz, M.gLst, M.gTup, valsR, gSl, slM, gPt, gNoP, fSl, gAnd, gOr, gNot, gTru, truM, tru, gAndV, gOrV, gNotV, stays, gIf, gDrop, gRcv, isL, gApp, gMeth, methM, tyD, gFn, callM, argsOf, argOf, brws, nodupN, putBack, Ret.res, gFnK, allVal, Perm.swap, Perm.id, swapL, gChain, gChain3, blM, gRaise, fAdd, fSub, fLt, fInt, fLen, fDivmod, fMod, fFdiv, fMax2, fIsi, isB, gPar, keyD, gItems, itemsM, tupItems, lstItems, gFor, gEnum, gRange1, sizeLine, noE, anyItems, dctItems, gDct, gDct0, gDctE, flatP, M.pairD, gAll, gFnM, fMulS, fStrB, fTuple, fDict, gIsT, isAny, fMul, gYes, gNever, finR, gHeardB, atI, ixN, fIsN, fEqK_bl, fEqK_ti, fEqK_it, fEqK_di, fEqK_id, fEqK_dt, fEqK_td]; done)
    | (rw [fin false (by simp [EqS])]; simp [gSeq, gIfS, gBl, gOp, gVar, gC, EM.bind, EM.pure, EM.lift, op2, op1, gUn, view, moAt, Slot.mo?, Mo.view, fIx, fII, gAsg, gCall, M.gCons, M.gNil, consM, opL, views, aliveR, gdTup, gdCons, gdSub, gdNil, Tg.bind, Tg.binds, setV, putMo, gRet, gPass, M.gSet, setM, storeR, gFz, gFrz, M.gLst, M.gTup, valsR, gSl, slM, gPt, gNoP, fSl, gAnd, gOr, gNot, gTru, truM, tru, gAndV, gOrV, gNotV, stays, gIf, gDrop, gRcv, isL, gApp, gMeth, methM, tyD, gFn, callM, argsOf, argOf, brws, nodupN, putBack, Ret.res, gFnK, allVal, Perm.swap, Perm.id, swapL, gChain, gChain3, blM, gRaise, fAdd, fSub, fLt, fInt, fLen, fDivmod, fMod, fFdiv, fMax2, fIsi, isB, gPar, fEq, fNe, eqM, eqS, keyD, gItems, itemsM, tupItems, lstItems, gFor, gEnum, gRange1, sizeLine, noE, anyItems, dctItems, gDct, gDct0, gDctE, flatP, M.pairD, gAll, gFnM, fEqK, fNeK, fMulS, fStrB, fTuple, fDict, gIsT, isAny, fMul, gYes, gNever, finR, gHeardB, atI, ixN, fIsN]; done)
    | (rw [fin true (by simp [EqS])]; simp [gSeq, gIfS, gBl, gOp, gVar, gC, EM.bind, EM.pure, EM.lift, op2, op1, gUn, view, moAt, Slot.mo?, Mo.view, fIx, fII, gAsg, gCall, M.gCons, M.gNil, consM, opL, views, aliveR, gdTup, gdCons, gdSub, gdNil, Tg.bind, Tg.binds, setV, putMo, gRet, gPass, M.gSet, setM, storeR, gFz, gFrz, M.gLst, M.gTup, valsR, gSl, slM, gPt, gNoP, fSl, gAnd, gOr, gNot, gTru, truM, tru, gAndV, gOrV, gNotV, stays, gIf, gDrop, gRcv, isL, gApp, gMeth, methM, tyD, gFn, callM, argsOf, argOf, brws, nodupN, putBack, Ret.res, gFnK, allVal, Perm.swap, Perm.id, swapL, gChain, gChain3, blM, gRaise, fAdd, fSub, fLt, fInt, fLen, fDivmod, fMod, fFdiv, fMax2, fIsi, isB, gPar, fEq, fNe, eqM, eqS, keyD, gItems, itemsM, tupItems, lstItems, gFor, gEnum, gRange1, sizeLine, noE, anyItems, dctItems, gDct, gDct0, gDctE, flatP, M.pairD, gAll, gFnM, fEqK, fNeK, fMulS, fStrB, fTuple, fDict, gIsT, isAny, fMul, gYes, gNever, finR, gHeardB, atI, ixN, fIsN]; done)
    | (rename_i x y; rw [fin (x == y) (by simp [EqS])]; simp [gSeq, gIfS, gBl, gOp, gVar, gC, EM.bind, EM.pure, EM.lift, op2, op1, gUn, view, moAt, Slot.mo?, Mo.view, fIx, fII, gAsg, gCall, M.gCons, M.gNil, consM, opL, views, aliveR, gdTup, gdCons, gdSub, gdNil, Tg.bind, Tg.binds, setV, putMo, gRet, gPass, M.gSet, setM, storeR, gFz, gFrz, M.gLst, M.gTup, valsR, gSl, slM, gPt, gNoP, fSl, gAnd, gOr, gNot, gTru, truM, tru, gAndV, gOrV, gNotV, stays, gIf, gDrop, gRcv, isL, gApp, gMeth, methM, tyD, gFn, callM, argsOf, argOf, brws, nodupN, putBack, Ret.res, gFnK, allVal, Perm.swap, Perm.id, swapL, gChain, gChain3, blM, gRaise, fAdd, fSub, fLt, fInt, fLen, fDivmod, fMod, fFdiv, fMax2, fIsi, isB, gPar, fEq, fNe, eqM, eqS, keyD, gItems, itemsM, tupItems, lstItems, gFor, gEnum, gRange1, sizeLine, noE, anyItems, dctItems, gDct, gDct0, gDctE, flatP, M.pairD, gAll, gFnM, fEqK, fNeK, fMulS, fStrB, fTuple, fDict, gIsT, isAny, fMul, gYes, gNever, finR, gHeardB, atI, ixN, fIsN]; done)
    | skip
  all_goals trace_state
theorem perm_of_eqv {k : Nat} {ps qs : List (Str × D)} (hp : NmS (ps.map (·.1))) (hq : NmS (qs.map (·.1))) (h : ∀ x, (ps.lookup x = none ∧ qs.lookup x = none) ∨ ∃ a b, ps.lookup x = some a ∧ qs.lookup x = some b ∧ Eqv k a b) : (ps.map (·.1)).Perm (qs.map (·.1)) := by
  refine (List.perm_ext_iff_of_nodup hp.1 hq.1).mpr fun x => ?_
  rcases h x with ⟨h1, h2⟩ | ⟨a, b, h1, h2, _⟩
  · exact ⟨fun z => absurd z (lookup_none.mp h1), fun z => absurd z (lookup_none.mp h2)⟩
  · exact ⟨fun _ => List.mem_map.mpr ⟨_, lookup_mem h2, rfl⟩, fun _ => List.mem_map.mpr ⟨_, lookup_mem h1, rfl⟩⟩
theorem lookup_ex {x : Str} {ps : List (Str × D)} (h : x ∈ ps.map (·.1)) : ∃ y, ps.lookup x = some y := by
  cases e : ps.lookup x with
  | none => exact absurd h (lookup_none.mp e)
  | some y => exact ⟨y, rfl⟩
theorem sv_ok (c : Ads) : ∀ (n f : Nat) (a b : D), Vl n a → Vl n b → n < f → m_same_values c f [.val a, .val b] = some (.ok (.val (.bl (eqB n a b))) [.val a, .val b])
  | _, 0, _, _, _, _, h => by omega
  | n, f + 1, a, b, ha, hb, hf => by
    by_cases fl : Flat a b
    · exact sv_flat c f ha hb fl
    · rcases vl_cases ha with h | ⟨k, xs, rfl, rfl, a1, a2⟩ | ⟨k, ps, rfl, rfl, a1, a2, a3⟩
      · cases a <;> first | exact h.elim | exact absurd (by cases b <;> trivial) fl
      · rcases vl_cases hb with h | ⟨k', ys, e, rfl, b1, b2⟩ | ⟨k', qs, e, rfl, b1, b2, b3⟩
        · cases b <;> first | exact h.elim | exact absurd trivial fl
        · cases e
          rw [sv_eq]
          refine run_nx (N := 5) (as := [.val (.tup xs), .val (.tup ys)]) (r := .val (.bl (eqB (k + 1) (.tup xs) (.tup ys)))) (ρ := [.val (.tup xs), .val (.tup ys), .un, .un, .un]) ?_
          by_cases hl : xs.length = ys.length
          · have e : svT c f [.val (.tup xs), .val (.tup ys), .un, .un, .un] = some (.ok (.new (.l ((xs.zip ys).map fun p => D.bl (eqB k p.1 p.2)))) [.val (.tup xs), .val (.tup ys), .un, .un, .un]) := by
              unfold svT
              refine lc_map2 2 3 (gi := (gZip tupItems (gCons (gFz 0) (gCons (gFz 1) gNil)))) (ρ := [.val (.tup xs), .val (.tup ys), .un, .un, .un]) (ρ1 := [.val (.tup xs), .val (.tup ys), .un, .un, .un]) (xs.zip ys) (fun x y => D.bl (eqB k x y)) (by simp) (by simp) (by decide) (by simp) (by simp) ?_ (by rw [List.length_zip, sizeLine_eq]; omega) fun p hp => ?_
              · unfold gZip
                simp [gSeq, gIfS, gBl, gOp, gVar, gC, EM.bind, EM.pure, EM.lift, op2, op1, gUn, view, moAt, Slot.mo?, Mo.view, fIx, fII, gAsg, gCall, M.gCons, M.gNil, consM, opL, views, aliveR, gdTup, gdCons, gdSub, gdNil, Tg.bind, Tg.binds, setV, putMo, gRet, gPass, M.gSet, setM, storeR, gFz, gFrz, M.gLst, M.gTup, valsR, gSl, slM, gPt, gNoP, fSl, gAnd, gOr, gNot, gTru, truM, tru, gAndV, gOrV, gNotV, stays, gIf, gDrop, gRcv, isL, gApp, gMeth, methM, tyD, gFn, callM, argsOf, argOf, brws, nodupN, putBack, Ret.res, gFnK, allVal, Perm.swap, Perm.id, swapL, gChain, gChain3, blM, gRaise, fAdd, fSub, fLt, fInt, fLen, fDivmod, fMod, fFdiv, fMax2, fIsi, isB, gPar, fEq, fNe, eqM, eqS, keyD, gItems, itemsM, tupItems, lstItems, gFor, gEnum, gRange1, sizeLine, noE, anyItems, dctItems, gDct, gDct0, gDctE, flatP, M.pairD, gAll, gFnM, fEqK, fNeK, fMulS, fStrB, fTuple, fDict, gIsT, isAny, fMul, gYes, gNever, finR, gHeardB, atI, ixN, zipD]
              · obtain ⟨m1, m2⟩ := List.of_mem_zip (show (p.1, p.2) ∈ xs.zip ys from hp)
                have := sv_ok c k f p.1 p.2 (a2 _ m1) (b2 _ m2) (by omega)
                simp [gSeq, gIfS, gBl, gOp, gVar, gC, EM.bind, EM.pure, EM.lift, op2, op1, gUn, view, moAt, Slot.mo?, Mo.view, fIx, fII, gAsg, gCall, M.gCons, M.gNil, consM, opL, views, aliveR, gdTup, gdCons, gdSub, gdNil, Tg.bind, Tg.binds, setV, putMo, gRet, gPass, M.gSet, setM, storeR, gFz, gFrz, M.gLst, M.gTup, valsR, gSl, slM, gPt, gNoP, fSl, gAnd, gOr, gNot, gTru, truM, tru, gAndV, gOrV, gNotV, stays, gIf, gDrop, gRcv, isL, gApp, gMeth, methM, tyD, gFn, callM, argsOf, argOf, brws, nodupN, putBack, Ret.res, gFnK, allVal, Perm.swap, Perm.id, swapL, gChain, gChain3, blM, gRaise, fAdd, fSub, fLt, fInt, fLen, fDivmod, fMod, fFdiv, fMax2, fIsi, isB, gPar, fEq, fNe, eqM, eqS, keyD, gItems, itemsM, tupItems, lstItems, gFor, gEnum, gRange1, sizeLine, noE, anyItems, dctItems, gDct, gDct0, gDctE, flatP, M.pairD, gAll, gFnM, fEqK, fNeK, fMulS, fStrB, fTuple, fDict, gIsT, isAny, fMul, gYes, gNever, finR, gHeardB, atI, ixN, this]
            have fa := fAll_bls ((xs.zip ys).map fun p => eqB k p.1 p.2)
            have q : eqB (k + 1) (.tup xs) (.tup ys) = ((xs.zip ys).map fun p => eqB k p.1 p.2).all id := by
              refine eqB_eq ?_
              rw [List.all_eq_true]
              constructor
              · intro h
                refine ⟨hl, fun i x y hx hy => ?_⟩
                have : (x, y) ∈ xs.zip ys := List.mem_of_getElem? (i := i) (by rw [List.getElem?_zip_eq_some]; exact ⟨hx, hy⟩)
                exact eqB_iff.mp (h _ (List.mem_map.mpr ⟨_, this, rfl⟩))
              · intro h q hq
                obtain ⟨p, hp, rfl⟩ := List.mem_map.mp hq
                obtain ⟨i, hi⟩ := List.mem_iff_getElem?.mp hp
                rw [List.getElem?_zip_eq_some] at hi
                exact eqB_iff.mpr (h.2 i p.1 p.2 hi.1 hi.2)
            rw [q]
            unfold sv_0 sv_1
            unfold gSeq
            have hl' : (xs.length : Int) = ys.length := by omega
            simp only [List.map_map, Function.comp_def] at fa
            simp [gSeq, gIfS, gBl, gOp, gVar, gC, EM.bind, EM.pure, EM.lift, op2, op1, gUn, view, moAt, Slot.mo?, Mo.view, fIx, fII, gAsg, gCall, M.gCons, M.gNil, consM, opL, views, aliveR, gdTup, gdCons, gdSub, gdNil, Tg.bind, Tg.binds, setV, putMo, gRet, gPass, M.gSet, setM, storeR, gFz, gFrz, M.gLst, M.gTup, valsR, gSl, slM, gPt, gNoP, fSl, gAnd, gOr, gNot, gTru, truM, tru, gAndV, gOrV, gNotV, stays, gIf, gDrop, gRcv, isL, gApp, gMeth, methM, tyD, gFn, callM, argsOf, argOf, brws, nodupN, putBack, Ret.res, gFnK, allVal, Perm.swap, Perm.id, swapL, gChain, gChain3, blM, gRaise, fAdd, fSub, fLt, fInt, fLen, fDivmod, fMod, fFdiv, fMax2, fIsi, isB, gPar, fEq, fNe, eqM, eqS, keyD, gItems, itemsM, tupItems, lstItems, gFor, gEnum, gRange1, sizeLine, noE, anyItems, dctItems, gDct, gDct0, gDctE, flatP, M.pairD, gAll, gFnM, fEqK, fNeK, fMulS, fStrB, fTuple, fDict, gIsT, isAny, fMul, gYes, gNever, finR, gHeardB, atI, ixN, fIsN, hl'] at e ⊢
            simp [gSeq, gIfS, gBl, gOp, gVar, gC, EM.bind, EM.pure, EM.lift, op2, op1, gUn, view, moAt, Slot.mo?, Mo.view, fIx, fII, gAsg, gCall, M.gCons, M.gNil, consM, opL, views, aliveR, gdTup, gdCons, gdSub, gdNil, Tg.bind, Tg.binds, setV, putMo, gRet, gPass, M.gSet, setM, storeR, gFz, gFrz, M.gLst, M.gTup, valsR, gSl, slM, gPt, gNoP, fSl, gAnd, gOr, gNot, gTru, truM, tru, gAndV, gOrV, gNotV, stays, gIf, gDrop, gRcv, isL, gApp, gMeth, methM, tyD, gFn, callM, argsOf, argOf, brws, nodupN, putBack, Ret.res, gFnK, allVal, Perm.swap, Perm.id, swapL, gChain, gChain3, blM, gRaise, fAdd, fSub, fLt, fInt, fLen, fDivmod, fMod, fFdiv, fMax2, fIsi, isB, gPar, fEq, fNe, eqM, eqS, keyD, gItems, itemsM, tupItems, lstItems, gFor, gEnum, gRange1, sizeLine, noE, anyItems, dctItems, gDct, gDct0, gDctE, flatP, M.pairD, gAll, gFnM, fEqK, fNeK, fMulS, fStrB, fTuple, fDict, gIsT, isAny, fMul, gYes, gNever, finR, gHeardB, atI, ixN, e, fa]
          · have q : eqB (k + 1) (.tup xs) (.tup ys) = false := eqB_eq (by
              constructor
              · intro h; cases h
              · intro h; exact absurd h.1 hl)
            rw [q]
            unfold sv_0 sv_1
            unfold gSeq
            have hl' : ¬ (xs.length : Int) = ys.length := by omega
            simp [gSeq, gIfS, gBl, gOp, gVar, gC, EM.bind, EM.pure, EM.lift, op2, op1, gUn, view, moAt, Slot.mo?, Mo.view, fIx, fII, gAsg, gCall, M.gCons, M.gNil, consM, opL, views, aliveR, gdTup, gdCons, gdSub, gdNil, Tg.bind, Tg.binds, setV, putMo, gRet, gPass, M.gSet, setM, storeR, gFz, gFrz, M.gLst, M.gTup, valsR, gSl, slM, gPt, gNoP, fSl, gAnd, gOr, gNot, gTru, truM, tru, gAndV, gOrV, gNotV, stays, gIf, gDrop, gRcv, isL, gApp, gMeth, methM, tyD, gFn, callM, argsOf, argOf, brws, nodupN, putBack, Ret.res, gFnK, allVal, Perm.swap, Perm.id, swapL, gChain, gChain3, blM, gRaise, fAdd, fSub, fLt, fInt, fLen, fDivmod, fMod, fFdiv, fMax2, fIsi, isB, gPar, fEq, fNe, eqM, eqS, keyD, gItems, itemsM, tupItems, lstItems, gFor, gEnum, gRange1, sizeLine, noE, anyItems, dctItems, gDct, gDct0, gDctE, flatP, M.pairD, gAll, gFnM, fEqK, fNeK, fMulS, fStrB, fTuple, fDict, gIsT, isAny, fMul, gYes, gNever, finR, gHeardB, atI, ixN, fIsN, hl, hl']
        · exact absurd trivial fl
      · rcases vl_cases hb with h | ⟨k', ys, e, rfl, b1, b2⟩ | ⟨k', qs, e, rfl, b1, b2, b3⟩
        · cases b <;> first | exact h.elim | exact absurd trivial fl
        · exact absurd trivial fl
        · cases e
          rw [sv_eq]
          refine run_nx (N := 5) (as := [.val (.dct (toK ps)), .val (.dct (toK qs))]) (r := .val (.bl (eqB (k + 1) (.dct (toK ps)) (.dct (toK qs))))) (ρ := [.val (.dct (toK ps)), .val (.dct (toK qs)), .un, .un, .un]) ?_
          have eA : svA c [.val (.dct (toK ps)), .val (.dct (toK qs)), .un, .un, .un] = some (.ok (.new (.l (ps.map fun p => D.str p.1))) [.val (.dct (toK ps)), .val (.dct (toK qs)), .un, .un, .un]) := by
            unfold svA
            refine (lc_map 4 (gi := (gItems anyItems (gFz 0))) (ρ := [.val (.dct (toK ps)), .val (.dct (toK qs)), .un, .un, .un]) (ρ1 := [.val (.dct (toK ps)), .val (.dct (toK qs)), .un, .un, .un]) (ps.map fun p => D.str p.1) (fun d => d) (by simp) (by simp) (items_ok (d := .dct (toK ps)) (by simp [gSeq, gIfS, gBl, gOp, gVar, gC, EM.bind, EM.pure, EM.lift, op2, op1, gUn, view, moAt, Slot.mo?, Mo.view, fIx, fII, gAsg, gCall, M.gCons, M.gNil, consM, opL, views, aliveR, gdTup, gdCons, gdSub, gdNil, Tg.bind, Tg.binds, setV, putMo, gRet, gPass, M.gSet, setM, storeR, gFz, gFrz, M.gLst, M.gTup, valsR, gSl, slM, gPt, gNoP, fSl, gAnd, gOr, gNot, gTru, truM, tru, gAndV, gOrV, gNotV, stays, gIf, gDrop, gRcv, isL, gApp, gMeth, methM, tyD, gFn, callM, argsOf, argOf, brws, nodupN, putBack, Ret.res, gFnK, allVal, Perm.swap, Perm.id, swapL, gChain, gChain3, blM, gRaise, fAdd, fSub, fLt, fInt, fLen, fDivmod, fMod, fFdiv, fMax2, fIsi, isB, gPar, fEq, fNe, eqM, eqS, keyD, gItems, itemsM, tupItems, lstItems, gFor, gEnum, gRange1, sizeLine, noE, anyItems, dctItems, gDct, gDct0, gDctE, flatP, M.pairD, gAll, gFnM, fEqK, fNeK, fMulS, fStrB, fTuple, fDict, gIsT, isAny, fMul, gYes, gNever, finR, gHeardB, atI, ixN]) (keys_toK ps)) (by rw [List.length_map, sizeLine_eq]; omega) fun d hd => by simp [gSeq, gIfS, gBl, gOp, gVar, gC, EM.bind, EM.pure, EM.lift, op2, op1, gUn, view, moAt, Slot.mo?, Mo.view, fIx, fII, gAsg, gCall, M.gCons, M.gNil, consM, opL, views, aliveR, gdTup, gdCons, gdSub, gdNil, Tg.bind, Tg.binds, setV, putMo, gRet, gPass, M.gSet, setM, storeR, gFz, gFrz, M.gLst, M.gTup, valsR, gSl, slM, gPt, gNoP, fSl, gAnd, gOr, gNot, gTru, truM, tru, gAndV, gOrV, gNotV, stays, gIf, gDrop, gRcv, isL, gApp, gMeth, methM, tyD, gFn, callM, argsOf, argOf, brws, nodupN, putBack, Ret.res, gFnK, allVal, Perm.swap, Perm.id, swapL, gChain, gChain3, blM, gRaise, fAdd, fSub, fLt, fInt, fLen, fDivmod, fMod, fFdiv, fMax2, fIsi, isB, gPar, fEq, fNe, eqM, eqS, keyD, gItems, itemsM, tupItems, lstItems, gFor, gEnum, gRange1, sizeLine, noE, anyItems, dctItems, gDct, gDct0, gDctE, flatP, M.pairD, gAll, gFnM, fEqK, fNeK, fMulS, fStrB, fTuple, fDict, gIsT, isAny, fMul, gYes, gNever, finR, gHeardB, atI, ixN]).trans ?_
            simp
          have eB : svB c [.val (.dct (toK ps)), .val (.dct (toK qs)), .un, .un, .un] = some (.ok (.new (.l (qs.map fun p => D.str p.1))) [.val (.dct (toK ps)), .val (.dct (toK qs)), .un, .un, .un]) := by
            unfold svB
            refine (lc_map 4 (gi := (gItems anyItems (gFz 1))) (ρ := [.val (.dct (toK ps)), .val (.dct (toK qs)), .un, .un, .un]) (ρ1 := [.val (.dct (toK ps)), .val (.dct (toK qs)), .un, .un, .un]) (qs.map fun p => D.str p.1) (fun d => d) (by simp) (by simp) (items_ok (d := .dct (toK qs)) (by simp [gSeq, gIfS, gBl, gOp, gVar, gC, EM.bind, EM.pure, EM.lift, op2, op1, gUn, view, moAt, Slot.mo?, Mo.view, fIx, fII, gAsg, gCall, M.gCons, M.gNil, consM, opL, views, aliveR, gdTup, gdCons, gdSub, gdNil, Tg.bind, Tg.binds, setV, putMo, gRet, gPass, M.gSet, setM, storeR, gFz, gFrz, M.gLst, M.gTup, valsR, gSl, slM, gPt, gNoP, fSl, gAnd, gOr, gNot, gTru, truM, tru, gAndV, gOrV, gNotV, stays, gIf, gDrop, gRcv, isL, gApp, gMeth, methM, tyD, gFn, callM, argsOf, argOf, brws, nodupN, putBack, Ret.res, gFnK, allVal, Perm.swap, Perm.id, swapL, gChain, gChain3, blM, gRaise, fAdd, fSub, fLt, fInt, fLen, fDivmod, fMod, fFdiv, fMax2, fIsi, isB, gPar, fEq, fNe, eqM, eqS, keyD, gItems, itemsM, tupItems, lstItems, gFor, gEnum, gRange1, sizeLine, noE, anyItems, dctItems, gDct, gDct0, gDctE, flatP, M.pairD, gAll, gFnM, fEqK, fNeK, fMulS, fStrB, fTuple, fDict, gIsT, isAny, fMul, gYes, gNever, finR, gHeardB, atI, ixN]) (keys_toK qs)) (by rw [List.length_map, sizeLine_eq]; omega) fun d hd => by simp [gSeq, gIfS, gBl, gOp, gVar, gC, EM.bind, EM.pure, EM.lift, op2, op1, gUn, view, moAt, Slot.mo?, Mo.view, fIx, fII, gAsg, gCall, M.gCons, M.gNil, consM, opL, views, aliveR, gdTup, gdCons, gdSub, gdNil, Tg.bind, Tg.binds, setV, putMo, gRet, gPass, M.gSet, setM, storeR, gFz, gFrz, M.gLst, M.gTup, valsR, gSl, slM, gPt, gNoP, fSl, gAnd, gOr, gNot, gTru, truM, tru, gAndV, gOrV, gNotV, stays, gIf, gDrop, gRcv, isL, gApp, gMeth, methM, tyD, gFn, callM, argsOf, argOf, brws, nodupN, putBack, Ret.res, gFnK, allVal, Perm.swap, Perm.id, swapL, gChain, gChain3, blM, gRaise, fAdd, fSub, fLt, fInt, fLen, fDivmod, fMod, fFdiv, fMax2, fIsi, isB, gPar, fEq, fNe, eqM, eqS, keyD, gItems, itemsM, tupItems, lstItems, gFor, gEnum, gRange1, sizeLine, noE, anyItems, dctItems, gDct, gDct0, gDctE, flatP, M.pairD, gAll, gFnM, fEqK, fNeK, fMulS, fStrB, fTuple, fDict, gIsT, isAny, fMul, gYes, gNever, finR, gHeardB, atI, ixN]).trans ?_
            simp
          have f1 := fSorted_strs (xs := ps.map (·.1)) (by rw [List.length_map]; omega)
          have f2 := fSorted_strs (xs := qs.map (·.1)) (by rw [List.length_map]; omega)
          rw [List.map_map] at f1 f2
          simp only [Function.comp_def] at f1 f2
          have ne := fNeK_strs (xs := sortS (ps.map (·.1))) (ys := sortS (qs.map (·.1))) (nms_ok fun s hs => a1.2 s ((sortS_perm _).mem_iff.mp hs)) (nms_ok fun s hs => b1.2 s ((sortS_perm _).mem_iff.mp hs))
          by_cases hp : (ps.map (·.1)).Perm (qs.map (·.1))
          · have e : svD c f [.val (.dct (toK ps)), .val (.dct (toK qs)), .un, .un, .un] = some (.ok (.new (.l ((ps.map fun p => eqB k p.2 ((qs.lookup p.1).getD .non)).map D.bl))) [.val (.dct (toK ps)), .val (.dct (toK qs)), .un, .un, .un]) := by
              unfold svD
              refine (lc_map 4 (gi := (gItems anyItems (gFz 0))) (ρ := [.val (.dct (toK ps)), .val (.dct (toK qs)), .un, .un, .un]) (ρ1 := [.val (.dct (toK ps)), .val (.dct (toK qs)), .un, .un, .un]) (ps.map fun p => D.str p.1) (fun d => match d with
                | .str s => .bl (eqB k ((ps.lookup s).getD .non) ((qs.lookup s).getD .non))
                | d => d) (by simp) (by simp) (items_ok (d := .dct (toK ps)) (by simp [gSeq, gIfS, gBl, gOp, gVar, gC, EM.bind, EM.pure, EM.lift, op2, op1, gUn, view, moAt, Slot.mo?, Mo.view, fIx, fII, gAsg, gCall, M.gCons, M.gNil, consM, opL, views, aliveR, gdTup, gdCons, gdSub, gdNil, Tg.bind, Tg.binds, setV, putMo, gRet, gPass, M.gSet, setM, storeR, gFz, gFrz, M.gLst, M.gTup, valsR, gSl, slM, gPt, gNoP, fSl, gAnd, gOr, gNot, gTru, truM, tru, gAndV, gOrV, gNotV, stays, gIf, gDrop, gRcv, isL, gApp, gMeth, methM, tyD, gFn, callM, argsOf, argOf, brws, nodupN, putBack, Ret.res, gFnK, allVal, Perm.swap, Perm.id, swapL, gChain, gChain3, blM, gRaise, fAdd, fSub, fLt, fInt, fLen, fDivmod, fMod, fFdiv, fMax2, fIsi, isB, gPar, fEq, fNe, eqM, eqS, keyD, gItems, itemsM, tupItems, lstItems, gFor, gEnum, gRange1, sizeLine, noE, anyItems, dctItems, gDct, gDct0, gDctE, flatP, M.pairD, gAll, gFnM, fEqK, fNeK, fMulS, fStrB, fTuple, fDict, gIsT, isAny, fMul, gYes, gNever, finR, gHeardB, atI, ixN]) (keys_toK ps)) (by rw [List.length_map, sizeLine_eq]; omega) fun d hd => ?_).trans ?_
              · obtain ⟨p, hm, rfl⟩ := List.mem_map.mp hd
                have l1 := lookup_of_mem a1.1 (show (p.1, p.2) ∈ ps from hm)
                obtain ⟨y, l2⟩ := lookup_ex (hp.mem_iff.mp (List.mem_map.mpr ⟨p, hm, rfl⟩))
                have k1 := look_toK p.1 ps
                have k2 := look_toK p.1 qs
                rw [l1] at k1
                rw [l2] at k2
                have := sv_ok c k f p.2 y (a3 p hm) (b3 _ (lookup_mem l2)) (by omega)
                simp [gSeq, gIfS, gBl, gOp, gVar, gC, EM.bind, EM.pure, EM.lift, op2, op1, gUn, view, moAt, Slot.mo?, Mo.view, fIx, fII, gAsg, gCall, M.gCons, M.gNil, consM, opL, views, aliveR, gdTup, gdCons, gdSub, gdNil, Tg.bind, Tg.binds, setV, putMo, gRet, gPass, M.gSet, setM, storeR, gFz, gFrz, M.gLst, M.gTup, valsR, gSl, slM, gPt, gNoP, fSl, gAnd, gOr, gNot, gTru, truM, tru, gAndV, gOrV, gNotV, stays, gIf, gDrop, gRcv, isL, gApp, gMeth, methM, tyD, gFn, callM, argsOf, argOf, brws, nodupN, putBack, Ret.res, gFnK, allVal, Perm.swap, Perm.id, swapL, gChain, gChain3, blM, gRaise, fAdd, fSub, fLt, fInt, fLen, fDivmod, fMod, fFdiv, fMax2, fIsi, isB, gPar, fEq, fNe, eqM, eqS, keyD, gItems, itemsM, tupItems, lstItems, gFor, gEnum, gRange1, sizeLine, noE, anyItems, dctItems, gDct, gDct0, gDctE, flatP, M.pairD, gAll, gFnM, fEqK, fNeK, fMulS, fStrB, fTuple, fDict, gIsT, isAny, fMul, gYes, gNever, finR, gHeardB, atI, ixN, k1, k2, l1, l2, this]
              · simp only [List.map_map]
                congr 4
                refine List.map_congr_left fun p hm => ?_
                have l1 := lookup_of_mem a1.1 (show (p.1, p.2) ∈ ps from hm)
                simp [l1]
            have fa := fAll_bls (ps.map fun p => eqB k p.2 ((qs.lookup p.1).getD .non))
            have q : eqB (k + 1) (.dct (toK ps)) (.dct (toK qs)) = (ps.map fun p => eqB k p.2 ((qs.lookup p.1).getD .non)).all id := by
              refine eqB_eq ?_
              show _ ↔ EqS (Eqv k) _ _
              rw [eq_dct, List.all_eq_true]
              constructor
              · intro h x
                cases l1 : ps.lookup x with
                | none => exact .inl ⟨rfl, lookup_none.mpr fun z => lookup_none.mp l1 (hp.mem_iff.mpr z)⟩
                | some a =>
                  have hm := lookup_mem l1
                  obtain ⟨y, l2⟩ := lookup_ex (hp.mem_iff.mp (List.mem_map.mpr ⟨_, hm, rfl⟩))
                  have := h _ (List.mem_map.mpr ⟨_, hm, rfl⟩)
                  simp only [l2, Option.getD_some, id] at this
                  exact .inr ⟨a, y, rfl, l2, eqB_iff.mp this⟩
              · intro h q hq
                obtain ⟨p, hm, rfl⟩ := List.mem_map.mp hq
                have l1 := lookup_of_mem a1.1 (show (p.1, p.2) ∈ ps from hm)
                rcases h p.1 with ⟨h1, _⟩ | ⟨a, b, h1, h2, h3⟩
                · rw [l1] at h1; cases h1
                · rw [l1] at h1; cases h1
                  simp only [h2, Option.getD_some, id]
                  exact eqB_iff.mpr h3
            have hs := sortS_eq.mpr hp
            rw [decide_eq_true hs] at ne
            rw [q]
            unfold sv_0 sv_1 sv_2
            unfold gSeq
            simp only [List.map_map, Function.comp_def] at fa e
            simp [gSeq, gIfS, gBl, gOp, gVar, gC, EM.bind, EM.pure, EM.lift, op2, op1, gUn, view, moAt, Slot.mo?, Mo.view, fIx, fII, gAsg, gCall, M.gCons, M.gNil, consM, opL, views, aliveR, gdTup, gdCons, gdSub, gdNil, Tg.bind, Tg.binds, setV, putMo, gRet, gPass, M.gSet, setM, storeR, gFz, gFrz, M.gLst, M.gTup, valsR, gSl, slM, gPt, gNoP, fSl, gAnd, gOr, gNot, gTru, truM, tru, gAndV, gOrV, gNotV, stays, gIf, gDrop, gRcv, isL, gApp, gMeth, methM, tyD, gFn, callM, argsOf, argOf, brws, nodupN, putBack, Ret.res, gFnK, allVal, Perm.swap, Perm.id, swapL, gChain, gChain3, blM, gRaise, fAdd, fSub, fLt, fInt, fLen, fDivmod, fMod, fFdiv, fMax2, fIsi, isB, gPar, keyD, gItems, itemsM, tupItems, lstItems, gFor, gEnum, gRange1, sizeLine, noE, anyItems, dctItems, gDct, gDct0, gDctE, flatP, M.pairD, gAll, gFnM, fMulS, fStrB, fTuple, fDict, gIsT, isAny, fMul, gYes, gNever, finR, gHeardB, atI, ixN, fIsN, fEqK_bl, eA, eB, f1, f2, ne, e, fa]
          · have q : eqB (k + 1) (.dct (toK ps)) (.dct (toK qs)) = false := eqB_eq (by
              constructor
              · intro h; cases h
              · intro h; exact absurd (perm_of_eqv a1 b1 (eq_dct.mp h)) hp)
            have hs : ¬ sortS (ps.map (·.1)) = sortS (qs.map (·.1)) := fun z => hp (sortS_eq.mp z)
            rw [decide_eq_false hs] at ne
            rw [q]
            unfold sv_0 sv_1 sv_2
            unfold gSeq
            simp [gSeq, gIfS, gBl, gOp, gVar, gC, EM.bind, EM.pure, EM.lift, op2, op1, gUn, view, moAt, Slot.mo?, Mo.view, fIx, fII, gAsg, gCall, M.gCons, M.gNil, consM, opL, views, aliveR, gdTup, gdCons, gdSub, gdNil, Tg.bind, Tg.binds, setV, putMo, gRet, gPass, M.gSet, setM, storeR, gFz, gFrz, M.gLst, M.gTup, valsR, gSl, slM, gPt, gNoP, fSl, gAnd, gOr, gNot, gTru, truM, tru, gAndV, gOrV, gNotV, stays, gIf, gDrop, gRcv, isL, gApp, gMeth, methM, tyD, gFn, callM, argsOf, argOf, brws, nodupN, putBack, Ret.res, gFnK, allVal, Perm.swap, Perm.id, swapL, gChain, gChain3, blM, gRaise, fAdd, fSub, fLt, fInt, fLen, fDivmod, fMod, fFdiv, fMax2, fIsi, isB, gPar, keyD, gItems, itemsM, tupItems, lstItems, gFor, gEnum, gRange1, sizeLine, noE, anyItems, dctItems, gDct, gDct0, gDctE, flatP, M.pairD, gAll, gFnM, fMulS, fStrB, fTuple, fDict, gIsT, isAny, fMul, gYes, gNever, finR, gHeardB, atI, ixN, fIsN, fEqK_bl, eA, eB, f1, f2, ne]
end My

namespace My
noncomputable section
open PySem PySem.Spec PyProof.Rows L2 M
/-! _law_same -/
theorem reprEq_leaf {ga gb : EM (List Res)} {ρ : En} {a b : D} {za zb : Str} (h1 : ga ρ = some (.ok [.val a] ρ)) (h2 : gb ρ = some (.ok [.val b] ρ)) (f1 : fRepr [a] = some (.val (.str za))) (f2 : fRepr [b] = some (.val (.str zb))) : gReprEq ga gb ρ = some (.ok (.val (.bl (decide (za = zb)))) ρ) := by
  have e : (za == zb) = decide (za = zb) := by rw [Bool.eq_iff_iff]; simp
  have g1 : gCall fRepr ga ρ = some (.ok (.val (.str za)) ρ) := by
    unfold gCall EM.bind
    rw [h1]
    simp [opL, views, view, f1]
  have g2 : gCall fRepr gb ρ = some (.ok (.val (.str zb)) ρ) := by
    unfold gCall EM.bind
    rw [h2]
    simp [opL, views, view, f2]
  unfold gReprEq gOp EM.bind
  rw [g1]
  dsimp only
  rw [g2]
  simp [op2, view, fEq, eqM, eqS, e]
theorem reprEq_brk {ga gb : EM (List Res)} {ρ : En} {a b : D} {zb : Str} {n L : Nat} (h1 : ga ρ = some (.ok [.val a] ρ)) (h2 : gb ρ = some (.ok [.val b] ρ)) (ha : brk a = true) (hs : Shd n L a) (hn : n ≤ 12) (hL : L ≤ sizeLine) (f2 : fRepr [b] = some (.val (.str zb))) (hz : bgnB zb = false) : gReprEq ga gb ρ = some (.ok (.val (.bl false)) ρ) := by
  have g1 : gCall fRepr ga ρ = none := by
    unfold gCall EM.bind
    rw [h1]
    cases a <;> first | ((simp [brk] at ha; done)) | (simp [opL, views, view, fRepr]; done)
  have g2 : gCall fRepr gb ρ = some (.ok (.val (.str zb)) ρ) := by
    unfold gCall EM.bind
    rw [h2]
    simp [opL, views, view, f2]
  have k : gReprK gb [.val a] ρ = some (.ok (.val (.bl false)) ρ) := by
    unfold gReprK
    dsimp only
    rw [if_pos ⟨ha, n, L, hs, hn, hL⟩]
    unfold EM.bind
    rw [g2]
    simp [hz, EM.pure]
  have g3 : gOp fEq (gCall fRepr ga) (gCall fRepr gb) ρ = none := by
    unfold gOp EM.bind
    rw [g1]
  unfold gReprEq
  rw [g3]
  dsimp only
  unfold gReprC EM.bind
  rw [h1]
  exact k
def SL : Nat → Nat
  | 0 => 730
  | n + 1 => 6 * (2 * SL n + 4) + 8
theorem sl_le (n : Nat) : 730 ≤ SL n := by
  induction n with
  | zero => exact Nat.le_refl _
  | succ n ih => unfold SL; omega
theorem okc_small (c : Nat) (h : okc c = true) : c < 127 := by unfold okc at h; simp at h; omega
theorem tx_repr {z : Str} (h : Tx 72 z) : (reprText z).length ≤ 722 := by
  have := StrLaws.reprText_len z fun c hc => Nat.lt_of_lt_of_le (okc_small c (h.2 c hc)) (by decide)
  have := h.1
  omega
theorem int_log {i : Int} (h : -(10 ^ 20) ≤ i ∧ i ≤ 10 ^ 20) : i.natAbs.log2 < 68 := by
  refine PySem.Flt.log2_lt_of (by decide) ?_
  have : (2 : Nat) ^ 68 = 295147905179352825856 := by decide
  omega
theorem int_short {i : Int} (h : -(10 ^ 20) ≤ i ∧ i ≤ 10 ^ 20) : (toString i : Str).length ≤ 69 := by
  rw [PySem.ofString_length]
  exact PySem.int_text_length_le (k := 68) (by decide) (int_log h)
theorem lf_shd {n L : Nat} {d : D} (h : Lf d) (hL : 730 ≤ L) : Shd n L d := by
  cases d with
  | non => cases n <;> (show 4 ≤ L; omega)
  | bl b => cases n <;> (show 5 ≤ L; omega)
  | int i =>
    have h1 := int_log h
    have h2 := int_short h
    cases n <;> exact ⟨by omega, by omega⟩
  | str z =>
    have := tx_repr h
    cases n <;> (show (reprText z).length ≤ L; omega)
  | _ => exact h.elim
theorem nm_repr {s : Str} (h : Nm s) : (reprText s).length ≤ 730 := by
  have := StrLaws.reprText_len s fun c hc => Nat.lt_of_lt_of_le (show c < 123 from by have := h.2.2 c hc; unfold isLo at this; simp at this; omega) (by decide)
  have := h.2.1
  omega
theorem shd_str {n L : Nat} {z : Str} (h : (reprText z).length ≤ L) : Shd n L (.str z) := by cases n <;> exact h
theorem vl_shd : ∀ {n : Nat} {d : D}, Vl n d → Shd n (SL n) d
  | 0, d, h => lf_shd h (sl_le 0)
  | n + 1, d, h => by
    rcases h with h | ⟨ds, rfl, h1, h2⟩ | ⟨ps, rfl, h1, h2, h3⟩
    · exact lf_shd h (sl_le _)
    · refine ⟨SL n, ?_, fun x hx => vl_shd (h2 x hx)⟩
      have : ds.length * (SL n + 2) ≤ 6 * (SL n + 2) := Nat.mul_le_mul_right _ h1
      have e : SL (n + 1) = 6 * (2 * SL n + 4) + 8 := rfl
      omega
    · refine ⟨SL n, ?_, fun kv hkv => ?_⟩
      · have : (toK ps).length = ps.length := by simp [toK]
        rw [this]
        have : ps.length * (2 * SL n + 4) ≤ 6 * (2 * SL n + 4) := Nat.mul_le_mul_right _ h2
        have e : SL (n + 1) = 6 * (2 * SL n + 4) + 8 := rfl
        omega
      · obtain ⟨p, hp, rfl⟩ := List.mem_map.mp hkv
        refine ⟨shd_str (Nat.le_trans (nm_repr (h1.2 p.1 (List.mem_map.mpr ⟨p, hp, rfl⟩))) (sl_le n)), vl_shd (h3 p hp)⟩
def lsD (c : Ads) (n : Nat) : EM Res := (gLc (gItems anyItems (gFz 1)) (.nm 2) [2] (gNot (gTru (gFn 2 (m__law_same c n) (gCons (gOp fIx (gVar 0) (gVar 2)) (gCons (gOp fIx (gVar 1) (gVar 2)) gNil))))) (gFz 2))
def lsT (c : Ads) (n : Nat) : EM Res := (gLc (gRange1 (gCons (gCall fLen (gCons (gVar 1) gNil)) gNil)) (.nm 4) [4] (gNot (gTru (gFn 2 (m__law_same c n) (gCons (gOp fIx (gVar 0) (gVar 4)) (gCons (gOp fIx (gVar 1) (gVar 4)) gNil))))) (gFz 4))
def ls_0 (c : Ads) (n : Nat) : EM Fl := (gIfS (gTru (gCall fIsi (gCons (gVar 1) (gCons (gC (.ty "dict")) gNil))))
    (gRet (gAndV (gCall fIsi (gCons (gVar 0) (gCons (gC (.ty "dict")) gNil))) (gAndV (gOp fEqK (gCall fSorted (gCons (gVar 0) gNil)) (gCall fSorted (gCons (gVar 1) gNil))) (gOp fEqK (lsD c n) (gLst gNil)))))
    gPass)
def ls_1 (c : Ads) (n : Nat) : EM Fl := (gIfS (gOr (gTru (gCall fIsi (gCons (gVar 1) (gCons (gC (.ty "tuple")) gNil)))) (gTru (gCall fIsi (gCons (gVar 1) (gCons (gC (.ty "list")) gNil)))))
    (gSeq (gSet 3 (gIf (gTru (gCall fIsi (gCons (gVar 1) (gCons (gC (.ty "tuple")) gNil)))) (gCall fIsi (gCons (gVar 0) (gCons (gC (.ty "tuple")) gNil))) (gCall fIsi (gCons (gVar 0) (gCons (gC (.ty "list")) gNil)))))
    (gRet (gAndV (gVar 3) (gAndV (gOp fEqK (gCall fLen (gCons (gVar 0) gNil)) (gCall fLen (gCons (gVar 1) gNil))) (gOp fEqK (lsT c n) (gLst gNil))))))
    gPass)
def ls_2 (c : Ads) : EM Fl := (gRet (gAndV (gOp fEqK (gCall fIsi (gCons (gVar 0) (gCons (gC (.ty "bool")) gNil))) (gCall fIsi (gCons (gVar 1) (gCons (gC (.ty "bool")) gNil)))) (gReprEq (gCons (gFz 0) gNil) (gCons (gFz 1) gNil))))
theorem ls_eq (c : Ads) (n : Nat) : m__law_same c (n + 1) = runM 5 (gSeq (ls_0 c n) (gSeq (ls_1 c n) (ls_2 c))) := rfl
def rp : D → Str
  | .non => "None"
  | .bl b => if b then "True" else "False"
  | .int i => toString i
  | .str z => reprText z
  | _ => ""
theorem lf_repr {d : D} (h : Lf d) : fRepr [d] = some (.val (.str (rp d))) := by
  cases d with
  | non => rfl
  | bl b => rfl
  | int i =>
    unfold fRepr
    have := int_log h
    dsimp only
    rw [if_pos (by omega)]; rfl
  | str z =>
    unfold fRepr
    have := tx_repr h
    dsimp only
    rw [if_pos (by rw [sizeLine_eq]; omega)]; rfl
  | _ => exact h.elim
theorem rp_bgn {d : D} (h : Lf d) (hb : ∀ b, d ≠ .bl b) : bgnB (rp d) = false := by
  cases d with
  | non => exact bgn_none
  | bl b => exact absurd rfl (hb b)
  | int i => exact bgn_int i
  | str z => exact bgn_repr z
  | _ => exact h.elim
def isBo : D → Bool
  | .bl _ => true
  | _ => false
theorem rp_inj {R : D → D → Prop} {a b : D} (ha : Lf a) (hb : Lf b) (h : isBo a = isBo b) : rp a = rp b ↔ EqS R a b := by
  cases a with
  | non =>
    cases b with
    | non => exact ⟨fun _ => trivial, fun _ => rfl⟩
    | bl _ => cases h
    | int i => exact ⟨fun e => absurd e.symm int_ne_none, fun e => e.elim⟩
    | str z => exact ⟨fun e => absurd e.symm repr_ne_none, fun e => e.elim⟩
    | _ => exact hb.elim
  | bl x =>
    cases b with
    | bl y =>
      show rp (.bl x) = rp (.bl y) ↔ x = y
      unfold rp
      cases x <;> cases y <;> simp <;> decide +kernel
    | non => cases h
    | int i => cases h
    | str z => cases h
    | _ => exact hb.elim
  | int i =>
    cases b with
    | non => exact ⟨fun e => absurd e int_ne_none, fun e => e.elim⟩
    | bl _ => cases h
    | int j => exact ⟨fun e => int_text_inj e, fun e => by cases (show i = j from e); rfl⟩
    | str z => exact ⟨fun e => absurd e.symm repr_ne_int, fun e => e.elim⟩
    | _ => exact hb.elim
  | str y =>
    cases b with
    | non => exact ⟨fun e => absurd e repr_ne_none, fun e => e.elim⟩
    | bl _ => cases h
    | int j => exact ⟨fun e => absurd e repr_ne_int, fun e => e.elim⟩
    | str z => exact ⟨fun e => repr_inj ha.2 hb.2 e, fun e => by cases (show y = z from e); rfl⟩
    | _ => exact hb.elim
  | _ => exact ha.elim
end
end My

namespace My
noncomputable section
open PySem PySem.Spec PyProof.Rows L2 M
theorem sl_top {n : Nat} (h : n ≤ 4) : SL n ≤ sizeLine := by
  have : n = 0 ∨ n = 1 ∨ n = 2 ∨ n = 3 ∨ n = 4 := by omega
  rw [sizeLine_eq]
  rcases this with rfl | rfl | rfl | rfl | rfl <;> decide
/-- due a plain one, had of another sort or a plain one -/
theorem ls_leaf (c : Ads) (f : Nat) {n : Nat} {a b : D} (ha : Vl n a) (hb : Lf b) (hn : n ≤ 4) : m__law_same c (f + 1) [.val a, .val b] = some (.ok (.val (.bl (eqB n a b))) [.val a, .val b]) := by
  rw [ls_eq]
  refine run_nx (N := 5) (as := [.val a, .val b]) (r := .val (.bl (eqB n a b))) (ρ := [.val a, .val b, .un, .un, .un]) ?_
  have fin : ∀ q : Bool, (q = true ↔ EqS (Rn n) a b) → eqB n a b = q := fun q h => eqB_eq (by rw [eqv_rn]; exact h)
  have rl : Lf a → isBo a = isBo b → gReprEq (gCons (gFz 0) gNil) (gCons (gFz 1) gNil) [.val a, .val b, .un, .un, .un] = some (.ok (.val (.bl (eqB n a b))) [.val a, .val b, .un, .un, .un]) := fun h e => by
    rw [reprEq_leaf (a := a) (b := b) (by simp [gSeq, gIfS, gBl, gOp, gVar, gC, EM.bind, EM.pure, EM.lift, op2, op1, gUn, view, moAt, Slot.mo?, Mo.view, fIx, fII, gAsg, gCall, M.gCons, M.gNil, consM, opL, views, aliveR, gdTup, gdCons, gdSub, gdNil, Tg.bind, Tg.binds, setV, putMo, gRet, gPass, M.gSet, setM, storeR, gFz, gFrz, M.gLst, M.gTup, valsR, gSl, slM, gPt, gNoP, fSl, gAnd, gOr, gNot, gTru, truM, tru, gAndV, gOrV, gNotV, stays, gIf, gDrop, gRcv, isL, gApp, gMeth, methM, tyD, gFn, callM, argsOf, argOf, brws, nodupN, putBack, Ret.res, gFnK, allVal, Perm.swap, Perm.id, swapL, gChain, gChain3, blM, gRaise, fAdd, fSub, fLt, fInt, fLen, fDivmod, fMod, fFdiv, fMax2, fIsi, isB, gPar, fEq, fNe, eqM, eqS, keyD, gItems, itemsM, tupItems, lstItems, gFor, gEnum, gRange1, sizeLine, noE, anyItems, dctItems, gDct, gDct0, gDctE, flatP, M.pairD, gAll, gFnM, fEqK, fNeK, fMulS, fStrB, fTuple, fDict, gIsT, isAny, fMul, gYes, gNever, finR, gHeardB, atI, ixN]) (by simp [gSeq, gIfS, gBl, gOp, gVar, gC, EM.bind, EM.pure, EM.lift, op2, op1, gUn, view, moAt, Slot.mo?, Mo.view, fIx, fII, gAsg, gCall, M.gCons, M.gNil, consM, opL, views, aliveR, gdTup, gdCons, gdSub, gdNil, Tg.bind, Tg.binds, setV, putMo, gRet, gPass, M.gSet, setM, storeR, gFz, gFrz, M.gLst, M.gTup, valsR, gSl, slM, gPt, gNoP, fSl, gAnd, gOr, gNot, gTru, truM, tru, gAndV, gOrV, gNotV, stays, gIf, gDrop, gRcv, isL, gApp, gMeth, methM, tyD, gFn, callM, argsOf, argOf, brws, nodupN, putBack, Ret.res, gFnK, allVal, Perm.swap, Perm.id, swapL, gChain, gChain3, blM, gRaise, fAdd, fSub, fLt, fInt, fLen, fDivmod, fMod, fFdiv, fMax2, fIsi, isB, gPar, fEq, fNe, eqM, eqS, keyD, gItems, itemsM, tupItems, lstItems, gFor, gEnum, gRange1, sizeLine, noE, anyItems, dctItems, gDct, gDct0, gDctE, flatP, M.pairD, gAll, gFnM, fEqK, fNeK, fMulS, fStrB, fTuple, fDict, gIsT, isAny, fMul, gYes, gNever, finR, gHeardB, atI, ixN]) (lf_repr h) (lf_repr hb), fin (decide (rp a = rp b)) (by rw [decide_eq_true_iff]; exact rp_inj h hb e)]
  have rb : brk a = true → (∀ q, b ≠ .bl q) → gReprEq (gCons (gFz 0) gNil) (gCons (gFz 1) gNil) [.val a, .val b, .un, .un, .un] = some (.ok (.val (.bl false)) [.val a, .val b, .un, .un, .un]) := fun h e =>
    reprEq_brk (a := a) (b := b) (by simp [gSeq, gIfS, gBl, gOp, gVar, gC, EM.bind, EM.pure, EM.lift, op2, op1, gUn, view, moAt, Slot.mo?, Mo.view, fIx, fII, gAsg, gCall, M.gCons, M.gNil, consM, opL, views, aliveR, gdTup, gdCons, gdSub, gdNil, Tg.bind, Tg.binds, setV, putMo, gRet, gPass, M.gSet, setM, storeR, gFz, gFrz, M.gLst, M.gTup, valsR, gSl, slM, gPt, gNoP, fSl, gAnd, gOr, gNot, gTru, truM, tru, gAndV, gOrV, gNotV, stays, gIf, gDrop, gRcv, isL, gApp, gMeth, methM, tyD, gFn, callM, argsOf, argOf, brws, nodupN, putBack, Ret.res, gFnK, allVal, Perm.swap, Perm.id, swapL, gChain, gChain3, blM, gRaise, fAdd, fSub, fLt, fInt, fLen, fDivmod, fMod, fFdiv, fMax2, fIsi, isB, gPar, fEq, fNe, eqM, eqS, keyD, gItems, itemsM, tupItems, lstItems, gFor, gEnum, gRange1, sizeLine, noE, anyItems, dctItems, gDct, gDct0, gDctE, flatP, M.pairD, gAll, gFnM, fEqK, fNeK, fMulS, fStrB, fTuple, fDict, gIsT, isAny, fMul, gYes, gNever, finR, gHeardB, atI, ixN]) (by simp [gSeq, gIfS, gBl, gOp, gVar, gC, EM.bind, EM.pure, EM.lift, op2, op1, gUn, view, moAt, Slot.mo?, Mo.view, fIx, fII, gAsg, gCall, M.gCons, M.gNil, consM, opL, views, aliveR, gdTup, gdCons, gdSub, gdNil, Tg.bind, Tg.binds, setV, putMo, gRet, gPass, M.gSet, setM, storeR, gFz, gFrz, M.gLst, M.gTup, valsR, gSl, slM, gPt, gNoP, fSl, gAnd, gOr, gNot, gTru, truM, tru, gAndV, gOrV, gNotV, stays, gIf, gDrop, gRcv, isL, gApp, gMeth, methM, tyD, gFn, callM, argsOf, argOf, brws, nodupN, putBack, Ret.res, gFnK, allVal, Perm.swap, Perm.id, swapL, gChain, gChain3, blM, gRaise, fAdd, fSub, fLt, fInt, fLen, fDivmod, fMod, fFdiv, fMax2, fIsi, isB, gPar, fEq, fNe, eqM, eqS, keyD, gItems, itemsM, tupItems, lstItems, gFor, gEnum, gRange1, sizeLine, noE, anyItems, dctItems, gDct, gDct0, gDctE, flatP, M.pairD, gAll, gFnM, fEqK, fNeK, fMulS, fStrB, fTuple, fDict, gIsT, isAny, fMul, gYes, gNever, finR, gHeardB, atI, ixN]) h (vl_shd ha) (by omega) (sl_top hn) (lf_repr hb) (rp_bgn hb e)
  unfold ls_0 ls_1 ls_2
  unfold gSeq
  rcases vl_cases ha with h | ⟨k, ds, rfl, rfl, _⟩ | ⟨k, ps, rfl, rfl, _⟩
  · by_cases e : isBo a = isBo b
    · have r := rl h e
      cases a <;> first | exact h.elim | skip
      all_goals cases b <;> first | exact hb.elim | (simp [isBo] at e; done) | skip
      all_goals simp [gSeq, gIfS, gBl, gOp, gVar, gC, EM.bind, EM.pure, EM.lift, op2, op1, gUn, view, moAt, Slot.mo?, Mo.view, fIx, fII, gAsg, gCall, M.gCons, M.gNil, consM, opL, views, aliveR, gdTup, gdCons, gdSub, gdNil, Tg.bind, Tg.binds, setV, putMo, gRet, gPass, M.gSet, setM, storeR, gFz, gFrz, M.gLst, M.gTup, valsR, gSl, slM, gPt, gNoP, fSl, gAnd, gOr, gNot, gTru, truM, tru, gAndV, gOrV, gNotV, stays, gIf, gDrop, gRcv, isL, gApp, gMeth, methM, tyD, gFn, callM, argsOf, argOf, brws, nodupN, putBack, Ret.res, gFnK, allVal, Perm.swap, Perm.id, swapL, gChain, gChain3, blM, gRaise, fAdd, fSub, fLt, fInt, fLen, fDivmod, fMod, fFdiv, fMax2, fIsi, isB, gPar, keyD, gItems, itemsM, tupItems, lstItems, gFor, gEnum, gRange1, sizeLine, noE, anyItems, dctItems, gDct, gDct0, gDctE, flatP, M.pairD, gAll, gFnM, fMulS, fStrB, fTuple, fDict, gIsT, isAny, fMul, gYes, gNever, finR, gHeardB, atI, ixN, fEqK_bl] at r ⊢
      all_goals simp [r]
    · have q : eqB n a b = false := fin false (by
        constructor
        · intro z; cases z
        · intro z
          cases a <;> cases b <;> first | exact z.elim | exact absurd rfl e)
      rw [q]
      cases a <;> first | exact h.elim | skip
      all_goals cases b <;> first | exact hb.elim | exact absurd rfl e | skip
      all_goals simp [gSeq, gIfS, gBl, gOp, gVar, gC, EM.bind, EM.pure, EM.lift, op2, op1, gUn, view, moAt, Slot.mo?, Mo.view, fIx, fII, gAsg, gCall, M.gCons, M.gNil, consM, opL, views, aliveR, gdTup, gdCons, gdSub, gdNil, Tg.bind, Tg.binds, setV, putMo, gRet, gPass, M.gSet, setM, storeR, gFz, gFrz, M.gLst, M.gTup, valsR, gSl, slM, gPt, gNoP, fSl, gAnd, gOr, gNot, gTru, truM, tru, gAndV, gOrV, gNotV, stays, gIf, gDrop, gRcv, isL, gApp, gMeth, methM, tyD, gFn, callM, argsOf, argOf, brws, nodupN, putBack, Ret.res, gFnK, allVal, Perm.swap, Perm.id, swapL, gChain, gChain3, blM, gRaise, fAdd, fSub, fLt, fInt, fLen, fDivmod, fMod, fFdiv, fMax2, fIsi, isB, gPar, keyD, gItems, itemsM, tupItems, lstItems, gFor, gEnum, gRange1, sizeLine, noE, anyItems, dctItems, gDct, gDct0, gDctE, flatP, M.pairD, gAll, gFnM, fMulS, fStrB, fTuple, fDict, gIsT, isAny, fMul, gYes, gNever, finR, gHeardB, atI, ixN, fEqK_bl]
  · have q : eqB (k + 1) (.tup ds) b = false := fin false (by
      constructor
      · intro z; cases z
      · intro z
        cases b <;> first | exact z.elim | exact hb.elim)
    rw [q]
    cases b with
    | bl y => simp [gSeq, gIfS, gBl, gOp, gVar, gC, EM.bind, EM.pure, EM.lift, op2, op1, gUn, view, moAt, Slot.mo?, Mo.view, fIx, fII, gAsg, gCall, M.gCons, M.gNil, consM, opL, views, aliveR, gdTup, gdCons, gdSub, gdNil, Tg.bind, Tg.binds, setV, putMo, gRet, gPass, M.gSet, setM, storeR, gFz, gFrz, M.gLst, M.gTup, valsR, gSl, slM, gPt, gNoP, fSl, gAnd, gOr, gNot, gTru, truM, tru, gAndV, gOrV, gNotV, stays, gIf, gDrop, gRcv, isL, gApp, gMeth, methM, tyD, gFn, callM, argsOf, argOf, brws, nodupN, putBack, Ret.res, gFnK, allVal, Perm.swap, Perm.id, swapL, gChain, gChain3, blM, gRaise, fAdd, fSub, fLt, fInt, fLen, fDivmod, fMod, fFdiv, fMax2, fIsi, isB, gPar, keyD, gItems, itemsM, tupItems, lstItems, gFor, gEnum, gRange1, sizeLine, noE, anyItems, dctItems, gDct, gDct0, gDctE, flatP, M.pairD, gAll, gFnM, fMulS, fStrB, fTuple, fDict, gIsT, isAny, fMul, gYes, gNever, finR, gHeardB, atI, ixN, fEqK_bl]
    | non =>
      have r := rb rfl (fun q => by simp)
      simp [gSeq, gIfS, gBl, gOp, gVar, gC, EM.bind, EM.pure, EM.lift, op2, op1, gUn, view, moAt, Slot.mo?, Mo.view, fIx, fII, gAsg, gCall, M.gCons, M.gNil, consM, opL, views, aliveR, gdTup, gdCons, gdSub, gdNil, Tg.bind, Tg.binds, setV, putMo, gRet, gPass, M.gSet, setM, storeR, gFz, gFrz, M.gLst, M.gTup, valsR, gSl, slM, gPt, gNoP, fSl, gAnd, gOr, gNot, gTru, truM, tru, gAndV, gOrV, gNotV, stays, gIf, gDrop, gRcv, isL, gApp, gMeth, methM, tyD, gFn, callM, argsOf, argOf, brws, nodupN, putBack, Ret.res, gFnK, allVal, Perm.swap, Perm.id, swapL, gChain, gChain3, blM, gRaise, fAdd, fSub, fLt, fInt, fLen, fDivmod, fMod, fFdiv, fMax2, fIsi, isB, gPar, keyD, gItems, itemsM, tupItems, lstItems, gFor, gEnum, gRange1, sizeLine, noE, anyItems, dctItems, gDct, gDct0, gDctE, flatP, M.pairD, gAll, gFnM, fMulS, fStrB, fTuple, fDict, gIsT, isAny, fMul, gYes, gNever, finR, gHeardB, atI, ixN, fEqK_bl] at r ⊢
      simp [r]
    | int y =>
      have r := rb rfl (fun q => by simp)
      simp [gSeq, gIfS, gBl, gOp, gVar, gC, EM.bind, EM.pure, EM.lift, op2, op1, gUn, view, moAt, Slot.mo?, Mo.view, fIx, fII, gAsg, gCall, M.gCons, M.gNil, consM, opL, views, aliveR, gdTup, gdCons, gdSub, gdNil, Tg.bind, Tg.binds, setV, putMo, gRet, gPass, M.gSet, setM, storeR, gFz, gFrz, M.gLst, M.gTup, valsR, gSl, slM, gPt, gNoP, fSl, gAnd, gOr, gNot, gTru, truM, tru, gAndV, gOrV, gNotV, stays, gIf, gDrop, gRcv, isL, gApp, gMeth, methM, tyD, gFn, callM, argsOf, argOf, brws, nodupN, putBack, Ret.res, gFnK, allVal, Perm.swap, Perm.id, swapL, gChain, gChain3, blM, gRaise, fAdd, fSub, fLt, fInt, fLen, fDivmod, fMod, fFdiv, fMax2, fIsi, isB, gPar, keyD, gItems, itemsM, tupItems, lstItems, gFor, gEnum, gRange1, sizeLine, noE, anyItems, dctItems, gDct, gDct0, gDctE, flatP, M.pairD, gAll, gFnM, fMulS, fStrB, fTuple, fDict, gIsT, isAny, fMul, gYes, gNever, finR, gHeardB, atI, ixN, fEqK_bl] at r ⊢
      simp [r]
    | str y =>
      have r := rb rfl (fun q => by simp)
      simp [gSeq, gIfS, gBl, gOp, gVar, gC, EM.bind, EM.pure, EM.lift, op2, op1, gUn, view, moAt, Slot.mo?, Mo.view, fIx, fII, gAsg, gCall, M.gCons, M.gNil, consM, opL, views, aliveR, gdTup, gdCons, gdSub, gdNil, Tg.bind, Tg.binds, setV, putMo, gRet, gPass, M.gSet, setM, storeR, gFz, gFrz, M.gLst, M.gTup, valsR, gSl, slM, gPt, gNoP, fSl, gAnd, gOr, gNot, gTru, truM, tru, gAndV, gOrV, gNotV, stays, gIf, gDrop, gRcv, isL, gApp, gMeth, methM, tyD, gFn, callM, argsOf, argOf, brws, nodupN, putBack, Ret.res, gFnK, allVal, Perm.swap, Perm.id, swapL, gChain, gChain3, blM, gRaise, fAdd, fSub, fLt, fInt, fLen, fDivmod, fMod, fFdiv, fMax2, fIsi, isB, gPar, keyD, gItems, itemsM, tupItems, lstItems, gFor, gEnum, gRange1, sizeLine, noE, anyItems, dctItems, gDct, gDct0, gDctE, flatP, M.pairD, gAll, gFnM, fMulS, fStrB, fTuple, fDict, gIsT, isAny, fMul, gYes, gNever, finR, gHeardB, atI, ixN, fEqK_bl] at r ⊢
      simp [r]
    | _ => exact hb.elim
  · have q : eqB (k + 1) (.dct (toK ps)) b = false := fin false (by
      constructor
      · intro z; cases z
      · intro z
        cases b <;> first | exact z.elim | exact hb.elim)
    rw [q]
    cases b with
    | bl y => simp [gSeq, gIfS, gBl, gOp, gVar, gC, EM.bind, EM.pure, EM.lift, op2, op1, gUn, view, moAt, Slot.mo?, Mo.view, fIx, fII, gAsg, gCall, M.gCons, M.gNil, consM, opL, views, aliveR, gdTup, gdCons, gdSub, gdNil, Tg.bind, Tg.binds, setV, putMo, gRet, gPass, M.gSet, setM, storeR, gFz, gFrz, M.gLst, M.gTup, valsR, gSl, slM, gPt, gNoP, fSl, gAnd, gOr, gNot, gTru, truM, tru, gAndV, gOrV, gNotV, stays, gIf, gDrop, gRcv, isL, gApp, gMeth, methM, tyD, gFn, callM, argsOf, argOf, brws, nodupN, putBack, Ret.res, gFnK, allVal, Perm.swap, Perm.id, swapL, gChain, gChain3, blM, gRaise, fAdd, fSub, fLt, fInt, fLen, fDivmod, fMod, fFdiv, fMax2, fIsi, isB, gPar, keyD, gItems, itemsM, tupItems, lstItems, gFor, gEnum, gRange1, sizeLine, noE, anyItems, dctItems, gDct, gDct0, gDctE, flatP, M.pairD, gAll, gFnM, fMulS, fStrB, fTuple, fDict, gIsT, isAny, fMul, gYes, gNever, finR, gHeardB, atI, ixN, fEqK_bl]
    | non =>
      have r := rb rfl (fun q => by simp)
      simp [gSeq, gIfS, gBl, gOp, gVar, gC, EM.bind, EM.pure, EM.lift, op2, op1, gUn, view, moAt, Slot.mo?, Mo.view, fIx, fII, gAsg, gCall, M.gCons, M.gNil, consM, opL, views, aliveR, gdTup, gdCons, gdSub, gdNil, Tg.bind, Tg.binds, setV, putMo, gRet, gPass, M.gSet, setM, storeR, gFz, gFrz, M.gLst, M.gTup, valsR, gSl, slM, gPt, gNoP, fSl, gAnd, gOr, gNot, gTru, truM, tru, gAndV, gOrV, gNotV, stays, gIf, gDrop, gRcv, isL, gApp, gMeth, methM, tyD, gFn, callM, argsOf, argOf, brws, nodupN, putBack, Ret.res, gFnK, allVal, Perm.swap, Perm.id, swapL, gChain, gChain3, blM, gRaise, fAdd, fSub, fLt, fInt, fLen, fDivmod, fMod, fFdiv, fMax2, fIsi, isB, gPar, keyD, gItems, itemsM, tupItems, lstItems, gFor, gEnum, gRange1, sizeLine, noE, anyItems, dctItems, gDct, gDct0, gDctE, flatP, M.pairD, gAll, gFnM, fMulS, fStrB, fTuple, fDict, gIsT, isAny, fMul, gYes, gNever, finR, gHeardB, atI, ixN, fEqK_bl] at r ⊢
      simp [r]
    | int y =>
      have r := rb rfl (fun q => by simp)
      simp [gSeq, gIfS, gBl, gOp, gVar, gC, EM.bind, EM.pure, EM.lift, op2, op1, gUn, view, moAt, Slot.mo?, Mo.view, fIx, fII, gAsg, gCall, M.gCons, M.gNil, consM, opL, views, aliveR, gdTup, gdCons, gdSub, gdNil, Tg.bind, Tg.binds, setV, putMo, gRet, gPass, M.gSet, setM, storeR, gFz, gFrz, M.gLst, M.gTup, valsR, gSl, slM, gPt, gNoP, fSl, gAnd, gOr, gNot, gTru, truM, tru, gAndV, gOrV, gNotV, stays, gIf, gDrop, gRcv, isL, gApp, gMeth, methM, tyD, gFn, callM, argsOf, argOf, brws, nodupN, putBack, Ret.res, gFnK, allVal, Perm.swap, Perm.id, swapL, gChain, gChain3, blM, gRaise, fAdd, fSub, fLt, fInt, fLen, fDivmod, fMod, fFdiv, fMax2, fIsi, isB, gPar, keyD, gItems, itemsM, tupItems, lstItems, gFor, gEnum, gRange1, sizeLine, noE, anyItems, dctItems, gDct, gDct0, gDctE, flatP, M.pairD, gAll, gFnM, fMulS, fStrB, fTuple, fDict, gIsT, isAny, fMul, gYes, gNever, finR, gHeardB, atI, ixN, fEqK_bl] at r ⊢
      simp [r]
    | str y =>
      have r := rb rfl (fun q => by simp)
      simp [gSeq, gIfS, gBl, gOp, gVar, gC, EM.bind, EM.pure, EM.lift, op2, op1, gUn, view, moAt, Slot.mo?, Mo.view, fIx, fII, gAsg, gCall, M.gCons, M.gNil, consM, opL, views, aliveR, gdTup, gdCons, gdSub, gdNil, Tg.bind, Tg.binds, setV, putMo, gRet, gPass, M.gSet, setM, storeR, gFz, gFrz, M.gLst, M.gTup, valsR, gSl, slM, gPt, gNoP, fSl, gAnd, gOr, gNot, gTru, truM, tru, gAndV, gOrV, gNotV, stays, gIf, gDrop, gRcv, isL, gApp, gMeth, methM, tyD, gFn, callM, argsOf, argOf, brws, nodupN, putBack, Ret.res, gFnK, allVal, Perm.swap, Perm.id, swapL, gChain, gChain3, blM, gRaise, fAdd, fSub, fLt, fInt, fLen, fDivmod, fMod, fFdiv, fMax2, fIsi, isB, gPar, keyD, gItems, itemsM, tupItems, lstItems, gFor, gEnum, gRange1, sizeLine, noE, anyItems, dctItems, gDct, gDct0, gDctE, flatP, M.pairD, gAll, gFnM, fMulS, fStrB, fTuple, fDict, gIsT, isAny, fMul, gYes, gNever, finR, gHeardB, atI, ixN, fEqK_bl] at r ⊢
      simp [r]
    | _ => exact hb.elim
theorem upto_fm {n : Nat} (q : Nat → Bool) (p : D → Bool) (h : ∀ i : Nat, p (.int (i : Int)) = q i) : ((upto (n : Int)).filter p).map (fun d => d) = (((List.range n).filter q).map fun (i : Nat) => (i : Int)).map D.int := by
  unfold upto
  rw [List.map_id', List.filter_map, List.map_map]
  have : (p ∘ fun (i : Nat) => D.int (i : Int)) = q := funext h
  rw [this]
  simp [Function.comp_def]
theorem ls_tup_no (c : Ads) (f : Nat) {n : Nat} {a : D} {ys : List D} (ha : Vl n a) (h : ∀ xs, a ≠ .tup xs) : m__law_same c (f + 1) [.val a, .val (.tup ys)] = some (.ok (.val (.bl (eqB n a (.tup ys)))) [.val a, .val (.tup ys)]) := by
  have q : eqB n a (.tup ys) = false := eqB_eq (by
    rw [eqv_rn]
    constructor
    · intro z; cases z
    · intro z; cases a <;> first | exact z.elim | exact absurd rfl (h _))
  rw [ls_eq, q]
  refine run_nx (N := 5) (as := [.val a, .val (.tup ys)]) (r := .val (.bl false)) (ρ := [.val a, .val (.tup ys), .un, .val (.bl false), .un]) ?_
  unfold ls_0 ls_1
  unfold gSeq
  rcases vl_cases ha with h' | ⟨k', xs, e, rfl, a1, a2⟩ | ⟨k', ps, e, rfl, a1, a2, a3⟩
  · cases a <;> first | exact h'.elim | simp [gSeq, gIfS, gBl, gOp, gVar, gC, EM.bind, EM.pure, EM.lift, op2, op1, gUn, view, moAt, Slot.mo?, Mo.view, fIx, fII, gAsg, gCall, M.gCons, M.gNil, consM, opL, views, aliveR, gdTup, gdCons, gdSub, gdNil, Tg.bind, Tg.binds, setV, putMo, gRet, gPass, M.gSet, setM, storeR, gFz, gFrz, M.gLst, M.gTup, valsR, gSl, slM, gPt, gNoP, fSl, gAnd, gOr, gNot, gTru, truM, tru, gAndV, gOrV, gNotV, stays, gIf, gDrop, gRcv, isL, gApp, gMeth, methM, tyD, gFn, callM, argsOf, argOf, brws, nodupN, putBack, Ret.res, gFnK, allVal, Perm.swap, Perm.id, swapL, gChain, gChain3, blM, gRaise, fAdd, fSub, fLt, fInt, fLen, fDivmod, fMod, fFdiv, fMax2, fIsi, isB, gPar, keyD, gItems, itemsM, tupItems, lstItems, gFor, gEnum, gRange1, sizeLine, noE, anyItems, dctItems, gDct, gDct0, gDctE, flatP, M.pairD, gAll, gFnM, fMulS, fStrB, fTuple, fDict, gIsT, isAny, fMul, gYes, gNever, finR, gHeardB, atI, ixN]
  · exact absurd rfl (h _)
  · simp [gSeq, gIfS, gBl, gOp, gVar, gC, EM.bind, EM.pure, EM.lift, op2, op1, gUn, view, moAt, Slot.mo?, Mo.view, fIx, fII, gAsg, gCall, M.gCons, M.gNil, consM, opL, views, aliveR, gdTup, gdCons, gdSub, gdNil, Tg.bind, Tg.binds, setV, putMo, gRet, gPass, M.gSet, setM, storeR, gFz, gFrz, M.gLst, M.gTup, valsR, gSl, slM, gPt, gNoP, fSl, gAnd, gOr, gNot, gTru, truM, tru, gAndV, gOrV, gNotV, stays, gIf, gDrop, gRcv, isL, gApp, gMeth, methM, tyD, gFn, callM, argsOf, argOf, brws, nodupN, putBack, Ret.res, gFnK, allVal, Perm.swap, Perm.id, swapL, gChain, gChain3, blM, gRaise, fAdd, fSub, fLt, fInt, fLen, fDivmod, fMod, fFdiv, fMax2, fIsi, isB, gPar, keyD, gItems, itemsM, tupItems, lstItems, gFor, gEnum, gRange1, sizeLine, noE, anyItems, dctItems, gDct, gDct0, gDctE, flatP, M.pairD, gAll, gFnM, fMulS, fStrB, fTuple, fDict, gIsT, isAny, fMul, gYes, gNever, finR, gHeardB, atI, ixN]
theorem ls_tup (c : Ads) (f k : Nat) {xs ys : List D} (hx : xs.length ≤ 100) (hy : ys.length ≤ 100) (ih : ∀ x y, x ∈ xs → y ∈ ys → m__law_same c f [.val x, .val y] = some (.ok (.val (.bl (eqB k x y))) [.val x, .val y])) :
    m__law_same c (f + 1) [.val (.tup xs), .val (.tup ys)] = some (.ok (.val (.bl (eqB (k + 1) (.tup xs) (.tup ys)))) [.val (.tup xs), .val (.tup ys)]) := by
  have fin : ∀ q : Bool, (q = true ↔ EqS (Eqv k) (.tup xs) (.tup ys)) → eqB (k + 1) (.tup xs) (.tup ys) = q := fun q h => eqB_eq h
  rw [ls_eq]
  by_cases hl : xs.length = ys.length
  · have e : lsT c f [.val (.tup xs), .val (.tup ys), .un, .val (.bl true), .un] = some (.ok (.new (.l ((((List.range ys.length).filter fun i => !eqB k ((xs[i]?).getD .non) ((ys[i]?).getD .non)).map fun (i : Nat) => (i : Int)).map D.int))) [.val (.tup xs), .val (.tup ys), .un, .val (.bl true), .un]) := by
      unfold lsT
      rw [← upto_fm (fun i => !eqB k ((xs[i]?).getD .non) ((ys[i]?).getD .non)) (fun d => match d with
        | .int i => !eqB k ((xs[i.toNat]?).getD .non) ((ys[i.toNat]?).getD .non)
        | _ => false) (fun i => by simp only [Int.toNat_natCast])]
      refine lc_fm 4 (gi := (gRange1 (gCons (gCall fLen (gCons (gVar 1) gNil)) gNil))) (ρ := [.val (.tup xs), .val (.tup ys), .un, .val (.bl true), .un]) (ρ1 := [.val (.tup xs), .val (.tup ys), .un, .val (.bl true), .un]) (upto (ys.length : Int)) _ (fun d => d) (by simp) (by simp) (range_ok (k := ys.length) (by simp [gSeq, gIfS, gBl, gOp, gVar, gC, EM.bind, EM.pure, EM.lift, op2, op1, gUn, view, moAt, Slot.mo?, Mo.view, fIx, fII, gAsg, gCall, M.gCons, M.gNil, consM, opL, views, aliveR, gdTup, gdCons, gdSub, gdNil, Tg.bind, Tg.binds, setV, putMo, gRet, gPass, M.gSet, setM, storeR, gFz, gFrz, M.gLst, M.gTup, valsR, gSl, slM, gPt, gNoP, fSl, gAnd, gOr, gNot, gTru, truM, tru, gAndV, gOrV, gNotV, stays, gIf, gDrop, gRcv, isL, gApp, gMeth, methM, tyD, gFn, callM, argsOf, argOf, brws, nodupN, putBack, Ret.res, gFnK, allVal, Perm.swap, Perm.id, swapL, gChain, gChain3, blM, gRaise, fAdd, fSub, fLt, fInt, fLen, fDivmod, fMod, fFdiv, fMax2, fIsi, isB, gPar, fEq, fNe, eqM, eqS, keyD, gItems, itemsM, tupItems, lstItems, gFor, gEnum, gRange1, sizeLine, noE, anyItems, dctItems, gDct, gDct0, gDctE, flatP, M.pairD, gAll, gFnM, fEqK, fNeK, fMulS, fStrB, fTuple, fDict, gIsT, isAny, fMul, gYes, gNever, finR, gHeardB, atI, ixN]) (by omega) (by omega)) (by rw [upto_len, sizeLine_eq]; omega) fun d hd => ?_
      obtain ⟨i, rfl, hi⟩ := upto_mem hd
      have iy : i < ys.length := by omega
      have ix : i < xs.length := by omega
      have gy : ys[i]? = some ys[i] := List.getElem?_eq_getElem iy
      have gx : xs[i]? = some xs[i] := List.getElem?_eq_getElem ix
      have t1 := atI_nat gx
      have t2 := atI_nat gy
      have := ih xs[i] ys[i] (List.getElem_mem ix) (List.getElem_mem iy)
      refine ⟨?_, fun _ => by simp [gSeq, gIfS, gBl, gOp, gVar, gC, EM.bind, EM.pure, EM.lift, op2, op1, gUn, view, moAt, Slot.mo?, Mo.view, fIx, fII, gAsg, gCall, M.gCons, M.gNil, consM, opL, views, aliveR, gdTup, gdCons, gdSub, gdNil, Tg.bind, Tg.binds, setV, putMo, gRet, gPass, M.gSet, setM, storeR, gFz, gFrz, M.gLst, M.gTup, valsR, gSl, slM, gPt, gNoP, fSl, gAnd, gOr, gNot, gTru, truM, tru, gAndV, gOrV, gNotV, stays, gIf, gDrop, gRcv, isL, gApp, gMeth, methM, tyD, gFn, callM, argsOf, argOf, brws, nodupN, putBack, Ret.res, gFnK, allVal, Perm.swap, Perm.id, swapL, gChain, gChain3, blM, gRaise, fAdd, fSub, fLt, fInt, fLen, fDivmod, fMod, fFdiv, fMax2, fIsi, isB, gPar, fEq, fNe, eqM, eqS, keyD, gItems, itemsM, tupItems, lstItems, gFor, gEnum, gRange1, sizeLine, noE, anyItems, dctItems, gDct, gDct0, gDctE, flatP, M.pairD, gAll, gFnM, fEqK, fNeK, fMulS, fStrB, fTuple, fDict, gIsT, isAny, fMul, gYes, gNever, finR, gHeardB, atI, ixN]⟩
      simp [gSeq, gIfS, gBl, gOp, gVar, gC, EM.bind, EM.pure, EM.lift, op2, op1, gUn, view, moAt, Slot.mo?, Mo.view, fIx, fII, gAsg, gCall, M.gCons, M.gNil, consM, opL, views, aliveR, gdTup, gdCons, gdSub, gdNil, Tg.bind, Tg.binds, setV, putMo, gRet, gPass, M.gSet, setM, storeR, gFz, gFrz, M.gLst, M.gTup, valsR, gSl, slM, gPt, gNoP, fSl, gAnd, gOr, gNot, gTru, truM, tru, gAndV, gOrV, gNotV, stays, gIf, gDrop, gRcv, isL, gApp, gMeth, methM, tyD, gFn, callM, argsOf, argOf, brws, nodupN, putBack, Ret.res, gFnK, allVal, Perm.swap, Perm.id, swapL, gChain, gChain3, blM, gRaise, fAdd, fSub, fLt, fInt, fLen, fDivmod, fMod, fFdiv, fMax2, fIsi, isB, gPar, fEq, fNe, eqM, eqS, keyD, gItems, itemsM, tupItems, lstItems, gFor, gEnum, gRange1, sizeLine, noE, anyItems, dctItems, gDct, gDct0, gDctE, flatP, M.pairD, gAll, gFnM, fEqK, fNeK, fMulS, fStrB, fTuple, fDict, gIsT, isAny, fMul, gYes, gNever, finR, gHeardB, t1, t2, this, gx, gy]
    have fe := fEqK_ints_nil (((List.range ys.length).filter fun i => !eqB k ((xs[i]?).getD .non) ((ys[i]?).getD .non)).map fun (i : Nat) => (i : Int))
    have q : eqB (k + 1) (.tup xs) (.tup ys) = (((List.range ys.length).filter fun i => !eqB k ((xs[i]?).getD .non) ((ys[i]?).getD .non)).map fun (i : Nat) => (i : Int)).isEmpty := by
      rw [emp_fm]
      refine fin _ ?_
      rw [List.all_eq_true]
      constructor
      · intro h
        refine ⟨hl, fun i x y hx hy => ?_⟩
        have := h i (List.mem_range.mpr (List.getElem?_eq_some_iff.mp hy).1)
        rw [hx, hy] at this
        simp at this
        exact eqB_iff.mp this
      · intro h i hi
        rw [List.mem_range] at hi
        have ix : i < xs.length := by omega
        have hy : ys[i]? = some ys[i] := List.getElem?_eq_getElem hi
        have hx : xs[i]? = some xs[i] := List.getElem?_eq_getElem ix
        rw [hx, hy]
        simp
        exact eqB_iff.mpr (h.2 i _ _ hx hy)
    rw [q]
    generalize ((List.range ys.length).filter fun i => !eqB k ((xs[i]?).getD .non) ((ys[i]?).getD .non)).map (fun (i : Nat) => (i : Int)) = L at e fe
    refine run_nx (N := 5) (as := [.val (.tup xs), .val (.tup ys)]) (r := .val (.bl L.isEmpty)) (ρ := [.val (.tup xs), .val (.tup ys), .un, .val (.bl true), .un]) ?_
    have hl' : (xs.length : Int) = ys.length := by omega
    have fi : fEqK (.int (xs.length : Int)) (.int (ys.length : Int)) = some (.val (.bl true)) := by rw [hl']; simp [fEqK, fEq, eqM, eqS]
    have i0 : ls_0 c f [.val (.tup xs), .val (.tup ys), .un, .un, .un] = some (.ok .nx [.val (.tup xs), .val (.tup ys), .un, .un, .un]) := by
      unfold ls_0
      simp [gSeq, gIfS, gBl, gOp, gVar, gC, EM.bind, EM.pure, EM.lift, op2, op1, gUn, view, moAt, Slot.mo?, Mo.view, fIx, fII, gAsg, gCall, M.gCons, M.gNil, consM, opL, views, aliveR, gdTup, gdCons, gdSub, gdNil, Tg.bind, Tg.binds, setV, putMo, gRet, gPass, M.gSet, setM, storeR, gFz, gFrz, M.gLst, M.gTup, valsR, gSl, slM, gPt, gNoP, fSl, gAnd, gOr, gNot, gTru, truM, tru, gAndV, gOrV, gNotV, stays, gIf, gDrop, gRcv, isL, gApp, gMeth, methM, tyD, gFn, callM, argsOf, argOf, brws, nodupN, putBack, Ret.res, gFnK, allVal, Perm.swap, Perm.id, swapL, gChain, gChain3, blM, gRaise, fAdd, fSub, fLt, fInt, fLen, fDivmod, fMod, fFdiv, fMax2, fIsi, isB, gPar, keyD, gItems, itemsM, tupItems, lstItems, gFor, gEnum, gRange1, sizeLine, noE, anyItems, dctItems, gDct, gDct0, gDctE, flatP, M.pairD, gAll, gFnM, fMulS, fStrB, fTuple, fDict, gIsT, isAny, fMul, gYes, gNever, finR, gHeardB, atI, ixN]
    have i1 : ls_1 c f [.val (.tup xs), .val (.tup ys), .un, .un, .un] = some (.ok (.rt (.val (.bl L.isEmpty))) [.val (.tup xs), .val (.tup ys), .un, .val (.bl true), .un]) := by
      unfold ls_1
      refine (ifS_t (ρ1 := [.val (.tup xs), .val (.tup ys), .un, .un, .un]) (by simp [gSeq, gIfS, gBl, gOp, gVar, gC, EM.bind, EM.pure, EM.lift, op2, op1, gUn, view, moAt, Slot.mo?, Mo.view, fIx, fII, gAsg, gCall, M.gCons, M.gNil, consM, opL, views, aliveR, gdTup, gdCons, gdSub, gdNil, Tg.bind, Tg.binds, setV, putMo, gRet, gPass, M.gSet, setM, storeR, gFz, gFrz, M.gLst, M.gTup, valsR, gSl, slM, gPt, gNoP, fSl, gAnd, gOr, gNot, gTru, truM, tru, gAndV, gOrV, gNotV, stays, gIf, gDrop, gRcv, isL, gApp, gMeth, methM, tyD, gFn, callM, argsOf, argOf, brws, nodupN, putBack, Ret.res, gFnK, allVal, Perm.swap, Perm.id, swapL, gChain, gChain3, blM, gRaise, fAdd, fSub, fLt, fInt, fLen, fDivmod, fMod, fFdiv, fMax2, fIsi, isB, gPar, keyD, gItems, itemsM, tupItems, lstItems, gFor, gEnum, gRange1, sizeLine, noE, anyItems, dctItems, gDct, gDct0, gDctE, flatP, M.pairD, gAll, gFnM, fMulS, fStrB, fTuple, fDict, gIsT, isAny, fMul, gYes, gNever, finR, gHeardB, atI, ixN])).trans ?_
      refine (seq_nx (ρ' := [.val (.tup xs), .val (.tup ys), .un, .val (.bl true), .un]) (by simp [gSeq, gIfS, gBl, gOp, gVar, gC, EM.bind, EM.pure, EM.lift, op2, op1, gUn, view, moAt, Slot.mo?, Mo.view, fIx, fII, gAsg, gCall, M.gCons, M.gNil, consM, opL, views, aliveR, gdTup, gdCons, gdSub, gdNil, Tg.bind, Tg.binds, setV, putMo, gRet, gPass, M.gSet, setM, storeR, gFz, gFrz, M.gLst, M.gTup, valsR, gSl, slM, gPt, gNoP, fSl, gAnd, gOr, gNot, gTru, truM, tru, gAndV, gOrV, gNotV, stays, gIf, gDrop, gRcv, isL, gApp, gMeth, methM, tyD, gFn, callM, argsOf, argOf, brws, nodupN, putBack, Ret.res, gFnK, allVal, Perm.swap, Perm.id, swapL, gChain, gChain3, blM, gRaise, fAdd, fSub, fLt, fInt, fLen, fDivmod, fMod, fFdiv, fMax2, fIsi, isB, gPar, keyD, gItems, itemsM, tupItems, lstItems, gFor, gEnum, gRange1, sizeLine, noE, anyItems, dctItems, gDct, gDct0, gDctE, flatP, M.pairD, gAll, gFnM, fMulS, fStrB, fTuple, fDict, gIsT, isAny, fMul, gYes, gNever, finR, gHeardB, atI, ixN])).trans ?_
      refine ret_ok ?_
      refine (andV_t (ρ1 := [.val (.tup xs), .val (.tup ys), .un, .val (.bl true), .un]) (by simp [gSeq, gIfS, gBl, gOp, gVar, gC, EM.bind, EM.pure, EM.lift, op2, op1, gUn, view, moAt, Slot.mo?, Mo.view, fIx, fII, gAsg, gCall, M.gCons, M.gNil, consM, opL, views, aliveR, gdTup, gdCons, gdSub, gdNil, Tg.bind, Tg.binds, setV, putMo, gRet, gPass, M.gSet, setM, storeR, gFz, gFrz, M.gLst, M.gTup, valsR, gSl, slM, gPt, gNoP, fSl, gAnd, gOr, gNot, gTru, truM, tru, gAndV, gOrV, gNotV, stays, gIf, gDrop, gRcv, isL, gApp, gMeth, methM, tyD, gFn, callM, argsOf, argOf, brws, nodupN, putBack, Ret.res, gFnK, allVal, Perm.swap, Perm.id, swapL, gChain, gChain3, blM, gRaise, fAdd, fSub, fLt, fInt, fLen, fDivmod, fMod, fFdiv, fMax2, fIsi, isB, gPar, keyD, gItems, itemsM, tupItems, lstItems, gFor, gEnum, gRange1, sizeLine, noE, anyItems, dctItems, gDct, gDct0, gDctE, flatP, M.pairD, gAll, gFnM, fMulS, fStrB, fTuple, fDict, gIsT, isAny, fMul, gYes, gNever, finR, gHeardB, atI, ixN])).trans ?_
      refine (andV_t (ρ1 := [.val (.tup xs), .val (.tup ys), .un, .val (.bl true), .un]) (by simp [gSeq, gIfS, gBl, gOp, gVar, gC, EM.bind, EM.pure, EM.lift, op2, op1, gUn, view, moAt, Slot.mo?, Mo.view, fIx, fII, gAsg, gCall, M.gCons, M.gNil, consM, opL, views, aliveR, gdTup, gdCons, gdSub, gdNil, Tg.bind, Tg.binds, setV, putMo, gRet, gPass, M.gSet, setM, storeR, gFz, gFrz, M.gLst, M.gTup, valsR, gSl, slM, gPt, gNoP, fSl, gAnd, gOr, gNot, gTru, truM, tru, gAndV, gOrV, gNotV, stays, gIf, gDrop, gRcv, isL, gApp, gMeth, methM, tyD, gFn, callM, argsOf, argOf, brws, nodupN, putBack, Ret.res, gFnK, allVal, Perm.swap, Perm.id, swapL, gChain, gChain3, blM, gRaise, fAdd, fSub, fLt, fInt, fLen, fDivmod, fMod, fFdiv, fMax2, fIsi, isB, gPar, keyD, gItems, itemsM, tupItems, lstItems, gFor, gEnum, gRange1, sizeLine, noE, anyItems, dctItems, gDct, gDct0, gDctE, flatP, M.pairD, gAll, gFnM, fMulS, fStrB, fTuple, fDict, gIsT, isAny, fMul, gYes, gNever, finR, gHeardB, atI, ixN, fi])).trans ?_
      exact op_ok e lst0_ok rfl rfl fe
    exact (seq_nx i0).trans (seq_rt i1)
  · have q : eqB (k + 1) (.tup xs) (.tup ys) = false := fin false (by
      constructor
      · intro z; cases z
      · intro z; exact absurd z.1 hl)
    rw [q]
    refine run_nx (N := 5) (as := [.val (.tup xs), .val (.tup ys)]) (r := .val (.bl false)) (ρ := [.val (.tup xs), .val (.tup ys), .un, .val (.bl true), .un]) ?_
    have hl' : ¬ (xs.length : Int) = ys.length := by omega
    have fi : fEqK (.int (xs.length : Int)) (.int (ys.length : Int)) = some (.val (.bl false)) := by simp [fEqK, fEq, eqM, eqS, hl, hl']
    unfold ls_0 ls_1
    unfold gSeq
    simp [gSeq, gIfS, gBl, gOp, gVar, gC, EM.bind, EM.pure, EM.lift, op2, op1, gUn, view, moAt, Slot.mo?, Mo.view, fIx, fII, gAsg, gCall, M.gCons, M.gNil, consM, opL, views, aliveR, gdTup, gdCons, gdSub, gdNil, Tg.bind, Tg.binds, setV, putMo, gRet, gPass, M.gSet, setM, storeR, gFz, gFrz, M.gLst, M.gTup, valsR, gSl, slM, gPt, gNoP, fSl, gAnd, gOr, gNot, gTru, truM, tru, gAndV, gOrV, gNotV, stays, gIf, gDrop, gRcv, isL, gApp, gMeth, methM, tyD, gFn, callM, argsOf, argOf, brws, nodupN, putBack, Ret.res, gFnK, allVal, Perm.swap, Perm.id, swapL, gChain, gChain3, blM, gRaise, fAdd, fSub, fLt, fInt, fLen, fDivmod, fMod, fFdiv, fMax2, fIsi, isB, gPar, keyD, gItems, itemsM, tupItems, lstItems, gFor, gEnum, gRange1, sizeLine, noE, anyItems, dctItems, gDct, gDct0, gDctE, flatP, M.pairD, gAll, gFnM, fMulS, fStrB, fTuple, fDict, gIsT, isAny, fMul, gYes, gNever, finR, gHeardB, atI, ixN, fi]
theorem ls_dct_no (c : Ads) (f : Nat) {n : Nat} {a : D} {qs : List (Key × D)} (ha : Vl n a) (h : ∀ xs, a ≠ .dct xs) : m__law_same c (f + 1) [.val a, .val (.dct qs)] = some (.ok (.val (.bl (eqB n a (.dct qs)))) [.val a, .val (.dct qs)]) := by
  have q : eqB n a (.dct qs) = false := eqB_eq (by
    rw [eqv_rn]
    constructor
    · intro z; cases z
    · intro z; cases a <;> first | exact z.elim | exact absurd rfl (h _))
  rw [ls_eq, q]
  refine run_nx (N := 5) (as := [.val a, .val (.dct qs)]) (r := .val (.bl false)) (ρ := [.val a, .val (.dct qs), .un, .un, .un]) ?_
  unfold ls_0
  unfold gSeq
  rcases vl_cases ha with h' | ⟨k', xs, e, rfl, a1, a2⟩ | ⟨k', ps, e, rfl, a1, a2, a3⟩
  · cases a <;> first | exact h'.elim | simp [gSeq, gIfS, gBl, gOp, gVar, gC, EM.bind, EM.pure, EM.lift, op2, op1, gUn, view, moAt, Slot.mo?, Mo.view, fIx, fII, gAsg, gCall, M.gCons, M.gNil, consM, opL, views, aliveR, gdTup, gdCons, gdSub, gdNil, Tg.bind, Tg.binds, setV, putMo, gRet, gPass, M.gSet, setM, storeR, gFz, gFrz, M.gLst, M.gTup, valsR, gSl, slM, gPt, gNoP, fSl, gAnd, gOr, gNot, gTru, truM, tru, gAndV, gOrV, gNotV, stays, gIf, gDrop, gRcv, isL, gApp, gMeth, methM, tyD, gFn, callM, argsOf, argOf, brws, nodupN, putBack, Ret.res, gFnK, allVal, Perm.swap, Perm.id, swapL, gChain, gChain3, blM, gRaise, fAdd, fSub, fLt, fInt, fLen, fDivmod, fMod, fFdiv, fMax2, fIsi, isB, gPar, keyD, gItems, itemsM, tupItems, lstItems, gFor, gEnum, gRange1, sizeLine, noE, anyItems, dctItems, gDct, gDct0, gDctE, flatP, M.pairD, gAll, gFnM, fMulS, fStrB, fTuple, fDict, gIsT, isAny, fMul, gYes, gNever, finR, gHeardB, atI, ixN]
  · simp [gSeq, gIfS, gBl, gOp, gVar, gC, EM.bind, EM.pure, EM.lift, op2, op1, gUn, view, moAt, Slot.mo?, Mo.view, fIx, fII, gAsg, gCall, M.gCons, M.gNil, consM, opL, views, aliveR, gdTup, gdCons, gdSub, gdNil, Tg.bind, Tg.binds, setV, putMo, gRet, gPass, M.gSet, setM, storeR, gFz, gFrz, M.gLst, M.gTup, valsR, gSl, slM, gPt, gNoP, fSl, gAnd, gOr, gNot, gTru, truM, tru, gAndV, gOrV, gNotV, stays, gIf, gDrop, gRcv, isL, gApp, gMeth, methM, tyD, gFn, callM, argsOf, argOf, brws, nodupN, putBack, Ret.res, gFnK, allVal, Perm.swap, Perm.id, swapL, gChain, gChain3, blM, gRaise, fAdd, fSub, fLt, fInt, fLen, fDivmod, fMod, fFdiv, fMax2, fIsi, isB, gPar, keyD, gItems, itemsM, tupItems, lstItems, gFor, gEnum, gRange1, sizeLine, noE, anyItems, dctItems, gDct, gDct0, gDctE, flatP, M.pairD, gAll, gFnM, fMulS, fStrB, fTuple, fDict, gIsT, isAny, fMul, gYes, gNever, finR, gHeardB, atI, ixN]
  · exact absurd rfl (h _)
theorem keys_fm (l : List Str) (q : Str → Bool) (p : D → Bool) (h : ∀ s, p (.str s) = q s) : ((l.map D.str).filter p).map (fun d => d) = (l.filter q).map D.str := by
  rw [List.map_id', List.filter_map]
  have : (p ∘ D.str) = q := funext h
  rw [this]
theorem ls_dct (c : Ads) (f k : Nat) {ps qs : List (Str × D)} (a1 : NmS (ps.map (·.1))) (a2 : ps.length ≤ 6) (b1 : NmS (qs.map (·.1))) (b2 : qs.length ≤ 6) (ih : ∀ p q, p ∈ ps → q ∈ qs → m__law_same c f [.val p.2, .val q.2] = some (.ok (.val (.bl (eqB k p.2 q.2))) [.val p.2, .val q.2])) :
    m__law_same c (f + 1) [.val (.dct (toK ps)), .val (.dct (toK qs))] = some (.ok (.val (.bl (eqB (k + 1) (.dct (toK ps)) (.dct (toK qs))))) [.val (.dct (toK ps)), .val (.dct (toK qs))]) := by
  have sa : StrsOk (sortS (ps.map (·.1))) := nms_ok fun s hs => a1.2 s ((sortS_perm _).mem_iff.mp hs)
  have sb : StrsOk (sortS (qs.map (·.1))) := nms_ok fun s hs => b1.2 s ((sortS_perm _).mem_iff.mp hs)
  have f1 := fSorted_toK (ps := ps) (by omega)
  have f2 := fSorted_toK (ps := qs) (by omega)
  have fe := fEqK_strs sa sb
  have o1 : gCall fSorted (gCons (gVar 0) gNil) [.val (.dct (toK ps)), .val (.dct (toK qs)), .un, .un, .un] = some (.ok (.new (.l ((sortS (ps.map (·.1))).map D.str))) [.val (.dct (toK ps)), .val (.dct (toK qs)), .un, .un, .un]) := by
    simp [gSeq, gIfS, gBl, gOp, gVar, gC, EM.bind, EM.pure, EM.lift, op2, op1, gUn, view, moAt, Slot.mo?, Mo.view, fIx, fII, gAsg, gCall, M.gCons, M.gNil, consM, opL, views, aliveR, gdTup, gdCons, gdSub, gdNil, Tg.bind, Tg.binds, setV, putMo, gRet, gPass, M.gSet, setM, storeR, gFz, gFrz, M.gLst, M.gTup, valsR, gSl, slM, gPt, gNoP, fSl, gAnd, gOr, gNot, gTru, truM, tru, gAndV, gOrV, gNotV, stays, gIf, gDrop, gRcv, isL, gApp, gMeth, methM, tyD, gFn, callM, argsOf, argOf, brws, nodupN, putBack, Ret.res, gFnK, allVal, Perm.swap, Perm.id, swapL, gChain, gChain3, blM, gRaise, fAdd, fSub, fLt, fInt, fLen, fDivmod, fMod, fFdiv, fMax2, fIsi, isB, gPar, keyD, gItems, itemsM, tupItems, lstItems, gFor, gEnum, gRange1, sizeLine, noE, anyItems, dctItems, gDct, gDct0, gDctE, flatP, M.pairD, gAll, gFnM, fMulS, fStrB, fTuple, fDict, gIsT, isAny, fMul, gYes, gNever, finR, gHeardB, atI, ixN, f1]
  have o2 : gCall fSorted (gCons (gVar 1) gNil) [.val (.dct (toK ps)), .val (.dct (toK qs)), .un, .un, .un] = some (.ok (.new (.l ((sortS (qs.map (·.1))).map D.str))) [.val (.dct (toK ps)), .val (.dct (toK qs)), .un, .un, .un]) := by
    simp [gSeq, gIfS, gBl, gOp, gVar, gC, EM.bind, EM.pure, EM.lift, op2, op1, gUn, view, moAt, Slot.mo?, Mo.view, fIx, fII, gAsg, gCall, M.gCons, M.gNil, consM, opL, views, aliveR, gdTup, gdCons, gdSub, gdNil, Tg.bind, Tg.binds, setV, putMo, gRet, gPass, M.gSet, setM, storeR, gFz, gFrz, M.gLst, M.gTup, valsR, gSl, slM, gPt, gNoP, fSl, gAnd, gOr, gNot, gTru, truM, tru, gAndV, gOrV, gNotV, stays, gIf, gDrop, gRcv, isL, gApp, gMeth, methM, tyD, gFn, callM, argsOf, argOf, brws, nodupN, putBack, Ret.res, gFnK, allVal, Perm.swap, Perm.id, swapL, gChain, gChain3, blM, gRaise, fAdd, fSub, fLt, fInt, fLen, fDivmod, fMod, fFdiv, fMax2, fIsi, isB, gPar, keyD, gItems, itemsM, tupItems, lstItems, gFor, gEnum, gRange1, sizeLine, noE, anyItems, dctItems, gDct, gDct0, gDctE, flatP, M.pairD, gAll, gFnM, fMulS, fStrB, fTuple, fDict, gIsT, isAny, fMul, gYes, gNever, finR, gHeardB, atI, ixN, f2]
  have o := op_ok (f := fEqK) o1 o2 rfl rfl fe
  have i1 : gCall fIsi (gCons (gVar 0) (gCons (gC (.ty "dict")) gNil)) [.val (.dct (toK ps)), .val (.dct (toK qs)), .un, .un, .un] = some (.ok (.val (.bl true)) [.val (.dct (toK ps)), .val (.dct (toK qs)), .un, .un, .un]) := by
    simp [gSeq, gIfS, gBl, gOp, gVar, gC, EM.bind, EM.pure, EM.lift, op2, op1, gUn, view, moAt, Slot.mo?, Mo.view, fIx, fII, gAsg, gCall, M.gCons, M.gNil, consM, opL, views, aliveR, gdTup, gdCons, gdSub, gdNil, Tg.bind, Tg.binds, setV, putMo, gRet, gPass, M.gSet, setM, storeR, gFz, gFrz, M.gLst, M.gTup, valsR, gSl, slM, gPt, gNoP, fSl, gAnd, gOr, gNot, gTru, truM, tru, gAndV, gOrV, gNotV, stays, gIf, gDrop, gRcv, isL, gApp, gMeth, methM, tyD, gFn, callM, argsOf, argOf, brws, nodupN, putBack, Ret.res, gFnK, allVal, Perm.swap, Perm.id, swapL, gChain, gChain3, blM, gRaise, fAdd, fSub, fLt, fInt, fLen, fDivmod, fMod, fFdiv, fMax2, fIsi, isB, gPar, keyD, gItems, itemsM, tupItems, lstItems, gFor, gEnum, gRange1, sizeLine, noE, anyItems, dctItems, gDct, gDct0, gDctE, flatP, M.pairD, gAll, gFnM, fMulS, fStrB, fTuple, fDict, gIsT, isAny, fMul, gYes, gNever, finR, gHeardB, atI, ixN]
  have i2 : gTru (gCall fIsi (gCons (gVar 1) (gCons (gC (.ty "dict")) gNil))) [.val (.dct (toK ps)), .val (.dct (toK qs)), .un, .un, .un] = some (.ok true [.val (.dct (toK ps)), .val (.dct (toK qs)), .un, .un, .un]) := by
    simp [gSeq, gIfS, gBl, gOp, gVar, gC, EM.bind, EM.pure, EM.lift, op2, op1, gUn, view, moAt, Slot.mo?, Mo.view, fIx, fII, gAsg, gCall, M.gCons, M.gNil, consM, opL, views, aliveR, gdTup, gdCons, gdSub, gdNil, Tg.bind, Tg.binds, setV, putMo, gRet, gPass, M.gSet, setM, storeR, gFz, gFrz, M.gLst, M.gTup, valsR, gSl, slM, gPt, gNoP, fSl, gAnd, gOr, gNot, gTru, truM, tru, gAndV, gOrV, gNotV, stays, gIf, gDrop, gRcv, isL, gApp, gMeth, methM, tyD, gFn, callM, argsOf, argOf, brws, nodupN, putBack, Ret.res, gFnK, allVal, Perm.swap, Perm.id, swapL, gChain, gChain3, blM, gRaise, fAdd, fSub, fLt, fInt, fLen, fDivmod, fMod, fFdiv, fMax2, fIsi, isB, gPar, keyD, gItems, itemsM, tupItems, lstItems, gFor, gEnum, gRange1, sizeLine, noE, anyItems, dctItems, gDct, gDct0, gDctE, flatP, M.pairD, gAll, gFnM, fMulS, fStrB, fTuple, fDict, gIsT, isAny, fMul, gYes, gNever, finR, gHeardB, atI, ixN]
  rw [ls_eq]
  refine run_nx (N := 5) (as := [.val (.dct (toK ps)), .val (.dct (toK qs))]) (r := .val (.bl (eqB (k + 1) (.dct (toK ps)) (.dct (toK qs))))) (ρ := [.val (.dct (toK ps)), .val (.dct (toK qs)), .un, .un, .un]) ?_
  refine seq_rt ?_
  unfold ls_0
  refine (ifS_t i2).trans (ret_ok ?_)
  refine (andV_t i1).trans ?_
  by_cases hp : (ps.map (·.1)).Perm (qs.map (·.1))
  · rw [decide_eq_true (sortS_eq.mpr hp)] at o
    refine (andV_t o).trans ?_
    have e : lsD c f [.val (.dct (toK ps)), .val (.dct (toK qs)), .un, .un, .un] = some (.ok (.new (.l (((qs.map (·.1)).filter fun s => !eqB k ((ps.lookup s).getD .non) ((qs.lookup s).getD .non)).map D.str))) [.val (.dct (toK ps)), .val (.dct (toK qs)), .un, .un, .un]) := by
      unfold lsD
      rw [← keys_fm (qs.map (·.1)) (fun s => !eqB k ((ps.lookup s).getD .non) ((qs.lookup s).getD .non)) (fun d => match d with
        | .str s => !eqB k ((ps.lookup s).getD .non) ((qs.lookup s).getD .non)
        | _ => false) (fun s => rfl)]
      refine lc_fm 2 (gi := (gItems anyItems (gFz 1))) (ρ := [.val (.dct (toK ps)), .val (.dct (toK qs)), .un, .un, .un]) (ρ1 := [.val (.dct (toK ps)), .val (.dct (toK qs)), .un, .un, .un]) ((qs.map (·.1)).map D.str) _ (fun d => d) (by simp) (by simp) (items_ok (d := .dct (toK qs)) (by simp [gSeq, gIfS, gBl, gOp, gVar, gC, EM.bind, EM.pure, EM.lift, op2, op1, gUn, view, moAt, Slot.mo?, Mo.view, fIx, fII, gAsg, gCall, M.gCons, M.gNil, consM, opL, views, aliveR, gdTup, gdCons, gdSub, gdNil, Tg.bind, Tg.binds, setV, putMo, gRet, gPass, M.gSet, setM, storeR, gFz, gFrz, M.gLst, M.gTup, valsR, gSl, slM, gPt, gNoP, fSl, gAnd, gOr, gNot, gTru, truM, tru, gAndV, gOrV, gNotV, stays, gIf, gDrop, gRcv, isL, gApp, gMeth, methM, tyD, gFn, callM, argsOf, argOf, brws, nodupN, putBack, Ret.res, gFnK, allVal, Perm.swap, Perm.id, swapL, gChain, gChain3, blM, gRaise, fAdd, fSub, fLt, fInt, fLen, fDivmod, fMod, fFdiv, fMax2, fIsi, isB, gPar, fEq, fNe, eqM, eqS, keyD, gItems, itemsM, tupItems, lstItems, gFor, gEnum, gRange1, sizeLine, noE, anyItems, dctItems, gDct, gDct0, gDctE, flatP, M.pairD, gAll, gFnM, fEqK, fNeK, fMulS, fStrB, fTuple, fDict, gIsT, isAny, fMul, gYes, gNever, finR, gHeardB, atI, ixN]) (by rw [keys_toK, List.map_map]; rfl)) (by rw [List.length_map, List.length_map, sizeLine_eq]; omega) fun d hd => ?_
      obtain ⟨s, hs, rfl⟩ := List.mem_map.mp hd
      obtain ⟨x, l1⟩ := lookup_ex (hp.mem_iff.mpr hs)
      obtain ⟨y, l2⟩ := lookup_ex hs
      have k1 := look_toK s ps
      have k2 := look_toK s qs
      rw [l1] at k1
      rw [l2] at k2
      have := ih (s, x) (s, y) (lookup_mem l1) (lookup_mem l2)
      dsimp only at this
      refine ⟨?_, fun _ => by simp [gSeq, gIfS, gBl, gOp, gVar, gC, EM.bind, EM.pure, EM.lift, op2, op1, gUn, view, moAt, Slot.mo?, Mo.view, fIx, fII, gAsg, gCall, M.gCons, M.gNil, consM, opL, views, aliveR, gdTup, gdCons, gdSub, gdNil, Tg.bind, Tg.binds, setV, putMo, gRet, gPass, M.gSet, setM, storeR, gFz, gFrz, M.gLst, M.gTup, valsR, gSl, slM, gPt, gNoP, fSl, gAnd, gOr, gNot, gTru, truM, tru, gAndV, gOrV, gNotV, stays, gIf, gDrop, gRcv, isL, gApp, gMeth, methM, tyD, gFn, callM, argsOf, argOf, brws, nodupN, putBack, Ret.res, gFnK, allVal, Perm.swap, Perm.id, swapL, gChain, gChain3, blM, gRaise, fAdd, fSub, fLt, fInt, fLen, fDivmod, fMod, fFdiv, fMax2, fIsi, isB, gPar, fEq, fNe, eqM, eqS, keyD, gItems, itemsM, tupItems, lstItems, gFor, gEnum, gRange1, sizeLine, noE, anyItems, dctItems, gDct, gDct0, gDctE, flatP, M.pairD, gAll, gFnM, fEqK, fNeK, fMulS, fStrB, fTuple, fDict, gIsT, isAny, fMul, gYes, gNever, finR, gHeardB, atI, ixN]⟩
      simp [gSeq, gIfS, gBl, gOp, gVar, gC, EM.bind, EM.pure, EM.lift, op2, op1, gUn, view, moAt, Slot.mo?, Mo.view, fIx, fII, gAsg, gCall, M.gCons, M.gNil, consM, opL, views, aliveR, gdTup, gdCons, gdSub, gdNil, Tg.bind, Tg.binds, setV, putMo, gRet, gPass, M.gSet, setM, storeR, gFz, gFrz, M.gLst, M.gTup, valsR, gSl, slM, gPt, gNoP, fSl, gAnd, gOr, gNot, gTru, truM, tru, gAndV, gOrV, gNotV, stays, gIf, gDrop, gRcv, isL, gApp, gMeth, methM, tyD, gFn, callM, argsOf, argOf, brws, nodupN, putBack, Ret.res, gFnK, allVal, Perm.swap, Perm.id, swapL, gChain, gChain3, blM, gRaise, fAdd, fSub, fLt, fInt, fLen, fDivmod, fMod, fFdiv, fMax2, fIsi, isB, gPar, keyD, gItems, itemsM, tupItems, lstItems, gFor, gEnum, gRange1, sizeLine, noE, anyItems, dctItems, gDct, gDct0, gDctE, flatP, M.pairD, gAll, gFnM, fMulS, fStrB, fTuple, fDict, gIsT, isAny, fMul, gYes, gNever, finR, gHeardB, atI, ixN, k1, k2, l1, l2, this]
    have sc : StrsOk ((qs.map (·.1)).filter fun s => !eqB k ((ps.lookup s).getD .non) ((qs.lookup s).getD .non)) := nms_ok fun s hs => b1.2 s ((List.mem_filter.mp hs).1)
    have fn := fEqK_strs_nil sc
    have q : eqB (k + 1) (.dct (toK ps)) (.dct (toK qs)) = ((qs.map (·.1)).filter fun s => !eqB k ((ps.lookup s).getD .non) ((qs.lookup s).getD .non)).isEmpty := by
      refine eqB_eq ?_
      show _ ↔ EqS (Eqv k) _ _
      have em := emp_fm (l := qs.map (·.1)) (f := fun s => s) (q := fun s => !eqB k ((ps.lookup s).getD .non) ((qs.lookup s).getD .non))
      rw [List.map_id'] at em
      rw [em, eq_dct, List.all_eq_true]
      constructor
      · intro h x
        cases l1 : qs.lookup x with
        | none => exact .inl ⟨lookup_none.mpr fun z => lookup_none.mp l1 (hp.mem_iff.mp z), rfl⟩
        | some b =>
          have hm : x ∈ qs.map (·.1) := List.mem_map.mpr ⟨_, lookup_mem l1, rfl⟩
          obtain ⟨a, l2⟩ := lookup_ex (hp.mem_iff.mpr hm)
          have := h x hm
          simp only [l1, l2, Option.getD_some, Bool.not_not] at this
          exact .inr ⟨a, b, l2, rfl, eqB_iff.mp this⟩
      · intro h s hs
        obtain ⟨y, l2⟩ := lookup_ex hs
        rcases h s with ⟨_, h1⟩ | ⟨a, b, h1, h2, h3⟩
        · rw [l2] at h1; cases h1
        · simp only [h1, h2, Option.getD_some, Bool.not_not]
          exact eqB_iff.mpr h3
    rw [q]
    exact op_ok e lst0_ok rfl rfl fn
  · rw [decide_eq_false (fun z => hp (sortS_eq.mp z))] at o
    have q : eqB (k + 1) (.dct (toK ps)) (.dct (toK qs)) = false := eqB_eq (by
      constructor
      · intro h; cases h
      · intro h; exact absurd (perm_of_eqv a1 b1 (eq_dct.mp h)) hp)
    rw [q]
    exact andV_f o
theorem ls_ok (c : Ads) : ∀ (n f : Nat) (a b : D), Vl n a → Vl n b → n ≤ 4 → n < f → m__law_same c f [.val a, .val b] = some (.ok (.val (.bl (eqB n a b))) [.val a, .val b])
  | _, 0, _, _, _, _, _, h => by omega
  | n, f + 1, a, b, ha, hb, hn, hf => by
    rcases vl_cases hb with h | ⟨k, ys, rfl, rfl, b1, b2⟩ | ⟨k, qs, rfl, rfl, b1, b2, b3⟩
    · exact ls_leaf c f ha h hn
    · by_cases hx : ∃ xs, a = .tup xs
      · obtain ⟨xs, rfl⟩ := hx
        rcases vl_cases ha with h | ⟨k', xs', e, e', a1, a2⟩ | ⟨k', ps, e, e', _⟩
        · exact h.elim
        · cases e; cases e'
          exact ls_tup c f k (by omega) (by omega) fun x y hx hy => ls_ok c k f x y (a2 x hx) (b2 y hy) (by omega) (by omega)
        · cases e'
      · exact ls_tup_no c f ha fun xs e => hx ⟨xs, e⟩
    · by_cases hx : ∃ xs, a = .dct xs
      · obtain ⟨xs, rfl⟩ := hx
        rcases vl_cases ha with h | ⟨k', xs', e, e', _⟩ | ⟨k', ps, e, e', a1, a2, a3⟩
        · exact h.elim
        · cases e'
        · cases e; cases e'
          exact ls_dct c f k a1 a2 b1 b2 fun p q hp hq => ls_ok c k f p.2 q.2 (a3 p hp) (b3 q hq) (by omega) (by omega)
      · exact ls_dct_no c f ha fun xs e => hx ⟨xs, e⟩
end
end My

namespace My
noncomputable section
open PySem PySem.Spec PyProof.Rows L2 M
/-! refl, mono, heights -/
theorem Eqv.refl : ∀ {n : Nat} {d : D}, Vl n d → Eqv n d d
  | 0, d, h => Eqv.leaf h
  | n + 1, d, h => by
    rcases h with h | ⟨ds, rfl, h1, h2⟩ | ⟨ps, rfl, h1, h2, h3⟩
    · exact Eqv.leaf h
    · refine ⟨rfl, fun i x y hx hy => ?_⟩
      rw [hx] at hy
      cases hy
      exact Eqv.refl (h2 x (List.mem_of_getElem? hx))
    · refine eq_dct.mpr fun x => ?_
      cases e : ps.lookup x with
      | none => exact .inl ⟨rfl, rfl⟩
      | some y => exact .inr ⟨y, y, rfl, rfl, Eqv.refl (h3 _ (lookup_mem e))⟩
theorem EqS.mono {R S : D → D → Prop} (h : ∀ a b, R a b → S a b) {a b : D} (e : EqS R a b) : EqS S a b := by
  cases a <;> cases b <;> first | exact e.elim | exact e | skip
  · exact ⟨e.1, fun i x y hx hy => h _ _ (e.2 i x y hx hy)⟩
  · intro k
    rcases e k with h1 | ⟨x, y, h1, h2, r⟩
    · exact .inl h1
    · exact .inr ⟨x, y, h1, h2, h _ _ r⟩
theorem Eqv.mono : ∀ {n k : Nat} {a b : D}, Eqv n a b → n ≤ k → Eqv k a b
  | 0, 0, a, b, h, _ => h
  | 0, k + 1, a, b, h, _ => EqS.mono (R := fun _ _ => False) (fun _ _ z => z.elim) h
  | n + 1, 0, a, b, h, hk => by omega
  | n + 1, k + 1, a, b, h, hk => EqS.mono (R := Eqv n) (fun _ _ z => z.mono (by omega)) h
def HtLe : Nat → D → Prop
  | 0, .tup _ => False
  | 0, .dct _ => False
  | n + 1, .tup ds => ∀ (i : Nat) (x : D), ds[i]? = some x → HtLe n x
  | n + 1, .dct kvs => ∀ k x, lookD kvs k = some x → HtLe n x
  | _, _ => True
theorem ht_eq : ∀ (n j : Nat) {a b : D}, EqS (Rn j) a b → HtLe n a → HtLe n b
  | 0, j, a, b, e, h => by
    cases a <;> cases b <;> first | exact e.elim | exact h.elim | trivial
  | n + 1, j, a, b, e, h => by
    have go : ∀ x y, Rn j x y → HtLe n x → HtLe n y := fun x y r hx => by
      cases j with
      | zero => exact r.elim
      | succ j => exact ht_eq n j (by rw [← eqv_rn]; exact r) hx
    cases a <;> cases b <;> first | exact e.elim | trivial | skip
    · intro i y hy
      have hl := (List.getElem?_eq_some_iff.mp hy).1
      rw [← e.1] at hl
      exact go _ _ (e.2 i _ y (List.getElem?_eq_getElem hl) hy) (h i _ (List.getElem?_eq_getElem hl))
    · intro k y hy
      rcases e k with ⟨h1, h2⟩ | ⟨u, v, h1, h2, r⟩
      · rw [h2] at hy; cases hy
      · rw [h2] at hy
        cases hy
        exact go _ _ r (h k _ h1)
theorem ht_vl : ∀ {n : Nat} {d : D}, Vl n d → HtLe n d
  | n, d, h => by
    rcases vl_cases h with h | ⟨k, ds, rfl, rfl, a1, a2⟩ | ⟨k, ps, rfl, rfl, a1, a2, a3⟩
    · cases d <;> first | exact h.elim | (cases n <;> trivial)
    · exact fun i x hx => ht_vl (a2 x (List.mem_of_getElem? hx))
    · intro q x hx
      cases q with
      | inl i => rw [look_inl] at hx; cases hx
      | inr s => rw [look_toK] at hx; exact ht_vl (a3 _ (lookup_mem hx))
/-- what holds the value is not the value -/
theorem holds_ne {n : Nat} {v w : D} (hv : Vl n v) (h0 : ¬ HtLe 0 w) (hs : ∀ m, HtLe (m + 1) w → HtLe m v) (j : Nat) : ¬ Eqv j v w := fun e => by
  have key : ∀ m, ¬ HtLe m v := fun m => by
    induction m with
    | zero => exact fun h => h0 (ht_eq 0 j (by rw [← eqv_rn]; exact e) h)
    | succ m ih => exact fun h => ih (hs m (ht_eq (m + 1) j (by rw [← eqv_rn]; exact e) h))
  exact key n (ht_vl hv)
theorem ne_one {n : Nat} {v : D} (hv : Vl n v) (j : Nat) : ¬ Eqv j v (.tup [v]) :=
  holds_ne (w := .tup [v]) hv (fun h => h) (fun m h => h 0 v rfl) j
theorem ne_two {n : Nat} {v : D} (hv : Vl n v) (j : Nat) : ¬ Eqv j v (.tup [v, v]) :=
  holds_ne (w := .tup [v, v]) hv (fun h => h) (fun m h => h 0 v rfl) j
theorem ne_rec {n : Nat} {v : D} {s : Str} (hv : Vl n v) (j : Nat) : ¬ Eqv j v (.dct (toK [(s, v)])) :=
  holds_ne (w := .dct (toK [(s, v)])) hv (fun h => h) (fun m h => h (.inr s) v (by rw [look_toK]; simp [List.lookup_cons])) j
/-! the others -/
def Others (n : Nat) (v : D) (ds : List D) : Prop := ∀ d ∈ ds, Vl (n + 1) d ∧ ∀ j, ¬ Eqv j v d
theorem Others.app {n : Nat} {v : D} {xs ys : List D} (h : Others n v xs) (g : Others n v ys) : Others n v (xs ++ ys) := fun d hd => by
  rcases List.mem_append.mp hd with hd | hd
  · exact h d hd
  · exact g d hd
theorem Others.cons {n : Nat} {v x : D} {xs : List D} (h1 : Vl (n + 1) x) (h2 : ∀ j, ¬ Eqv j v x) (h : Others n v xs) : Others n v (x :: xs) := fun d hd => by
  rcases List.mem_cons.mp hd with rfl | hd
  · exact ⟨h1, h2⟩
  · exact h d hd
theorem Others.nil {n : Nat} {v : D} : Others n v [] := fun d hd => by cases hd
theorem nm_a : Nm "a" := ⟨by decide, by decide, allC_lit (by decide +kernel)⟩
def o3 (v : D) : List D := [.tup [v], .dct (toK [("a", v)]), .tup [v, v]]
theorem oth3 {n : Nat} {v : D} (hv : Vl n v) : Others n v (o3 v) := by
  unfold o3
  refine .cons ?_ (ne_one hv) (.cons ?_ (ne_rec hv) (.cons ?_ (ne_two hv) .nil))
  · exact .inr (.inl ⟨_, rfl, by simp, fun x hx => by rw [List.mem_singleton.mp hx]; exact hv⟩)
  · exact .inr (.inr ⟨_, rfl, ⟨by simp, fun s hs => by simp at hs; rw [hs]; exact nm_a⟩, by simp, fun x hx => by rw [List.mem_singleton.mp hx]; exact hv⟩)
  · exact .inr (.inl ⟨_, rfl, by simp, fun x hx => by simp at hx; rw [hx]; exact hv⟩)
theorem eqv_kind {j : Nat} {a b : D} (h : ∀ R, ¬ EqS R a b) : ¬ Eqv j a b := fun e => by rw [eqv_rn] at e; exact h _ e
def owR (c : Ads) : EM Res := (gLc (gItems anyItems (gFrz (gSl (gVar 4) (gPt (gC (.int 1))) gNoP))) (.nm 5) [5] gYes (gTup (gCons (gFz 5) (gCons (gOp fIx (gVar 1) (gVar 5)) gNil))))
def owN (c : Ads) : EM Res := (gLc (gItems anyItems (gFz 4)) (.nm 5) [5] gYes (gTup (gCons (gFz 5) (gCons (gIf (gBl (gOp fNeK (gVar 5) (gOp fIx (gVar 4) (gC (.int 0))))) (gOp fIx (gVar 1) (gVar 5)) (gFz 6)) gNil))))
def ow_0 (c : Ads) : EM Fl := (gSet 2 (gLst (gCons (gTup (gCons (gFz 1) gNil)) (gCons (gFrz (gDct [.inr "a"] [(gFz 1)])) (gCons (gTup (gCons (gFz 1) (gCons (gFz 1) gNil))) gNil)))))
def ow_1 (c : Ads) : EM Fl := (gIfS (gTru (gCall fIsi (gCons (gVar 1) (gCons (gC (.ty "bool")) gNil))))
    (gRet (gOp fAdd (gVar 2) (gLst (gCons (gCall fInt (gCons (gVar 1) gNil)) (gCons (gNotV (gVar 1)) (gCons (gCall fStrB (gCons (gVar 1) gNil)) gNil))))))
    gPass)
def ow_2 (c : Ads) : EM Fl := (gIfS (gTru (gCall fIsi (gCons (gVar 1) (gCons (gC (.ty "int")) gNil))))
    (gRet (gOp fAdd (gOp fAdd (gVar 2) (gLst (gCons (gIf (gBl (gOp fGt (gVar 1) (gC (.int 0)))) (gFrz (gOp fSub (gVar 1) (gC (.int 1)))) (gFrz (gOp fAdd (gVar 1) (gC (.int 1))))) (gCons (gCall fStrB (gCons (gVar 1) gNil)) gNil)))) (gIf (gBl (gOp (fInA false) (gVar 1) (gTup (gCons (gC (.int 0)) (gCons (gC (.int 1)) gNil))))) (gLst (gCons (gOp fEqK (gVar 1) (gC (.int 1))) gNil)) (gLst gNil))))
    gPass)
def ow_3 (c : Ads) : EM Fl := (gIfS (gTru (gCall fIsi (gCons (gVar 1) (gCons (gC (.ty "str")) gNil))))
    (gRet (gOp fAdd (gVar 2) (gLst (gCons (gFrz (gOp fAdd (gVar 1) (gC (.str "a")))) (gCons (gC .non) (gCons (gTup (gCons (gFz 1) gNil)) gNil))))))
    gPass)
def ow_4 (c : Ads) (n : Nat) : EM Fl := (gIfS (gTru (gCall fIsi (gCons (gVar 1) (gCons (gC (.ty "tuple")) gNil))))
    (gSeq (gSet 2 (gOp fAdd (gVar 2) (gLst (gCons (gFrz (gOp fAdd (gVar 1) (gTup (gCons (gC .non) gNil)))) (gCons (gIf (gBl (gOp fNeK (gVar 1) (gTup gNil))) (gFrz (gSl (gVar 1) (gPt (gC (.int 1))) gNoP)) (gC .non)) gNil)))))
    (gSeq (gFor (gRange1 (gCons (gCall fMin2 (gCons (gCall fLen (gCons (gVar 1) gNil)) (gCons (gC (.int 2)) gNil))) gNil)) (.nm 3)
    (gDrop (gRcv 2 (gApp 2 (gFrz (gFn 3 (m__law_swapped c) (gCons (gFz 1) (gCons (gFz 3) (gCons (gFrz (gFn 2 (m__law_any c) (gCons (gVar 0) (gCons (gFrz (gFn 2 (m__law_otherwise c n) (gCons (gVar 0) (gCons (gOp fIx (gVar 1) (gVar 3)) gNil)))) gNil)))) gNil)))))))))
    (gRet (gVar 2))))
    gPass)
def ow_5 (c : Ads) (n : Nat) : EM Fl := (gIfS (gTru (gCall fIsi (gCons (gVar 1) (gCons (gC (.ty "dict")) gNil))))
    (gSeq (gSet 4 (gCall fSorted (gCons (gVar 1) gNil)))
    (gSeq (gSet 2 (gIf (gBl (gOp fNeK (gVar 4) (gLst gNil))) (gOp fAdd (gVar 2) (gLst (gCons (gFrz (gCall fDict (gCons (owR c) gNil))) gNil))) (gOp fAdd (gVar 2) (gLst (gCons (gTup gNil) gNil)))))
    (gSeq (gIfS (gBl (gOp fEqK (gVar 4) (gLst gNil)))
    (gRet (gVar 2))
    gPass)
    (gSeq (gSet 6 (gFn 2 (m__law_any c) (gCons (gVar 0) (gCons (gFrz (gFn 2 (m__law_otherwise c n) (gCons (gVar 0) (gCons (gOp fIx (gVar 1) (gOp fIx (gVar 4) (gC (.int 0)))) gNil)))) gNil))))
    (gRet (gOp fAdd (gVar 2) (gLst (gCons (gFrz (gCall fDict (gCons (owN c) gNil))) gNil))))))))
    gPass)
def ow_6 (c : Ads) : EM Fl := (gRet (gOp fAdd (gVar 2) (gLst (gCons (gC (.bl false)) (gCons (gC (.int 0)) (gCons (gC (.str "")) gNil))))))
theorem ow_eq (c : Ads) (n : Nat) : m__law_otherwise c (n + 1) = runM 7 (gSeq (ow_0 c) (gSeq (ow_1 c) (gSeq (ow_2 c) (gSeq (ow_3 c) (gSeq (ow_4 c n) (gSeq (ow_5 c n) (ow_6 c))))))) := rfl
theorem ow_0_ok (c : Ads) (m : Mo) (v : D) : ow_0 c [.par m, .val v, .un, .un, .un, .un, .un] = some (.ok .nx [.par m, .val v, .own (.l (o3 v)), .un, .un, .un, .un]) := by
  unfold ow_0
  simp [gSeq, gIfS, gBl, gOp, gVar, gC, EM.bind, EM.pure, EM.lift, op2, op1, gUn, view, moAt, Slot.mo?, Mo.view, fIx, fII, gAsg, gCall, M.gCons, M.gNil, consM, opL, views, aliveR, gdTup, gdCons, gdSub, gdNil, Tg.bind, Tg.binds, setV, putMo, gRet, gPass, M.gSet, setM, storeR, gFz, gFrz, M.gLst, M.gTup, valsR, gSl, slM, gPt, gNoP, fSl, gAnd, gOr, gNot, gTru, truM, tru, gAndV, gOrV, gNotV, stays, gIf, gDrop, gRcv, isL, gApp, gMeth, methM, tyD, gFn, callM, argsOf, argOf, brws, nodupN, putBack, Ret.res, gFnK, allVal, Perm.swap, Perm.id, swapL, gChain, gChain3, blM, gRaise, fAdd, fSub, fLt, fInt, fLen, fDivmod, fMod, fFdiv, fMax2, fIsi, isB, gPar, fEq, fNe, eqM, eqS, keyD, gItems, itemsM, tupItems, lstItems, gFor, gEnum, gRange1, sizeLine, noE, anyItems, dctItems, gDct, gDct0, gDctE, flatP, M.pairD, gAll, gFnM, fEqK, fNeK, fMulS, fStrB, fTuple, fDict, gIsT, isAny, fMul, gYes, gNever, finR, gHeardB, atI, ixN, toK, mergeD, putD, o3]
theorem len_o3 (v : D) : (o3 v).length = 3 := rfl
/-- the flat ones -/
theorem text_vl {n : Nat} {z : Str} (h : Tx 72 z) : Vl n (.str z) := VlW.leaf (w := 6) h
theorem ow_bl (c : Ads) (f : Nat) (m : Mo) (b : Bool) : m__law_otherwise c (f + 1) [.par m, .val (.bl b)] = some (.ok (.new (.l (o3 (.bl b) ++ [.int (if b then 1 else 0), .bl (!b), .str (if b then "True" else "False")]))) [.par m, .val (.bl b)]) := by
  rw [ow_eq]
  refine run_nx (N := 7) (as := [.par m, .val (.bl b)]) (r := .new (.l (o3 (.bl b) ++ [.int (if b then 1 else 0), .bl (!b), .str (if b then "True" else "False")]))) (ρ := [.par m, .val (.bl b), .own (.l (o3 (.bl b))), .un, .un, .un, .un]) ?_
  refine (seq_nx (ow_0_ok c m _)).trans (seq_rt ?_)
  unfold ow_1
  simp [gSeq, gIfS, gBl, gOp, gVar, gC, EM.bind, EM.pure, EM.lift, op2, op1, gUn, view, moAt, Slot.mo?, Mo.view, fIx, fII, gAsg, gCall, M.gCons, M.gNil, consM, opL, views, aliveR, gdTup, gdCons, gdSub, gdNil, Tg.bind, Tg.binds, setV, putMo, gRet, gPass, M.gSet, setM, storeR, gFz, gFrz, M.gLst, M.gTup, valsR, gSl, slM, gPt, gNoP, fSl, gAnd, gOr, gNot, gTru, truM, tru, gAndV, gOrV, gNotV, stays, gIf, gDrop, gRcv, isL, gApp, gMeth, methM, tyD, gFn, callM, argsOf, argOf, brws, nodupN, putBack, Ret.res, gFnK, allVal, Perm.swap, Perm.id, swapL, gChain, gChain3, blM, gRaise, fAdd, fSub, fLt, fInt, fLen, fDivmod, fMod, fFdiv, fMax2, fIsi, isB, gPar, fEq, fNe, eqM, eqS, keyD, gItems, itemsM, tupItems, lstItems, gFor, gEnum, gRange1, sizeLine, noE, anyItems, dctItems, gDct, gDct0, gDctE, flatP, M.pairD, gAll, gFnM, fEqK, fNeK, fMulS, fStrB, fTuple, fDict, gIsT, isAny, fMul, gYes, gNever, finR, gHeardB, atI, ixN, len_o3]
theorem ow_non (c : Ads) (f : Nat) (m : Mo) : m__law_otherwise c (f + 1) [.par m, .val .non] = some (.ok (.new (.l (o3 .non ++ [.bl false, .int 0, .str ""]))) [.par m, .val .non]) := by
  rw [ow_eq]
  refine run_nx (N := 7) (as := [.par m, .val .non]) (r := .new (.l (o3 .non ++ [.bl false, .int 0, .str ""]))) (ρ := [.par m, .val .non, .own (.l (o3 .non)), .un, .un, .un, .un]) ?_
  refine (seq_nx (ow_0_ok c m _)).trans ?_
  unfold ow_1 ow_2 ow_3 ow_4 ow_5 ow_6
  unfold gSeq
  simp [gSeq, gIfS, gBl, gOp, gVar, gC, EM.bind, EM.pure, EM.lift, op2, op1, gUn, view, moAt, Slot.mo?, Mo.view, fIx, fII, gAsg, gCall, M.gCons, M.gNil, consM, opL, views, aliveR, gdTup, gdCons, gdSub, gdNil, Tg.bind, Tg.binds, setV, putMo, gRet, gPass, M.gSet, setM, storeR, gFz, gFrz, M.gLst, M.gTup, valsR, gSl, slM, gPt, gNoP, fSl, gAnd, gOr, gNot, gTru, truM, tru, gAndV, gOrV, gNotV, stays, gIf, gDrop, gRcv, isL, gApp, gMeth, methM, tyD, gFn, callM, argsOf, argOf, brws, nodupN, putBack, Ret.res, gFnK, allVal, Perm.swap, Perm.id, swapL, gChain, gChain3, blM, gRaise, fAdd, fSub, fLt, fInt, fLen, fDivmod, fMod, fFdiv, fMax2, fIsi, isB, gPar, fEq, fNe, eqM, eqS, keyD, gItems, itemsM, tupItems, lstItems, gFor, gEnum, gRange1, sizeLine, noE, anyItems, dctItems, gDct, gDct0, gDctE, flatP, M.pairD, gAll, gFnM, fEqK, fNeK, fMulS, fStrB, fTuple, fDict, gIsT, isAny, fMul, gYes, gNever, finR, gHeardB, atI, ixN, len_o3]
theorem ow_str (c : Ads) (f : Nat) (m : Mo) (z : Str) (hz : Tx 60 z) : m__law_otherwise c (f + 1) [.par m, .val (.str z)] = some (.ok (.new (.l (o3 (.str z) ++ [.str (z ++ "a"), .non, .tup [.str z]]))) [.par m, .val (.str z)]) := by
  rw [ow_eq]
  refine run_nx (N := 7) (as := [.par m, .val (.str z)]) (r := .new (.l (o3 (.str z) ++ [.str (z ++ "a"), .non, .tup [.str z]]))) (ρ := [.par m, .val (.str z), .own (.l (o3 (.str z))), .un, .un, .un, .un]) ?_
  refine (seq_nx (ow_0_ok c m _)).trans ?_
  unfold ow_1 ow_2 ow_3
  unfold gSeq
  have h1 := hz.1
  have h2 : z.length + ("a" : Str).length ≤ 16777216 := by
    have : ("a" : Str).length = 1 := by decide
    omega
  simp [gSeq, gIfS, gBl, gOp, gVar, gC, EM.bind, EM.pure, EM.lift, op2, op1, gUn, view, moAt, Slot.mo?, Mo.view, fIx, fII, gAsg, gCall, M.gCons, M.gNil, consM, opL, views, aliveR, gdTup, gdCons, gdSub, gdNil, Tg.bind, Tg.binds, setV, putMo, gRet, gPass, M.gSet, setM, storeR, gFz, gFrz, M.gLst, M.gTup, valsR, gSl, slM, gPt, gNoP, fSl, gAnd, gOr, gNot, gTru, truM, tru, gAndV, gOrV, gNotV, stays, gIf, gDrop, gRcv, isL, gApp, gMeth, methM, tyD, gFn, callM, argsOf, argOf, brws, nodupN, putBack, Ret.res, gFnK, allVal, Perm.swap, Perm.id, swapL, gChain, gChain3, blM, gRaise, fAdd, fSub, fLt, fInt, fLen, fDivmod, fMod, fFdiv, fMax2, fIsi, isB, gPar, fEq, fNe, eqM, eqS, keyD, gItems, itemsM, tupItems, lstItems, gFor, gEnum, gRange1, sizeLine, noE, anyItems, dctItems, gDct, gDct0, gDctE, flatP, M.pairD, gAll, gFnM, fEqK, fNeK, fMulS, fStrB, fTuple, fDict, gIsT, isAny, fMul, gYes, gNever, finR, gHeardB, atI, ixN, len_o3, h2]
theorem ow_int (c : Ads) (f : Nat) (m : Mo) (i : Int) (hi : -(10 ^ 20) ≤ i ∧ i ≤ 10 ^ 20) : m__law_otherwise c (f + 1) [.par m, .val (.int i)] = some (.ok (.new (.l (o3 (.int i) ++ [.int (if 0 < i then i - 1 else i + 1), .str (toString i)] ++ (if i = 0 ∨ i = 1 then [.bl (decide (i = 1))] else [])))) [.par m, .val (.int i)]) := by
  rw [ow_eq]
  refine run_nx (N := 7) (as := [.par m, .val (.int i)]) (r := .new (.l (o3 (.int i) ++ [.int (if 0 < i then i - 1 else i + 1), .str (toString i)] ++ (if i = 0 ∨ i = 1 then [.bl (decide (i = 1))] else [])))) (ρ := [.par m, .val (.int i), .own (.l (o3 (.int i))), .un, .un, .un, .un]) ?_
  refine (seq_nx (ow_0_ok c m _)).trans ?_
  unfold ow_1 ow_2
  unfold gSeq
  have hl := int_log hi
  have hl2 : i.natAbs.log2 < 1920 := by omega
  by_cases c0 : 0 < i
  · by_cases c1 : i = 1
    · subst c1
      have l1 : Nat.log2 1 < 1920 := by decide +kernel
      simp [gSeq, gIfS, gBl, gOp, gVar, gC, EM.bind, EM.pure, EM.lift, op2, op1, gUn, view, moAt, Slot.mo?, Mo.view, fIx, fII, gAsg, gCall, M.gCons, M.gNil, consM, opL, views, aliveR, gdTup, gdCons, gdSub, gdNil, Tg.bind, Tg.binds, setV, putMo, gRet, gPass, M.gSet, setM, storeR, gFz, gFrz, M.gLst, M.gTup, valsR, gSl, slM, gPt, gNoP, fSl, gAnd, gOr, gNot, gTru, truM, tru, gAndV, gOrV, gNotV, stays, gIf, gDrop, gRcv, isL, gApp, gMeth, methM, tyD, gFn, callM, argsOf, argOf, brws, nodupN, putBack, Ret.res, gFnK, allVal, Perm.swap, Perm.id, swapL, gChain, gChain3, blM, gRaise, fAdd, fSub, fLt, fInt, fLen, fDivmod, fMod, fFdiv, fMax2, fIsi, isB, gPar, fEq, fNe, eqM, eqS, keyD, gItems, itemsM, tupItems, lstItems, gFor, gEnum, gRange1, sizeLine, noE, anyItems, dctItems, gDct, gDct0, gDctE, flatP, M.pairD, gAll, gFnM, fEqK, fNeK, fMulS, fStrB, fTuple, fDict, gIsT, isAny, fMul, gYes, gNever, finR, gHeardB, atI, ixN, len_o3, fGt, fInA, seqOf, scalD, eqF, fStr, l1]
    · have c2 : ¬ i = 0 := by omega
      simp [gSeq, gIfS, gBl, gOp, gVar, gC, EM.bind, EM.pure, EM.lift, op2, op1, gUn, view, moAt, Slot.mo?, Mo.view, fIx, fII, gAsg, gCall, M.gCons, M.gNil, consM, opL, views, aliveR, gdTup, gdCons, gdSub, gdNil, Tg.bind, Tg.binds, setV, putMo, gRet, gPass, M.gSet, setM, storeR, gFz, gFrz, M.gLst, M.gTup, valsR, gSl, slM, gPt, gNoP, fSl, gAnd, gOr, gNot, gTru, truM, tru, gAndV, gOrV, gNotV, stays, gIf, gDrop, gRcv, isL, gApp, gMeth, methM, tyD, gFn, callM, argsOf, argOf, brws, nodupN, putBack, Ret.res, gFnK, allVal, Perm.swap, Perm.id, swapL, gChain, gChain3, blM, gRaise, fAdd, fSub, fLt, fInt, fLen, fDivmod, fMod, fFdiv, fMax2, fIsi, isB, gPar, fEq, fNe, eqM, eqS, keyD, gItems, itemsM, tupItems, lstItems, gFor, gEnum, gRange1, sizeLine, noE, anyItems, dctItems, gDct, gDct0, gDctE, flatP, M.pairD, gAll, gFnM, fEqK, fNeK, fMulS, fStrB, fTuple, fDict, gIsT, isAny, fMul, gYes, gNever, finR, gHeardB, atI, ixN, len_o3, fGt, fInA, seqOf, scalD, eqF, fStr, c0, c1, c2, Ne.symm c1, Ne.symm c2, hl2]
  · by_cases c1 : i = 0
    · subst c1
      have l1 : Nat.log2 0 < 1920 := by decide +kernel
      simp [gSeq, gIfS, gBl, gOp, gVar, gC, EM.bind, EM.pure, EM.lift, op2, op1, gUn, view, moAt, Slot.mo?, Mo.view, fIx, fII, gAsg, gCall, M.gCons, M.gNil, consM, opL, views, aliveR, gdTup, gdCons, gdSub, gdNil, Tg.bind, Tg.binds, setV, putMo, gRet, gPass, M.gSet, setM, storeR, gFz, gFrz, M.gLst, M.gTup, valsR, gSl, slM, gPt, gNoP, fSl, gAnd, gOr, gNot, gTru, truM, tru, gAndV, gOrV, gNotV, stays, gIf, gDrop, gRcv, isL, gApp, gMeth, methM, tyD, gFn, callM, argsOf, argOf, brws, nodupN, putBack, Ret.res, gFnK, allVal, Perm.swap, Perm.id, swapL, gChain, gChain3, blM, gRaise, fAdd, fSub, fLt, fInt, fLen, fDivmod, fMod, fFdiv, fMax2, fIsi, isB, gPar, fEq, fNe, eqM, eqS, keyD, gItems, itemsM, tupItems, lstItems, gFor, gEnum, gRange1, sizeLine, noE, anyItems, dctItems, gDct, gDct0, gDctE, flatP, M.pairD, gAll, gFnM, fEqK, fNeK, fMulS, fStrB, fTuple, fDict, gIsT, isAny, fMul, gYes, gNever, finR, gHeardB, atI, ixN, len_o3, fGt, fInA, seqOf, scalD, eqF, fStr, l1]
    · have c2 : ¬ i = 1 := by omega
      simp [gSeq, gIfS, gBl, gOp, gVar, gC, EM.bind, EM.pure, EM.lift, op2, op1, gUn, view, moAt, Slot.mo?, Mo.view, fIx, fII, gAsg, gCall, M.gCons, M.gNil, consM, opL, views, aliveR, gdTup, gdCons, gdSub, gdNil, Tg.bind, Tg.binds, setV, putMo, gRet, gPass, M.gSet, setM, storeR, gFz, gFrz, M.gLst, M.gTup, valsR, gSl, slM, gPt, gNoP, fSl, gAnd, gOr, gNot, gTru, truM, tru, gAndV, gOrV, gNotV, stays, gIf, gDrop, gRcv, isL, gApp, gMeth, methM, tyD, gFn, callM, argsOf, argOf, brws, nodupN, putBack, Ret.res, gFnK, allVal, Perm.swap, Perm.id, swapL, gChain, gChain3, blM, gRaise, fAdd, fSub, fLt, fInt, fLen, fDivmod, fMod, fFdiv, fMax2, fIsi, isB, gPar, fEq, fNe, eqM, eqS, keyD, gItems, itemsM, tupItems, lstItems, gFor, gEnum, gRange1, sizeLine, noE, anyItems, dctItems, gDct, gDct0, gDctE, flatP, M.pairD, gAll, gFnM, fEqK, fNeK, fMulS, fStrB, fTuple, fDict, gIsT, isAny, fMul, gYes, gNever, finR, gHeardB, atI, ixN, len_o3, fGt, fInA, seqOf, scalD, eqF, fStr, c0, c1, c2, Ne.symm c1, Ne.symm c2, hl2]
end
end My

namespace My
noncomputable section
open PySem PySem.Spec PyProof.Rows L2 M
/-! the others of a value -/
theorem cut_to {xs : List D} {k : Nat} (h : k ≤ xs.length) : M.cutD xs none (some (k : Int)) = xs.take k := by
  unfold M.cutD
  rw [HT.sIx_none, HT.sIx_nat, Nat.min_eq_left h]; rfl
theorem cut_from {xs : List D} {k : Nat} (h : k ≤ xs.length) : M.cutD xs (some (k : Int)) none = xs.drop k := by
  unfold M.cutD
  rw [HT.sIx_none, HT.sIx_nat, Nat.min_eq_left h, List.take_of_length_le (by rw [List.length_drop]; exact Nat.le_refl _)]
theorem swapped_ok (c : Ads) {xs : List D} {k : Nat} {d : D} (h : k < xs.length) (hl : xs.length ≤ 100) : m__law_swapped c [.val (.tup xs), .val (.int k), .val d] = some (.ok (.val (.tup (xs.set k d))) [.val (.tup xs), .val (.int k), .val d]) := by
  unfold m__law_swapped
  refine run_nx (N := 3) (as := [.val (.tup xs), .val (.int k), .val d]) (r := .val (.tup (xs.set k d))) (ρ := [.val (.tup xs), .val (.int k), .val d]) ?_
  unfold b__law_swapped
  have c1 := cut_to (xs := xs) (k := k) (by omega)
  have c2 := cut_from (xs := xs) (k := k + 1) (by omega)
  have e : ((k + 1 : Nat) : Int) = (k : Int) + 1 := by omega
  rw [e] at c2
  have l1 : min k xs.length + 1 ≤ 16777216 := by omega
  have l2 : min k xs.length + 1 + (xs.length - (k + 1)) ≤ 16777216 := by omega
  have es : xs.set k d = xs.take k ++ [d] ++ xs.drop (k + 1) := by
    rw [List.set_eq_take_append_cons_drop, if_pos h]; simp
  simp [gSeq, gIfS, gBl, gOp, gVar, gC, EM.bind, EM.pure, EM.lift, op2, op1, gUn, view, moAt, Slot.mo?, Mo.view, fIx, fII, gAsg, gCall, M.gCons, M.gNil, consM, opL, views, aliveR, gdTup, gdCons, gdSub, gdNil, Tg.bind, Tg.binds, setV, putMo, gRet, gPass, M.gSet, setM, storeR, gFz, gFrz, M.gLst, M.gTup, valsR, gSl, slM, gPt, gNoP, fSl, gAnd, gOr, gNot, gTru, truM, tru, gAndV, gOrV, gNotV, stays, gIf, gDrop, gRcv, isL, gApp, gMeth, methM, tyD, gFn, callM, argsOf, argOf, brws, nodupN, putBack, Ret.res, gFnK, allVal, Perm.swap, Perm.id, swapL, gChain, gChain3, blM, gRaise, fAdd, fSub, fLt, fInt, fLen, fDivmod, fMod, fFdiv, fMax2, fIsi, isB, gPar, fEq, fNe, eqM, eqS, keyD, gItems, itemsM, tupItems, lstItems, gFor, gEnum, gRange1, sizeLine, noE, anyItems, dctItems, gDct, gDct0, gDctE, flatP, M.pairD, gAll, gFnM, fEqK, fNeK, fMulS, fStrB, fTuple, fDict, gIsT, isAny, fMul, gYes, gNever, finR, gHeardB, atI, ixN, c1, c2, l1, l2, es]
theorem oth_bl {n : Nat} {b : Bool} : Others n (.bl b) (o3 (.bl b) ++ [.int (if b then 1 else 0), .bl (!b), .str (if b then "True" else "False")]) := by
  refine .app (oth3 (VlW.leaf (w := 6) trivial)) (.cons ?_ (fun j => eqv_kind fun R h => h) (.cons (VlW.leaf (w := 6) trivial) (fun j => eqv_kind fun R h => ?_) (.cons ?_ (fun j => eqv_kind fun R h => h) .nil)))
  · refine VlW.leaf (w := 6) ?_
    cases b <;> exact ⟨by decide, by decide⟩
  · cases b <;> cases (show _ = _ from h)
  · refine VlW.leaf (w := 6) ?_
    cases b <;> exact ⟨by decide, allC_lit (by decide +kernel)⟩
theorem oth_non {n : Nat} : Others n .non (o3 .non ++ [.bl false, .int 0, .str ""]) := by
  refine .app (oth3 (VlW.leaf (w := 6) trivial)) (.cons (VlW.leaf (w := 6) trivial) (fun j => eqv_kind fun R h => h) (.cons ?_ (fun j => eqv_kind fun R h => h) (.cons ?_ (fun j => eqv_kind fun R h => h) .nil)))
  · exact VlW.leaf (w := 6) ⟨by decide, by decide⟩
  · exact VlW.leaf (w := 6) ⟨by decide, allC_lit (by decide +kernel)⟩
theorem oth_str {n : Nat} {z : Str} (hz : Tx 60 z) : Others n (.str z) (o3 (.str z) ++ [.str (z ++ "a"), .non, .tup [.str z]]) := by
  have hv : LfW 6 (.str z) := ⟨by have := hz.1; omega, hz.2⟩
  have la : ("a" : Str).length = 1 := by decide
  refine .app (oth3 (VlW.leaf (w := 6) hv)) (.cons ?_ (fun j => eqv_kind fun R h => ?_) (.cons (VlW.leaf (w := 6) trivial) (fun j => eqv_kind fun R h => h) (.cons ?_ (fun j => eqv_kind fun R h => h) .nil)))
  · refine VlW.leaf (w := 6) ⟨?_, AllC.app hz.2 (allC_lit (by decide +kernel))⟩
    rw [Str.length_append, la]
    have := hz.1
    omega
  · have h' : z = z ++ "a" := h
    have := congrArg Str.length h'
    rw [Str.length_append, la] at this
    omega
  · exact .inr (.inl ⟨_, rfl, by simp, fun x hx => by rw [List.mem_singleton.mp hx]; exact VlW.leaf hv⟩)
theorem int_okc {i : Int} (h : -(10 ^ 20) ≤ i ∧ i ≤ 10 ^ 20) : Tx 72 (toString i : Str) := by
  refine ⟨Nat.le_trans (int_short h) (by omega), fun c hc => ?_⟩
  have := int_text_all i c hc
  unfold numC at this
  unfold okc
  simp at this ⊢
  omega
theorem oth_int {n : Nat} {i : Int} (h : -(10 ^ 20) ≤ i ∧ i ≤ 10 ^ 20) : Others n (.int i) (o3 (.int i) ++ [.int (if 0 < i then i - 1 else i + 1), .str (toString i)] ++ (if i = 0 ∨ i = 1 then [.bl (decide (i = 1))] else [])) := by
  refine .app (.app (oth3 (VlW.leaf (w := 6) h)) (.cons ?_ (fun j => eqv_kind fun R e => ?_) (.cons (VlW.leaf (w := 6) (int_okc h)) (fun j => eqv_kind fun R h => h) .nil))) ?_
  · refine VlW.leaf (w := 6) ?_
    show _ ∧ _
    split <;> exact ⟨by omega, by omega⟩
  · have e' : i = if 0 < i then i - 1 else i + 1 := e
    split at e' <;> omega
  · split
    · exact .cons (VlW.leaf (w := 6) trivial) (fun j => eqv_kind fun R h => h) .nil
    · exact .nil
def On : Nat → Nat
  | 0 => 0
  | n + 1 => 2 * On n + 2
/-- a drawn other -/
theorem drawn_other (c : Ads) {f n k : Nat} {m : Mo} {v : D} (hk : k + On n ≤ 50000000)
    (h : ∃ ds m', m__law_otherwise c f [.par m, .val v] = some (.ok (.new (.l ds)) [.par m', .val v]) ∧ Others n v ds ∧ ds ≠ [] ∧ ds.length ≤ 20 ∧ WOk (k + On n) m') :
    ∃ ds d m1 m2, m__law_otherwise c f [.par m, .val v] = some (.ok (.new (.l ds)) [.par m1, .val v]) ∧ m__law_any c [.par m1, .val (.lst ds)] = some (.ok (.val d) [.par m2, .val (.lst ds)]) ∧ Vl (n + 1) d ∧ (∀ j, ¬ Eqv j v d) ∧ WOk (k + On n + 1) m2 := by
  obtain ⟨ds, m1, e1, o1, o2, o3, w1⟩ := h
  obtain ⟨d, m2, e2, hd, w2⟩ := any_ok c (ds := ds) w1 (by omega) o2 (by omega)
  exact ⟨ds, d, m1, m2, e1, e2, (o1 d hd).1, (o1 d hd).2, w2⟩
theorem oth_set {n j : Nat} {xs : List D} {i : Nat} {x d : D} (hx : xs[i]? = some x) (h : ∀ j, ¬ Eqv j x d) : ¬ Eqv j (.tup xs) (.tup (xs.set i d)) := fun e => by
  rw [eqv_rn] at e
  have hi := (List.getElem?_eq_some_iff.mp hx).1
  have r := e.2 i x d hx (List.getElem?_set_self hi)
  cases j with
  | zero => exact r
  | succ j => exact h j r
theorem fNeK_tup0 (xs : List D) : fNeK (.tup xs) (.tup []) = some (.val (.bl (!xs.isEmpty))) := by
  have e : fNe (.tup xs) (.tup []) = none ∨ fNe (.tup xs) (.tup []) = some (.val (.bl (!xs.isEmpty))) := by
    unfold fNe eqM eqS
    dsimp only
    cases h : pd (.tup xs) with
    | none => exact .inl rfl
    | some x =>
      unfold pd at h
      obtain ⟨ps, hp, rfl⟩ := map_some' h
      have pi : pd (.tup []) = some (.tuple []) := by unfold pd pds; rfl
      rw [Option.bind_some, pi, Option.bind_some]
      by_cases q : SeqAt.shaped (PyData.tuple ps) = true ∧ SeqAt.shaped (PyData.tuple []) = true
      · rw [if_pos q]
        right
        cases xs with
        | nil => unfold pds at hp; cases hp; simp [PyData.eqv, PyData.eqvAll]
        | cons y ys =>
          unfold pds at hp
          cases ps with
          | nil => simp [Option.bind_eq_some_iff] at hp
          | cons a b => simp [PyData.eqv, PyData.eqvAll]
      · rw [if_neg q]; left; rfl
  unfold fNeK
  rcases e with e | e
  · rw [e]
    cases xs <;> rfl
  · rw [e]
theorem ow_tup (c : Ads) (f n k : Nat) (m : Mo) {xs : List D} (hl : xs.length ≤ 5) (hv : ∀ x ∈ xs, VlW 5 n x) (w : WOk k m) (hk : k + On (n + 1) ≤ 50000000)
    (ih : ∀ (k : Nat) (m : Mo) (x : D), x ∈ xs → WOk k m → k + On n ≤ 50000000 → ∃ ds m', m__law_otherwise c f [.par m, .val x] = some (.ok (.new (.l ds)) [.par m', .val x]) ∧ Others n x ds ∧ ds ≠ [] ∧ ds.length ≤ 20 ∧ WOk (k + On n) m') :
    ∃ ds m', m__law_otherwise c (f + 1) [.par m, .val (.tup xs)] = some (.ok (.new (.l ds)) [.par m', .val (.tup xs)]) ∧ Others (n + 1) (.tup xs) ds ∧ ds ≠ [] ∧ ds.length ≤ 20 ∧ WOk (k + On (n + 1)) m' := by
  have on : On (n + 1) = 2 * On n + 2 := rfl
  have wide : ∀ x ∈ xs, Vl n x := fun x hx => (hv x hx).wide (by omega)
  have wv : Vl (n + 1) (.tup xs) := .inr (.inl ⟨xs, rfl, by omega, wide⟩)
  let v2 : D := if xs = [] then .non else .tup (xs.drop 1)
  have o5 : Others (n + 1) (.tup xs) (o3 (.tup xs) ++ [.tup (xs ++ [.non]), v2]) := by
    refine .app (oth3 wv) (.cons (.inr (.inl ⟨_, rfl, by simp; omega, fun x hx => ?_⟩)) (fun j => eqv_kind fun R h => ?_) (.cons ?_ (fun j => eqv_kind fun R h => ?_) .nil))
    · rcases List.mem_append.mp hx with hx | hx
      · exact (wide x hx).mono (by omega)
      · rw [List.mem_singleton.mp hx]; exact VlW.leaf (w := 6) trivial
    · have := h.1
      simp at this
    · show Vl _ (if xs = [] then .non else .tup (xs.drop 1))
      split
      · exact VlW.leaf (w := 6) trivial
      · exact .inr (.inl ⟨_, rfl, by simp; omega, fun x hx => (wide x (List.mem_of_mem_drop hx)).mono (by omega)⟩)
    · simp only [v2] at h
      split at h
      · exact h
      · rename_i hne
        have := h.1
        have : 0 < xs.length := List.length_pos_iff.mpr hne
        simp at *
        omega
  let ln : Int := if (2 : Int) < xs.length then 2 else xs.length
  have hln : ln.toNat ≤ 2 ∧ ln.toNat ≤ xs.length ∧ 0 ≤ ln ∧ ln ≤ 2 ∧ ln ≤ xs.length := by
    simp only [ln]
    split <;> omega
  obtain ⟨ρ', e2, m', fs, x, rfl, hx, ho, l2, w2⟩ := loopF_inv (t := .nm 3) (body := (gDrop (gRcv 2 (gApp 2 (gFrz (gFn 3 (m__law_swapped c) (gCons (gFz 1) (gCons (gFz 3) (gCons (gFrz (gFn 2 (m__law_any c) (gCons (gVar 0) (gCons (gFrz (gFn 2 (m__law_otherwise c f) (gCons (gVar 0) (gCons (gOp fIx (gVar 1) (gVar 3)) gNil)))) gNil)))) gNil)))))))))
    (fun j ρ => ∃ (m : Mo) (fs : List D) (x : Slot), ρ = [.par m, .val (.tup xs), .own (.l fs), x, .un, .un, .un] ∧ (∀ q, x ≠ .par q) ∧ Others (n + 1) (.tup xs) fs ∧ fs.length = 5 + j ∧ WOk (k + j * (On n + 1)) m)
    (upto ln) 0 [.par m, .val (.tup xs), .own (.l (o3 (.tup xs) ++ [.tup (xs ++ [.non]), v2])), .un, .un, .un, .un] (by
    rintro j ρ d hd hj ⟨m, fs, x, rfl, hx, ho, l, w⟩
    rw [upto_len] at hj
    obtain ⟨i, rfl, hi⟩ := upto_mem hd
    have gi : xs[i]? = some xs[i] := List.getElem?_eq_getElem (by omega)
    have t1 := atI_nat gi
    have hm : j * (On n + 1) ≤ 1 * (On n + 1) := Nat.mul_le_mul_right _ (by omega)
    obtain ⟨ds, d, m1, m2, e1, e2, d1, d2, w2⟩ := drawn_other c (by omega) (ih _ m xs[i] (List.getElem_mem _) w (by omega))
    have e3 := swapped_ok c (xs := xs) (k := i) (d := d) (by omega) (by omega)
    have hf : fs.length < 16777216 := by omega
    refine ⟨[.par m, .val (.tup xs), .own (.l fs), .val (.int i), .un, .un, .un], [.par m2, .val (.tup xs), .own (.l (fs ++ [.tup (xs.set i d)])), .val (.int i), .un, .un, .un], ?_, .inl ?_, m2, _, _, rfl, fun q => by simp, ?_, by simp [l]; omega, w2.mono (by rw [Nat.succ_mul]; omega)⟩
    · cases x <;> first | rfl | exact absurd rfl (hx _)
    · simp [gSeq, gIfS, gBl, gOp, gVar, gC, EM.bind, EM.pure, EM.lift, op2, op1, gUn, view, moAt, Slot.mo?, Mo.view, fIx, fII, gAsg, gCall, M.gCons, M.gNil, consM, opL, views, aliveR, gdTup, gdCons, gdSub, gdNil, Tg.bind, Tg.binds, setV, putMo, gRet, gPass, M.gSet, setM, storeR, gFz, gFrz, M.gLst, M.gTup, valsR, gSl, slM, gPt, gNoP, fSl, gAnd, gOr, gNot, gTru, truM, tru, gAndV, gOrV, gNotV, stays, gIf, gDrop, gRcv, isL, gApp, gMeth, methM, tyD, gFn, callM, argsOf, argOf, brws, nodupN, putBack, Ret.res, gFnK, allVal, Perm.swap, Perm.id, swapL, gChain, gChain3, blM, gRaise, fAdd, fSub, fLt, fInt, fLen, fDivmod, fMod, fFdiv, fMax2, fIsi, isB, gPar, fEq, fNe, eqM, eqS, keyD, gItems, itemsM, tupItems, lstItems, gFor, gEnum, gRange1, sizeLine, noE, anyItems, dctItems, gDct, gDct0, gDctE, flatP, M.pairD, gAll, gFnM, fEqK, fNeK, fMulS, fStrB, fTuple, fDict, gIsT, isAny, fMul, gYes, gNever, finR, gHeardB, t1, gi, e1, e2, e3, hf]
    · refine .app ho (.cons (.inr (.inl ⟨_, rfl, by simp; omega, fun y hy => ?_⟩)) (fun j => oth_set (n := n) gi d2) .nil)
      rcases List.mem_or_eq_of_mem_set hy with hy | rfl
      · exact (wide y hy).mono (by omega)
      · exact d1) ⟨m, _, .un, rfl, fun q => by simp, o5, rfl, by simpa using w⟩
  rw [upto_len] at l2 w2
  have hm : (0 + ln.toNat) * (On n + 1) ≤ 2 * (On n + 1) := Nat.mul_le_mul_right _ (by omega)
  refine ⟨fs, m', ?_, ho, fun z => by rw [z] at l2; simp at l2; omega, by omega, w2.mono (by omega)⟩
  rw [ow_eq]
  refine run_own (N := 7) (as := [.par m, .val (.tup xs)]) (i := 2) (ρ := [.par m', .val (.tup xs), .own (.l fs), x, .un, .un, .un]) ?_ rfl
  refine (seq_nx (ow_0_ok c m _)).trans ?_
  refine (seq_nx (ρ' := [.par m, .val (.tup xs), .own (.l (o3 (.tup xs))), .un, .un, .un, .un]) (by unfold ow_1; simp [gSeq, gIfS, gBl, gOp, gVar, gC, EM.bind, EM.pure, EM.lift, op2, op1, gUn, view, moAt, Slot.mo?, Mo.view, fIx, fII, gAsg, gCall, M.gCons, M.gNil, consM, opL, views, aliveR, gdTup, gdCons, gdSub, gdNil, Tg.bind, Tg.binds, setV, putMo, gRet, gPass, M.gSet, setM, storeR, gFz, gFrz, M.gLst, M.gTup, valsR, gSl, slM, gPt, gNoP, fSl, gAnd, gOr, gNot, gTru, truM, tru, gAndV, gOrV, gNotV, stays, gIf, gDrop, gRcv, isL, gApp, gMeth, methM, tyD, gFn, callM, argsOf, argOf, brws, nodupN, putBack, Ret.res, gFnK, allVal, Perm.swap, Perm.id, swapL, gChain, gChain3, blM, gRaise, fAdd, fSub, fLt, fInt, fLen, fDivmod, fMod, fFdiv, fMax2, fIsi, isB, gPar, fEq, fNe, eqM, eqS, keyD, gItems, itemsM, tupItems, lstItems, gFor, gEnum, gRange1, sizeLine, noE, anyItems, dctItems, gDct, gDct0, gDctE, flatP, M.pairD, gAll, gFnM, fEqK, fNeK, fMulS, fStrB, fTuple, fDict, gIsT, isAny, fMul, gYes, gNever, finR, gHeardB, atI, ixN])).trans ?_
  refine (seq_nx (ρ' := [.par m, .val (.tup xs), .own (.l (o3 (.tup xs))), .un, .un, .un, .un]) (by unfold ow_2; simp [gSeq, gIfS, gBl, gOp, gVar, gC, EM.bind, EM.pure, EM.lift, op2, op1, gUn, view, moAt, Slot.mo?, Mo.view, fIx, fII, gAsg, gCall, M.gCons, M.gNil, consM, opL, views, aliveR, gdTup, gdCons, gdSub, gdNil, Tg.bind, Tg.binds, setV, putMo, gRet, gPass, M.gSet, setM, storeR, gFz, gFrz, M.gLst, M.gTup, valsR, gSl, slM, gPt, gNoP, fSl, gAnd, gOr, gNot, gTru, truM, tru, gAndV, gOrV, gNotV, stays, gIf, gDrop, gRcv, isL, gApp, gMeth, methM, tyD, gFn, callM, argsOf, argOf, brws, nodupN, putBack, Ret.res, gFnK, allVal, Perm.swap, Perm.id, swapL, gChain, gChain3, blM, gRaise, fAdd, fSub, fLt, fInt, fLen, fDivmod, fMod, fFdiv, fMax2, fIsi, isB, gPar, fEq, fNe, eqM, eqS, keyD, gItems, itemsM, tupItems, lstItems, gFor, gEnum, gRange1, sizeLine, noE, anyItems, dctItems, gDct, gDct0, gDctE, flatP, M.pairD, gAll, gFnM, fEqK, fNeK, fMulS, fStrB, fTuple, fDict, gIsT, isAny, fMul, gYes, gNever, finR, gHeardB, atI, ixN])).trans ?_
  refine (seq_nx (ρ' := [.par m, .val (.tup xs), .own (.l (o3 (.tup xs))), .un, .un, .un, .un]) (by unfold ow_3; simp [gSeq, gIfS, gBl, gOp, gVar, gC, EM.bind, EM.pure, EM.lift, op2, op1, gUn, view, moAt, Slot.mo?, Mo.view, fIx, fII, gAsg, gCall, M.gCons, M.gNil, consM, opL, views, aliveR, gdTup, gdCons, gdSub, gdNil, Tg.bind, Tg.binds, setV, putMo, gRet, gPass, M.gSet, setM, storeR, gFz, gFrz, M.gLst, M.gTup, valsR, gSl, slM, gPt, gNoP, fSl, gAnd, gOr, gNot, gTru, truM, tru, gAndV, gOrV, gNotV, stays, gIf, gDrop, gRcv, isL, gApp, gMeth, methM, tyD, gFn, callM, argsOf, argOf, brws, nodupN, putBack, Ret.res, gFnK, allVal, Perm.swap, Perm.id, swapL, gChain, gChain3, blM, gRaise, fAdd, fSub, fLt, fInt, fLen, fDivmod, fMod, fFdiv, fMax2, fIsi, isB, gPar, fEq, fNe, eqM, eqS, keyD, gItems, itemsM, tupItems, lstItems, gFor, gEnum, gRange1, sizeLine, noE, anyItems, dctItems, gDct, gDct0, gDctE, flatP, M.pairD, gAll, gFnM, fEqK, fNeK, fMulS, fStrB, fTuple, fDict, gIsT, isAny, fMul, gYes, gNever, finR, gHeardB, atI, ixN])).trans ?_
  refine seq_rt ?_
  unfold ow_4
  refine (ifS_t (ρ1 := [.par m, .val (.tup xs), .own (.l (o3 (.tup xs))), .un, .un, .un, .un]) (by simp [gSeq, gIfS, gBl, gOp, gVar, gC, EM.bind, EM.pure, EM.lift, op2, op1, gUn, view, moAt, Slot.mo?, Mo.view, fIx, fII, gAsg, gCall, M.gCons, M.gNil, consM, opL, views, aliveR, gdTup, gdCons, gdSub, gdNil, Tg.bind, Tg.binds, setV, putMo, gRet, gPass, M.gSet, setM, storeR, gFz, gFrz, M.gLst, M.gTup, valsR, gSl, slM, gPt, gNoP, fSl, gAnd, gOr, gNot, gTru, truM, tru, gAndV, gOrV, gNotV, stays, gIf, gDrop, gRcv, isL, gApp, gMeth, methM, tyD, gFn, callM, argsOf, argOf, brws, nodupN, putBack, Ret.res, gFnK, allVal, Perm.swap, Perm.id, swapL, gChain, gChain3, blM, gRaise, fAdd, fSub, fLt, fInt, fLen, fDivmod, fMod, fFdiv, fMax2, fIsi, isB, gPar, fEq, fNe, eqM, eqS, keyD, gItems, itemsM, tupItems, lstItems, gFor, gEnum, gRange1, sizeLine, noE, anyItems, dctItems, gDct, gDct0, gDctE, flatP, M.pairD, gAll, gFnM, fEqK, fNeK, fMulS, fStrB, fTuple, fDict, gIsT, isAny, fMul, gYes, gNever, finR, gHeardB, atI, ixN])).trans ?_
  refine (seq_nx (ρ' := [.par m, .val (.tup xs), .own (.l (o3 (.tup xs) ++ [.tup (xs ++ [.non]), v2])), .un, .un, .un, .un]) ?_).trans ?_
  · have q1 : xs.length + 1 ≤ 16777216 := by omega
    cases xs with
    | nil => simp [gSeq, gIfS, gBl, gOp, gVar, gC, EM.bind, EM.pure, EM.lift, op2, op1, gUn, view, moAt, Slot.mo?, Mo.view, fIx, fII, gAsg, gCall, M.gCons, M.gNil, consM, opL, views, aliveR, gdTup, gdCons, gdSub, gdNil, Tg.bind, Tg.binds, setV, putMo, gRet, gPass, M.gSet, setM, storeR, gFz, gFrz, M.gLst, M.gTup, valsR, gSl, slM, gPt, gNoP, fSl, gAnd, gOr, gNot, gTru, truM, tru, gAndV, gOrV, gNotV, stays, gIf, gDrop, gRcv, isL, gApp, gMeth, methM, tyD, gFn, callM, argsOf, argOf, brws, nodupN, putBack, Ret.res, gFnK, allVal, Perm.swap, Perm.id, swapL, gChain, gChain3, blM, gRaise, fAdd, fSub, fLt, fInt, fLen, fDivmod, fMod, fFdiv, fMax2, fIsi, isB, gPar, keyD, gItems, itemsM, tupItems, lstItems, gFor, gEnum, gRange1, sizeLine, noE, anyItems, dctItems, gDct, gDct0, gDctE, flatP, M.pairD, gAll, gFnM, fMulS, fStrB, fTuple, fDict, gIsT, isAny, fMul, gYes, gNever, finR, gHeardB, atI, ixN, len_o3, fNeK_tup0, v2]
    | cons y ys =>
      have c2 := cut_from (xs := y :: ys) (k := 1) (by simp)
      have q2 : ys.length + 1 + 1 ≤ 16777216 := q1
      simp [gSeq, gIfS, gBl, gOp, gVar, gC, EM.bind, EM.pure, EM.lift, op2, op1, gUn, view, moAt, Slot.mo?, Mo.view, fIx, fII, gAsg, gCall, M.gCons, M.gNil, consM, opL, views, aliveR, gdTup, gdCons, gdSub, gdNil, Tg.bind, Tg.binds, setV, putMo, gRet, gPass, M.gSet, setM, storeR, gFz, gFrz, M.gLst, M.gTup, valsR, gSl, slM, gPt, gNoP, fSl, gAnd, gOr, gNot, gTru, truM, tru, gAndV, gOrV, gNotV, stays, gIf, gDrop, gRcv, isL, gApp, gMeth, methM, tyD, gFn, callM, argsOf, argOf, brws, nodupN, putBack, Ret.res, gFnK, allVal, Perm.swap, Perm.id, swapL, gChain, gChain3, blM, gRaise, fAdd, fSub, fLt, fInt, fLen, fDivmod, fMod, fFdiv, fMax2, fIsi, isB, gPar, keyD, gItems, itemsM, tupItems, lstItems, gFor, gEnum, gRange1, sizeLine, noE, anyItems, dctItems, gDct, gDct0, gDctE, flatP, M.pairD, gAll, gFnM, fMulS, fStrB, fTuple, fDict, gIsT, isAny, fMul, gYes, gNever, finR, gHeardB, atI, ixN, len_o3, fNeK_tup0, v2, q2] at c2 ⊢
      simp [c2]
  · refine (seq_nx (ρ' := [.par m', .val (.tup xs), .own (.l fs), x, .un, .un, .un]) ?_).trans ?_
    · refine (for_at (range_ok (k := ln) (by simp [gSeq, gIfS, gBl, gOp, gVar, gC, EM.bind, EM.pure, EM.lift, op2, op1, gUn, view, moAt, Slot.mo?, Mo.view, fIx, fII, gAsg, gCall, M.gCons, M.gNil, consM, opL, views, aliveR, gdTup, gdCons, gdSub, gdNil, Tg.bind, Tg.binds, setV, putMo, gRet, gPass, M.gSet, setM, storeR, gFz, gFrz, M.gLst, M.gTup, valsR, gSl, slM, gPt, gNoP, fSl, gAnd, gOr, gNot, gTru, truM, tru, gAndV, gOrV, gNotV, stays, gIf, gDrop, gRcv, isL, gApp, gMeth, methM, tyD, gFn, callM, argsOf, argOf, brws, nodupN, putBack, Ret.res, gFnK, allVal, Perm.swap, Perm.id, swapL, gChain, gChain3, blM, gRaise, fAdd, fSub, fLt, fInt, fLen, fDivmod, fMod, fFdiv, fMax2, fIsi, isB, gPar, fEq, fNe, eqM, eqS, keyD, gItems, itemsM, tupItems, lstItems, gFor, gEnum, gRange1, sizeLine, noE, anyItems, dctItems, gDct, gDct0, gDctE, flatP, M.pairD, gAll, gFnM, fEqK, fNeK, fMulS, fStrB, fTuple, fDict, gIsT, isAny, fMul, gYes, gNever, finR, gHeardB, atI, ixN, fMin2, ln]) (by omega) (by omega))).trans e2
    · simp [gSeq, gIfS, gBl, gOp, gVar, gC, EM.bind, EM.pure, EM.lift, op2, op1, gUn, view, moAt, Slot.mo?, Mo.view, fIx, fII, gAsg, gCall, M.gCons, M.gNil, consM, opL, views, aliveR, gdTup, gdCons, gdSub, gdNil, Tg.bind, Tg.binds, setV, putMo, gRet, gPass, M.gSet, setM, storeR, gFz, gFrz, M.gLst, M.gTup, valsR, gSl, slM, gPt, gNoP, fSl, gAnd, gOr, gNot, gTru, truM, tru, gAndV, gOrV, gNotV, stays, gIf, gDrop, gRcv, isL, gApp, gMeth, methM, tyD, gFn, callM, argsOf, argOf, brws, nodupN, putBack, Ret.res, gFnK, allVal, Perm.swap, Perm.id, swapL, gChain, gChain3, blM, gRaise, fAdd, fSub, fLt, fInt, fLen, fDivmod, fMod, fFdiv, fMax2, fIsi, isB, gPar, fEq, fNe, eqM, eqS, keyD, gItems, itemsM, tupItems, lstItems, gFor, gEnum, gRange1, sizeLine, noE, anyItems, dctItems, gDct, gDct0, gDctE, flatP, M.pairD, gAll, gFnM, fEqK, fNeK, fMulS, fStrB, fTuple, fDict, gIsT, isAny, fMul, gYes, gNever, finR, gHeardB, atI, ixN]
end
end My

namespace My
noncomputable section
open PySem PySem.Spec PyProof.Rows L2 M
/-! the others of a record -/
def by_ (g : Str → D) (S : List Str) : List (Str × D) := S.map fun s => (s, g s)
theorem by_keys (g : Str → D) (S : List Str) : (by_ g S).map (·.1) = S := by simp [by_, Function.comp_def]
theorem by_look (g : Str → D) (x : Str) : ∀ S : List Str, (by_ g S).lookup x = if x ∈ S then some (g x) else none
  | [] => rfl
  | s :: S => by
    show ((s, g s) :: by_ g S).lookup x = _
    rw [List.lookup_cons, by_look g x S]
    by_cases e : x = s
    · subst e; simp
    · have e' : (x == s) = false := by simpa using e
      rw [e']
      simp [e]
theorem by_toT (g : Str → D) (S : List Str) : toT (by_ g S) = (S.map D.str).map fun d => match d with
    | .str s => .tup [.str s, g s]
    | d => d := by
  unfold by_ toT
  rw [List.map_map, List.map_map]
  rfl
theorem by_dict {g : Str → D} {S : List Str} (h : S.Nodup) : fDict [.lst (toT (by_ g S))] = some (.new (.d (toK (by_ g S)))) :=
  fDict_toT (by rw [by_keys]; exact h)
theorem fNeK_str (a b : Str) : fNeK (.str a) (.str b) = some (.val (.bl (!decide (a = b)))) := by
  have h : (a == b) = decide (a = b) := by rw [Bool.eq_iff_iff]; simp
  simp [fNeK, fNe, eqM, eqS, h]
theorem frz_dict {g : EM Res} {ρ ρ' : En} {xs : List D} {kvs : List (Key × D)} (e : g ρ = some (.ok (.new (.l xs)) ρ')) (f : fDict [.lst xs] = some (.new (.d kvs))) : gFrz (gCall fDict (M.gCons g M.gNil)) ρ = some (.ok (.val (.dct kvs)) ρ') := by
  unfold gFrz gCall M.gCons M.gNil
  simp [EM.bind, EM.pure, EM.lift, consM, opL, views, aliveR, view, e, f, Mo.view]
/-- the parts of a record -/
def gt (ps : List (Str × D)) (s : Str) : D := (ps.lookup s).getD .non
theorem gt_ok {ps : List (Str × D)} {s : Str} (h : s ∈ ps.map (·.1)) : lookD (toK ps) (.inr s) = some (gt ps s) ∧ (s, gt ps s) ∈ ps := by
  obtain ⟨y, e⟩ := lookup_ex h
  unfold gt
  rw [look_toK, e]
  exact ⟨rfl, lookup_mem e⟩
theorem owR_ok (c : Ads) (m : Mo) (fs : List D) {ps : List (Str × D)} {h : Str} {t : List Str} (hp : ∀ s ∈ h :: t, s ∈ ps.map (·.1)) (hl : t.length ≤ 100) : owR c [.par m, .val (.dct (toK ps)), .own (.l fs), .un, .own (.l ((h :: t).map .str)), .un, .un] =
    some (.ok (.new (.l (toT (by_ (gt ps) t)))) [.par m, .val (.dct (toK ps)), .own (.l fs), .un, .own (.l ((h :: t).map .str)), .un, .un]) := by
  unfold owR
  rw [by_toT]
  have c2 := cut_from (xs := (h :: t).map D.str) (k := 1) (by simp)
  simp at c2
  refine lc_map 5 (gi := (gItems anyItems (gFrz (gSl (gVar 4) (gPt (gC (.int 1))) gNoP)))) (ρ := [.par m, .val (.dct (toK ps)), .own (.l fs), .un, .own (.l ((h :: t).map .str)), .un, .un]) (ρ1 := [.par m, .val (.dct (toK ps)), .own (.l fs), .un, .own (.l ((h :: t).map .str)), .un, .un]) (t.map D.str) _ (by simp) (by simp) (items_ok (d := .lst (t.map D.str)) (by simp [gSeq, gIfS, gBl, gOp, gVar, gC, EM.bind, EM.pure, EM.lift, op2, op1, gUn, view, moAt, Slot.mo?, Mo.view, fIx, fII, gAsg, gCall, M.gCons, M.gNil, consM, opL, views, aliveR, gdTup, gdCons, gdSub, gdNil, Tg.bind, Tg.binds, setV, putMo, gRet, gPass, M.gSet, setM, storeR, gFz, gFrz, M.gLst, M.gTup, valsR, gSl, slM, gPt, gNoP, fSl, gAnd, gOr, gNot, gTru, truM, tru, gAndV, gOrV, gNotV, stays, gIf, gDrop, gRcv, isL, gApp, gMeth, methM, tyD, gFn, callM, argsOf, argOf, brws, nodupN, putBack, Ret.res, gFnK, allVal, Perm.swap, Perm.id, swapL, gChain, gChain3, blM, gRaise, fAdd, fSub, fLt, fInt, fLen, fDivmod, fMod, fFdiv, fMax2, fIsi, isB, gPar, fEq, fNe, eqM, eqS, keyD, gItems, itemsM, tupItems, lstItems, gFor, gEnum, gRange1, sizeLine, noE, anyItems, dctItems, gDct, gDct0, gDctE, flatP, M.pairD, gAll, gFnM, fEqK, fNeK, fMulS, fStrB, fTuple, fDict, gIsT, isAny, fMul, gYes, gNever, finR, gHeardB, atI, ixN, c2]) rfl) (by rw [List.length_map, sizeLine_eq]; omega) fun d hd => ?_
  obtain ⟨s, hs, rfl⟩ := List.mem_map.mp hd
  have k1 := (gt_ok (hp s (List.mem_cons_of_mem _ hs))).1
  simp [gSeq, gIfS, gBl, gOp, gVar, gC, EM.bind, EM.pure, EM.lift, op2, op1, gUn, view, moAt, Slot.mo?, Mo.view, fIx, fII, gAsg, gCall, M.gCons, M.gNil, consM, opL, views, aliveR, gdTup, gdCons, gdSub, gdNil, Tg.bind, Tg.binds, setV, putMo, gRet, gPass, M.gSet, setM, storeR, gFz, gFrz, M.gLst, M.gTup, valsR, gSl, slM, gPt, gNoP, fSl, gAnd, gOr, gNot, gTru, truM, tru, gAndV, gOrV, gNotV, stays, gIf, gDrop, gRcv, isL, gApp, gMeth, methM, tyD, gFn, callM, argsOf, argOf, brws, nodupN, putBack, Ret.res, gFnK, allVal, Perm.swap, Perm.id, swapL, gChain, gChain3, blM, gRaise, fAdd, fSub, fLt, fInt, fLen, fDivmod, fMod, fFdiv, fMax2, fIsi, isB, gPar, fEq, fNe, eqM, eqS, keyD, gItems, itemsM, tupItems, lstItems, gFor, gEnum, gRange1, sizeLine, noE, anyItems, dctItems, gDct, gDct0, gDctE, flatP, M.pairD, gAll, gFnM, fEqK, fNeK, fMulS, fStrB, fTuple, fDict, gIsT, isAny, fMul, gYes, gNever, finR, gHeardB, atI, ixN, k1]
theorem owN_ok (c : Ads) (m : Mo) (fs : List D) {ps : List (Str × D)} {h : Str} {t : List Str} {d : D} (hp : ∀ s ∈ h :: t, s ∈ ps.map (·.1)) (hl : t.length ≤ 100) : owN c [.par m, .val (.dct (toK ps)), .own (.l fs), .un, .own (.l ((h :: t).map .str)), .un, .val d] =
    some (.ok (.new (.l (toT (by_ (fun s => if s = h then d else gt ps s) (h :: t))))) [.par m, .val (.dct (toK ps)), .own (.l fs), .un, .val (.lst ((h :: t).map .str)), .un, .val d]) := by
  unfold owN
  rw [by_toT]
  refine lc_map 5 (gi := (gItems anyItems (gFz 4))) (ρ := [.par m, .val (.dct (toK ps)), .own (.l fs), .un, .val (.lst ((h :: t).map .str)), .un, .val d]) (ρ1 := [.par m, .val (.dct (toK ps)), .own (.l fs), .un, .own (.l ((h :: t).map .str)), .un, .val d]) ((h :: t).map D.str) _ (by simp) (by simp) (items_ok (d := .lst ((h :: t).map D.str)) (by simp [gSeq, gIfS, gBl, gOp, gVar, gC, EM.bind, EM.pure, EM.lift, op2, op1, gUn, view, moAt, Slot.mo?, Mo.view, fIx, fII, gAsg, gCall, M.gCons, M.gNil, consM, opL, views, aliveR, gdTup, gdCons, gdSub, gdNil, Tg.bind, Tg.binds, setV, putMo, gRet, gPass, M.gSet, setM, storeR, gFz, gFrz, M.gLst, M.gTup, valsR, gSl, slM, gPt, gNoP, fSl, gAnd, gOr, gNot, gTru, truM, tru, gAndV, gOrV, gNotV, stays, gIf, gDrop, gRcv, isL, gApp, gMeth, methM, tyD, gFn, callM, argsOf, argOf, brws, nodupN, putBack, Ret.res, gFnK, allVal, Perm.swap, Perm.id, swapL, gChain, gChain3, blM, gRaise, fAdd, fSub, fLt, fInt, fLen, fDivmod, fMod, fFdiv, fMax2, fIsi, isB, gPar, fEq, fNe, eqM, eqS, keyD, gItems, itemsM, tupItems, lstItems, gFor, gEnum, gRange1, sizeLine, noE, anyItems, dctItems, gDct, gDct0, gDctE, flatP, M.pairD, gAll, gFnM, fEqK, fNeK, fMulS, fStrB, fTuple, fDict, gIsT, isAny, fMul, gYes, gNever, finR, gHeardB, atI, ixN]) rfl) (by rw [List.length_map, List.length_cons, sizeLine_eq]; omega) fun e he => ?_
  obtain ⟨s, hs, rfl⟩ := List.mem_map.mp he
  have k1 := (gt_ok (hp s hs)).1
  by_cases q : s = h
  · subst q
    simp [gSeq, gIfS, gBl, gOp, gVar, gC, EM.bind, EM.pure, EM.lift, op2, op1, gUn, view, moAt, Slot.mo?, Mo.view, fIx, fII, gAsg, gCall, M.gCons, M.gNil, consM, opL, views, aliveR, gdTup, gdCons, gdSub, gdNil, Tg.bind, Tg.binds, setV, putMo, gRet, gPass, M.gSet, setM, storeR, gFz, gFrz, M.gLst, M.gTup, valsR, gSl, slM, gPt, gNoP, fSl, gAnd, gOr, gNot, gTru, truM, tru, gAndV, gOrV, gNotV, stays, gIf, gDrop, gRcv, isL, gApp, gMeth, methM, tyD, gFn, callM, argsOf, argOf, brws, nodupN, putBack, Ret.res, gFnK, allVal, Perm.swap, Perm.id, swapL, gChain, gChain3, blM, gRaise, fAdd, fSub, fLt, fInt, fLen, fDivmod, fMod, fFdiv, fMax2, fIsi, isB, gPar, keyD, gItems, itemsM, tupItems, lstItems, gFor, gEnum, gRange1, sizeLine, noE, anyItems, dctItems, gDct, gDct0, gDctE, flatP, M.pairD, gAll, gFnM, fMulS, fStrB, fTuple, fDict, gIsT, isAny, fMul, gYes, gNever, finR, gHeardB, atI, ixN, fNeK_str]
  · simp [gSeq, gIfS, gBl, gOp, gVar, gC, EM.bind, EM.pure, EM.lift, op2, op1, gUn, view, moAt, Slot.mo?, Mo.view, fIx, fII, gAsg, gCall, M.gCons, M.gNil, consM, opL, views, aliveR, gdTup, gdCons, gdSub, gdNil, Tg.bind, Tg.binds, setV, putMo, gRet, gPass, M.gSet, setM, storeR, gFz, gFrz, M.gLst, M.gTup, valsR, gSl, slM, gPt, gNoP, fSl, gAnd, gOr, gNot, gTru, truM, tru, gAndV, gOrV, gNotV, stays, gIf, gDrop, gRcv, isL, gApp, gMeth, methM, tyD, gFn, callM, argsOf, argOf, brws, nodupN, putBack, Ret.res, gFnK, allVal, Perm.swap, Perm.id, swapL, gChain, gChain3, blM, gRaise, fAdd, fSub, fLt, fInt, fLen, fDivmod, fMod, fFdiv, fMax2, fIsi, isB, gPar, keyD, gItems, itemsM, tupItems, lstItems, gFor, gEnum, gRange1, sizeLine, noE, anyItems, dctItems, gDct, gDct0, gDctE, flatP, M.pairD, gAll, gFnM, fMulS, fStrB, fTuple, fDict, gIsT, isAny, fMul, gYes, gNever, finR, gHeardB, atI, ixN, fNeK_str, q, k1]
theorem ow_dct (c : Ads) (f n k : Nat) (m : Mo) {ps : List (Str × D)} (nm : NmS (ps.map (·.1))) (hl : ps.length ≤ 5) (hv : ∀ p ∈ ps, VlW 5 n p.2) (w : WOk k m) (hk : k + On (n + 1) ≤ 50000000)
    (ih : ∀ (k : Nat) (m : Mo) (p : Str × D), p ∈ ps → WOk k m → k + On n ≤ 50000000 → ∃ ds m', m__law_otherwise c f [.par m, .val p.2] = some (.ok (.new (.l ds)) [.par m', .val p.2]) ∧ Others n p.2 ds ∧ ds ≠ [] ∧ ds.length ≤ 20 ∧ WOk (k + On n) m') :
    ∃ ds m', m__law_otherwise c (f + 1) [.par m, .val (.dct (toK ps))] = some (.ok (.new (.l ds)) [.par m', .val (.dct (toK ps))]) ∧ Others (n + 1) (.dct (toK ps)) ds ∧ ds ≠ [] ∧ ds.length ≤ 20 ∧ WOk (k + On (n + 1)) m' := by
  have on : On (n + 1) = 2 * On n + 2 := rfl
  have wide : ∀ p ∈ ps, Vl n p.2 := fun x hx => (hv x hx).wide (by omega)
  have wv : Vl (n + 1) (.dct (toK ps)) := .inr (.inr ⟨ps, rfl, nm, by omega, wide⟩)
  have fs := fSorted_toK (ps := ps) (by omega)
  have pS := sortS_perm (ps.map (·.1))
  have so : StrsOk (sortS (ps.map (·.1))) := nms_ok fun s hs => nm.2 s (pS.mem_iff.mp hs)
  have lS : (sortS (ps.map (·.1))).length = ps.length := by rw [pS.length_eq, List.length_map]
  have nS : (sortS (ps.map (·.1))).Nodup := pS.nodup_iff.mpr nm.1
  have mS : ∀ s, s ∈ sortS (ps.map (·.1)) ↔ s ∈ ps.map (·.1) := fun s => pS.mem_iff
  generalize sortS (ps.map (·.1)) = S at fs so lS nS mS
  let v : D := .dct (toK ps)
  have i1 : ow_1 c [.par m, .val v, .own (.l (o3 v)), .un, .un, .un, .un] = some (.ok .nx [.par m, .val v, .own (.l (o3 v)), .un, .un, .un, .un]) := by
    unfold ow_1; simp [gSeq, gIfS, gBl, gOp, gVar, gC, EM.bind, EM.pure, EM.lift, op2, op1, gUn, view, moAt, Slot.mo?, Mo.view, fIx, fII, gAsg, gCall, M.gCons, M.gNil, consM, opL, views, aliveR, gdTup, gdCons, gdSub, gdNil, Tg.bind, Tg.binds, setV, putMo, gRet, gPass, M.gSet, setM, storeR, gFz, gFrz, M.gLst, M.gTup, valsR, gSl, slM, gPt, gNoP, fSl, gAnd, gOr, gNot, gTru, truM, tru, gAndV, gOrV, gNotV, stays, gIf, gDrop, gRcv, isL, gApp, gMeth, methM, tyD, gFn, callM, argsOf, argOf, brws, nodupN, putBack, Ret.res, gFnK, allVal, Perm.swap, Perm.id, swapL, gChain, gChain3, blM, gRaise, fAdd, fSub, fLt, fInt, fLen, fDivmod, fMod, fFdiv, fMax2, fIsi, isB, gPar, fEq, fNe, eqM, eqS, keyD, gItems, itemsM, tupItems, lstItems, gFor, gEnum, gRange1, sizeLine, noE, anyItems, dctItems, gDct, gDct0, gDctE, flatP, M.pairD, gAll, gFnM, fEqK, fNeK, fMulS, fStrB, fTuple, fDict, gIsT, isAny, fMul, gYes, gNever, finR, gHeardB, atI, ixN, v]
  have i2 : ow_2 c [.par m, .val v, .own (.l (o3 v)), .un, .un, .un, .un] = some (.ok .nx [.par m, .val v, .own (.l (o3 v)), .un, .un, .un, .un]) := by
    unfold ow_2; simp [gSeq, gIfS, gBl, gOp, gVar, gC, EM.bind, EM.pure, EM.lift, op2, op1, gUn, view, moAt, Slot.mo?, Mo.view, fIx, fII, gAsg, gCall, M.gCons, M.gNil, consM, opL, views, aliveR, gdTup, gdCons, gdSub, gdNil, Tg.bind, Tg.binds, setV, putMo, gRet, gPass, M.gSet, setM, storeR, gFz, gFrz, M.gLst, M.gTup, valsR, gSl, slM, gPt, gNoP, fSl, gAnd, gOr, gNot, gTru, truM, tru, gAndV, gOrV, gNotV, stays, gIf, gDrop, gRcv, isL, gApp, gMeth, methM, tyD, gFn, callM, argsOf, argOf, brws, nodupN, putBack, Ret.res, gFnK, allVal, Perm.swap, Perm.id, swapL, gChain, gChain3, blM, gRaise, fAdd, fSub, fLt, fInt, fLen, fDivmod, fMod, fFdiv, fMax2, fIsi, isB, gPar, fEq, fNe, eqM, eqS, keyD, gItems, itemsM, tupItems, lstItems, gFor, gEnum, gRange1, sizeLine, noE, anyItems, dctItems, gDct, gDct0, gDctE, flatP, M.pairD, gAll, gFnM, fEqK, fNeK, fMulS, fStrB, fTuple, fDict, gIsT, isAny, fMul, gYes, gNever, finR, gHeardB, atI, ixN, v]
  have i3 : ow_3 c [.par m, .val v, .own (.l (o3 v)), .un, .un, .un, .un] = some (.ok .nx [.par m, .val v, .own (.l (o3 v)), .un, .un, .un, .un]) := by
    unfold ow_3; simp [gSeq, gIfS, gBl, gOp, gVar, gC, EM.bind, EM.pure, EM.lift, op2, op1, gUn, view, moAt, Slot.mo?, Mo.view, fIx, fII, gAsg, gCall, M.gCons, M.gNil, consM, opL, views, aliveR, gdTup, gdCons, gdSub, gdNil, Tg.bind, Tg.binds, setV, putMo, gRet, gPass, M.gSet, setM, storeR, gFz, gFrz, M.gLst, M.gTup, valsR, gSl, slM, gPt, gNoP, fSl, gAnd, gOr, gNot, gTru, truM, tru, gAndV, gOrV, gNotV, stays, gIf, gDrop, gRcv, isL, gApp, gMeth, methM, tyD, gFn, callM, argsOf, argOf, brws, nodupN, putBack, Ret.res, gFnK, allVal, Perm.swap, Perm.id, swapL, gChain, gChain3, blM, gRaise, fAdd, fSub, fLt, fInt, fLen, fDivmod, fMod, fFdiv, fMax2, fIsi, isB, gPar, fEq, fNe, eqM, eqS, keyD, gItems, itemsM, tupItems, lstItems, gFor, gEnum, gRange1, sizeLine, noE, anyItems, dctItems, gDct, gDct0, gDctE, flatP, M.pairD, gAll, gFnM, fEqK, fNeK, fMulS, fStrB, fTuple, fDict, gIsT, isAny, fMul, gYes, gNever, finR, gHeardB, atI, ixN, v]
  have i4 : ow_4 c f [.par m, .val v, .own (.l (o3 v)), .un, .un, .un, .un] = some (.ok .nx [.par m, .val v, .own (.l (o3 v)), .un, .un, .un, .un]) := by
    unfold ow_4; simp [gSeq, gIfS, gBl, gOp, gVar, gC, EM.bind, EM.pure, EM.lift, op2, op1, gUn, view, moAt, Slot.mo?, Mo.view, fIx, fII, gAsg, gCall, M.gCons, M.gNil, consM, opL, views, aliveR, gdTup, gdCons, gdSub, gdNil, Tg.bind, Tg.binds, setV, putMo, gRet, gPass, M.gSet, setM, storeR, gFz, gFrz, M.gLst, M.gTup, valsR, gSl, slM, gPt, gNoP, fSl, gAnd, gOr, gNot, gTru, truM, tru, gAndV, gOrV, gNotV, stays, gIf, gDrop, gRcv, isL, gApp, gMeth, methM, tyD, gFn, callM, argsOf, argOf, brws, nodupN, putBack, Ret.res, gFnK, allVal, Perm.swap, Perm.id, swapL, gChain, gChain3, blM, gRaise, fAdd, fSub, fLt, fInt, fLen, fDivmod, fMod, fFdiv, fMax2, fIsi, isB, gPar, fEq, fNe, eqM, eqS, keyD, gItems, itemsM, tupItems, lstItems, gFor, gEnum, gRange1, sizeLine, noE, anyItems, dctItems, gDct, gDct0, gDctE, flatP, M.pairD, gAll, gFnM, fEqK, fNeK, fMulS, fStrB, fTuple, fDict, gIsT, isAny, fMul, gYes, gNever, finR, gHeardB, atI, ixN, v]
  have ne := fNeK_strs_nil so
  have eq := fEqK_strs_nil so
  cases S with
  | nil =>
    refine ⟨o3 v ++ [.tup []], m, ?_, .app (oth3 wv) (.cons (.inr (.inl ⟨[], rfl, by simp, fun x hx => by cases hx⟩)) (fun j => eqv_kind (a := v) (b := .tup []) fun R h => h) .nil), by simp, by simp [len_o3], w.mono (by omega)⟩
    rw [ow_eq]
    refine run_own (N := 7) (as := [.par m, .val v]) (i := 2) (ρ := [.par m, .val v, .own (.l (o3 v ++ [.tup []])), .un, .own (.l []), .un, .un]) ?_ rfl
    refine (seq_nx (ow_0_ok c m _)).trans ((seq_nx i1).trans ((seq_nx i2).trans ((seq_nx i3).trans ((seq_nx i4).trans (seq_rt ?_)))))
    unfold ow_5
    refine (ifS_t (ρ1 := [.par m, .val v, .own (.l (o3 v)), .un, .un, .un, .un]) (by simp [gSeq, gIfS, gBl, gOp, gVar, gC, EM.bind, EM.pure, EM.lift, op2, op1, gUn, view, moAt, Slot.mo?, Mo.view, fIx, fII, gAsg, gCall, M.gCons, M.gNil, consM, opL, views, aliveR, gdTup, gdCons, gdSub, gdNil, Tg.bind, Tg.binds, setV, putMo, gRet, gPass, M.gSet, setM, storeR, gFz, gFrz, M.gLst, M.gTup, valsR, gSl, slM, gPt, gNoP, fSl, gAnd, gOr, gNot, gTru, truM, tru, gAndV, gOrV, gNotV, stays, gIf, gDrop, gRcv, isL, gApp, gMeth, methM, tyD, gFn, callM, argsOf, argOf, brws, nodupN, putBack, Ret.res, gFnK, allVal, Perm.swap, Perm.id, swapL, gChain, gChain3, blM, gRaise, fAdd, fSub, fLt, fInt, fLen, fDivmod, fMod, fFdiv, fMax2, fIsi, isB, gPar, fEq, fNe, eqM, eqS, keyD, gItems, itemsM, tupItems, lstItems, gFor, gEnum, gRange1, sizeLine, noE, anyItems, dctItems, gDct, gDct0, gDctE, flatP, M.pairD, gAll, gFnM, fEqK, fNeK, fMulS, fStrB, fTuple, fDict, gIsT, isAny, fMul, gYes, gNever, finR, gHeardB, atI, ixN, v])).trans ?_
    refine (seq_nx (ρ' := [.par m, .val v, .own (.l (o3 v)), .un, .own (.l []), .un, .un]) (by simp [gSeq, gIfS, gBl, gOp, gVar, gC, EM.bind, EM.pure, EM.lift, op2, op1, gUn, view, moAt, Slot.mo?, Mo.view, fIx, fII, gAsg, gCall, M.gCons, M.gNil, consM, opL, views, aliveR, gdTup, gdCons, gdSub, gdNil, Tg.bind, Tg.binds, setV, putMo, gRet, gPass, M.gSet, setM, storeR, gFz, gFrz, M.gLst, M.gTup, valsR, gSl, slM, gPt, gNoP, fSl, gAnd, gOr, gNot, gTru, truM, tru, gAndV, gOrV, gNotV, stays, gIf, gDrop, gRcv, isL, gApp, gMeth, methM, tyD, gFn, callM, argsOf, argOf, brws, nodupN, putBack, Ret.res, gFnK, allVal, Perm.swap, Perm.id, swapL, gChain, gChain3, blM, gRaise, fAdd, fSub, fLt, fInt, fLen, fDivmod, fMod, fFdiv, fMax2, fIsi, isB, gPar, fEq, fNe, eqM, eqS, keyD, gItems, itemsM, tupItems, lstItems, gFor, gEnum, gRange1, sizeLine, noE, anyItems, dctItems, gDct, gDct0, gDctE, flatP, M.pairD, gAll, gFnM, fEqK, fNeK, fMulS, fStrB, fTuple, fDict, gIsT, isAny, fMul, gYes, gNever, finR, gHeardB, atI, ixN, v, fs])).trans ?_
    simp at ne eq
    refine (seq_nx (ρ' := [.par m, .val v, .own (.l (o3 v ++ [.tup []])), .un, .own (.l []), .un, .un]) (by simp [gSeq, gIfS, gBl, gOp, gVar, gC, EM.bind, EM.pure, EM.lift, op2, op1, gUn, view, moAt, Slot.mo?, Mo.view, fIx, fII, gAsg, gCall, M.gCons, M.gNil, consM, opL, views, aliveR, gdTup, gdCons, gdSub, gdNil, Tg.bind, Tg.binds, setV, putMo, gRet, gPass, M.gSet, setM, storeR, gFz, gFrz, M.gLst, M.gTup, valsR, gSl, slM, gPt, gNoP, fSl, gAnd, gOr, gNot, gTru, truM, tru, gAndV, gOrV, gNotV, stays, gIf, gDrop, gRcv, isL, gApp, gMeth, methM, tyD, gFn, callM, argsOf, argOf, brws, nodupN, putBack, Ret.res, gFnK, allVal, Perm.swap, Perm.id, swapL, gChain, gChain3, blM, gRaise, fAdd, fSub, fLt, fInt, fLen, fDivmod, fMod, fFdiv, fMax2, fIsi, isB, gPar, keyD, gItems, itemsM, tupItems, lstItems, gFor, gEnum, gRange1, sizeLine, noE, anyItems, dctItems, gDct, gDct0, gDctE, flatP, M.pairD, gAll, gFnM, fMulS, fStrB, fTuple, fDict, gIsT, isAny, fMul, gYes, gNever, finR, gHeardB, atI, ixN, v, ne, len_o3])).trans ?_
    refine seq_rt ?_
    simp [gSeq, gIfS, gBl, gOp, gVar, gC, EM.bind, EM.pure, EM.lift, op2, op1, gUn, view, moAt, Slot.mo?, Mo.view, fIx, fII, gAsg, gCall, M.gCons, M.gNil, consM, opL, views, aliveR, gdTup, gdCons, gdSub, gdNil, Tg.bind, Tg.binds, setV, putMo, gRet, gPass, M.gSet, setM, storeR, gFz, gFrz, M.gLst, M.gTup, valsR, gSl, slM, gPt, gNoP, fSl, gAnd, gOr, gNot, gTru, truM, tru, gAndV, gOrV, gNotV, stays, gIf, gDrop, gRcv, isL, gApp, gMeth, methM, tyD, gFn, callM, argsOf, argOf, brws, nodupN, putBack, Ret.res, gFnK, allVal, Perm.swap, Perm.id, swapL, gChain, gChain3, blM, gRaise, fAdd, fSub, fLt, fInt, fLen, fDivmod, fMod, fFdiv, fMax2, fIsi, isB, gPar, keyD, gItems, itemsM, tupItems, lstItems, gFor, gEnum, gRange1, sizeLine, noE, anyItems, dctItems, gDct, gDct0, gDctE, flatP, M.pairD, gAll, gFnM, fMulS, fStrB, fTuple, fDict, gIsT, isAny, fMul, gYes, gNever, finR, gHeardB, atI, ixN, eq]
  | cons h t =>
    have hp : ∀ s ∈ h :: t, s ∈ ps.map (·.1) := fun s hs => (mS s).mp hs
    have lt : t.length ≤ 100 := by simp at lS; omega
    obtain ⟨k1, hm⟩ := gt_ok (hp h List.mem_cons_self)
    obtain ⟨ds, d, m1, m2, e1, e2, d1, d2, w2⟩ := drawn_other c (by omega) (ih k m (h, gt ps h) hm w (by omega))
    dsimp only at e1
    have lk : ps.lookup h = some (gt ps h) := by rw [← look_toK]; exact k1
    let a1 : D := .dct (toK (by_ (gt ps) t))
    let a2 : D := .dct (toK (by_ (fun s => if s = h then d else gt ps s) (h :: t)))
    have nt : t.Nodup := (List.nodup_cons.mp nS).2
    have ht : h ∉ t := (List.nodup_cons.mp nS).1
    refine ⟨o3 v ++ [a1] ++ [a2], m2, ?_, .app (.app (oth3 wv) (.cons ?_ (fun j e => ?_) .nil)) (.cons ?_ (fun j e => ?_) .nil), by simp, by simp [len_o3], w2.mono (by omega)⟩
    · rw [ow_eq]
      refine run_nx (N := 7) (as := [.par m, .val v]) (r := .new (.l (o3 v ++ [a1] ++ [a2]))) (ρ := [.par m2, .val v, .own (.l (o3 v ++ [a1])), .un, .val (.lst ((h :: t).map .str)), .un, .val d]) ?_
      refine (seq_nx (ow_0_ok c m _)).trans ((seq_nx i1).trans ((seq_nx i2).trans ((seq_nx i3).trans ((seq_nx i4).trans (seq_rt ?_)))))
      unfold ow_5
      refine (ifS_t (ρ1 := [.par m, .val v, .own (.l (o3 v)), .un, .un, .un, .un]) (by simp [gSeq, gIfS, gBl, gOp, gVar, gC, EM.bind, EM.pure, EM.lift, op2, op1, gUn, view, moAt, Slot.mo?, Mo.view, fIx, fII, gAsg, gCall, M.gCons, M.gNil, consM, opL, views, aliveR, gdTup, gdCons, gdSub, gdNil, Tg.bind, Tg.binds, setV, putMo, gRet, gPass, M.gSet, setM, storeR, gFz, gFrz, M.gLst, M.gTup, valsR, gSl, slM, gPt, gNoP, fSl, gAnd, gOr, gNot, gTru, truM, tru, gAndV, gOrV, gNotV, stays, gIf, gDrop, gRcv, isL, gApp, gMeth, methM, tyD, gFn, callM, argsOf, argOf, brws, nodupN, putBack, Ret.res, gFnK, allVal, Perm.swap, Perm.id, swapL, gChain, gChain3, blM, gRaise, fAdd, fSub, fLt, fInt, fLen, fDivmod, fMod, fFdiv, fMax2, fIsi, isB, gPar, fEq, fNe, eqM, eqS, keyD, gItems, itemsM, tupItems, lstItems, gFor, gEnum, gRange1, sizeLine, noE, anyItems, dctItems, gDct, gDct0, gDctE, flatP, M.pairD, gAll, gFnM, fEqK, fNeK, fMulS, fStrB, fTuple, fDict, gIsT, isAny, fMul, gYes, gNever, finR, gHeardB, atI, ixN, v])).trans ?_
      refine (seq_nx (ρ' := [.par m, .val v, .own (.l (o3 v)), .un, .own (.l ((h :: t).map .str)), .un, .un]) (by simp [gSeq, gIfS, gBl, gOp, gVar, gC, EM.bind, EM.pure, EM.lift, op2, op1, gUn, view, moAt, Slot.mo?, Mo.view, fIx, fII, gAsg, gCall, M.gCons, M.gNil, consM, opL, views, aliveR, gdTup, gdCons, gdSub, gdNil, Tg.bind, Tg.binds, setV, putMo, gRet, gPass, M.gSet, setM, storeR, gFz, gFrz, M.gLst, M.gTup, valsR, gSl, slM, gPt, gNoP, fSl, gAnd, gOr, gNot, gTru, truM, tru, gAndV, gOrV, gNotV, stays, gIf, gDrop, gRcv, isL, gApp, gMeth, methM, tyD, gFn, callM, argsOf, argOf, brws, nodupN, putBack, Ret.res, gFnK, allVal, Perm.swap, Perm.id, swapL, gChain, gChain3, blM, gRaise, fAdd, fSub, fLt, fInt, fLen, fDivmod, fMod, fFdiv, fMax2, fIsi, isB, gPar, fEq, fNe, eqM, eqS, keyD, gItems, itemsM, tupItems, lstItems, gFor, gEnum, gRange1, sizeLine, noE, anyItems, dctItems, gDct, gDct0, gDctE, flatP, M.pairD, gAll, gFnM, fEqK, fNeK, fMulS, fStrB, fTuple, fDict, gIsT, isAny, fMul, gYes, gNever, finR, gHeardB, atI, ixN, v, fs])).trans ?_
      have eR := owR_ok c m (o3 v) hp lt
      have eN := owN_ok c m2 (o3 v ++ [a1]) (d := d) hp lt
      have f1 := by_dict (g := gt ps) nt
      have f2 := by_dict (g := fun s => if s = h then d else gt ps s) nS
      simp at ne eq
      have q1 := frz_dict eR f1
      have q2 := frz_dict eN f2
      simp only [List.map_cons] at q1 q2
      generalize gFrz (gCall fDict (M.gCons (owR c) M.gNil)) = G1 at q1 ⊢
      generalize gFrz (gCall fDict (M.gCons (owN c) M.gNil)) = G2 at q2 ⊢
      refine (seq_nx (ρ' := [.par m, .val v, .own (.l (o3 v ++ [a1])), .un, .own (.l ((h :: t).map .str)), .un, .un]) ?_).trans ?_
      · simp [gSeq, gIfS, gBl, gOp, gVar, gC, EM.bind, EM.pure, EM.lift, op2, op1, gUn, view, moAt, Slot.mo?, Mo.view, fIx, fII, gAsg, gCall, M.gCons, M.gNil, consM, opL, views, aliveR, gdTup, gdCons, gdSub, gdNil, Tg.bind, Tg.binds, setV, putMo, gRet, gPass, M.gSet, setM, storeR, gFz, gFrz, M.gLst, M.gTup, valsR, gSl, slM, gPt, gNoP, fSl, gAnd, gOr, gNot, gTru, truM, tru, gAndV, gOrV, gNotV, stays, gIf, gDrop, gRcv, isL, gApp, gMeth, methM, tyD, gFn, callM, argsOf, argOf, brws, nodupN, putBack, Ret.res, gFnK, allVal, Perm.swap, Perm.id, swapL, gChain, gChain3, blM, gRaise, fAdd, fSub, fLt, fInt, fLen, fDivmod, fMod, fFdiv, fMax2, fIsi, isB, gPar, keyD, gItems, itemsM, tupItems, lstItems, gFor, gEnum, gRange1, sizeLine, noE, anyItems, dctItems, gDct, gDct0, gDctE, flatP, M.pairD, gAll, gFnM, fMulS, fStrB, fTuple, fDict, gIsT, isAny, fMul, gYes, gNever, finR, gHeardB, atI, ixN, v, ne, len_o3, q1, a1]
      · refine (seq_nx (ρ' := [.par m, .val v, .own (.l (o3 v ++ [a1])), .un, .own (.l ((h :: t).map .str)), .un, .un]) (by simp [gSeq, gIfS, gBl, gOp, gVar, gC, EM.bind, EM.pure, EM.lift, op2, op1, gUn, view, moAt, Slot.mo?, Mo.view, fIx, fII, gAsg, gCall, M.gCons, M.gNil, consM, opL, views, aliveR, gdTup, gdCons, gdSub, gdNil, Tg.bind, Tg.binds, setV, putMo, gRet, gPass, M.gSet, setM, storeR, gFz, gFrz, M.gLst, M.gTup, valsR, gSl, slM, gPt, gNoP, fSl, gAnd, gOr, gNot, gTru, truM, tru, gAndV, gOrV, gNotV, stays, gIf, gDrop, gRcv, isL, gApp, gMeth, methM, tyD, gFn, callM, argsOf, argOf, brws, nodupN, putBack, Ret.res, gFnK, allVal, Perm.swap, Perm.id, swapL, gChain, gChain3, blM, gRaise, fAdd, fSub, fLt, fInt, fLen, fDivmod, fMod, fFdiv, fMax2, fIsi, isB, gPar, keyD, gItems, itemsM, tupItems, lstItems, gFor, gEnum, gRange1, sizeLine, noE, anyItems, dctItems, gDct, gDct0, gDctE, flatP, M.pairD, gAll, gFnM, fMulS, fStrB, fTuple, fDict, gIsT, isAny, fMul, gYes, gNever, finR, gHeardB, atI, ixN, eq])).trans ?_
        refine (seq_nx (ρ' := [.par m2, .val v, .own (.l (o3 v ++ [a1])), .un, .own (.l ((h :: t).map .str)), .un, .val d]) ?_).trans ?_
        · have t1 := atI_nat (xs := (h :: t).map D.str) (j := 0) (v := .str h) rfl
          simp at t1
          simp [gSeq, gIfS, gBl, gOp, gVar, gC, EM.bind, EM.pure, EM.lift, op2, op1, gUn, view, moAt, Slot.mo?, Mo.view, fIx, fII, gAsg, gCall, M.gCons, M.gNil, consM, opL, views, aliveR, gdTup, gdCons, gdSub, gdNil, Tg.bind, Tg.binds, setV, putMo, gRet, gPass, M.gSet, setM, storeR, gFz, gFrz, M.gLst, M.gTup, valsR, gSl, slM, gPt, gNoP, fSl, gAnd, gOr, gNot, gTru, truM, tru, gAndV, gOrV, gNotV, stays, gIf, gDrop, gRcv, isL, gApp, gMeth, methM, tyD, gFn, callM, argsOf, argOf, brws, nodupN, putBack, Ret.res, gFnK, allVal, Perm.swap, Perm.id, swapL, gChain, gChain3, blM, gRaise, fAdd, fSub, fLt, fInt, fLen, fDivmod, fMod, fFdiv, fMax2, fIsi, isB, gPar, fEq, fNe, eqM, eqS, keyD, gItems, itemsM, tupItems, lstItems, gFor, gEnum, gRange1, sizeLine, noE, anyItems, dctItems, gDct, gDct0, gDctE, flatP, M.pairD, gAll, gFnM, fEqK, fNeK, fMulS, fStrB, fTuple, fDict, gIsT, isAny, fMul, gYes, gNever, finR, gHeardB, v, t1, k1, e1, e2]
        · refine ret_ok ?_
          simp [gSeq, gIfS, gBl, gOp, gVar, gC, EM.bind, EM.pure, EM.lift, op2, op1, gUn, view, moAt, Slot.mo?, Mo.view, fIx, fII, gAsg, gCall, M.gCons, M.gNil, consM, opL, views, aliveR, gdTup, gdCons, gdSub, gdNil, Tg.bind, Tg.binds, setV, putMo, gRet, gPass, M.gSet, setM, storeR, gFz, gFrz, M.gLst, M.gTup, valsR, gSl, slM, gPt, gNoP, fSl, gAnd, gOr, gNot, gTru, truM, tru, gAndV, gOrV, gNotV, stays, gIf, gDrop, gRcv, isL, gApp, gMeth, methM, tyD, gFn, callM, argsOf, argOf, brws, nodupN, putBack, Ret.res, gFnK, allVal, Perm.swap, Perm.id, swapL, gChain, gChain3, blM, gRaise, fAdd, fSub, fLt, fInt, fLen, fDivmod, fMod, fFdiv, fMax2, fIsi, isB, gPar, keyD, gItems, itemsM, tupItems, lstItems, gFor, gEnum, gRange1, sizeLine, noE, anyItems, dctItems, gDct, gDct0, gDctE, flatP, M.pairD, gAll, gFnM, fMulS, fStrB, fTuple, fDict, gIsT, isAny, fMul, gYes, gNever, finR, gHeardB, atI, ixN, v, len_o3, a2, a1] at q2 ⊢
          simp [gSeq, gIfS, gBl, gOp, gVar, gC, EM.bind, EM.pure, EM.lift, op2, op1, gUn, view, moAt, Slot.mo?, Mo.view, fIx, fII, gAsg, gCall, M.gCons, M.gNil, consM, opL, views, aliveR, gdTup, gdCons, gdSub, gdNil, Tg.bind, Tg.binds, setV, putMo, gRet, gPass, M.gSet, setM, storeR, gFz, gFrz, M.gLst, M.gTup, valsR, gSl, slM, gPt, gNoP, fSl, gAnd, gOr, gNot, gTru, truM, tru, gAndV, gOrV, gNotV, stays, gIf, gDrop, gRcv, isL, gApp, gMeth, methM, tyD, gFn, callM, argsOf, argOf, brws, nodupN, putBack, Ret.res, gFnK, allVal, Perm.swap, Perm.id, swapL, gChain, gChain3, blM, gRaise, fAdd, fSub, fLt, fInt, fLen, fDivmod, fMod, fFdiv, fMax2, fIsi, isB, gPar, keyD, gItems, itemsM, tupItems, lstItems, gFor, gEnum, gRange1, sizeLine, noE, anyItems, dctItems, gDct, gDct0, gDctE, flatP, M.pairD, gAll, gFnM, fMulS, fStrB, fTuple, fDict, gIsT, isAny, fMul, gYes, gNever, finR, gHeardB, atI, ixN, len_o3, q2]
    · exact .inr (.inr ⟨_, rfl, by rw [by_keys]; exact ⟨nt, fun s hs => nm.2 s (hp s (List.mem_cons_of_mem _ hs))⟩, by unfold by_; rw [List.length_map]; simp at lS; omega, fun p hq => by
        obtain ⟨s, hs, rfl⟩ := List.mem_map.mp hq
        exact (wide _ (gt_ok (hp s (List.mem_cons_of_mem _ hs))).2).mono (by omega)⟩)
    · rw [eqv_rn] at e
      rcases eq_dct.mp e h with ⟨z, _⟩ | ⟨x, y, _, z, _⟩
      · rw [lk] at z; cases z
      · rw [by_look, if_neg ht] at z; cases z
    · exact .inr (.inr ⟨_, rfl, by rw [by_keys]; exact ⟨nS, fun s hs => nm.2 s (hp s hs)⟩, by unfold by_; rw [List.length_map, lS]; omega, fun p hq => by
        obtain ⟨s, hs, rfl⟩ := List.mem_map.mp hq
        dsimp only
        split
        · exact d1
        · exact (wide _ (gt_ok (hp s hs)).2).mono (by omega)⟩)
    · rw [eqv_rn] at e
      rcases eq_dct.mp e h with ⟨z, _⟩ | ⟨x, y, z1, z2, r⟩
      · rw [lk] at z; cases z
      · rw [lk] at z1
        rw [by_look, if_pos List.mem_cons_self, if_pos rfl] at z2
        cases z1; cases z2
        cases j with
        | zero => exact r
        | succ j => exact d2 j r
theorem otherwise_ok (c : Ads) : ∀ (n f k : Nat) (m : Mo) (v : D), n < f → VlW 5 n v → WOk k m → k + On n ≤ 50000000 →
    ∃ ds m', m__law_otherwise c f [.par m, .val v] = some (.ok (.new (.l ds)) [.par m', .val v]) ∧ Others n v ds ∧ ds ≠ [] ∧ ds.length ≤ 20 ∧ WOk (k + On n) m'
  | _, 0, _, _, _, h, _, _, _ => by omega
  | n, f + 1, k, m, v, hf, hv, w, hk => by
    have leaf : LfW 5 v → ∃ ds m', m__law_otherwise c (f + 1) [.par m, .val v] = some (.ok (.new (.l ds)) [.par m', .val v]) ∧ Others n v ds ∧ ds ≠ [] ∧ ds.length ≤ 20 ∧ WOk (k + On n) m' := fun h => by
      cases v with
      | non => exact ⟨_, m, ow_non c f m, oth_non, by simp [o3], by simp [o3], w.mono (by omega)⟩
      | bl b => exact ⟨_, m, ow_bl c f m b, oth_bl, by simp [o3], by simp [o3], w.mono (by omega)⟩
      | int i => exact ⟨_, m, ow_int c f m i h, oth_int h, by simp [o3], by simp [o3]; split <;> simp, w.mono (by omega)⟩
      | str z => exact ⟨_, m, ow_str c f m z h, oth_str h, by simp [o3], by simp [o3], w.mono (by omega)⟩
      | _ => exact h.elim
    cases n with
    | zero => exact leaf hv
    | succ n =>
      rcases hv with h | ⟨ds, rfl, h1, h2⟩ | ⟨ps, rfl, h1, h2, h3⟩
      · exact leaf h
      · exact ow_tup c f n k m h1 h2 w hk fun k m x hx w hk => otherwise_ok c n f k m x (by omega) (h2 x hx) w hk
      · exact ow_dct c f n k m h1 h2 h3 w hk fun k m p hp w hk => otherwise_ok c n f k m p.2 (by omega) (h3 p hp) w hk
end
end My

namespace My
noncomputable section
open PySem PySem.Spec PyProof.Rows L2 M
/-! same, and what is refused -/
theorem isv_hl (c : Ads) {d : D} {b : Bool} (h : m_has_level c 9 [.val d, .val (.int 6)] = some (.ok (.val (.bl b)) [.val d, .val (.int 6)])) : m_is_value c [.val d] = some (.ok (.val (.bl b)) [.val d]) := by
  unfold m_is_value
  refine run_nx (N := 1) (as := [.val d]) (r := .val (.bl b)) (ρ := [.val d]) ?_
  unfold b_is_value
  simp [gSeq, gIfS, gBl, gOp, gVar, gC, EM.bind, EM.pure, EM.lift, op2, op1, gUn, view, moAt, Slot.mo?, Mo.view, fIx, fII, gAsg, gCall, M.gCons, M.gNil, consM, opL, views, aliveR, gdTup, gdCons, gdSub, gdNil, Tg.bind, Tg.binds, setV, putMo, gRet, gPass, M.gSet, setM, storeR, gFz, gFrz, M.gLst, M.gTup, valsR, gSl, slM, gPt, gNoP, fSl, gAnd, gOr, gNot, gTru, truM, tru, gAndV, gOrV, gNotV, stays, gIf, gDrop, gRcv, isL, gApp, gMeth, methM, tyD, gFn, callM, argsOf, argOf, brws, nodupN, putBack, Ret.res, gFnK, allVal, Perm.swap, Perm.id, swapL, gChain, gChain3, blM, gRaise, fAdd, fSub, fLt, fInt, fLen, fDivmod, fMod, fFdiv, fMax2, fIsi, isB, gPar, fEq, fNe, eqM, eqS, keyD, gItems, itemsM, tupItems, lstItems, gFor, gEnum, gRange1, sizeLine, noE, anyItems, dctItems, gDct, gDct0, gDctE, flatP, M.pairD, gAll, gFnM, fEqK, fNeK, fMulS, fStrB, fTuple, fDict, gIsT, isAny, fMul, gYes, gNever, finR, gHeardB, atI, ixN, h]
theorem isv_ok (c : Ads) {n : Nat} {d : D} (h : Vl n d) (hn : n ≤ 6) : m_is_value c [.val d] = some (.ok (.val (.bl true)) [.val d]) :=
  isv_hl c (hl_true c n 9 6 d h (by omega) (by omega))
theorem isv_list (c : Ads) (ds : List D) : m_is_value c [.val (.lst ds)] = some (.ok (.val (.bl false)) [.val (.lst ds)]) :=
  isv_hl c (hl_list c 8 6 ds)
theorem isv_dlist (c : Ads) (ds : List D) : m_is_value c [.val (.dct [(.inr "a", .lst ds)])] = some (.ok (.val (.bl false)) [.val (.dct [(.inr "a", .lst ds)])]) := by
  refine isv_hl c ?_
  have e : hlD c 8 [.val (.dct [(.inr "a", .lst ds)]), .val (.int 6), .un, .un] = some (.ok (.new (.l ([D.str "a"].map fun d => D.bl false))) [.val (.dct [(.inr "a", .lst ds)]), .val (.int 6), .un, .un]) := by
    unfold hlD
    refine lc_map 3 (gi := (gItems anyItems (gFz 0))) (ρ := [.val (.dct [(.inr "a", .lst ds)]), .val (.int 6), .un, .un]) (ρ1 := [.val (.dct [(.inr "a", .lst ds)]), .val (.int 6), .un, .un]) [D.str "a"] (fun d => D.bl false) (by simp) (by simp) (items_ok (d := .dct [(.inr "a", .lst ds)]) (by simp [gSeq, gIfS, gBl, gOp, gVar, gC, EM.bind, EM.pure, EM.lift, op2, op1, gUn, view, moAt, Slot.mo?, Mo.view, fIx, fII, gAsg, gCall, M.gCons, M.gNil, consM, opL, views, aliveR, gdTup, gdCons, gdSub, gdNil, Tg.bind, Tg.binds, setV, putMo, gRet, gPass, M.gSet, setM, storeR, gFz, gFrz, M.gLst, M.gTup, valsR, gSl, slM, gPt, gNoP, fSl, gAnd, gOr, gNot, gTru, truM, tru, gAndV, gOrV, gNotV, stays, gIf, gDrop, gRcv, isL, gApp, gMeth, methM, tyD, gFn, callM, argsOf, argOf, brws, nodupN, putBack, Ret.res, gFnK, allVal, Perm.swap, Perm.id, swapL, gChain, gChain3, blM, gRaise, fAdd, fSub, fLt, fInt, fLen, fDivmod, fMod, fFdiv, fMax2, fIsi, isB, gPar, fEq, fNe, eqM, eqS, keyD, gItems, itemsM, tupItems, lstItems, gFor, gEnum, gRange1, sizeLine, noE, anyItems, dctItems, gDct, gDct0, gDctE, flatP, M.pairD, gAll, gFnM, fEqK, fNeK, fMulS, fStrB, fTuple, fDict, gIsT, isAny, fMul, gYes, gNever, finR, gHeardB, atI, ixN]) rfl) (by simp [sizeLine_eq]) fun d hd => ?_
    rw [List.mem_singleton.mp hd]
    have nm := is_name_ok c nm_a
    have hl := hl_list c 7 5 ds
    have lk : lookD [(Sum.inr ("a" : Str), D.lst ds)] (Sum.inr ("a" : Str)) = some (.lst ds) := by simp [lookD]
    simp [gSeq, gIfS, gBl, gOp, gVar, gC, EM.bind, EM.pure, EM.lift, op2, op1, gUn, view, moAt, Slot.mo?, Mo.view, fIx, fII, gAsg, gCall, M.gCons, M.gNil, consM, opL, views, aliveR, gdTup, gdCons, gdSub, gdNil, Tg.bind, Tg.binds, setV, putMo, gRet, gPass, M.gSet, setM, storeR, gFz, gFrz, M.gLst, M.gTup, valsR, gSl, slM, gPt, gNoP, fSl, gAnd, gOr, gNot, gTru, truM, tru, gAndV, gOrV, gNotV, stays, gIf, gDrop, gRcv, isL, gApp, gMeth, methM, tyD, gFn, callM, argsOf, argOf, brws, nodupN, putBack, Ret.res, gFnK, allVal, Perm.swap, Perm.id, swapL, gChain, gChain3, blM, gRaise, fAdd, fSub, fLt, fInt, fLen, fDivmod, fMod, fFdiv, fMax2, fIsi, isB, gPar, fEq, fNe, eqM, eqS, keyD, gItems, itemsM, tupItems, lstItems, gFor, gEnum, gRange1, sizeLine, noE, anyItems, dctItems, gDct, gDct0, gDctE, flatP, M.pairD, gAll, gFnM, fEqK, fNeK, fMulS, fStrB, fTuple, fDict, gIsT, isAny, fMul, gYes, gNever, finR, gHeardB, atI, ixN, nm, hl, lk]
  have fa := fAll_bls [false]
  rw [hl_eq]
  refine run_nx (N := 4) (as := [.val (.dct [(.inr "a", .lst ds)]), .val (.int 6)]) (r := .val (.bl false)) (ρ := [.val (.dct [(.inr "a", .lst ds)]), .val (.int 6), .un, .un]) ?_
  unfold hl_0 hl_1 hl_2 hl_3
  unfold gSeq
  simp [gSeq, gIfS, gBl, gOp, gVar, gC, EM.bind, EM.pure, EM.lift, op2, op1, gUn, view, moAt, Slot.mo?, Mo.view, fIx, fII, gAsg, gCall, M.gCons, M.gNil, consM, opL, views, aliveR, gdTup, gdCons, gdSub, gdNil, Tg.bind, Tg.binds, setV, putMo, gRet, gPass, M.gSet, setM, storeR, gFz, gFrz, M.gLst, M.gTup, valsR, gSl, slM, gPt, gNoP, fSl, gAnd, gOr, gNot, gTru, truM, tru, gAndV, gOrV, gNotV, stays, gIf, gDrop, gRcv, isL, gApp, gMeth, methM, tyD, gFn, callM, argsOf, argOf, brws, nodupN, putBack, Ret.res, gFnK, allVal, Perm.swap, Perm.id, swapL, gChain, gChain3, blM, gRaise, fAdd, fSub, fLt, fInt, fLen, fDivmod, fMod, fFdiv, fMax2, fIsi, isB, gPar, fEq, fNe, eqM, eqS, keyD, gItems, itemsM, tupItems, lstItems, gFor, gEnum, gRange1, sizeLine, noE, anyItems, dctItems, gDct, gDct0, gDctE, flatP, M.pairD, gAll, gFnM, fEqK, fNeK, fMulS, fStrB, fTuple, fDict, gIsT, isAny, fMul, gYes, gNever, finR, gHeardB, atI, ixN, fIsN] at e fa ⊢
  simp [gSeq, gIfS, gBl, gOp, gVar, gC, EM.bind, EM.pure, EM.lift, op2, op1, gUn, view, moAt, Slot.mo?, Mo.view, fIx, fII, gAsg, gCall, M.gCons, M.gNil, consM, opL, views, aliveR, gdTup, gdCons, gdSub, gdNil, Tg.bind, Tg.binds, setV, putMo, gRet, gPass, M.gSet, setM, storeR, gFz, gFrz, M.gLst, M.gTup, valsR, gSl, slM, gPt, gNoP, fSl, gAnd, gOr, gNot, gTru, truM, tru, gAndV, gOrV, gNotV, stays, gIf, gDrop, gRcv, isL, gApp, gMeth, methM, tyD, gFn, callM, argsOf, argOf, brws, nodupN, putBack, Ret.res, gFnK, allVal, Perm.swap, Perm.id, swapL, gChain, gChain3, blM, gRaise, fAdd, fSub, fLt, fInt, fLen, fDivmod, fMod, fFdiv, fMax2, fIsi, isB, gPar, fEq, fNe, eqM, eqS, keyD, gItems, itemsM, tupItems, lstItems, gFor, gEnum, gRange1, sizeLine, noE, anyItems, dctItems, gDct, gDct0, gDctE, flatP, M.pairD, gAll, gFnM, fEqK, fNeK, fMulS, fStrB, fTuple, fDict, gIsT, isAny, fMul, gYes, gNever, finR, gHeardB, atI, ixN, e, fa]
theorem isv_dint (c : Ads) (v : D) : m_is_value c [.val (.dct [(.inl 1, v)])] = some (.ok (.val (.bl false)) [.val (.dct [(.inl 1, v)])]) := by
  refine isv_hl c ?_
  have e : hlD c 8 [.val (.dct [(.inl 1, v)]), .val (.int 6), .un, .un] = some (.ok (.new (.l ([D.int 1].map fun d => D.bl false))) [.val (.dct [(.inl 1, v)]), .val (.int 6), .un, .un]) := by
    unfold hlD
    refine lc_map 3 (gi := (gItems anyItems (gFz 0))) (ρ := [.val (.dct [(.inl 1, v)]), .val (.int 6), .un, .un]) (ρ1 := [.val (.dct [(.inl 1, v)]), .val (.int 6), .un, .un]) [D.int 1] (fun d => D.bl false) (by simp) (by simp) (items_ok (d := .dct [(.inl 1, v)]) (by simp [gSeq, gIfS, gBl, gOp, gVar, gC, EM.bind, EM.pure, EM.lift, op2, op1, gUn, view, moAt, Slot.mo?, Mo.view, fIx, fII, gAsg, gCall, M.gCons, M.gNil, consM, opL, views, aliveR, gdTup, gdCons, gdSub, gdNil, Tg.bind, Tg.binds, setV, putMo, gRet, gPass, M.gSet, setM, storeR, gFz, gFrz, M.gLst, M.gTup, valsR, gSl, slM, gPt, gNoP, fSl, gAnd, gOr, gNot, gTru, truM, tru, gAndV, gOrV, gNotV, stays, gIf, gDrop, gRcv, isL, gApp, gMeth, methM, tyD, gFn, callM, argsOf, argOf, brws, nodupN, putBack, Ret.res, gFnK, allVal, Perm.swap, Perm.id, swapL, gChain, gChain3, blM, gRaise, fAdd, fSub, fLt, fInt, fLen, fDivmod, fMod, fFdiv, fMax2, fIsi, isB, gPar, fEq, fNe, eqM, eqS, keyD, gItems, itemsM, tupItems, lstItems, gFor, gEnum, gRange1, sizeLine, noE, anyItems, dctItems, gDct, gDct0, gDctE, flatP, M.pairD, gAll, gFnM, fEqK, fNeK, fMulS, fStrB, fTuple, fDict, gIsT, isAny, fMul, gYes, gNever, finR, gHeardB, atI, ixN]) rfl) (by simp [sizeLine_eq]) fun d hd => ?_
    rw [List.mem_singleton.mp hd]
    have nm := is_name_int c 1
    simp [gSeq, gIfS, gBl, gOp, gVar, gC, EM.bind, EM.pure, EM.lift, op2, op1, gUn, view, moAt, Slot.mo?, Mo.view, fIx, fII, gAsg, gCall, M.gCons, M.gNil, consM, opL, views, aliveR, gdTup, gdCons, gdSub, gdNil, Tg.bind, Tg.binds, setV, putMo, gRet, gPass, M.gSet, setM, storeR, gFz, gFrz, M.gLst, M.gTup, valsR, gSl, slM, gPt, gNoP, fSl, gAnd, gOr, gNot, gTru, truM, tru, gAndV, gOrV, gNotV, stays, gIf, gDrop, gRcv, isL, gApp, gMeth, methM, tyD, gFn, callM, argsOf, argOf, brws, nodupN, putBack, Ret.res, gFnK, allVal, Perm.swap, Perm.id, swapL, gChain, gChain3, blM, gRaise, fAdd, fSub, fLt, fInt, fLen, fDivmod, fMod, fFdiv, fMax2, fIsi, isB, gPar, fEq, fNe, eqM, eqS, keyD, gItems, itemsM, tupItems, lstItems, gFor, gEnum, gRange1, sizeLine, noE, anyItems, dctItems, gDct, gDct0, gDctE, flatP, M.pairD, gAll, gFnM, fEqK, fNeK, fMulS, fStrB, fTuple, fDict, gIsT, isAny, fMul, gYes, gNever, finR, gHeardB, atI, ixN, nm]
  have fa := fAll_bls [false]
  rw [hl_eq]
  refine run_nx (N := 4) (as := [.val (.dct [(.inl 1, v)]), .val (.int 6)]) (r := .val (.bl false)) (ρ := [.val (.dct [(.inl 1, v)]), .val (.int 6), .un, .un]) ?_
  unfold hl_0 hl_1 hl_2 hl_3
  unfold gSeq
  simp [gSeq, gIfS, gBl, gOp, gVar, gC, EM.bind, EM.pure, EM.lift, op2, op1, gUn, view, moAt, Slot.mo?, Mo.view, fIx, fII, gAsg, gCall, M.gCons, M.gNil, consM, opL, views, aliveR, gdTup, gdCons, gdSub, gdNil, Tg.bind, Tg.binds, setV, putMo, gRet, gPass, M.gSet, setM, storeR, gFz, gFrz, M.gLst, M.gTup, valsR, gSl, slM, gPt, gNoP, fSl, gAnd, gOr, gNot, gTru, truM, tru, gAndV, gOrV, gNotV, stays, gIf, gDrop, gRcv, isL, gApp, gMeth, methM, tyD, gFn, callM, argsOf, argOf, brws, nodupN, putBack, Ret.res, gFnK, allVal, Perm.swap, Perm.id, swapL, gChain, gChain3, blM, gRaise, fAdd, fSub, fLt, fInt, fLen, fDivmod, fMod, fFdiv, fMax2, fIsi, isB, gPar, fEq, fNe, eqM, eqS, keyD, gItems, itemsM, tupItems, lstItems, gFor, gEnum, gRange1, sizeLine, noE, anyItems, dctItems, gDct, gDct0, gDctE, flatP, M.pairD, gAll, gFnM, fEqK, fNeK, fMulS, fStrB, fTuple, fDict, gIsT, isAny, fMul, gYes, gNever, finR, gHeardB, atI, ixN, fIsN] at e fa ⊢
  simp [gSeq, gIfS, gBl, gOp, gVar, gC, EM.bind, EM.pure, EM.lift, op2, op1, gUn, view, moAt, Slot.mo?, Mo.view, fIx, fII, gAsg, gCall, M.gCons, M.gNil, consM, opL, views, aliveR, gdTup, gdCons, gdSub, gdNil, Tg.bind, Tg.binds, setV, putMo, gRet, gPass, M.gSet, setM, storeR, gFz, gFrz, M.gLst, M.gTup, valsR, gSl, slM, gPt, gNoP, fSl, gAnd, gOr, gNot, gTru, truM, tru, gAndV, gOrV, gNotV, stays, gIf, gDrop, gRcv, isL, gApp, gMeth, methM, tyD, gFn, callM, argsOf, argOf, brws, nodupN, putBack, Ret.res, gFnK, allVal, Perm.swap, Perm.id, swapL, gChain, gChain3, blM, gRaise, fAdd, fSub, fLt, fInt, fLen, fDivmod, fMod, fFdiv, fMax2, fIsi, isB, gPar, fEq, fNe, eqM, eqS, keyD, gItems, itemsM, tupItems, lstItems, gFor, gEnum, gRange1, sizeLine, noE, anyItems, dctItems, gDct, gDct0, gDctE, flatP, M.pairD, gAll, gFnM, fEqK, fNeK, fMulS, fStrB, fTuple, fDict, gIsT, isAny, fMul, gYes, gNever, finR, gHeardB, atI, ixN, e, fa]
theorem isv_tlist (c : Ads) {v : D} (h : Vl 5 v) : m_is_value c [.val (.tup [v, .lst []])] = some (.ok (.val (.bl false)) [.val (.tup [v, .lst []])]) := by
  refine isv_hl c ?_
  have h1 := hl_true c 5 8 5 v h (by omega) (by omega)
  have h2 := hl_list c 7 5 []
  let f : D → D := fun d => match d with
    | .lst _ => D.bl false
    | _ => D.bl true
  have fv : f v = .bl true := by
    cases v <;> first | rfl | (rcases h with h | ⟨_, e, _⟩ | ⟨_, e, _⟩ <;> first | exact h.elim | cases e)
  have e : hlT c 8 [.val (.tup [v, .lst []]), .val (.int 6), .un, .un] = some (.ok (.new (.l ([v, D.lst []].map f))) [.val (.tup [v, .lst []]), .val (.int 6), .un, .un]) := by
    unfold hlT
    refine lc_map 2 (gi := (gItems anyItems (gFz 0))) (ρ := [.val (.tup [v, .lst []]), .val (.int 6), .un, .un]) (ρ1 := [.val (.tup [v, .lst []]), .val (.int 6), .un, .un]) [v, .lst []] f (by simp) (by simp) (items_ok (d := .tup [v, .lst []]) (by simp [gSeq, gIfS, gBl, gOp, gVar, gC, EM.bind, EM.pure, EM.lift, op2, op1, gUn, view, moAt, Slot.mo?, Mo.view, fIx, fII, gAsg, gCall, M.gCons, M.gNil, consM, opL, views, aliveR, gdTup, gdCons, gdSub, gdNil, Tg.bind, Tg.binds, setV, putMo, gRet, gPass, M.gSet, setM, storeR, gFz, gFrz, M.gLst, M.gTup, valsR, gSl, slM, gPt, gNoP, fSl, gAnd, gOr, gNot, gTru, truM, tru, gAndV, gOrV, gNotV, stays, gIf, gDrop, gRcv, isL, gApp, gMeth, methM, tyD, gFn, callM, argsOf, argOf, brws, nodupN, putBack, Ret.res, gFnK, allVal, Perm.swap, Perm.id, swapL, gChain, gChain3, blM, gRaise, fAdd, fSub, fLt, fInt, fLen, fDivmod, fMod, fFdiv, fMax2, fIsi, isB, gPar, fEq, fNe, eqM, eqS, keyD, gItems, itemsM, tupItems, lstItems, gFor, gEnum, gRange1, sizeLine, noE, anyItems, dctItems, gDct, gDct0, gDctE, flatP, M.pairD, gAll, gFnM, fEqK, fNeK, fMulS, fStrB, fTuple, fDict, gIsT, isAny, fMul, gYes, gNever, finR, gHeardB, atI, ixN]) rfl) (by simp [sizeLine_eq]) fun d hd => ?_
    simp only [List.mem_cons, List.not_mem_nil, or_false] at hd
    rcases hd with rfl | rfl
    · rw [fv]; simp at h1; simp [gSeq, gIfS, gBl, gOp, gVar, gC, EM.bind, EM.pure, EM.lift, op2, op1, gUn, view, moAt, Slot.mo?, Mo.view, fIx, fII, gAsg, gCall, M.gCons, M.gNil, consM, opL, views, aliveR, gdTup, gdCons, gdSub, gdNil, Tg.bind, Tg.binds, setV, putMo, gRet, gPass, M.gSet, setM, storeR, gFz, gFrz, M.gLst, M.gTup, valsR, gSl, slM, gPt, gNoP, fSl, gAnd, gOr, gNot, gTru, truM, tru, gAndV, gOrV, gNotV, stays, gIf, gDrop, gRcv, isL, gApp, gMeth, methM, tyD, gFn, callM, argsOf, argOf, brws, nodupN, putBack, Ret.res, gFnK, allVal, Perm.swap, Perm.id, swapL, gChain, gChain3, blM, gRaise, fAdd, fSub, fLt, fInt, fLen, fDivmod, fMod, fFdiv, fMax2, fIsi, isB, gPar, fEq, fNe, eqM, eqS, keyD, gItems, itemsM, tupItems, lstItems, gFor, gEnum, gRange1, sizeLine, noE, anyItems, dctItems, gDct, gDct0, gDctE, flatP, M.pairD, gAll, gFnM, fEqK, fNeK, fMulS, fStrB, fTuple, fDict, gIsT, isAny, fMul, gYes, gNever, finR, gHeardB, atI, ixN, h1]
    · simp at h2; simp [gSeq, gIfS, gBl, gOp, gVar, gC, EM.bind, EM.pure, EM.lift, op2, op1, gUn, view, moAt, Slot.mo?, Mo.view, fIx, fII, gAsg, gCall, M.gCons, M.gNil, consM, opL, views, aliveR, gdTup, gdCons, gdSub, gdNil, Tg.bind, Tg.binds, setV, putMo, gRet, gPass, M.gSet, setM, storeR, gFz, gFrz, M.gLst, M.gTup, valsR, gSl, slM, gPt, gNoP, fSl, gAnd, gOr, gNot, gTru, truM, tru, gAndV, gOrV, gNotV, stays, gIf, gDrop, gRcv, isL, gApp, gMeth, methM, tyD, gFn, callM, argsOf, argOf, brws, nodupN, putBack, Ret.res, gFnK, allVal, Perm.swap, Perm.id, swapL, gChain, gChain3, blM, gRaise, fAdd, fSub, fLt, fInt, fLen, fDivmod, fMod, fFdiv, fMax2, fIsi, isB, gPar, fEq, fNe, eqM, eqS, keyD, gItems, itemsM, tupItems, lstItems, gFor, gEnum, gRange1, sizeLine, noE, anyItems, dctItems, gDct, gDct0, gDctE, flatP, M.pairD, gAll, gFnM, fEqK, fNeK, fMulS, fStrB, fTuple, fDict, gIsT, isAny, fMul, gYes, gNever, finR, gHeardB, atI, ixN, h2, f]
  have fa := fAll_bls [true, false]
  rw [hl_eq]
  refine run_nx (N := 4) (as := [.val (.tup [v, .lst []]), .val (.int 6)]) (r := .val (.bl false)) (ρ := [.val (.tup [v, .lst []]), .val (.int 6), .un, .un]) ?_
  unfold hl_0 hl_1
  unfold gSeq
  simp only [List.map_cons, List.map_nil, fv] at e
  simp [gSeq, gIfS, gBl, gOp, gVar, gC, EM.bind, EM.pure, EM.lift, op2, op1, gUn, view, moAt, Slot.mo?, Mo.view, fIx, fII, gAsg, gCall, M.gCons, M.gNil, consM, opL, views, aliveR, gdTup, gdCons, gdSub, gdNil, Tg.bind, Tg.binds, setV, putMo, gRet, gPass, M.gSet, setM, storeR, gFz, gFrz, M.gLst, M.gTup, valsR, gSl, slM, gPt, gNoP, fSl, gAnd, gOr, gNot, gTru, truM, tru, gAndV, gOrV, gNotV, stays, gIf, gDrop, gRcv, isL, gApp, gMeth, methM, tyD, gFn, callM, argsOf, argOf, brws, nodupN, putBack, Ret.res, gFnK, allVal, Perm.swap, Perm.id, swapL, gChain, gChain3, blM, gRaise, fAdd, fSub, fLt, fInt, fLen, fDivmod, fMod, fFdiv, fMax2, fIsi, isB, gPar, fEq, fNe, eqM, eqS, keyD, gItems, itemsM, tupItems, lstItems, gFor, gEnum, gRange1, sizeLine, noE, anyItems, dctItems, gDct, gDct0, gDctE, flatP, M.pairD, gAll, gFnM, fEqK, fNeK, fMulS, fStrB, fTuple, fDict, gIsT, isAny, fMul, gYes, gNever, finR, gHeardB, atI, ixN, fIsN, f] at e fa ⊢
  simp [gSeq, gIfS, gBl, gOp, gVar, gC, EM.bind, EM.pure, EM.lift, op2, op1, gUn, view, moAt, Slot.mo?, Mo.view, fIx, fII, gAsg, gCall, M.gCons, M.gNil, consM, opL, views, aliveR, gdTup, gdCons, gdSub, gdNil, Tg.bind, Tg.binds, setV, putMo, gRet, gPass, M.gSet, setM, storeR, gFz, gFrz, M.gLst, M.gTup, valsR, gSl, slM, gPt, gNoP, fSl, gAnd, gOr, gNot, gTru, truM, tru, gAndV, gOrV, gNotV, stays, gIf, gDrop, gRcv, isL, gApp, gMeth, methM, tyD, gFn, callM, argsOf, argOf, brws, nodupN, putBack, Ret.res, gFnK, allVal, Perm.swap, Perm.id, swapL, gChain, gChain3, blM, gRaise, fAdd, fSub, fLt, fInt, fLen, fDivmod, fMod, fFdiv, fMax2, fIsi, isB, gPar, fEq, fNe, eqM, eqS, keyD, gItems, itemsM, tupItems, lstItems, gFor, gEnum, gRange1, sizeLine, noE, anyItems, dctItems, gDct, gDct0, gDctE, flatP, M.pairD, gAll, gFnM, fEqK, fNeK, fMulS, fStrB, fTuple, fDict, gIsT, isAny, fMul, gYes, gNever, finR, gHeardB, atI, ixN, e, fa]
theorem same_ok (c : Ads) {a b : D} (ha : Vl 6 a) (hb : Vl 6 b) : m_same c [.val a, .val b] = some (.ok (.val (.bl (eqB 6 a b))) [.val a, .val b]) := by
  have h1 := isv_ok c ha (by omega)
  have h2 := isv_ok c hb (by omega)
  have h3 := sv_ok c 6 9 a b ha hb (by omega)
  unfold m_same
  refine run_nx (N := 3) (as := [.val a, .val b]) (r := .val (.bl (eqB 6 a b))) (ρ := [.val a, .val b, .val b]) ?_
  unfold b_same
  simp [gSeq, gIfS, gBl, gOp, gVar, gC, EM.bind, EM.pure, EM.lift, op2, op1, gUn, view, moAt, Slot.mo?, Mo.view, fIx, fII, gAsg, gCall, M.gCons, M.gNil, consM, opL, views, aliveR, gdTup, gdCons, gdSub, gdNil, Tg.bind, Tg.binds, setV, putMo, gRet, gPass, M.gSet, setM, storeR, gFz, gFrz, M.gLst, M.gTup, valsR, gSl, slM, gPt, gNoP, fSl, gAnd, gOr, gNot, gTru, truM, tru, gAndV, gOrV, gNotV, stays, gIf, gDrop, gRcv, isL, gApp, gMeth, methM, tyD, gFn, callM, argsOf, argOf, brws, nodupN, putBack, Ret.res, gFnK, allVal, Perm.swap, Perm.id, swapL, gChain, gChain3, blM, gRaise, fAdd, fSub, fLt, fInt, fLen, fDivmod, fMod, fFdiv, fMax2, fIsi, isB, gPar, fEq, fNe, eqM, eqS, keyD, gItems, itemsM, tupItems, lstItems, gFor, gEnum, gRange1, sizeLine, noE, anyItems, dctItems, gDct, gDct0, gDctE, flatP, M.pairD, gAll, gFnM, fEqK, fNeK, fMulS, fStrB, fTuple, fDict, gIsT, isAny, fMul, gYes, gNever, finR, gHeardB, atI, ixN, loopF, h1, h2, h3]
theorem same_ex (c : Ads) {a b : D} (ha : m_is_value c [.val a] = some (.ok (.val (.bl false)) [.val a])) : m_same c [.val a, .val b] = some (.ex (.ref c.InvalidValue) [("value", a)] [.val a, .val b]) := by
  unfold m_same runM
  unfold b_same
  simp [gSeq, gIfS, gBl, gOp, gVar, gC, EM.bind, EM.pure, EM.lift, op2, op1, gUn, view, moAt, Slot.mo?, Mo.view, fIx, fII, gAsg, gCall, M.gCons, M.gNil, consM, opL, views, aliveR, gdTup, gdCons, gdSub, gdNil, Tg.bind, Tg.binds, setV, putMo, gRet, gPass, M.gSet, setM, storeR, gFz, gFrz, M.gLst, M.gTup, valsR, gSl, slM, gPt, gNoP, fSl, gAnd, gOr, gNot, gTru, truM, tru, gAndV, gOrV, gNotV, stays, gIf, gDrop, gRcv, isL, gApp, gMeth, methM, tyD, gFn, callM, argsOf, argOf, brws, nodupN, putBack, Ret.res, gFnK, allVal, Perm.swap, Perm.id, swapL, gChain, gChain3, blM, gRaise, fAdd, fSub, fLt, fInt, fLen, fDivmod, fMod, fFdiv, fMax2, fIsi, isB, gPar, fEq, fNe, eqM, eqS, keyD, gItems, itemsM, tupItems, lstItems, gFor, gEnum, gRange1, sizeLine, noE, anyItems, dctItems, gDct, gDct0, gDctE, flatP, M.pairD, gAll, gFnM, fEqK, fNeK, fMulS, fStrB, fTuple, fDict, gIsT, isAny, fMul, gYes, gNever, finR, gHeardB, atI, ixN, loopF, ha]
theorem same_ex2 (c : Ads) {a b : D} (ha : Vl 6 a) (hb : m_is_value c [.val b] = some (.ok (.val (.bl false)) [.val b])) : m_same c [.val a, .val b] = some (.ex (.ref c.InvalidValue) [("value", b)] [.val a, .val b]) := by
  have h1 := isv_ok c ha (by omega)
  unfold m_same runM
  unfold b_same
  simp [gSeq, gIfS, gBl, gOp, gVar, gC, EM.bind, EM.pure, EM.lift, op2, op1, gUn, view, moAt, Slot.mo?, Mo.view, fIx, fII, gAsg, gCall, M.gCons, M.gNil, consM, opL, views, aliveR, gdTup, gdCons, gdSub, gdNil, Tg.bind, Tg.binds, setV, putMo, gRet, gPass, M.gSet, setM, storeR, gFz, gFrz, M.gLst, M.gTup, valsR, gSl, slM, gPt, gNoP, fSl, gAnd, gOr, gNot, gTru, truM, tru, gAndV, gOrV, gNotV, stays, gIf, gDrop, gRcv, isL, gApp, gMeth, methM, tyD, gFn, callM, argsOf, argOf, brws, nodupN, putBack, Ret.res, gFnK, allVal, Perm.swap, Perm.id, swapL, gChain, gChain3, blM, gRaise, fAdd, fSub, fLt, fInt, fLen, fDivmod, fMod, fFdiv, fMax2, fIsi, isB, gPar, fEq, fNe, eqM, eqS, keyD, gItems, itemsM, tupItems, lstItems, gFor, gEnum, gRange1, sizeLine, noE, anyItems, dctItems, gDct, gDct0, gDctE, flatP, M.pairD, gAll, gFnM, fEqK, fNeK, fMulS, fStrB, fTuple, fDict, gIsT, isAny, fMul, gYes, gNever, finR, gHeardB, atI, ixN, loopF, h1, hb]
/-- the handler -/
theorem refused_ok (c : Ads) {g : EM Res} {ρ ρ' : En} {d : D} (h0 : noE ρ = true) (h : g ρ = some (.ex (.ref c.InvalidValue) [("value", d)] ρ')) : gHeardB 2 (hm__law_refused c) (tl__law_refused c) g ρ = some (.ok (.new (.l [d])) ρ') := by
  have e : (c.InvalidValue == c.InvalidValue) = true := by simp
  unfold gHeardB
  rw [if_pos h0, h]
  unfold hm__law_refused mt__law_refused su__law_refused
  simp [gSeq, gIfS, gBl, gOp, gVar, gC, EM.bind, EM.pure, EM.lift, op2, op1, gUn, view, moAt, Slot.mo?, Mo.view, fIx, fII, gAsg, gCall, M.gCons, M.gNil, consM, opL, views, aliveR, gdTup, gdCons, gdSub, gdNil, Tg.bind, Tg.binds, setV, putMo, gRet, gPass, M.gSet, setM, storeR, gFz, gFrz, M.gLst, M.gTup, valsR, gSl, slM, gPt, gNoP, fSl, gAnd, gOr, gNot, gTru, truM, tru, gAndV, gOrV, gNotV, stays, gIf, gDrop, gRcv, isL, gApp, gMeth, methM, tyD, gFn, callM, argsOf, argOf, brws, nodupN, putBack, Ret.res, gFnK, allVal, Perm.swap, Perm.id, swapL, gChain, gChain3, blM, gRaise, fAdd, fSub, fLt, fInt, fLen, fDivmod, fMod, fFdiv, fMax2, fIsi, isB, gPar, fEq, fNe, eqM, eqS, keyD, gItems, itemsM, tupItems, lstItems, gFor, gEnum, gRange1, sizeLine, noE, anyItems, dctItems, gDct, gDct0, gDctE, flatP, M.pairD, gAll, gFnM, fEqK, fNeK, fMulS, fStrB, fTuple, fDict, gIsT, isAny, fMul, gYes, gNever, finR, gHeardB, atI, ixN, gHs, tabM, gXf, P_value, isR, isParB, unR, outE]
end
end My

namespace My
noncomputable section
open PySem PySem.Spec PyProof.Rows L2 M
/-! the bounds -/
def bdV (c : Ads) : EM Res := (gLc (gItems anyItems (gTup (gCons (gFrz (gOp fMulS (gTup (gCons (gC (.str "")) gNil)) (gC (.int 60)))) (gCons (gFrz (gDctE [((gFrz (gOp fMulS (gC (.str "a")) (gC (.int 12)))), (gC (.int 1)))])) (gCons (gTup (gCons (gFrz gDct0) gNil)) (gCons (gFrz gDct0) (gCons (gTup gNil) gNil))))))) (.nm 3) [3] gYes (gFrz (gFnK .id 1 (m_is_value c) (gCons (gFz 3) gNil))))
def bdW (c : Ads) : EM Res := (gLc (gItems anyItems (gTup (gCons (gFrz (gOp fMulS (gTup (gCons (gC (.str "")) gNil)) (gC (.int 61)))) (gCons (gFrz (gDctE [((gFrz (gOp fMulS (gC (.str "a")) (gC (.int 13)))), (gC (.int 1)))])) (gCons (gFrz (gDct [.inr ""] [(gC (.int 1))])) (gCons (gFrz (gDct [.inr "A"] [(gC (.int 1))])) (gCons (gFrz (gDct [.inl 5] [(gC (.int 1))])) (gCons (gFrz (gLst (gCons (gC (.int 1)) gNil))) (gCons (gFrz (gDct [.inr "a"] [(gFrz (gLst (gCons (gC (.int 1)) gNil)))])) gNil))))))))) (.nm 3) [3] (gTru (gFn 1 (m_is_value c) (gCons (gFz 3) gNil))) (gFz 3))
def bd_0 (c : Ads) : EM Fl := (gPar 0 1 (gCons (gC (.int 1)) (gCons (gDct [.inr "a"] [(gC (.int 1))]) gNil)))
def bd_1 (c : Ads) : EM Fl := (gFor (gRange1 (gCons (gC (.int 6)) gNil)) (.nm 2)
    (gSeq (gIfS (gOr (gNot (gTru (gFn 1 (m_is_value c) (gCons (gFz 0) gNil)))) (gAnd (gNot (gTru (gFn 1 (m_is_value c) (gCons (gFz 1) gNil)))) (gBl (gOp fLt (gVar 2) (gC (.int 6))))))
    (gRet (gC (.bl false)))
    gPass)
    (gPar 0 1 (gCons (gTup (gCons (gFz 0) gNil)) (gCons (gIf (gBl (gOp fLt (gVar 2) (gC (.int 5)))) (gDct [.inr "a"] [(gFz 1)]) (gVar 1)) gNil)))))
def bd_2 (c : Ads) : EM Fl := (gIfS (gOr (gNot (gTru (gFn 1 (m_is_value c) (gCons (gFz 0) gNil)))) (gOr (gTru (gFn 1 (m_is_value c) (gCons (gTup (gCons (gFz 0) gNil)) gNil))) (gOr (gNot (gTru (gFn 1 (m_is_value c) (gCons (gFz 1) gNil)))) (gTru (gFn 1 (m_is_value c) (gCons (gFrz (gDct [.inr "b"] [(gFz 1)])) gNil))))))
    (gRet (gC (.bl false)))
    gPass)
def bd_3 (c : Ads) : EM Fl := (gIfS (gNot (gTru (gFn 2 (m__law_same c 9) (gCons (gFrz (bdV c)) (gCons (gFrz (gOp fMulS (gLst (gCons (gC (.bl true)) gNil)) (gC (.int 5)))) gNil)))))
    (gRet (gC (.bl false)))
    gPass)
def bd_4 (c : Ads) : EM Fl := (gRet (gOp fEqK (bdW c) (gLst gNil)))
theorem bd_eq (c : Ads) : b__law_bounds_right c = (gSeq (bd_0 c) (gSeq (bd_1 c) (gSeq (bd_2 c) (gSeq (bd_3 c) (bd_4 c))))) := rfl
def deepD : Nat → D
  | 0 => .int 1
  | n + 1 => .tup [deepD n]
def wideD : Nat → List (Key × D)
  | 0 => [(.inr "a", .int 1)]
  | n + 1 => [(.inr "a", .dct (wideD n))]
theorem bd0 (c : Ads) : bd_0 c [.un, .un, .un, .un] = some (.ok .nx [.val (.int 1), .own (.d (wideD 0)), .un, .un]) := by kernel_rfl
theorem bd1 (c : Ads) : bd_1 c [.val (.int 1), .own (.d (wideD 0)), .un, .un] = some (.ok .nx [.val (deepD 6), .val (.dct (wideD 5)), .val (.int 5), .un]) := by kernel_rfl
theorem bd2 (c : Ads) : bd_2 c [.val (deepD 6), .val (.dct (wideD 5)), .val (.int 5), .un] = some (.ok .nx [.val (deepD 6), .val (.dct (wideD 5)), .val (.int 5), .un]) := by kernel_rfl
theorem bdv (c : Ads) : bdV c [.val (deepD 6), .val (.dct (wideD 5)), .val (.int 5), .un] = some (.ok (.new (.l [.bl true, .bl true, .bl true, .bl true, .bl true])) [.val (deepD 6), .val (.dct (wideD 5)), .val (.int 5), .un]) := by kernel_rfl
theorem bdw (c : Ads) : bdW c [.val (deepD 6), .val (.dct (wideD 5)), .val (.int 5), .un] = some (.ok (.new (.l [])) [.val (deepD 6), .val (.dct (wideD 5)), .val (.int 5), .un]) := by kernel_rfl
/-! what _law_same says of a row and itself -/
def LsT (c : Ads) (n : Nat) (d : D) : Prop := ∀ f, n < f → m__law_same c f [.val d, .val d] = some (.ok (.val (.bl true)) [.val d, .val d])
theorem lst_vl (c : Ads) {n : Nat} {d : D} (h : Vl n d) (hn : n ≤ 4) : LsT c n d := fun f hf => by
  rw [ls_ok c n f d d h h hn hf, eqB_iff.mpr (Eqv.refl h)]
theorem lst_bl (c : Ads) (b : Bool) : LsT c 0 (.bl b) := lst_vl c (VlW.leaf (w := 6) trivial) (by omega)
theorem LsT.mono {c : Ads} {n k : Nat} {d : D} (h : LsT c n d) (hk : n ≤ k) : LsT c k d := fun f hf => h f (by omega)
theorem lst_row (c : Ads) {n : Nat} {ds : List D} (h : ∀ d ∈ ds, LsT c n d) (hl : ds.length ≤ 100) {R : List D → D} (hR : R = .lst ∨ R = .tup) : LsT c (n + 1) (R ds) := fun f hf => by
  obtain ⟨f, rfl⟩ : ∃ q, f = q + 1 := ⟨f - 1, by omega⟩
  have t : ∀ ρ3 : Slot, True := fun _ => trivial
  have e : lsT c f [.val (R ds), .val (R ds), .un, .val (.bl true), .un] = some (.ok (.new (.l [])) [.val (R ds), .val (R ds), .un, .val (.bl true), .un]) := by
    unfold lsT
    refine (lc_fm 4 (gi := (gRange1 (gCons (gCall fLen (gCons (gVar 1) gNil)) gNil))) (ρ := [.val (R ds), .val (R ds), .un, .val (.bl true), .un]) (ρ1 := [.val (R ds), .val (R ds), .un, .val (.bl true), .un]) (upto (ds.length : Int)) (fun _ => false) (fun d => d) (by simp) (by simp) (range_ok (k := ds.length) (by rcases hR with rfl | rfl <;> simp [gSeq, gIfS, gBl, gOp, gVar, gC, EM.bind, EM.pure, EM.lift, op2, op1, gUn, view, moAt, Slot.mo?, Mo.view, fIx, fII, gAsg, gCall, M.gCons, M.gNil, consM, opL, views, aliveR, gdTup, gdCons, gdSub, gdNil, Tg.bind, Tg.binds, setV, putMo, gRet, gPass, M.gSet, setM, storeR, gFz, gFrz, M.gLst, M.gTup, valsR, gSl, slM, gPt, gNoP, fSl, gAnd, gOr, gNot, gTru, truM, tru, gAndV, gOrV, gNotV, stays, gIf, gDrop, gRcv, isL, gApp, gMeth, methM, tyD, gFn, callM, argsOf, argOf, brws, nodupN, putBack, Ret.res, gFnK, allVal, Perm.swap, Perm.id, swapL, gChain, gChain3, blM, gRaise, fAdd, fSub, fLt, fInt, fLen, fDivmod, fMod, fFdiv, fMax2, fIsi, isB, gPar, fEq, fNe, eqM, eqS, keyD, gItems, itemsM, tupItems, lstItems, gFor, gEnum, gRange1, sizeLine, noE, anyItems, dctItems, gDct, gDct0, gDctE, flatP, M.pairD, gAll, gFnM, fEqK, fNeK, fMulS, fStrB, fTuple, fDict, gIsT, isAny, fMul, gYes, gNever, finR, gHeardB, atI, ixN]) (by omega) (by omega)) (by rw [upto_len, sizeLine_eq]; omega) fun d hd => ?_).trans ?_
    · obtain ⟨i, rfl, hi⟩ := upto_mem hd
      have iy : i < ds.length := by omega
      have gy : ds[i]? = some ds[i] := List.getElem?_eq_getElem iy
      have t2 := atI_nat gy
      have := h ds[i] (List.getElem_mem iy) f (by omega)
      refine ⟨?_, fun z => by cases z⟩
      rcases hR with rfl | rfl <;> simp [gSeq, gIfS, gBl, gOp, gVar, gC, EM.bind, EM.pure, EM.lift, op2, op1, gUn, view, moAt, Slot.mo?, Mo.view, fIx, fII, gAsg, gCall, M.gCons, M.gNil, consM, opL, views, aliveR, gdTup, gdCons, gdSub, gdNil, Tg.bind, Tg.binds, setV, putMo, gRet, gPass, M.gSet, setM, storeR, gFz, gFrz, M.gLst, M.gTup, valsR, gSl, slM, gPt, gNoP, fSl, gAnd, gOr, gNot, gTru, truM, tru, gAndV, gOrV, gNotV, stays, gIf, gDrop, gRcv, isL, gApp, gMeth, methM, tyD, gFn, callM, argsOf, argOf, brws, nodupN, putBack, Ret.res, gFnK, allVal, Perm.swap, Perm.id, swapL, gChain, gChain3, blM, gRaise, fAdd, fSub, fLt, fInt, fLen, fDivmod, fMod, fFdiv, fMax2, fIsi, isB, gPar, fEq, fNe, eqM, eqS, keyD, gItems, itemsM, tupItems, lstItems, gFor, gEnum, gRange1, sizeLine, noE, anyItems, dctItems, gDct, gDct0, gDctE, flatP, M.pairD, gAll, gFnM, fEqK, fNeK, fMulS, fStrB, fTuple, fDict, gIsT, isAny, fMul, gYes, gNever, finR, gHeardB, t2, this, gy]
    · simp
  have fe := fEqK_ints_nil []
  simp only [List.map_nil] at fe
  rw [ls_eq]
  refine run_nx (N := 5) (as := [.val (R ds), .val (R ds)]) (r := .val (.bl true)) (ρ := [.val (R ds), .val (R ds), .un, .val (.bl true), .un]) ?_
  have fi : fEqK (.int (ds.length : Int)) (.int (ds.length : Int)) = some (.val (.bl true)) := by simp [fEqK, fEq, eqM, eqS]
  have i0 : ls_0 c f [.val (R ds), .val (R ds), .un, .un, .un] = some (.ok .nx [.val (R ds), .val (R ds), .un, .un, .un]) := by
    unfold ls_0
    rcases hR with rfl | rfl <;> simp [gSeq, gIfS, gBl, gOp, gVar, gC, EM.bind, EM.pure, EM.lift, op2, op1, gUn, view, moAt, Slot.mo?, Mo.view, fIx, fII, gAsg, gCall, M.gCons, M.gNil, consM, opL, views, aliveR, gdTup, gdCons, gdSub, gdNil, Tg.bind, Tg.binds, setV, putMo, gRet, gPass, M.gSet, setM, storeR, gFz, gFrz, M.gLst, M.gTup, valsR, gSl, slM, gPt, gNoP, fSl, gAnd, gOr, gNot, gTru, truM, tru, gAndV, gOrV, gNotV, stays, gIf, gDrop, gRcv, isL, gApp, gMeth, methM, tyD, gFn, callM, argsOf, argOf, brws, nodupN, putBack, Ret.res, gFnK, allVal, Perm.swap, Perm.id, swapL, gChain, gChain3, blM, gRaise, fAdd, fSub, fLt, fInt, fLen, fDivmod, fMod, fFdiv, fMax2, fIsi, isB, gPar, keyD, gItems, itemsM, tupItems, lstItems, gFor, gEnum, gRange1, sizeLine, noE, anyItems, dctItems, gDct, gDct0, gDctE, flatP, M.pairD, gAll, gFnM, fMulS, fStrB, fTuple, fDict, gIsT, isAny, fMul, gYes, gNever, finR, gHeardB, atI, ixN]
  have i1 : ls_1 c f [.val (R ds), .val (R ds), .un, .un, .un] = some (.ok (.rt (.val (.bl true))) [.val (R ds), .val (R ds), .un, .val (.bl true), .un]) := by
    unfold ls_1
    refine (ifS_t (ρ1 := [.val (R ds), .val (R ds), .un, .un, .un]) (by rcases hR with rfl | rfl <;> simp [gSeq, gIfS, gBl, gOp, gVar, gC, EM.bind, EM.pure, EM.lift, op2, op1, gUn, view, moAt, Slot.mo?, Mo.view, fIx, fII, gAsg, gCall, M.gCons, M.gNil, consM, opL, views, aliveR, gdTup, gdCons, gdSub, gdNil, Tg.bind, Tg.binds, setV, putMo, gRet, gPass, M.gSet, setM, storeR, gFz, gFrz, M.gLst, M.gTup, valsR, gSl, slM, gPt, gNoP, fSl, gAnd, gOr, gNot, gTru, truM, tru, gAndV, gOrV, gNotV, stays, gIf, gDrop, gRcv, isL, gApp, gMeth, methM, tyD, gFn, callM, argsOf, argOf, brws, nodupN, putBack, Ret.res, gFnK, allVal, Perm.swap, Perm.id, swapL, gChain, gChain3, blM, gRaise, fAdd, fSub, fLt, fInt, fLen, fDivmod, fMod, fFdiv, fMax2, fIsi, isB, gPar, keyD, gItems, itemsM, tupItems, lstItems, gFor, gEnum, gRange1, sizeLine, noE, anyItems, dctItems, gDct, gDct0, gDctE, flatP, M.pairD, gAll, gFnM, fMulS, fStrB, fTuple, fDict, gIsT, isAny, fMul, gYes, gNever, finR, gHeardB, atI, ixN])).trans ?_
    refine (seq_nx (ρ' := [.val (R ds), .val (R ds), .un, .val (.bl true), .un]) (by rcases hR with rfl | rfl <;> simp [gSeq, gIfS, gBl, gOp, gVar, gC, EM.bind, EM.pure, EM.lift, op2, op1, gUn, view, moAt, Slot.mo?, Mo.view, fIx, fII, gAsg, gCall, M.gCons, M.gNil, consM, opL, views, aliveR, gdTup, gdCons, gdSub, gdNil, Tg.bind, Tg.binds, setV, putMo, gRet, gPass, M.gSet, setM, storeR, gFz, gFrz, M.gLst, M.gTup, valsR, gSl, slM, gPt, gNoP, fSl, gAnd, gOr, gNot, gTru, truM, tru, gAndV, gOrV, gNotV, stays, gIf, gDrop, gRcv, isL, gApp, gMeth, methM, tyD, gFn, callM, argsOf, argOf, brws, nodupN, putBack, Ret.res, gFnK, allVal, Perm.swap, Perm.id, swapL, gChain, gChain3, blM, gRaise, fAdd, fSub, fLt, fInt, fLen, fDivmod, fMod, fFdiv, fMax2, fIsi, isB, gPar, keyD, gItems, itemsM, tupItems, lstItems, gFor, gEnum, gRange1, sizeLine, noE, anyItems, dctItems, gDct, gDct0, gDctE, flatP, M.pairD, gAll, gFnM, fMulS, fStrB, fTuple, fDict, gIsT, isAny, fMul, gYes, gNever, finR, gHeardB, atI, ixN])).trans ?_
    refine ret_ok ?_
    refine (andV_t (ρ1 := [.val (R ds), .val (R ds), .un, .val (.bl true), .un]) (by simp [gSeq, gIfS, gBl, gOp, gVar, gC, EM.bind, EM.pure, EM.lift, op2, op1, gUn, view, moAt, Slot.mo?, Mo.view, fIx, fII, gAsg, gCall, M.gCons, M.gNil, consM, opL, views, aliveR, gdTup, gdCons, gdSub, gdNil, Tg.bind, Tg.binds, setV, putMo, gRet, gPass, M.gSet, setM, storeR, gFz, gFrz, M.gLst, M.gTup, valsR, gSl, slM, gPt, gNoP, fSl, gAnd, gOr, gNot, gTru, truM, tru, gAndV, gOrV, gNotV, stays, gIf, gDrop, gRcv, isL, gApp, gMeth, methM, tyD, gFn, callM, argsOf, argOf, brws, nodupN, putBack, Ret.res, gFnK, allVal, Perm.swap, Perm.id, swapL, gChain, gChain3, blM, gRaise, fAdd, fSub, fLt, fInt, fLen, fDivmod, fMod, fFdiv, fMax2, fIsi, isB, gPar, keyD, gItems, itemsM, tupItems, lstItems, gFor, gEnum, gRange1, sizeLine, noE, anyItems, dctItems, gDct, gDct0, gDctE, flatP, M.pairD, gAll, gFnM, fMulS, fStrB, fTuple, fDict, gIsT, isAny, fMul, gYes, gNever, finR, gHeardB, atI, ixN])).trans ?_
    refine (andV_t (ρ1 := [.val (R ds), .val (R ds), .un, .val (.bl true), .un]) (by rcases hR with rfl | rfl <;> simp [gSeq, gIfS, gBl, gOp, gVar, gC, EM.bind, EM.pure, EM.lift, op2, op1, gUn, view, moAt, Slot.mo?, Mo.view, fIx, fII, gAsg, gCall, M.gCons, M.gNil, consM, opL, views, aliveR, gdTup, gdCons, gdSub, gdNil, Tg.bind, Tg.binds, setV, putMo, gRet, gPass, M.gSet, setM, storeR, gFz, gFrz, M.gLst, M.gTup, valsR, gSl, slM, gPt, gNoP, fSl, gAnd, gOr, gNot, gTru, truM, tru, gAndV, gOrV, gNotV, stays, gIf, gDrop, gRcv, isL, gApp, gMeth, methM, tyD, gFn, callM, argsOf, argOf, brws, nodupN, putBack, Ret.res, gFnK, allVal, Perm.swap, Perm.id, swapL, gChain, gChain3, blM, gRaise, fAdd, fSub, fLt, fInt, fLen, fDivmod, fMod, fFdiv, fMax2, fIsi, isB, gPar, keyD, gItems, itemsM, tupItems, lstItems, gFor, gEnum, gRange1, sizeLine, noE, anyItems, dctItems, gDct, gDct0, gDctE, flatP, M.pairD, gAll, gFnM, fMulS, fStrB, fTuple, fDict, gIsT, isAny, fMul, gYes, gNever, finR, gHeardB, atI, ixN, fi])).trans ?_
    exact op_ok e lst0_ok rfl rfl fe
  exact (seq_nx i0).trans (seq_rt i1)
/-- a record of one part -/
theorem lst_dct (c : Ads) {n : Nat} {k : Key} {d : D} (h : LsT c n d) (hs : fSorted [.dct [(k, d)]] = some (.new (.l [kD k]))) (he : fEqK (.lst [kD k]) (.lst [kD k]) = some (.val (.bl true))) (hk : keyD (kD k) = some k) : LsT c (n + 1) (.dct [(k, d)]) := fun f hf => by
  obtain ⟨f, rfl⟩ : ∃ q, f = q + 1 := ⟨f - 1, by omega⟩
  have o1 : gCall fSorted (gCons (gVar 0) gNil) [.val (.dct [(k, d)]), .val (.dct [(k, d)]), .un, .un, .un] = some (.ok (.new (.l [kD k])) [.val (.dct [(k, d)]), .val (.dct [(k, d)]), .un, .un, .un]) := by
    simp [gSeq, gIfS, gBl, gOp, gVar, gC, EM.bind, EM.pure, EM.lift, op2, op1, gUn, view, moAt, Slot.mo?, Mo.view, fIx, fII, gAsg, gCall, M.gCons, M.gNil, consM, opL, views, aliveR, gdTup, gdCons, gdSub, gdNil, Tg.bind, Tg.binds, setV, putMo, gRet, gPass, M.gSet, setM, storeR, gFz, gFrz, M.gLst, M.gTup, valsR, gSl, slM, gPt, gNoP, fSl, gAnd, gOr, gNot, gTru, truM, tru, gAndV, gOrV, gNotV, stays, gIf, gDrop, gRcv, isL, gApp, gMeth, methM, tyD, gFn, callM, argsOf, argOf, brws, nodupN, putBack, Ret.res, gFnK, allVal, Perm.swap, Perm.id, swapL, gChain, gChain3, blM, gRaise, fAdd, fSub, fLt, fInt, fLen, fDivmod, fMod, fFdiv, fMax2, fIsi, isB, gPar, keyD, gItems, itemsM, tupItems, lstItems, gFor, gEnum, gRange1, sizeLine, noE, anyItems, dctItems, gDct, gDct0, gDctE, flatP, M.pairD, gAll, gFnM, fMulS, fStrB, fTuple, fDict, gIsT, isAny, fMul, gYes, gNever, finR, gHeardB, atI, ixN, hs]
  have o2 : gCall fSorted (gCons (gVar 1) gNil) [.val (.dct [(k, d)]), .val (.dct [(k, d)]), .un, .un, .un] = some (.ok (.new (.l [kD k])) [.val (.dct [(k, d)]), .val (.dct [(k, d)]), .un, .un, .un]) := by
    simp [gSeq, gIfS, gBl, gOp, gVar, gC, EM.bind, EM.pure, EM.lift, op2, op1, gUn, view, moAt, Slot.mo?, Mo.view, fIx, fII, gAsg, gCall, M.gCons, M.gNil, consM, opL, views, aliveR, gdTup, gdCons, gdSub, gdNil, Tg.bind, Tg.binds, setV, putMo, gRet, gPass, M.gSet, setM, storeR, gFz, gFrz, M.gLst, M.gTup, valsR, gSl, slM, gPt, gNoP, fSl, gAnd, gOr, gNot, gTru, truM, tru, gAndV, gOrV, gNotV, stays, gIf, gDrop, gRcv, isL, gApp, gMeth, methM, tyD, gFn, callM, argsOf, argOf, brws, nodupN, putBack, Ret.res, gFnK, allVal, Perm.swap, Perm.id, swapL, gChain, gChain3, blM, gRaise, fAdd, fSub, fLt, fInt, fLen, fDivmod, fMod, fFdiv, fMax2, fIsi, isB, gPar, keyD, gItems, itemsM, tupItems, lstItems, gFor, gEnum, gRange1, sizeLine, noE, anyItems, dctItems, gDct, gDct0, gDctE, flatP, M.pairD, gAll, gFnM, fMulS, fStrB, fTuple, fDict, gIsT, isAny, fMul, gYes, gNever, finR, gHeardB, atI, ixN, hs]
  have o := op_ok (f := fEqK) o1 o2 rfl rfl he
  have i1 : gCall fIsi (gCons (gVar 0) (gCons (gC (.ty "dict")) gNil)) [.val (.dct [(k, d)]), .val (.dct [(k, d)]), .un, .un, .un] = some (.ok (.val (.bl true)) [.val (.dct [(k, d)]), .val (.dct [(k, d)]), .un, .un, .un]) := by
    simp [gSeq, gIfS, gBl, gOp, gVar, gC, EM.bind, EM.pure, EM.lift, op2, op1, gUn, view, moAt, Slot.mo?, Mo.view, fIx, fII, gAsg, gCall, M.gCons, M.gNil, consM, opL, views, aliveR, gdTup, gdCons, gdSub, gdNil, Tg.bind, Tg.binds, setV, putMo, gRet, gPass, M.gSet, setM, storeR, gFz, gFrz, M.gLst, M.gTup, valsR, gSl, slM, gPt, gNoP, fSl, gAnd, gOr, gNot, gTru, truM, tru, gAndV, gOrV, gNotV, stays, gIf, gDrop, gRcv, isL, gApp, gMeth, methM, tyD, gFn, callM, argsOf, argOf, brws, nodupN, putBack, Ret.res, gFnK, allVal, Perm.swap, Perm.id, swapL, gChain, gChain3, blM, gRaise, fAdd, fSub, fLt, fInt, fLen, fDivmod, fMod, fFdiv, fMax2, fIsi, isB, gPar, keyD, gItems, itemsM, tupItems, lstItems, gFor, gEnum, gRange1, sizeLine, noE, anyItems, dctItems, gDct, gDct0, gDctE, flatP, M.pairD, gAll, gFnM, fMulS, fStrB, fTuple, fDict, gIsT, isAny, fMul, gYes, gNever, finR, gHeardB, atI, ixN]
  have i2 : gTru (gCall fIsi (gCons (gVar 1) (gCons (gC (.ty "dict")) gNil))) [.val (.dct [(k, d)]), .val (.dct [(k, d)]), .un, .un, .un] = some (.ok true [.val (.dct [(k, d)]), .val (.dct [(k, d)]), .un, .un, .un]) := by
    simp [gSeq, gIfS, gBl, gOp, gVar, gC, EM.bind, EM.pure, EM.lift, op2, op1, gUn, view, moAt, Slot.mo?, Mo.view, fIx, fII, gAsg, gCall, M.gCons, M.gNil, consM, opL, views, aliveR, gdTup, gdCons, gdSub, gdNil, Tg.bind, Tg.binds, setV, putMo, gRet, gPass, M.gSet, setM, storeR, gFz, gFrz, M.gLst, M.gTup, valsR, gSl, slM, gPt, gNoP, fSl, gAnd, gOr, gNot, gTru, truM, tru, gAndV, gOrV, gNotV, stays, gIf, gDrop, gRcv, isL, gApp, gMeth, methM, tyD, gFn, callM, argsOf, argOf, brws, nodupN, putBack, Ret.res, gFnK, allVal, Perm.swap, Perm.id, swapL, gChain, gChain3, blM, gRaise, fAdd, fSub, fLt, fInt, fLen, fDivmod, fMod, fFdiv, fMax2, fIsi, isB, gPar, keyD, gItems, itemsM, tupItems, lstItems, gFor, gEnum, gRange1, sizeLine, noE, anyItems, dctItems, gDct, gDct0, gDctE, flatP, M.pairD, gAll, gFnM, fMulS, fStrB, fTuple, fDict, gIsT, isAny, fMul, gYes, gNever, finR, gHeardB, atI, ixN]
  have e : lsD c f [.val (.dct [(k, d)]), .val (.dct [(k, d)]), .un, .un, .un] = some (.ok (.new (.l [])) [.val (.dct [(k, d)]), .val (.dct [(k, d)]), .un, .un, .un]) := by
    unfold lsD
    refine (lc_fm 2 (gi := (gItems anyItems (gFz 1))) (ρ := [.val (.dct [(k, d)]), .val (.dct [(k, d)]), .un, .un, .un]) (ρ1 := [.val (.dct [(k, d)]), .val (.dct [(k, d)]), .un, .un, .un]) [kD k] (fun _ => false) (fun d => d) (by simp) (by simp) (items_ok (d := .dct [(k, d)]) (by simp [gSeq, gIfS, gBl, gOp, gVar, gC, EM.bind, EM.pure, EM.lift, op2, op1, gUn, view, moAt, Slot.mo?, Mo.view, fIx, fII, gAsg, gCall, M.gCons, M.gNil, consM, opL, views, aliveR, gdTup, gdCons, gdSub, gdNil, Tg.bind, Tg.binds, setV, putMo, gRet, gPass, M.gSet, setM, storeR, gFz, gFrz, M.gLst, M.gTup, valsR, gSl, slM, gPt, gNoP, fSl, gAnd, gOr, gNot, gTru, truM, tru, gAndV, gOrV, gNotV, stays, gIf, gDrop, gRcv, isL, gApp, gMeth, methM, tyD, gFn, callM, argsOf, argOf, brws, nodupN, putBack, Ret.res, gFnK, allVal, Perm.swap, Perm.id, swapL, gChain, gChain3, blM, gRaise, fAdd, fSub, fLt, fInt, fLen, fDivmod, fMod, fFdiv, fMax2, fIsi, isB, gPar, fEq, fNe, eqM, eqS, keyD, gItems, itemsM, tupItems, lstItems, gFor, gEnum, gRange1, sizeLine, noE, anyItems, dctItems, gDct, gDct0, gDctE, flatP, M.pairD, gAll, gFnM, fEqK, fNeK, fMulS, fStrB, fTuple, fDict, gIsT, isAny, fMul, gYes, gNever, finR, gHeardB, atI, ixN]) rfl) (by rw [sizeLine_eq]; simp) fun x hx => ?_).trans ?_
    · rw [List.mem_singleton.mp hx]
      have lk : lookD [(k, d)] k = some d := by simp [lookD]
      have := h f (by omega)
      refine ⟨?_, fun z => by cases z⟩
      cases k <;> simp [gSeq, gIfS, gBl, gOp, gVar, gC, EM.bind, EM.pure, EM.lift, op2, op1, gUn, view, moAt, Slot.mo?, Mo.view, fIx, fII, gAsg, gCall, M.gCons, M.gNil, consM, opL, views, aliveR, gdTup, gdCons, gdSub, gdNil, Tg.bind, Tg.binds, setV, putMo, gRet, gPass, M.gSet, setM, storeR, gFz, gFrz, M.gLst, M.gTup, valsR, gSl, slM, gPt, gNoP, fSl, gAnd, gOr, gNot, gTru, truM, tru, gAndV, gOrV, gNotV, stays, gIf, gDrop, gRcv, isL, gApp, gMeth, methM, tyD, gFn, callM, argsOf, argOf, brws, nodupN, putBack, Ret.res, gFnK, allVal, Perm.swap, Perm.id, swapL, gChain, gChain3, blM, gRaise, fAdd, fSub, fLt, fInt, fLen, fDivmod, fMod, fFdiv, fMax2, fIsi, isB, gPar, keyD, gItems, itemsM, tupItems, lstItems, gFor, gEnum, gRange1, sizeLine, noE, anyItems, dctItems, gDct, gDct0, gDctE, flatP, M.pairD, gAll, gFnM, fMulS, fStrB, fTuple, fDict, gIsT, isAny, fMul, gYes, gNever, finR, gHeardB, atI, ixN, kD, lk, this]
    · simp
  have fe := fEqK_ints_nil []
  simp only [List.map_nil] at fe
  rw [ls_eq]
  refine run_nx (N := 5) (as := [.val (.dct [(k, d)]), .val (.dct [(k, d)])]) (r := .val (.bl true)) (ρ := [.val (.dct [(k, d)]), .val (.dct [(k, d)]), .un, .un, .un]) ?_
  refine seq_rt ?_
  unfold ls_0
  refine (ifS_t i2).trans (ret_ok ?_)
  refine (andV_t i1).trans ?_
  refine (andV_t o).trans ?_
  exact op_ok e lst0_ok rfl rfl fe
theorem bd_ok (c : Ads) : m__law_bounds_right c [] = some (.ok (.val (.bl true)) []) := by
  unfold m__law_bounds_right
  rw [bd_eq]
  refine run_nx (N := 4) (as := []) (r := .val (.bl true)) (ρ := [.val (deepD 6), .val (.dct (wideD 5)), .val (.int 5), .un]) ?_
  have v := bdv c
  have w := bdw c
  have l := lst_row c (n := 0) (ds := [.bl true, .bl true, .bl true, .bl true, .bl true]) (fun d hd => by simp at hd; rw [hd]; exact lst_bl c true) (by simp) (R := .lst) (.inl rfl) 9 (by omega)
  have fe := fEqK_ints_nil []
  simp only [List.map_nil] at fe
  refine (seq_nx (bd0 c)).trans ((seq_nx (bd1 c)).trans ((seq_nx (bd2 c)).trans ?_))
  refine (seq_nx (ρ' := [.val (deepD 6), .val (.dct (wideD 5)), .val (.int 5), .un]) ?_).trans ?_
  · unfold bd_3
    simp [gSeq, gIfS, gBl, gOp, gVar, gC, EM.bind, EM.pure, EM.lift, op2, op1, gUn, view, moAt, Slot.mo?, Mo.view, fIx, fII, gAsg, gCall, M.gCons, M.gNil, consM, opL, views, aliveR, gdTup, gdCons, gdSub, gdNil, Tg.bind, Tg.binds, setV, putMo, gRet, gPass, M.gSet, setM, storeR, gFz, gFrz, M.gLst, M.gTup, valsR, gSl, slM, gPt, gNoP, fSl, gAnd, gOr, gNot, gTru, truM, tru, gAndV, gOrV, gNotV, stays, gIf, gDrop, gRcv, isL, gApp, gMeth, methM, tyD, gFn, callM, argsOf, argOf, brws, nodupN, putBack, Ret.res, gFnK, allVal, Perm.swap, Perm.id, swapL, gChain, gChain3, blM, gRaise, fAdd, fSub, fLt, fInt, fLen, fDivmod, fMod, fFdiv, fMax2, fIsi, isB, gPar, fEq, fNe, eqM, eqS, keyD, gItems, itemsM, tupItems, lstItems, gFor, gEnum, gRange1, sizeLine, noE, anyItems, dctItems, gDct, gDct0, gDctE, flatP, M.pairD, gAll, gFnM, fEqK, fNeK, fMulS, fStrB, fTuple, fDict, gIsT, isAny, fMul, gYes, gNever, finR, gHeardB, atI, ixN, v, l]
  · unfold bd_4
    refine ret_ok ?_
    exact op_ok w lst0_ok rfl rfl fe
end
end My

namespace My
noncomputable section
open PySem PySem.Spec PyProof.Rows L2 M
/-! _law_right -/
theorem eqv_down : ∀ {n k : Nat} {a b : D}, Vl n a → Eqv k a b → Eqv n a b
  | n, 0, a, b, h, e => e.mono (by omega)
  | n, k + 1, a, b, h, e => by
    rcases vl_cases h with h | ⟨q, ds, rfl, rfl, a1, a2⟩ | ⟨q, ps, rfl, rfl, a1, a2, a3⟩
    · rw [eqv_rn] at e ⊢
      cases a <;> first | exact h.elim | (cases b <;> first | exact e.elim | exact e)
    · cases b <;> first | exact e.elim | skip
      exact ⟨e.1, fun i x y hx hy => eqv_down (a2 x (List.mem_of_getElem? hx)) (e.2 i x y hx hy)⟩
    · cases b <;> first | exact e.elim | skip
      intro q
      rcases e q with h1 | ⟨x, y, h1, h2, r⟩
      · exact .inl h1
      · refine .inr ⟨x, y, h1, h2, eqv_down ?_ r⟩
        cases q with
        | inl i => rw [look_inl] at h1; cases h1
        | inr s => rw [look_toK] at h1; exact a3 _ (lookup_mem h1)
theorem eqB_down {n k : Nat} {a b : D} (h : Vl n a) (hk : n ≤ k) : eqB k a b = eqB n a b :=
  eqB_eq (by rw [eqB_iff]; exact ⟨fun e => e.mono hk, fun e => eqv_down h e⟩)
theorem eqB_symm {n : Nat} {a b : D} : eqB n a b = eqB n b a := eqB_eq (by rw [eqB_iff]; exact ⟨fun e => e.symm, fun e => e.symm⟩)
theorem eqB_no {n : Nat} {a b : D} (h : ¬ Eqv n a b) : eqB n a b = false := eqB_eq ⟨fun z => (by cases z), fun z => absurd z h⟩
def Pl (s : Slot) : Prop := s = .un ∨ ∃ d, s = .val d
theorem Pl.par {s : Slot} (h : Pl s) : ∀ q, s ≠ .par q := fun q e => by rcases h with rfl | ⟨_, rfl⟩ <;> cases e
def rtV (c : Ads) : EM Res := (gLc (gRange1 (gCons (gC (.int 5)) gNil)) (.nm 2) [2] gYes (gFrz (gFn 2 (m__law_any_value c 6) (gCons (gVar 0) (gCons (gFrz (gFn 2 (m__law_any c) (gCons (gVar 0) (gCons (gFrz (gLst (gCons (gC (.int 0)) (gCons (gC (.int 1)) (gCons (gC (.int 2)) (gCons (gC (.int 4)) gNil)))))) gNil)))) gNil)))))
def rt_0 (c : Ads) : EM Fl := (gSet 1 (rtV c))
def rt_1 (c : Ads) : EM Fl := (gFor (gItems anyItems (gFz 1)) (.nm 3)
    (gSeq (gPar 4 5 (gCons (gFn 2 (m__law_copy c 6) (gCons (gVar 0) (gCons (gFz 3) gNil))) (gCons (gFn 2 (m__law_copy c 6) (gCons (gVar 0) (gCons (gFz 3) gNil))) gNil)))
    (gSeq (gIfS (gNot (gTru (gFn 2 (m__law_same c 9) (gCons (gFrz (gLst (gCons (gFrz (gFn 1 (m_is_value c) (gCons (gFz 3) gNil))) (gCons (gFrz (gFn 2 (m_same c) (gCons (gFz 3) (gCons (gFz 4) gNil)))) (gCons (gFrz (gFn 2 (m_same c) (gCons (gFz 4) (gCons (gFz 5) gNil)))) (gCons (gFrz (gFnK .swap 2 (m_same c) (gCons (gFz 3) (gCons (gFz 5) gNil)))) gNil)))))) (gCons (gFrz (gLst (gCons (gC (.bl true)) (gCons (gC (.bl true)) (gCons (gC (.bl true)) (gCons (gC (.bl true)) gNil)))))) gNil)))))
    (gRet (gC (.bl false)))
    gPass)
    (gSeq (gFor (gItems anyItems (gFrz (gFn 2 (m__law_otherwise c 6) (gCons (gVar 0) (gCons (gFz 3) gNil))))) (.nm 6)
    (gIfS (gNot (gTru (gFn 2 (m__law_same c 9) (gCons (gFrz (gLst (gCons (gFrz (gFn 2 (m_same c) (gCons (gFz 3) (gCons (gFz 6) gNil)))) (gCons (gFrz (gFn 2 (m_same c) (gCons (gFz 6) (gCons (gFz 3) gNil)))) (gCons (gFrz (gFn 2 (m_same c) (gCons (gFz 4) (gCons (gFz 6) gNil)))) gNil))))) (gCons (gFrz (gLst (gCons (gC (.bl false)) (gCons (gC (.bl false)) (gCons (gC (.bl false)) gNil))))) gNil)))))
    (gRet (gC (.bl false)))
    gPass))
    (gSeq (gFor (gItems anyItems (gTup (gCons (gFrz (gLst (gCons (gFz 3) gNil))) (gCons (gFrz (gDct [.inr "a"] [(gFrz (gLst (gCons (gFz 3) gNil)))])) (gCons (gTup (gCons (gFz 3) (gCons (gFrz (gLst gNil)) gNil))) (gCons (gFrz (gDct [.inl 1] [(gFz 3)])) gNil)))))) (.nm 7)
    (gSeq (gIfS (gNot (gTru (gFn 2 (m__law_same c 9) (gCons (gFrz (gHeardB 2 (hm__law_refused c) (tl__law_refused c) (gFrz (gFn 2 (m_same c) (gCons (gFz 7) (gCons (gFz 3) gNil)))))) (gCons (gFrz (gLst (gCons (gFz 7) gNil))) gNil)))))
    (gRet (gC (.bl false)))
    gPass)
    (gIfS (gNot (gTru (gFn 2 (m__law_same c 9) (gCons (gFrz (gHeardB 2 (hm__law_refused c) (tl__law_refused c) (gFrz (gFnM .id 1 1 (m_same c) (gCons (gFz 3) gNil) (gCons (gFz 7) gNil))))) (gCons (gFrz (gLst (gCons (gFz 7) gNil))) gNil)))))
    (gRet (gC (.bl false)))
    gPass)))
    (gIfS (gOr (gBl (gOp fNeK (gHeardB 2 (hm__law_refused c) (tl__law_refused c) (gFrz (gFn 2 (m_same c) (gCons (gFrz (gLst (gCons (gC (.int 1)) gNil))) (gCons (gFrz (gDct [.inl 2] [(gC (.int 2))])) gNil))))) (gLst (gCons (gFrz (gLst (gCons (gC (.int 1)) gNil))) gNil)))) (gTru (gFn 1 (m_is_value c) (gCons (gFrz (gLst (gCons (gFz 3) gNil))) gNil))))
    (gRet (gC (.bl false)))
    gPass))))))
def rt_2 (c : Ads) : EM Fl := (gFor (gItems anyItems (gFz 1)) (.nm 4)
    (gFor (gItems anyItems (gFz 1)) (.nm 5)
    (gIfS (gOr (gBl (gOp fNeK (gFn 2 (m_same c) (gCons (gFz 4) (gCons (gFz 5) gNil))) (gFn 2 (m__law_same c 9) (gCons (gFz 4) (gCons (gFz 5) gNil))))) (gBl (gOp fNeK (gFn 2 (m_same c) (gCons (gFz 4) (gCons (gFz 5) gNil))) (gFn 2 (m_same c) (gCons (gFz 5) (gCons (gFz 4) gNil))))))
    (gRet (gC (.bl false)))
    gPass)))
def rt_3 (c : Ads) : EM Fl := (gRet (gFnK .id 0 (m__law_bounds_right c) gNil))
theorem rt_eq (c : Ads) : b__law_right c = (gSeq (rt_0 c) (gSeq (rt_1 c) (gSeq (rt_2 c) (rt_3 c)))) := rfl
def ri_0 (c : Ads) : EM Fl := (gPar 4 5 (gCons (gFn 2 (m__law_copy c 6) (gCons (gVar 0) (gCons (gFz 3) gNil))) (gCons (gFn 2 (m__law_copy c 6) (gCons (gVar 0) (gCons (gFz 3) gNil))) gNil)))
def ri_1 (c : Ads) : EM Fl := (gIfS (gNot (gTru (gFn 2 (m__law_same c 9) (gCons (gFrz (gLst (gCons (gFrz (gFn 1 (m_is_value c) (gCons (gFz 3) gNil))) (gCons (gFrz (gFn 2 (m_same c) (gCons (gFz 3) (gCons (gFz 4) gNil)))) (gCons (gFrz (gFn 2 (m_same c) (gCons (gFz 4) (gCons (gFz 5) gNil)))) (gCons (gFrz (gFnK .swap 2 (m_same c) (gCons (gFz 3) (gCons (gFz 5) gNil)))) gNil)))))) (gCons (gFrz (gLst (gCons (gC (.bl true)) (gCons (gC (.bl true)) (gCons (gC (.bl true)) (gCons (gC (.bl true)) gNil)))))) gNil)))))
    (gRet (gC (.bl false)))
    gPass)
def ri_2 (c : Ads) : EM Fl := (gFor (gItems anyItems (gFrz (gFn 2 (m__law_otherwise c 6) (gCons (gVar 0) (gCons (gFz 3) gNil))))) (.nm 6)
    (gIfS (gNot (gTru (gFn 2 (m__law_same c 9) (gCons (gFrz (gLst (gCons (gFrz (gFn 2 (m_same c) (gCons (gFz 3) (gCons (gFz 6) gNil)))) (gCons (gFrz (gFn 2 (m_same c) (gCons (gFz 6) (gCons (gFz 3) gNil)))) (gCons (gFrz (gFn 2 (m_same c) (gCons (gFz 4) (gCons (gFz 6) gNil)))) gNil))))) (gCons (gFrz (gLst (gCons (gC (.bl false)) (gCons (gC (.bl false)) (gCons (gC (.bl false)) gNil))))) gNil)))))
    (gRet (gC (.bl false)))
    gPass))
def ri_3 (c : Ads) : EM Fl := (gFor (gItems anyItems (gTup (gCons (gFrz (gLst (gCons (gFz 3) gNil))) (gCons (gFrz (gDct [.inr "a"] [(gFrz (gLst (gCons (gFz 3) gNil)))])) (gCons (gTup (gCons (gFz 3) (gCons (gFrz (gLst gNil)) gNil))) (gCons (gFrz (gDct [.inl 1] [(gFz 3)])) gNil)))))) (.nm 7)
    (gSeq (gIfS (gNot (gTru (gFn 2 (m__law_same c 9) (gCons (gFrz (gHeardB 2 (hm__law_refused c) (tl__law_refused c) (gFrz (gFn 2 (m_same c) (gCons (gFz 7) (gCons (gFz 3) gNil)))))) (gCons (gFrz (gLst (gCons (gFz 7) gNil))) gNil)))))
    (gRet (gC (.bl false)))
    gPass)
    (gIfS (gNot (gTru (gFn 2 (m__law_same c 9) (gCons (gFrz (gHeardB 2 (hm__law_refused c) (tl__law_refused c) (gFrz (gFnM .id 1 1 (m_same c) (gCons (gFz 3) gNil) (gCons (gFz 7) gNil))))) (gCons (gFrz (gLst (gCons (gFz 7) gNil))) gNil)))))
    (gRet (gC (.bl false)))
    gPass)))
def ri_4 (c : Ads) : EM Fl := (gIfS (gOr (gBl (gOp fNeK (gHeardB 2 (hm__law_refused c) (tl__law_refused c) (gFrz (gFn 2 (m_same c) (gCons (gFrz (gLst (gCons (gC (.int 1)) gNil))) (gCons (gFrz (gDct [.inl 2] [(gC (.int 2))])) gNil))))) (gLst (gCons (gFrz (gLst (gCons (gC (.int 1)) gNil))) gNil)))) (gTru (gFn 1 (m_is_value c) (gCons (gFrz (gLst (gCons (gFz 3) gNil))) gNil))))
    (gRet (gC (.bl false)))
    gPass)
theorem ri_eq (c : Ads) : (gSeq (gPar 4 5 (gCons (gFn 2 (m__law_copy c 6) (gCons (gVar 0) (gCons (gFz 3) gNil))) (gCons (gFn 2 (m__law_copy c 6) (gCons (gVar 0) (gCons (gFz 3) gNil))) gNil)))
    (gSeq (gIfS (gNot (gTru (gFn 2 (m__law_same c 9) (gCons (gFrz (gLst (gCons (gFrz (gFn 1 (m_is_value c) (gCons (gFz 3) gNil))) (gCons (gFrz (gFn 2 (m_same c) (gCons (gFz 3) (gCons (gFz 4) gNil)))) (gCons (gFrz (gFn 2 (m_same c) (gCons (gFz 4) (gCons (gFz 5) gNil)))) (gCons (gFrz (gFnK .swap 2 (m_same c) (gCons (gFz 3) (gCons (gFz 5) gNil)))) gNil)))))) (gCons (gFrz (gLst (gCons (gC (.bl true)) (gCons (gC (.bl true)) (gCons (gC (.bl true)) (gCons (gC (.bl true)) gNil)))))) gNil)))))
    (gRet (gC (.bl false)))
    gPass)
    (gSeq (gFor (gItems anyItems (gFrz (gFn 2 (m__law_otherwise c 6) (gCons (gVar 0) (gCons (gFz 3) gNil))))) (.nm 6)
    (gIfS (gNot (gTru (gFn 2 (m__law_same c 9) (gCons (gFrz (gLst (gCons (gFrz (gFn 2 (m_same c) (gCons (gFz 3) (gCons (gFz 6) gNil)))) (gCons (gFrz (gFn 2 (m_same c) (gCons (gFz 6) (gCons (gFz 3) gNil)))) (gCons (gFrz (gFn 2 (m_same c) (gCons (gFz 4) (gCons (gFz 6) gNil)))) gNil))))) (gCons (gFrz (gLst (gCons (gC (.bl false)) (gCons (gC (.bl false)) (gCons (gC (.bl false)) gNil))))) gNil)))))
    (gRet (gC (.bl false)))
    gPass))
    (gSeq (gFor (gItems anyItems (gTup (gCons (gFrz (gLst (gCons (gFz 3) gNil))) (gCons (gFrz (gDct [.inr "a"] [(gFrz (gLst (gCons (gFz 3) gNil)))])) (gCons (gTup (gCons (gFz 3) (gCons (gFrz (gLst gNil)) gNil))) (gCons (gFrz (gDct [.inl 1] [(gFz 3)])) gNil)))))) (.nm 7)
    (gSeq (gIfS (gNot (gTru (gFn 2 (m__law_same c 9) (gCons (gFrz (gHeardB 2 (hm__law_refused c) (tl__law_refused c) (gFrz (gFn 2 (m_same c) (gCons (gFz 7) (gCons (gFz 3) gNil)))))) (gCons (gFrz (gLst (gCons (gFz 7) gNil))) gNil)))))
    (gRet (gC (.bl false)))
    gPass)
    (gIfS (gNot (gTru (gFn 2 (m__law_same c 9) (gCons (gFrz (gHeardB 2 (hm__law_refused c) (tl__law_refused c) (gFrz (gFnM .id 1 1 (m_same c) (gCons (gFz 3) gNil) (gCons (gFz 7) gNil))))) (gCons (gFrz (gLst (gCons (gFz 7) gNil))) gNil)))))
    (gRet (gC (.bl false)))
    gPass)))
    (gIfS (gOr (gBl (gOp fNeK (gHeardB 2 (hm__law_refused c) (tl__law_refused c) (gFrz (gFn 2 (m_same c) (gCons (gFrz (gLst (gCons (gC (.int 1)) gNil))) (gCons (gFrz (gDct [.inl 2] [(gC (.int 2))])) gNil))))) (gLst (gCons (gFrz (gLst (gCons (gC (.int 1)) gNil))) gNil)))) (gTru (gFn 1 (m_is_value c) (gCons (gFrz (gLst (gCons (gFz 3) gNil))) gNil))))
    (gRet (gC (.bl false)))
    gPass))))) = (gSeq (ri_0 c) (gSeq (ri_1 c) (gSeq (ri_2 c) (gSeq (ri_3 c) (ri_4 c))))) := rfl
theorem rt_0_ok (c : Ads) {k : Nat} {m : Mo} (w : WOk k m) (hk : k ≤ 1000000) : ∃ vs m', rt_0 c [.par m, .un, .un, .un, .un, .un, .un, .un] = some (.ok .nx [.par m', .own (.l vs), .un, .un, .un, .un, .un, .un]) ∧ vs.length = 5 ∧ (∀ v ∈ vs, VlW 5 4 v) ∧ WOk (k + 130000) m' := by
  obtain ⟨acc, m3, e3, l3, j1, w3⟩ := lc_draw 2 (gi := (gRange1 (gCons (gC (.int 5)) gNil))) (ge := (gFrz (gFn 2 (m__law_any_value c 6) (gCons (gVar 0) (gCons (gFrz (gFn 2 (m__law_any c) (gCons (gVar 0) (gCons (gFrz (gLst (gCons (gC (.int 0)) (gCons (gC (.int 1)) (gCons (gC (.int 2)) (gCons (gC (.int 4)) gNil)))))) gNil)))) gNil))))) (ρ1 := [.par m, .un, .un, .un, .un, .un, .un, .un])
    (rest := [.un, .un, .un, .un, .un, .un, .un]) (m := m) (upto 5) (fun acc m => (∀ x ∈ acc, VlW 5 4 x) ∧ WOk (k + acc.length * 26000) m) (by decide) (by simp) (by simp)
    (range_ok (k := 5) (by simp [gSeq, gIfS, gBl, gOp, gVar, gC, EM.bind, EM.pure, EM.lift, op2, op1, gUn, view, moAt, Slot.mo?, Mo.view, fIx, fII, gAsg, gCall, M.gCons, M.gNil, consM, opL, views, aliveR, gdTup, gdCons, gdSub, gdNil, Tg.bind, Tg.binds, setV, putMo, gRet, gPass, M.gSet, setM, storeR, gFz, gFrz, M.gLst, M.gTup, valsR, gSl, slM, gPt, gNoP, fSl, gAnd, gOr, gNot, gTru, truM, tru, gAndV, gOrV, gNotV, stays, gIf, gDrop, gRcv, isL, gApp, gMeth, methM, tyD, gFn, callM, argsOf, argOf, brws, nodupN, putBack, Ret.res, gFnK, allVal, Perm.swap, Perm.id, swapL, gChain, gChain3, blM, gRaise, fAdd, fSub, fLt, fInt, fLen, fDivmod, fMod, fFdiv, fMax2, fIsi, isB, gPar, fEq, fNe, eqM, eqS, keyD, gItems, itemsM, tupItems, lstItems, gFor, gEnum, gRange1, sizeLine, noE, anyItems, dctItems, gDct, gDct0, gDctE, flatP, M.pairD, gAll, gFnM, fEqK, fNeK, fMulS, fStrB, fTuple, fDict, gIsT, isAny, fMul, gYes, gNever, finR, gHeardB, atI, ixN]) (by omega) (by omega)) (by rw [upto_len, sizeLine_eq]; omega) ⟨fun x hx => (by cases hx), by simpa using w⟩ (by
    rintro acc m d hd ⟨j1, w3⟩
    have hl : acc.length < (upto 5).length := (List.getElem?_eq_some_iff.mp hd).1
    rw [upto_len] at hl
    obtain ⟨q, m1, e1, hq, w1⟩ := any_ok c (ds := [.int 0, .int 1, .int 2, .int 4]) w3 (by omega) (by simp) (by simp)
    have hq' : ∃ n : Nat, q = .int (n : Int) ∧ n ≤ 4 := by
      simp at hq
      rcases hq with rfl | rfl | rfl | rfl
      · exact ⟨0, rfl, by omega⟩
      · exact ⟨1, rfl, by omega⟩
      · exact ⟨2, rfl, by omega⟩
      · exact ⟨4, rfl, by omega⟩
    obtain ⟨n, rfl, hn⟩ := hq'
    have dn : Dn n ≤ 25600 := by
      have : n = 0 ∨ n = 1 ∨ n = 2 ∨ n = 3 ∨ n = 4 := by omega
      rcases this with rfl | rfl | rfl | rfl | rfl <;> decide
    obtain ⟨r, d', m4, e4, rv, v4, w4⟩ := value_ok c n 6 _ m1 (by omega) (by omega) w1 (by omega)
    refine ⟨d', m4, ?_, fun x hx => ?_, w4.mono (by rw [List.length_append, List.length_singleton, Nat.succ_mul]; omega)⟩
    · rcases rv with rfl | ⟨kvs, rfl, rfl⟩ <;> simp [gSeq, gIfS, gBl, gOp, gVar, gC, EM.bind, EM.pure, EM.lift, op2, op1, gUn, view, moAt, Slot.mo?, Mo.view, fIx, fII, gAsg, gCall, M.gCons, M.gNil, consM, opL, views, aliveR, gdTup, gdCons, gdSub, gdNil, Tg.bind, Tg.binds, setV, putMo, gRet, gPass, M.gSet, setM, storeR, gFz, gFrz, M.gLst, M.gTup, valsR, gSl, slM, gPt, gNoP, fSl, gAnd, gOr, gNot, gTru, truM, tru, gAndV, gOrV, gNotV, stays, gIf, gDrop, gRcv, isL, gApp, gMeth, methM, tyD, gFn, callM, argsOf, argOf, brws, nodupN, putBack, Ret.res, gFnK, allVal, Perm.swap, Perm.id, swapL, gChain, gChain3, blM, gRaise, fAdd, fSub, fLt, fInt, fLen, fDivmod, fMod, fFdiv, fMax2, fIsi, isB, gPar, fEq, fNe, eqM, eqS, keyD, gItems, itemsM, tupItems, lstItems, gFor, gEnum, gRange1, sizeLine, noE, anyItems, dctItems, gDct, gDct0, gDctE, flatP, M.pairD, gAll, gFnM, fEqK, fNeK, fMulS, fStrB, fTuple, fDict, gIsT, isAny, fMul, gYes, gNever, finR, gHeardB, atI, ixN, e1, e4]
    · rcases List.mem_append.mp hx with hx | hx
      · exact j1 x hx
      · rw [List.mem_singleton.mp hx]; exact v4.mono hn)
  rw [upto_len] at l3
  have l3' : acc.length = 5 := l3
  refine ⟨acc, m3, ?_, l3', j1, w3.mono (by rw [l3']; omega)⟩
  have e3' : rtV c [.par m, .un, .un, .un, .un, .un, .un, .un] = some (.ok (.new (.l acc)) [.par m3, .un, .un, .un, .un, .un, .un, .un]) := e3
  unfold rt_0
  simp [gSeq, gIfS, gBl, gOp, gVar, gC, EM.bind, EM.pure, EM.lift, op2, op1, gUn, view, moAt, Slot.mo?, Mo.view, fIx, fII, gAsg, gCall, M.gCons, M.gNil, consM, opL, views, aliveR, gdTup, gdCons, gdSub, gdNil, Tg.bind, Tg.binds, setV, putMo, gRet, gPass, M.gSet, setM, storeR, gFz, gFrz, M.gLst, M.gTup, valsR, gSl, slM, gPt, gNoP, fSl, gAnd, gOr, gNot, gTru, truM, tru, gAndV, gOrV, gNotV, stays, gIf, gDrop, gRcv, isL, gApp, gMeth, methM, tyD, gFn, callM, argsOf, argOf, brws, nodupN, putBack, Ret.res, gFnK, allVal, Perm.swap, Perm.id, swapL, gChain, gChain3, blM, gRaise, fAdd, fSub, fLt, fInt, fLen, fDivmod, fMod, fFdiv, fMax2, fIsi, isB, gPar, fEq, fNe, eqM, eqS, keyD, gItems, itemsM, tupItems, lstItems, gFor, gEnum, gRange1, sizeLine, noE, anyItems, dctItems, gDct, gDct0, gDctE, flatP, M.pairD, gAll, gFnM, fEqK, fNeK, fMulS, fStrB, fTuple, fDict, gIsT, isAny, fMul, gYes, gNever, finR, gHeardB, atI, ixN, e3']
/-- the copies -/
theorem ri_01_ok (c : Ads) {k : Nat} {m : Mo} {vs : List D} {v : D} {x4 x5 x6 x7 : Slot} (p4 : Pl x4) (p5 : Pl x5) (w : WOk k m) (hk : k ≤ 10000000) (hv : Vl 4 v) : ∃ d1 d2 m', gSeq (ri_0 c) (ri_1 c) [.par m, .val (.lst vs), .un, .val v, x4, x5, x6, x7] = some (.ok .nx [.par m', .val (.lst vs), .un, .val v, .val d1, .val d2, x6, x7]) ∧ Vl 4 d1 ∧ Eqv 4 v d1 ∧ WOk (k + 4000) m' := by
  have cn : Cn 4 = 1554 := by decide
  obtain ⟨r1, d1, m1, e1, rv1, v1, q1, w1⟩ := copy_ok c 4 6 k m v (by omega) hv w (by omega)
  obtain ⟨r2, d2, m2, e2, rv2, v2, q2, w2⟩ := copy_ok c 4 6 _ m1 v (by omega) hv w1 (by omega)
  refine ⟨d1, d2, m2, ?_, v1, q1, w2.mono (by omega)⟩
  have h0 := isv_ok c hv (by omega)
  have s1 := same_ok c (hv.mono (k := 6) (by omega)) (v1.mono (k := 6) (by omega))
  have s2 := same_ok c (v1.mono (k := 6) (by omega)) (v2.mono (k := 6) (by omega))
  have s3 := same_ok c (v2.mono (k := 6) (by omega)) (hv.mono (k := 6) (by omega))
  rw [eqB_iff.mpr (q1.mono (by omega))] at s1
  rw [eqB_iff.mpr ((q1.symm.trans q2).mono (by omega))] at s2
  rw [eqB_iff.mpr (q2.symm.mono (by omega))] at s3
  have l := lst_row c (n := 0) (ds := [.bl true, .bl true, .bl true, .bl true]) (fun d hd => by simp at hd; rw [hd]; exact lst_bl c true) (by simp) (R := .lst) (.inl rfl) 9 (by omega)
  have a0 : ∃ s1 s2, (s1 = .val d1 ∨ ∃ kvs, s1 = .own (.d kvs) ∧ d1 = .dct kvs) ∧ (s2 = .val d2 ∨ ∃ kvs, s2 = .own (.d kvs) ∧ d2 = .dct kvs) ∧ ri_0 c [.par m, .val (.lst vs), .un, .val v, x4, x5, x6, x7] = some (.ok .nx [.par m2, .val (.lst vs), .un, .val v, s1, s2, x6, x7]) := by
    unfold ri_0
    rcases rv1 with rfl | ⟨kv1, rfl, rfl⟩ <;> rcases rv2 with rfl | ⟨kv2, rfl, rfl⟩
    · exact ⟨_, _, .inl rfl, .inl rfl, by rcases p4 with rfl | ⟨_, rfl⟩ <;> rcases p5 with rfl | ⟨_, rfl⟩ <;> simp [gSeq, gIfS, gBl, gOp, gVar, gC, EM.bind, EM.pure, EM.lift, op2, op1, gUn, view, moAt, Slot.mo?, Mo.view, fIx, fII, gAsg, gCall, M.gCons, M.gNil, consM, opL, views, aliveR, gdTup, gdCons, gdSub, gdNil, Tg.bind, Tg.binds, setV, putMo, gRet, gPass, M.gSet, setM, storeR, gFz, gFrz, M.gLst, M.gTup, valsR, gSl, slM, gPt, gNoP, fSl, gAnd, gOr, gNot, gTru, truM, tru, gAndV, gOrV, gNotV, stays, gIf, gDrop, gRcv, isL, gApp, gMeth, methM, tyD, gFn, callM, argsOf, argOf, brws, nodupN, putBack, Ret.res, gFnK, allVal, Perm.swap, Perm.id, swapL, gChain, gChain3, blM, gRaise, fAdd, fSub, fLt, fInt, fLen, fDivmod, fMod, fFdiv, fMax2, fIsi, isB, gPar, fEq, fNe, eqM, eqS, keyD, gItems, itemsM, tupItems, lstItems, gFor, gEnum, gRange1, sizeLine, noE, anyItems, dctItems, gDct, gDct0, gDctE, flatP, M.pairD, gAll, gFnM, fEqK, fNeK, fMulS, fStrB, fTuple, fDict, gIsT, isAny, fMul, gYes, gNever, finR, gHeardB, atI, ixN, e1, e2]⟩
    · exact ⟨_, _, .inl rfl, .inr ⟨_, rfl, rfl⟩, by rcases p4 with rfl | ⟨_, rfl⟩ <;> rcases p5 with rfl | ⟨_, rfl⟩ <;> simp [gSeq, gIfS, gBl, gOp, gVar, gC, EM.bind, EM.pure, EM.lift, op2, op1, gUn, view, moAt, Slot.mo?, Mo.view, fIx, fII, gAsg, gCall, M.gCons, M.gNil, consM, opL, views, aliveR, gdTup, gdCons, gdSub, gdNil, Tg.bind, Tg.binds, setV, putMo, gRet, gPass, M.gSet, setM, storeR, gFz, gFrz, M.gLst, M.gTup, valsR, gSl, slM, gPt, gNoP, fSl, gAnd, gOr, gNot, gTru, truM, tru, gAndV, gOrV, gNotV, stays, gIf, gDrop, gRcv, isL, gApp, gMeth, methM, tyD, gFn, callM, argsOf, argOf, brws, nodupN, putBack, Ret.res, gFnK, allVal, Perm.swap, Perm.id, swapL, gChain, gChain3, blM, gRaise, fAdd, fSub, fLt, fInt, fLen, fDivmod, fMod, fFdiv, fMax2, fIsi, isB, gPar, fEq, fNe, eqM, eqS, keyD, gItems, itemsM, tupItems, lstItems, gFor, gEnum, gRange1, sizeLine, noE, anyItems, dctItems, gDct, gDct0, gDctE, flatP, M.pairD, gAll, gFnM, fEqK, fNeK, fMulS, fStrB, fTuple, fDict, gIsT, isAny, fMul, gYes, gNever, finR, gHeardB, atI, ixN, e1, e2]⟩
    · exact ⟨_, _, .inr ⟨_, rfl, rfl⟩, .inl rfl, by rcases p4 with rfl | ⟨_, rfl⟩ <;> rcases p5 with rfl | ⟨_, rfl⟩ <;> simp [gSeq, gIfS, gBl, gOp, gVar, gC, EM.bind, EM.pure, EM.lift, op2, op1, gUn, view, moAt, Slot.mo?, Mo.view, fIx, fII, gAsg, gCall, M.gCons, M.gNil, consM, opL, views, aliveR, gdTup, gdCons, gdSub, gdNil, Tg.bind, Tg.binds, setV, putMo, gRet, gPass, M.gSet, setM, storeR, gFz, gFrz, M.gLst, M.gTup, valsR, gSl, slM, gPt, gNoP, fSl, gAnd, gOr, gNot, gTru, truM, tru, gAndV, gOrV, gNotV, stays, gIf, gDrop, gRcv, isL, gApp, gMeth, methM, tyD, gFn, callM, argsOf, argOf, brws, nodupN, putBack, Ret.res, gFnK, allVal, Perm.swap, Perm.id, swapL, gChain, gChain3, blM, gRaise, fAdd, fSub, fLt, fInt, fLen, fDivmod, fMod, fFdiv, fMax2, fIsi, isB, gPar, fEq, fNe, eqM, eqS, keyD, gItems, itemsM, tupItems, lstItems, gFor, gEnum, gRange1, sizeLine, noE, anyItems, dctItems, gDct, gDct0, gDctE, flatP, M.pairD, gAll, gFnM, fEqK, fNeK, fMulS, fStrB, fTuple, fDict, gIsT, isAny, fMul, gYes, gNever, finR, gHeardB, atI, ixN, e1, e2]⟩
    · exact ⟨_, _, .inr ⟨_, rfl, rfl⟩, .inr ⟨_, rfl, rfl⟩, by rcases p4 with rfl | ⟨_, rfl⟩ <;> rcases p5 with rfl | ⟨_, rfl⟩ <;> simp [gSeq, gIfS, gBl, gOp, gVar, gC, EM.bind, EM.pure, EM.lift, op2, op1, gUn, view, moAt, Slot.mo?, Mo.view, fIx, fII, gAsg, gCall, M.gCons, M.gNil, consM, opL, views, aliveR, gdTup, gdCons, gdSub, gdNil, Tg.bind, Tg.binds, setV, putMo, gRet, gPass, M.gSet, setM, storeR, gFz, gFrz, M.gLst, M.gTup, valsR, gSl, slM, gPt, gNoP, fSl, gAnd, gOr, gNot, gTru, truM, tru, gAndV, gOrV, gNotV, stays, gIf, gDrop, gRcv, isL, gApp, gMeth, methM, tyD, gFn, callM, argsOf, argOf, brws, nodupN, putBack, Ret.res, gFnK, allVal, Perm.swap, Perm.id, swapL, gChain, gChain3, blM, gRaise, fAdd, fSub, fLt, fInt, fLen, fDivmod, fMod, fFdiv, fMax2, fIsi, isB, gPar, fEq, fNe, eqM, eqS, keyD, gItems, itemsM, tupItems, lstItems, gFor, gEnum, gRange1, sizeLine, noE, anyItems, dctItems, gDct, gDct0, gDctE, flatP, M.pairD, gAll, gFnM, fEqK, fNeK, fMulS, fStrB, fTuple, fDict, gIsT, isAny, fMul, gYes, gNever, finR, gHeardB, atI, ixN, e1, e2]⟩
  obtain ⟨t1, t2, c1, c2, a0⟩ := a0
  refine (seq_nx a0).trans ?_
  unfold ri_1
  rcases c1 with rfl | ⟨kv1, rfl, rfl⟩ <;> rcases c2 with rfl | ⟨kv2, rfl, rfl⟩ <;> simp [gSeq, gIfS, gBl, gOp, gVar, gC, EM.bind, EM.pure, EM.lift, op2, op1, gUn, view, moAt, Slot.mo?, Mo.view, fIx, fII, gAsg, gCall, M.gCons, M.gNil, consM, opL, views, aliveR, gdTup, gdCons, gdSub, gdNil, Tg.bind, Tg.binds, setV, putMo, gRet, gPass, M.gSet, setM, storeR, gFz, gFrz, M.gLst, M.gTup, valsR, gSl, slM, gPt, gNoP, fSl, gAnd, gOr, gNot, gTru, truM, tru, gAndV, gOrV, gNotV, stays, gIf, gDrop, gRcv, isL, gApp, gMeth, methM, tyD, gFn, callM, argsOf, argOf, brws, nodupN, putBack, Ret.res, gFnK, allVal, Perm.swap, Perm.id, swapL, gChain, gChain3, blM, gRaise, fAdd, fSub, fLt, fInt, fLen, fDivmod, fMod, fFdiv, fMax2, fIsi, isB, gPar, fEq, fNe, eqM, eqS, keyD, gItems, itemsM, tupItems, lstItems, gFor, gEnum, gRange1, sizeLine, noE, anyItems, dctItems, gDct, gDct0, gDctE, flatP, M.pairD, gAll, gFnM, fEqK, fNeK, fMulS, fStrB, fTuple, fDict, gIsT, isAny, fMul, gYes, gNever, finR, gHeardB, atI, ixN, h0, s1, s2, s3, l]
/-- the others -/
theorem ri_2_ok (c : Ads) {k : Nat} {m : Mo} {vs : List D} {v d1 d2 : D} {x6 x7 : Slot} (p6 : Pl x6) (w : WOk k m) (hk : k ≤ 10000000) (hv : VlW 5 4 v) (v1 : Vl 4 d1) (q1 : Eqv 4 v d1) : ∃ m' x6', ri_2 c [.par m, .val (.lst vs), .un, .val v, .val d1, .val d2, x6, x7] = some (.ok .nx [.par m', .val (.lst vs), .un, .val v, .val d1, .val d2, x6', x7]) ∧ Pl x6' ∧ WOk (k + 100) m' := by
  have on : On 4 = 30 := by decide
  have wv : Vl 4 v := hv.wide (by omega)
  obtain ⟨ds, m1, e1, ho, _, _, w1⟩ := otherwise_ok c 4 6 k m v (by omega) hv w (by omega)
  have l := lst_row c (n := 0) (ds := [.bl false, .bl false, .bl false]) (fun d hd => by simp at hd; rw [hd]; exact lst_bl c false) (by simp) (R := .lst) (.inl rfl) 9 (by omega)
  obtain ⟨ρ', e2, y, rfl, py⟩ := loopF_inv (t := .nm 6) (body := (gIfS (gNot (gTru (gFn 2 (m__law_same c 9) (gCons (gFrz (gLst (gCons (gFrz (gFn 2 (m_same c) (gCons (gFz 3) (gCons (gFz 6) gNil)))) (gCons (gFrz (gFn 2 (m_same c) (gCons (gFz 6) (gCons (gFz 3) gNil)))) (gCons (gFrz (gFn 2 (m_same c) (gCons (gFz 4) (gCons (gFz 6) gNil)))) gNil))))) (gCons (gFrz (gLst (gCons (gC (.bl false)) (gCons (gC (.bl false)) (gCons (gC (.bl false)) gNil))))) gNil)))))
    (gRet (gC (.bl false)))
    gPass))
    (fun j ρ => ∃ y, ρ = [.par m1, .val (.lst vs), .un, .val v, .val d1, .val d2, y, x7] ∧ Pl y)
    ds 0 [.par m1, .val (.lst vs), .un, .val v, .val d1, .val d2, x6, x7] (by
    rintro j ρ d hd hj ⟨y, rfl, py⟩
    obtain ⟨o1, o2⟩ := ho d hd
    have s1 := same_ok c (wv.mono (k := 6) (by omega)) (o1.mono (k := 6) (by omega))
    have s2 := same_ok c (o1.mono (k := 6) (by omega)) (wv.mono (k := 6) (by omega))
    have s3 := same_ok c (v1.mono (k := 6) (by omega)) (o1.mono (k := 6) (by omega))
    rw [eqB_no (o2 6)] at s1
    rw [eqB_no (fun z => o2 6 z.symm)] at s2
    rw [eqB_no (fun z => o2 6 ((q1.mono (by omega)).trans z))] at s3
    refine ⟨[.par m1, .val (.lst vs), .un, .val v, .val d1, .val d2, .val d, x7], [.par m1, .val (.lst vs), .un, .val v, .val d1, .val d2, .val d, x7], ?_, .inl ?_, _, rfl, .inr ⟨_, rfl⟩⟩
    · rcases py with rfl | ⟨_, rfl⟩ <;> rfl
    · simp [gSeq, gIfS, gBl, gOp, gVar, gC, EM.bind, EM.pure, EM.lift, op2, op1, gUn, view, moAt, Slot.mo?, Mo.view, fIx, fII, gAsg, gCall, M.gCons, M.gNil, consM, opL, views, aliveR, gdTup, gdCons, gdSub, gdNil, Tg.bind, Tg.binds, setV, putMo, gRet, gPass, M.gSet, setM, storeR, gFz, gFrz, M.gLst, M.gTup, valsR, gSl, slM, gPt, gNoP, fSl, gAnd, gOr, gNot, gTru, truM, tru, gAndV, gOrV, gNotV, stays, gIf, gDrop, gRcv, isL, gApp, gMeth, methM, tyD, gFn, callM, argsOf, argOf, brws, nodupN, putBack, Ret.res, gFnK, allVal, Perm.swap, Perm.id, swapL, gChain, gChain3, blM, gRaise, fAdd, fSub, fLt, fInt, fLen, fDivmod, fMod, fFdiv, fMax2, fIsi, isB, gPar, fEq, fNe, eqM, eqS, keyD, gItems, itemsM, tupItems, lstItems, gFor, gEnum, gRange1, sizeLine, noE, anyItems, dctItems, gDct, gDct0, gDctE, flatP, M.pairD, gAll, gFnM, fEqK, fNeK, fMulS, fStrB, fTuple, fDict, gIsT, isAny, fMul, gYes, gNever, finR, gHeardB, atI, ixN, s1, s2, s3, l]) ⟨x6, rfl, p6⟩
  refine ⟨m1, y, ?_, py, w1.mono (by omega)⟩
  unfold ri_2
  exact (for_at (ds := ds) (ρ1 := [.par m1, .val (.lst vs), .un, .val v, .val d1, .val d2, x6, x7]) (items_ok (d := .lst ds) (by simp [gSeq, gIfS, gBl, gOp, gVar, gC, EM.bind, EM.pure, EM.lift, op2, op1, gUn, view, moAt, Slot.mo?, Mo.view, fIx, fII, gAsg, gCall, M.gCons, M.gNil, consM, opL, views, aliveR, gdTup, gdCons, gdSub, gdNil, Tg.bind, Tg.binds, setV, putMo, gRet, gPass, M.gSet, setM, storeR, gFz, gFrz, M.gLst, M.gTup, valsR, gSl, slM, gPt, gNoP, fSl, gAnd, gOr, gNot, gTru, truM, tru, gAndV, gOrV, gNotV, stays, gIf, gDrop, gRcv, isL, gApp, gMeth, methM, tyD, gFn, callM, argsOf, argOf, brws, nodupN, putBack, Ret.res, gFnK, allVal, Perm.swap, Perm.id, swapL, gChain, gChain3, blM, gRaise, fAdd, fSub, fLt, fInt, fLen, fDivmod, fMod, fFdiv, fMax2, fIsi, isB, gPar, fEq, fNe, eqM, eqS, keyD, gItems, itemsM, tupItems, lstItems, gFor, gEnum, gRange1, sizeLine, noE, anyItems, dctItems, gDct, gDct0, gDctE, flatP, M.pairD, gAll, gFnM, fEqK, fNeK, fMulS, fStrB, fTuple, fDict, gIsT, isAny, fMul, gYes, gNever, finR, gHeardB, atI, ixN, e1]) rfl)).trans e2
/-- the odd ones -/
def odds (v : D) : List D := [.lst [v], .dct [(.inr "a", .lst [v])], .tup [v, .lst []], .dct [(.inl 1, v)]]
theorem odds_ok (c : Ads) {v d : D} (hv : Vl 4 v) (h : d ∈ odds v) : m_is_value c [.val d] = some (.ok (.val (.bl false)) [.val d]) ∧ LsT c 7 d := by
  have lv := lst_vl c hv (by omega)
  have l1 : LsT c 5 (.lst [v]) := lst_row c (n := 4) (R := .lst) (fun d hd => by rw [List.mem_singleton.mp hd]; exact lv) (by simp) (.inl rfl)
  have l0 : LsT c 4 (.lst []) := (lst_row c (n := 0) (R := .lst) (ds := []) (fun d hd => by cases hd) (by simp) (.inl rfl)).mono (by omega)
  simp only [odds, List.mem_cons, List.not_mem_nil, or_false] at h
  rcases h with rfl | rfl | rfl | rfl
  · exact ⟨isv_list c _, l1.mono (by omega)⟩
  · refine ⟨isv_dlist c _, (lst_dct c (n := 5) l1 ?_ ?_ rfl).mono (by omega)⟩
    · kernel_rfl
    · show fEqK (.lst [.str "a"]) (.lst [.str "a"]) = _
      have := fEqK_strs (xs := ["a"]) (ys := ["a"]) (nms_ok fun s hs => by rw [List.mem_singleton.mp hs]; exact nm_a) (nms_ok fun s hs => by rw [List.mem_singleton.mp hs]; exact nm_a)
      simpa using this
  · exact ⟨isv_tlist c (hv.mono (by omega)), (lst_row c (n := 4) (R := .tup) (fun d hd => by simp at hd; rcases hd with rfl | rfl <;> assumption) (by simp) (.inr rfl)).mono (by omega)⟩
  · refine ⟨isv_dint c _, (lst_dct c (n := 4) lv ?_ ?_ rfl).mono (by omega)⟩
    · kernel_rfl
    · show fEqK (.lst [.int 1]) (.lst [.int 1]) = _
      have := fEqK_ints (xs := [1]) (ys := [1])
      simpa using this
theorem ri_3_ok (c : Ads) {m : Mo} {vs : List D} {v d1 d2 : D} {x6 x7 : Slot} (p6 : Pl x6) (p7 : Pl x7) (hv : Vl 4 v) : ∃ x7', ri_3 c [.par m, .val (.lst vs), .un, .val v, .val d1, .val d2, x6, x7] = some (.ok .nx [.par m, .val (.lst vs), .un, .val v, .val d1, .val d2, x6, x7']) ∧ Pl x7' := by
  obtain ⟨ρ', e2, y, rfl, py⟩ := loopF_inv (t := .nm 7) (body := (gSeq (gIfS (gNot (gTru (gFn 2 (m__law_same c 9) (gCons (gFrz (gHeardB 2 (hm__law_refused c) (tl__law_refused c) (gFrz (gFn 2 (m_same c) (gCons (gFz 7) (gCons (gFz 3) gNil)))))) (gCons (gFrz (gLst (gCons (gFz 7) gNil))) gNil)))))
    (gRet (gC (.bl false)))
    gPass)
    (gIfS (gNot (gTru (gFn 2 (m__law_same c 9) (gCons (gFrz (gHeardB 2 (hm__law_refused c) (tl__law_refused c) (gFrz (gFnM .id 1 1 (m_same c) (gCons (gFz 3) gNil) (gCons (gFz 7) gNil))))) (gCons (gFrz (gLst (gCons (gFz 7) gNil))) gNil)))))
    (gRet (gC (.bl false)))
    gPass)))
    (fun j ρ => ∃ y, ρ = [.par m, .val (.lst vs), .un, .val v, .val d1, .val d2, x6, y] ∧ Pl y)
    (odds v) 0 [.par m, .val (.lst vs), .un, .val v, .val d1, .val d2, x6, x7] (by
    rintro j ρ d hd hj ⟨y, rfl, py⟩
    obtain ⟨o1, o2⟩ := odds_ok c hv hd
    have ne : noE [.par m, .val (.lst vs), .un, .val v, .val d1, .val d2, x6, .val d] = true := by
      rcases p6 with rfl | ⟨_, rfl⟩ <;> rfl
    have g1 : gFrz (gFn 2 (m_same c) (gCons (gFz 7) (gCons (gFz 3) gNil))) [.par m, .val (.lst vs), .un, .val v, .val d1, .val d2, x6, .val d] = some (.ex (.ref c.InvalidValue) [("value", d)] [.par m, .val (.lst vs), .un, .val v, .val d1, .val d2, x6, .val d]) := by
      have := same_ex c (a := d) (b := v) o1
      simp [gSeq, gIfS, gBl, gOp, gVar, gC, EM.bind, EM.pure, EM.lift, op2, op1, gUn, view, moAt, Slot.mo?, Mo.view, fIx, fII, gAsg, gCall, M.gCons, M.gNil, consM, opL, views, aliveR, gdTup, gdCons, gdSub, gdNil, Tg.bind, Tg.binds, setV, putMo, gRet, gPass, M.gSet, setM, storeR, gFz, gFrz, M.gLst, M.gTup, valsR, gSl, slM, gPt, gNoP, fSl, gAnd, gOr, gNot, gTru, truM, tru, gAndV, gOrV, gNotV, stays, gIf, gDrop, gRcv, isL, gApp, gMeth, methM, tyD, gFn, callM, argsOf, argOf, brws, nodupN, putBack, Ret.res, gFnK, allVal, Perm.swap, Perm.id, swapL, gChain, gChain3, blM, gRaise, fAdd, fSub, fLt, fInt, fLen, fDivmod, fMod, fFdiv, fMax2, fIsi, isB, gPar, fEq, fNe, eqM, eqS, keyD, gItems, itemsM, tupItems, lstItems, gFor, gEnum, gRange1, sizeLine, noE, anyItems, dctItems, gDct, gDct0, gDctE, flatP, M.pairD, gAll, gFnM, fEqK, fNeK, fMulS, fStrB, fTuple, fDict, gIsT, isAny, fMul, gYes, gNever, finR, gHeardB, atI, ixN, this]
    have g2 : gFrz (gFnM .id 1 1 (m_same c) (gCons (gFz 3) gNil) (gCons (gFz 7) gNil)) [.par m, .val (.lst vs), .un, .val v, .val d1, .val d2, x6, .val d] = some (.ex (.ref c.InvalidValue) [("value", d)] [.par m, .val (.lst vs), .un, .val v, .val d1, .val d2, x6, .val d]) := by
      have := same_ex2 c (a := v) (b := d) (hv.mono (by omega)) o1
      simp [gSeq, gIfS, gBl, gOp, gVar, gC, EM.bind, EM.pure, EM.lift, op2, op1, gUn, view, moAt, Slot.mo?, Mo.view, fIx, fII, gAsg, gCall, M.gCons, M.gNil, consM, opL, views, aliveR, gdTup, gdCons, gdSub, gdNil, Tg.bind, Tg.binds, setV, putMo, gRet, gPass, M.gSet, setM, storeR, gFz, gFrz, M.gLst, M.gTup, valsR, gSl, slM, gPt, gNoP, fSl, gAnd, gOr, gNot, gTru, truM, tru, gAndV, gOrV, gNotV, stays, gIf, gDrop, gRcv, isL, gApp, gMeth, methM, tyD, gFn, callM, argsOf, argOf, brws, nodupN, putBack, Ret.res, gFnK, allVal, Perm.swap, Perm.id, swapL, gChain, gChain3, blM, gRaise, fAdd, fSub, fLt, fInt, fLen, fDivmod, fMod, fFdiv, fMax2, fIsi, isB, gPar, fEq, fNe, eqM, eqS, keyD, gItems, itemsM, tupItems, lstItems, gFor, gEnum, gRange1, sizeLine, noE, anyItems, dctItems, gDct, gDct0, gDctE, flatP, M.pairD, gAll, gFnM, fEqK, fNeK, fMulS, fStrB, fTuple, fDict, gIsT, isAny, fMul, gYes, gNever, finR, gHeardB, atI, ixN, this]
    have h1 := refused_ok c ne g1
    have h2 := refused_ok c ne g2
    have l := lst_row c (n := 7) (ds := [d]) (fun x hx => by rw [List.mem_singleton.mp hx]; exact o2) (by simp) (R := .lst) (.inl rfl) 9 (by omega)
    refine ⟨[.par m, .val (.lst vs), .un, .val v, .val d1, .val d2, x6, .val d], [.par m, .val (.lst vs), .un, .val v, .val d1, .val d2, x6, .val d], ?_, .inl ?_, _, rfl, .inr ⟨_, rfl⟩⟩
    · rcases py with rfl | ⟨_, rfl⟩ <;> rfl
    · generalize gHeardB 2 (hm__law_refused c) (tl__law_refused c) (gFrz (gFn 2 (m_same c) (gCons (gFz 7) (gCons (gFz 3) gNil)))) = G1 at h1 ⊢
      generalize gHeardB 2 (hm__law_refused c) (tl__law_refused c) (gFrz (gFnM .id 1 1 (m_same c) (gCons (gFz 3) gNil) (gCons (gFz 7) gNil))) = G2 at h2 ⊢
      simp [gSeq, gIfS, gBl, gOp, gVar, gC, EM.bind, EM.pure, EM.lift, op2, op1, gUn, view, moAt, Slot.mo?, Mo.view, fIx, fII, gAsg, gCall, M.gCons, M.gNil, consM, opL, views, aliveR, gdTup, gdCons, gdSub, gdNil, Tg.bind, Tg.binds, setV, putMo, gRet, gPass, M.gSet, setM, storeR, gFz, gFrz, M.gLst, M.gTup, valsR, gSl, slM, gPt, gNoP, fSl, gAnd, gOr, gNot, gTru, truM, tru, gAndV, gOrV, gNotV, stays, gIf, gDrop, gRcv, isL, gApp, gMeth, methM, tyD, gFn, callM, argsOf, argOf, brws, nodupN, putBack, Ret.res, gFnK, allVal, Perm.swap, Perm.id, swapL, gChain, gChain3, blM, gRaise, fAdd, fSub, fLt, fInt, fLen, fDivmod, fMod, fFdiv, fMax2, fIsi, isB, gPar, fEq, fNe, eqM, eqS, keyD, gItems, itemsM, tupItems, lstItems, gFor, gEnum, gRange1, sizeLine, noE, anyItems, dctItems, gDct, gDct0, gDctE, flatP, M.pairD, gAll, gFnM, fEqK, fNeK, fMulS, fStrB, fTuple, fDict, gIsT, isAny, fMul, gYes, gNever, finR, gHeardB, atI, ixN, h1, h2, l]) ⟨x7, rfl, p7⟩
  refine ⟨y, ?_, py⟩
  unfold ri_3
  exact (for_at (ds := odds v) (ρ1 := [.par m, .val (.lst vs), .un, .val v, .val d1, .val d2, x6, x7]) (items_ok (d := .tup (odds v)) (by simp [gSeq, gIfS, gBl, gOp, gVar, gC, EM.bind, EM.pure, EM.lift, op2, op1, gUn, view, moAt, Slot.mo?, Mo.view, fIx, fII, gAsg, gCall, M.gCons, M.gNil, consM, opL, views, aliveR, gdTup, gdCons, gdSub, gdNil, Tg.bind, Tg.binds, setV, putMo, gRet, gPass, M.gSet, setM, storeR, gFz, gFrz, M.gLst, M.gTup, valsR, gSl, slM, gPt, gNoP, fSl, gAnd, gOr, gNot, gTru, truM, tru, gAndV, gOrV, gNotV, stays, gIf, gDrop, gRcv, isL, gApp, gMeth, methM, tyD, gFn, callM, argsOf, argOf, brws, nodupN, putBack, Ret.res, gFnK, allVal, Perm.swap, Perm.id, swapL, gChain, gChain3, blM, gRaise, fAdd, fSub, fLt, fInt, fLen, fDivmod, fMod, fFdiv, fMax2, fIsi, isB, gPar, fEq, fNe, eqM, eqS, keyD, gItems, itemsM, tupItems, lstItems, gFor, gEnum, gRange1, sizeLine, noE, anyItems, dctItems, gDct, gDct0, gDctE, flatP, M.pairD, gAll, gFnM, fEqK, fNeK, fMulS, fStrB, fTuple, fDict, gIsT, isAny, fMul, gYes, gNever, finR, gHeardB, atI, ixN, odds, mergeD, putD]) rfl)).trans e2
theorem ri_4_ok (c : Ads) {m : Mo} {vs : List D} {v d1 d2 : D} {x6 x7 : Slot} (p6 : Pl x6) (p7 : Pl x7) : ri_4 c [.par m, .val (.lst vs), .un, .val v, .val d1, .val d2, x6, x7] = some (.ok .nx [.par m, .val (.lst vs), .un, .val v, .val d1, .val d2, x6, x7]) := by
  have ne : noE [.par m, .val (.lst vs), .un, .val v, .val d1, .val d2, x6, x7] = true := by
    rcases p6 with rfl | ⟨_, rfl⟩ <;> rcases p7 with rfl | ⟨_, rfl⟩ <;> rfl
  have i1 := isv_list c [v]
  have g1 : gFrz (gFn 2 (m_same c) (gCons (gFrz (gLst (gCons (gC (.int 1)) gNil))) (gCons (gFrz (gDct [.inl 2] [(gC (.int 2))])) gNil))) [.par m, .val (.lst vs), .un, .val v, .val d1, .val d2, x6, x7] = some (.ex (.ref c.InvalidValue) [("value", .lst [.int 1])] [.par m, .val (.lst vs), .un, .val v, .val d1, .val d2, x6, x7]) := by
    have := same_ex c (a := .lst [.int 1]) (b := .dct (mergeD [] [(.inl 2, .int 2)])) (isv_list c _)
    simp [gSeq, gIfS, gBl, gOp, gVar, gC, EM.bind, EM.pure, EM.lift, op2, op1, gUn, view, moAt, Slot.mo?, Mo.view, fIx, fII, gAsg, gCall, M.gCons, M.gNil, consM, opL, views, aliveR, gdTup, gdCons, gdSub, gdNil, Tg.bind, Tg.binds, setV, putMo, gRet, gPass, M.gSet, setM, storeR, gFz, gFrz, M.gLst, M.gTup, valsR, gSl, slM, gPt, gNoP, fSl, gAnd, gOr, gNot, gTru, truM, tru, gAndV, gOrV, gNotV, stays, gIf, gDrop, gRcv, isL, gApp, gMeth, methM, tyD, gFn, callM, argsOf, argOf, brws, nodupN, putBack, Ret.res, gFnK, allVal, Perm.swap, Perm.id, swapL, gChain, gChain3, blM, gRaise, fAdd, fSub, fLt, fInt, fLen, fDivmod, fMod, fFdiv, fMax2, fIsi, isB, gPar, fEq, fNe, eqM, eqS, keyD, gItems, itemsM, tupItems, lstItems, gFor, gEnum, gRange1, sizeLine, noE, anyItems, dctItems, gDct, gDct0, gDctE, flatP, M.pairD, gAll, gFnM, fEqK, fNeK, fMulS, fStrB, fTuple, fDict, gIsT, isAny, fMul, gYes, gNever, finR, gHeardB, atI, ixN, this]
  have h1 := refused_ok c ne g1
  have fn : fNeK (.lst [.lst [.int 1]]) (.lst [.lst [.int 1]]) = some (.val (.bl false)) := by kernel_rfl
  unfold ri_4
  generalize gHeardB 2 (hm__law_refused c) (tl__law_refused c) (gFrz (gFn 2 (m_same c) (gCons (gFrz (gLst (gCons (gC (.int 1)) gNil))) (gCons (gFrz (gDct [.inl 2] [(gC (.int 2))])) gNil)))) = G1 at h1 ⊢
  simp [gSeq, gIfS, gBl, gOp, gVar, gC, EM.bind, EM.pure, EM.lift, op2, op1, gUn, view, moAt, Slot.mo?, Mo.view, fIx, fII, gAsg, gCall, M.gCons, M.gNil, consM, opL, views, aliveR, gdTup, gdCons, gdSub, gdNil, Tg.bind, Tg.binds, setV, putMo, gRet, gPass, M.gSet, setM, storeR, gFz, gFrz, M.gLst, M.gTup, valsR, gSl, slM, gPt, gNoP, fSl, gAnd, gOr, gNot, gTru, truM, tru, gAndV, gOrV, gNotV, stays, gIf, gDrop, gRcv, isL, gApp, gMeth, methM, tyD, gFn, callM, argsOf, argOf, brws, nodupN, putBack, Ret.res, gFnK, allVal, Perm.swap, Perm.id, swapL, gChain, gChain3, blM, gRaise, fAdd, fSub, fLt, fInt, fLen, fDivmod, fMod, fFdiv, fMax2, fIsi, isB, gPar, keyD, gItems, itemsM, tupItems, lstItems, gFor, gEnum, gRange1, sizeLine, noE, anyItems, dctItems, gDct, gDct0, gDctE, flatP, M.pairD, gAll, gFnM, fMulS, fStrB, fTuple, fDict, gIsT, isAny, fMul, gYes, gNever, finR, gHeardB, atI, ixN, h1, fn, i1]
theorem rt_1_ok (c : Ads) {k : Nat} {m : Mo} {vs : List D} (w : WOk k m) (hk : k ≤ 1000000) (hl : vs.length = 5) (hv : ∀ v ∈ vs, VlW 5 4 v) : ∃ m' x3 x4 x5 x6 x7, Pl x3 ∧ Pl x4 ∧ Pl x5 ∧ rt_1 c [.par m, .own (.l vs), .un, .un, .un, .un, .un, .un] = some (.ok .nx [.par m', .val (.lst vs), .un, x3, x4, x5, x6, x7]) := by
  obtain ⟨ρ', e2, m', x3, x4, x5, x6, x7, rfl, w2, p3, p4, p5, p6, p7⟩ := loopF_inv (t := .nm 3) (body := (gSeq (gPar 4 5 (gCons (gFn 2 (m__law_copy c 6) (gCons (gVar 0) (gCons (gFz 3) gNil))) (gCons (gFn 2 (m__law_copy c 6) (gCons (gVar 0) (gCons (gFz 3) gNil))) gNil)))
    (gSeq (gIfS (gNot (gTru (gFn 2 (m__law_same c 9) (gCons (gFrz (gLst (gCons (gFrz (gFn 1 (m_is_value c) (gCons (gFz 3) gNil))) (gCons (gFrz (gFn 2 (m_same c) (gCons (gFz 3) (gCons (gFz 4) gNil)))) (gCons (gFrz (gFn 2 (m_same c) (gCons (gFz 4) (gCons (gFz 5) gNil)))) (gCons (gFrz (gFnK .swap 2 (m_same c) (gCons (gFz 3) (gCons (gFz 5) gNil)))) gNil)))))) (gCons (gFrz (gLst (gCons (gC (.bl true)) (gCons (gC (.bl true)) (gCons (gC (.bl true)) (gCons (gC (.bl true)) gNil)))))) gNil)))))
    (gRet (gC (.bl false)))
    gPass)
    (gSeq (gFor (gItems anyItems (gFrz (gFn 2 (m__law_otherwise c 6) (gCons (gVar 0) (gCons (gFz 3) gNil))))) (.nm 6)
    (gIfS (gNot (gTru (gFn 2 (m__law_same c 9) (gCons (gFrz (gLst (gCons (gFrz (gFn 2 (m_same c) (gCons (gFz 3) (gCons (gFz 6) gNil)))) (gCons (gFrz (gFn 2 (m_same c) (gCons (gFz 6) (gCons (gFz 3) gNil)))) (gCons (gFrz (gFn 2 (m_same c) (gCons (gFz 4) (gCons (gFz 6) gNil)))) gNil))))) (gCons (gFrz (gLst (gCons (gC (.bl false)) (gCons (gC (.bl false)) (gCons (gC (.bl false)) gNil))))) gNil)))))
    (gRet (gC (.bl false)))
    gPass))
    (gSeq (gFor (gItems anyItems (gTup (gCons (gFrz (gLst (gCons (gFz 3) gNil))) (gCons (gFrz (gDct [.inr "a"] [(gFrz (gLst (gCons (gFz 3) gNil)))])) (gCons (gTup (gCons (gFz 3) (gCons (gFrz (gLst gNil)) gNil))) (gCons (gFrz (gDct [.inl 1] [(gFz 3)])) gNil)))))) (.nm 7)
    (gSeq (gIfS (gNot (gTru (gFn 2 (m__law_same c 9) (gCons (gFrz (gHeardB 2 (hm__law_refused c) (tl__law_refused c) (gFrz (gFn 2 (m_same c) (gCons (gFz 7) (gCons (gFz 3) gNil)))))) (gCons (gFrz (gLst (gCons (gFz 7) gNil))) gNil)))))
    (gRet (gC (.bl false)))
    gPass)
    (gIfS (gNot (gTru (gFn 2 (m__law_same c 9) (gCons (gFrz (gHeardB 2 (hm__law_refused c) (tl__law_refused c) (gFrz (gFnM .id 1 1 (m_same c) (gCons (gFz 3) gNil) (gCons (gFz 7) gNil))))) (gCons (gFrz (gLst (gCons (gFz 7) gNil))) gNil)))))
    (gRet (gC (.bl false)))
    gPass)))
    (gIfS (gOr (gBl (gOp fNeK (gHeardB 2 (hm__law_refused c) (tl__law_refused c) (gFrz (gFn 2 (m_same c) (gCons (gFrz (gLst (gCons (gC (.int 1)) gNil))) (gCons (gFrz (gDct [.inl 2] [(gC (.int 2))])) gNil))))) (gLst (gCons (gFrz (gLst (gCons (gC (.int 1)) gNil))) gNil)))) (gTru (gFn 1 (m_is_value c) (gCons (gFrz (gLst (gCons (gFz 3) gNil))) gNil))))
    (gRet (gC (.bl false)))
    gPass))))))
    (fun j ρ => ∃ m x3 x4 x5 x6 x7, ρ = [.par m, .val (.lst vs), .un, x3, x4, x5, x6, x7] ∧ WOk (k + j * 4100) m ∧ Pl x3 ∧ Pl x4 ∧ Pl x5 ∧ Pl x6 ∧ Pl x7)
    vs 0 [.par m, .val (.lst vs), .un, .un, .un, .un, .un, .un] (by
    rintro j ρ v hd hj ⟨m, x3, x4, x5, x6, x7, rfl, w, p3, p4, p5, p6, p7⟩
    have hv5 := hv v hd
    have hv6 : Vl 4 v := hv5.wide (by omega)
    have hm : j * 4100 ≤ 4 * 4100 := Nat.mul_le_mul_right _ (by omega)
    obtain ⟨d1, d2, m1, e1, v1, q1, w1⟩ := ri_01_ok c (vs := vs) (x6 := x6) (x7 := x7) p4 p5 w (by omega) hv6
    obtain ⟨m2, y6, e2, py6, w2⟩ := ri_2_ok c (vs := vs) (d2 := d2) (x7 := x7) p6 w1 (by omega) hv5 v1 q1
    obtain ⟨y7, e3, py7⟩ := ri_3_ok c (m := m2) (vs := vs) (d1 := d1) (d2 := d2) (x7 := x7) py6 p7 hv6
    have e4 := ri_4_ok c (m := m2) (vs := vs) (v := v) (d1 := d1) (d2 := d2) py6 py7
    refine ⟨[.par m, .val (.lst vs), .un, .val v, x4, x5, x6, x7], _, ?_, .inl ?_, m2, .val v, .val d1, .val d2, y6, y7, rfl, w2.mono (by rw [Nat.succ_mul]; omega), .inr ⟨_, rfl⟩, .inr ⟨_, rfl⟩, .inr ⟨_, rfl⟩, py6, py7⟩
    · rcases p3 with rfl | ⟨_, rfl⟩ <;> rfl
    · rw [ri_eq]
      unfold gSeq at e1 ⊢
      cases q : ri_0 c [.par m, .val (.lst vs), .un, .val v, x4, x5, x6, x7] with
      | none => rw [q] at e1; cases e1
      | some o =>
        rw [q] at e1
        cases o with
        | ex => cases e1
        | ok fl ρ0 =>
          cases fl <;> first | (cases e1; done) | skip
          dsimp only at e1 ⊢
          rw [e1]
          dsimp only
          rw [e2]
          dsimp only
          rw [e3]
          dsimp only
          exact e4) ⟨m, .un, .un, .un, .un, .un, rfl, by simpa using w, .inl rfl, .inl rfl, .inl rfl, .inl rfl, .inl rfl⟩
  refine ⟨m', x3, x4, x5, x6, x7, p3, p4, p5, ?_⟩
  unfold rt_1
  exact (for_at (ds := vs) (ρ1 := [.par m, .val (.lst vs), .un, .un, .un, .un, .un, .un]) (items_ok (d := .lst vs) (by simp [gSeq, gIfS, gBl, gOp, gVar, gC, EM.bind, EM.pure, EM.lift, op2, op1, gUn, view, moAt, Slot.mo?, Mo.view, fIx, fII, gAsg, gCall, M.gCons, M.gNil, consM, opL, views, aliveR, gdTup, gdCons, gdSub, gdNil, Tg.bind, Tg.binds, setV, putMo, gRet, gPass, M.gSet, setM, storeR, gFz, gFrz, M.gLst, M.gTup, valsR, gSl, slM, gPt, gNoP, fSl, gAnd, gOr, gNot, gTru, truM, tru, gAndV, gOrV, gNotV, stays, gIf, gDrop, gRcv, isL, gApp, gMeth, methM, tyD, gFn, callM, argsOf, argOf, brws, nodupN, putBack, Ret.res, gFnK, allVal, Perm.swap, Perm.id, swapL, gChain, gChain3, blM, gRaise, fAdd, fSub, fLt, fInt, fLen, fDivmod, fMod, fFdiv, fMax2, fIsi, isB, gPar, fEq, fNe, eqM, eqS, keyD, gItems, itemsM, tupItems, lstItems, gFor, gEnum, gRange1, sizeLine, noE, anyItems, dctItems, gDct, gDct0, gDctE, flatP, M.pairD, gAll, gFnM, fEqK, fNeK, fMulS, fStrB, fTuple, fDict, gIsT, isAny, fMul, gYes, gNever, finR, gHeardB, atI, ixN]) rfl)).trans e2
theorem rt_2_ok (c : Ads) {m : Mo} {vs : List D} {x3 x4 x5 x6 x7 : Slot} (p4 : Pl x4) (p5 : Pl x5) (hv : ∀ v ∈ vs, Vl 4 v) : ∃ y4 y5, rt_2 c [.par m, .val (.lst vs), .un, x3, x4, x5, x6, x7] = some (.ok .nx [.par m, .val (.lst vs), .un, x3, y4, y5, x6, x7]) := by
  obtain ⟨ρ', e2, y4, y5, rfl, q4, q5⟩ := loopF_inv (t := .nm 4) (body := (gFor (gItems anyItems (gFz 1)) (.nm 5)
    (gIfS (gOr (gBl (gOp fNeK (gFn 2 (m_same c) (gCons (gFz 4) (gCons (gFz 5) gNil))) (gFn 2 (m__law_same c 9) (gCons (gFz 4) (gCons (gFz 5) gNil))))) (gBl (gOp fNeK (gFn 2 (m_same c) (gCons (gFz 4) (gCons (gFz 5) gNil))) (gFn 2 (m_same c) (gCons (gFz 5) (gCons (gFz 4) gNil))))))
    (gRet (gC (.bl false)))
    gPass)))
    (fun j ρ => ∃ y4 y5, ρ = [.par m, .val (.lst vs), .un, x3, y4, y5, x6, x7] ∧ Pl y4 ∧ Pl y5)
    vs 0 [.par m, .val (.lst vs), .un, x3, x4, x5, x6, x7] (by
    rintro j ρ a ha hj ⟨y4, y5, rfl, q4, q5⟩
    obtain ⟨ρ', e3, z5, rfl, r5⟩ := loopF_inv (t := .nm 5) (body := (gIfS (gOr (gBl (gOp fNeK (gFn 2 (m_same c) (gCons (gFz 4) (gCons (gFz 5) gNil))) (gFn 2 (m__law_same c 9) (gCons (gFz 4) (gCons (gFz 5) gNil))))) (gBl (gOp fNeK (gFn 2 (m_same c) (gCons (gFz 4) (gCons (gFz 5) gNil))) (gFn 2 (m_same c) (gCons (gFz 5) (gCons (gFz 4) gNil))))))
    (gRet (gC (.bl false)))
    gPass))
      (fun j ρ => ∃ y5, ρ = [.par m, .val (.lst vs), .un, x3, .val a, y5, x6, x7] ∧ Pl y5)
      vs 0 [.par m, .val (.lst vs), .un, x3, .val a, y5, x6, x7] (by
      rintro j ρ b hb hj ⟨y5, rfl, q5⟩
      have va := hv a ha
      have vb := hv b hb
      have s1 := same_ok c (va.mono (k := 6) (by omega)) (vb.mono (k := 6) (by omega))
      have s2 := same_ok c (vb.mono (k := 6) (by omega)) (va.mono (k := 6) (by omega))
      have l := ls_ok c 4 9 a b va vb (by omega) (by omega)
      rw [eqB_down va (by omega)] at s1
      rw [eqB_symm, eqB_down va (by omega)] at s2
      have fn := fNeK_bl (eqB 4 a b) (eqB 4 a b)
      simp at fn
      refine ⟨[.par m, .val (.lst vs), .un, x3, .val a, .val b, x6, x7], [.par m, .val (.lst vs), .un, x3, .val a, .val b, x6, x7], ?_, .inl ?_, _, rfl, .inr ⟨_, rfl⟩⟩
      · rcases q5 with rfl | ⟨_, rfl⟩ <;> rfl
      · simp [gSeq, gIfS, gBl, gOp, gVar, gC, EM.bind, EM.pure, EM.lift, op2, op1, gUn, view, moAt, Slot.mo?, Mo.view, fIx, fII, gAsg, gCall, M.gCons, M.gNil, consM, opL, views, aliveR, gdTup, gdCons, gdSub, gdNil, Tg.bind, Tg.binds, setV, putMo, gRet, gPass, M.gSet, setM, storeR, gFz, gFrz, M.gLst, M.gTup, valsR, gSl, slM, gPt, gNoP, fSl, gAnd, gOr, gNot, gTru, truM, tru, gAndV, gOrV, gNotV, stays, gIf, gDrop, gRcv, isL, gApp, gMeth, methM, tyD, gFn, callM, argsOf, argOf, brws, nodupN, putBack, Ret.res, gFnK, allVal, Perm.swap, Perm.id, swapL, gChain, gChain3, blM, gRaise, fAdd, fSub, fLt, fInt, fLen, fDivmod, fMod, fFdiv, fMax2, fIsi, isB, gPar, keyD, gItems, itemsM, tupItems, lstItems, gFor, gEnum, gRange1, sizeLine, noE, anyItems, dctItems, gDct, gDct0, gDctE, flatP, M.pairD, gAll, gFnM, fMulS, fStrB, fTuple, fDict, gIsT, isAny, fMul, gYes, gNever, finR, gHeardB, atI, ixN, s1, s2, l, fn]) ⟨y5, rfl, q5⟩
    refine ⟨[.par m, .val (.lst vs), .un, x3, .val a, y5, x6, x7], _, ?_, .inl ?_, .val a, z5, rfl, .inr ⟨_, rfl⟩, r5⟩
    · rcases q4 with rfl | ⟨_, rfl⟩ <;> rfl
    · exact (for_at (ds := vs) (ρ1 := [.par m, .val (.lst vs), .un, x3, .val a, y5, x6, x7]) (items_ok (d := .lst vs) (by simp [gSeq, gIfS, gBl, gOp, gVar, gC, EM.bind, EM.pure, EM.lift, op2, op1, gUn, view, moAt, Slot.mo?, Mo.view, fIx, fII, gAsg, gCall, M.gCons, M.gNil, consM, opL, views, aliveR, gdTup, gdCons, gdSub, gdNil, Tg.bind, Tg.binds, setV, putMo, gRet, gPass, M.gSet, setM, storeR, gFz, gFrz, M.gLst, M.gTup, valsR, gSl, slM, gPt, gNoP, fSl, gAnd, gOr, gNot, gTru, truM, tru, gAndV, gOrV, gNotV, stays, gIf, gDrop, gRcv, isL, gApp, gMeth, methM, tyD, gFn, callM, argsOf, argOf, brws, nodupN, putBack, Ret.res, gFnK, allVal, Perm.swap, Perm.id, swapL, gChain, gChain3, blM, gRaise, fAdd, fSub, fLt, fInt, fLen, fDivmod, fMod, fFdiv, fMax2, fIsi, isB, gPar, fEq, fNe, eqM, eqS, keyD, gItems, itemsM, tupItems, lstItems, gFor, gEnum, gRange1, sizeLine, noE, anyItems, dctItems, gDct, gDct0, gDctE, flatP, M.pairD, gAll, gFnM, fEqK, fNeK, fMulS, fStrB, fTuple, fDict, gIsT, isAny, fMul, gYes, gNever, finR, gHeardB, atI, ixN]) rfl)).trans e3) ⟨x4, x5, rfl, p4, p5⟩
  refine ⟨y4, y5, ?_⟩
  unfold rt_2
  exact (for_at (ds := vs) (ρ1 := [.par m, .val (.lst vs), .un, x3, x4, x5, x6, x7]) (items_ok (d := .lst vs) (by simp [gSeq, gIfS, gBl, gOp, gVar, gC, EM.bind, EM.pure, EM.lift, op2, op1, gUn, view, moAt, Slot.mo?, Mo.view, fIx, fII, gAsg, gCall, M.gCons, M.gNil, consM, opL, views, aliveR, gdTup, gdCons, gdSub, gdNil, Tg.bind, Tg.binds, setV, putMo, gRet, gPass, M.gSet, setM, storeR, gFz, gFrz, M.gLst, M.gTup, valsR, gSl, slM, gPt, gNoP, fSl, gAnd, gOr, gNot, gTru, truM, tru, gAndV, gOrV, gNotV, stays, gIf, gDrop, gRcv, isL, gApp, gMeth, methM, tyD, gFn, callM, argsOf, argOf, brws, nodupN, putBack, Ret.res, gFnK, allVal, Perm.swap, Perm.id, swapL, gChain, gChain3, blM, gRaise, fAdd, fSub, fLt, fInt, fLen, fDivmod, fMod, fFdiv, fMax2, fIsi, isB, gPar, fEq, fNe, eqM, eqS, keyD, gItems, itemsM, tupItems, lstItems, gFor, gEnum, gRange1, sizeLine, noE, anyItems, dctItems, gDct, gDct0, gDctE, flatP, M.pairD, gAll, gFnM, fEqK, fNeK, fMulS, fStrB, fTuple, fDict, gIsT, isAny, fMul, gYes, gNever, finR, gHeardB, atI, ixN]) rfl)).trans e2
theorem right_ok (c : Ads) {m : Mo} (w : WOk 0 m) : ∃ m', m__law_right c [.par m] = some (.ok (.val (.bl true)) [.par m']) := by
  obtain ⟨vs, m1, e0, l5, hv, w1⟩ := rt_0_ok c w (by omega)
  obtain ⟨m2, x3, x4, x5, x6, x7, p3, p4, p5, e1⟩ := rt_1_ok c w1 (by omega) l5 hv
  obtain ⟨y4, y5, e2⟩ := rt_2_ok c (m := m2) (x3 := x3) (x6 := x6) (x7 := x7) p4 p5 fun v h => (hv v h).wide (by omega)
  refine ⟨m2, ?_⟩
  unfold m__law_right
  rw [rt_eq]
  refine run_nx (N := 8) (as := [.par m]) (r := .val (.bl true)) (ρ := [.par m2, .val (.lst vs), .un, x3, y4, y5, x6, x7]) ?_
  refine (seq_nx e0).trans ((seq_nx e1).trans ((seq_nx e2).trans ?_))
  have b := bd_ok c
  unfold rt_3
  simp [gSeq, gIfS, gBl, gOp, gVar, gC, EM.bind, EM.pure, EM.lift, op2, op1, gUn, view, moAt, Slot.mo?, Mo.view, fIx, fII, gAsg, gCall, M.gCons, M.gNil, consM, opL, views, aliveR, gdTup, gdCons, gdSub, gdNil, Tg.bind, Tg.binds, setV, putMo, gRet, gPass, M.gSet, setM, storeR, gFz, gFrz, M.gLst, M.gTup, valsR, gSl, slM, gPt, gNoP, fSl, gAnd, gOr, gNot, gTru, truM, tru, gAndV, gOrV, gNotV, stays, gIf, gDrop, gRcv, isL, gApp, gMeth, methM, tyD, gFn, callM, argsOf, argOf, brws, nodupN, putBack, Ret.res, gFnK, allVal, Perm.swap, Perm.id, swapL, gChain, gChain3, blM, gRaise, fAdd, fSub, fLt, fInt, fLen, fDivmod, fMod, fFdiv, fMax2, fIsi, isB, gPar, fEq, fNe, eqM, eqS, keyD, gItems, itemsM, tupItems, lstItems, gFor, gEnum, gRange1, sizeLine, noE, anyItems, dctItems, gDct, gDct0, gDctE, flatP, M.pairD, gAll, gFnM, fEqK, fNeK, fMulS, fStrB, fTuple, fDict, gIsT, isAny, fMul, gYes, gNever, finR, gHeardB, atI, ixN, b]
end
end My

namespace My
noncomputable section
open PySem PySem.Spec PyProof.Rows L2 M
/-! the well, the law -/
def pl_0 (c : Ads) : EM Fl := (gSet 2 (gOp fAdd (gC (.int 5100043)) (gOp fMulS (gC (.int 17011)) (gVar 1))))
def pl_1 (c : Ads) : EM Fl := (gFor (gItems anyItems (gFrz (gSl (gVar 0) gNoP (gPt (gC (.int 12)))))) (.nm 3)
    (gSet 2 (gOp fMod (gCall fInt (gCons (gOp fAdd (gOp fAdd (gOp fMulS (gVar 2) (gC (.int 57047))) (gOp fMulS (gOp fMod (gCall fInt (gCons (gVar 3) gNil)) (gC (.int 2147483323))) (gC (.int 29)))) (gC (.int 11))) gNil)) (gC (.int 2147483323)))))
def pl_2 (c : Ads) : EM Fl := (gSet 4 (gIf (gBl (gOp fLt (gVar 1) (gCall fLen (gCons (gVar 0) gNil)))) (gCall fInt (gCons (gOp fIx (gVar 0) (gVar 1)) gNil)) (gC (.int 0))))
def pl_3 (c : Ads) : EM Fl := (gSet 2 (gOp fMod (gCall fInt (gCons (gOp fAdd (gOp fAdd (gOp fMulS (gVar 2) (gC (.int 83))) (gOp fMulS (gOp fMod (gCall fInt (gCons (gVar 4) gNil)) (gC (.int 2147483323))) (gC (.int 33013)))) (gC (.int 23))) gNil)) (gC (.int 2147483323))))
def pl_4 (c : Ads) : EM Fl := (gRet (gLst (gCons (gIf (gOr (gBl (gOp fLt (gVar 4) (gC (.int 0)))) (gBl (gOp fGe (gVar 4) (gOp fPow (gC (.int 10)) (gC (.int 15)))))) (gFrz (gOp fMod (gCall fAbs (gCons (gVar 4) gNil)) (gOp fPow (gC (.int 10)) (gC (.int 60))))) (gC (.int 0))) (gCons (gFz 2) (gCons (gC (.int 0)) gNil)))))
theorem pl_eq (c : Ads) : b__law_pail c = (gSeq (pl_0 c) (gSeq (pl_1 c) (gSeq (pl_2 c) (gSeq (pl_3 c) (pl_4 c))))) := rfl
def Mx (i : Int) : Prop := 0 ≤ i ∧ i < 2 ^ 31
theorem md_ok (x : Int) : Mx (x % 2147483323) := ⟨Int.emod_nonneg _ (by decide), by have := Int.emod_lt_of_pos x (show (0 : Int) < 2147483323 by decide); omega⟩
theorem mx_log {i : Int} (h : Mx i) : i.natAbs.log2 < 31 := log_lt h.1 h.2 (by decide)
theorem cut_ints {ns : List Int} {lo hi : Option Int} {d : D} (h : d ∈ M.cutD (ns.map D.int) lo hi) : ∃ i, d = .int i := by
  unfold M.cutD at h
  have := List.mem_of_mem_drop (List.mem_of_mem_take h)
  obtain ⟨i, _, rfl⟩ := List.mem_map.mp this
  exact ⟨i, rfl⟩
theorem pail_ok (c : Ads) (ns : List Int) (hl : ns.length ≤ 63) (t : Nat) (ht : t < 3) : ∃ m, m__law_pail c [.val (.rol (ns.map D.int)), .val (.int t)] = some (.ok (.new m) [.val (.rol (ns.map D.int)), .val (.int t)]) ∧ WOk 0 m := by
  have s0 : ∃ x, Mx x ∧ pl_0 c [.val (.rol (ns.map D.int)), .val (.int t), .un, .un, .un] = some (.ok .nx [.val (.rol (ns.map D.int)), .val (.int t), .val (.int x), .un, .un]) := by
    have l1 : Nat.log2 17011 = 14 := by decide
    have l2 : ((t : Nat) : Int).natAbs.log2 < 31 := mx_log ⟨by omega, by omega⟩
    refine ⟨5100043 + 17011 * t, ⟨by omega, by omega⟩, ?_⟩
    have l3 : Nat.log2 17011 + t.log2 < 1000000 := by simp at l2; omega
    unfold pl_0
    simp [gSeq, gIfS, gBl, gOp, gVar, gC, EM.bind, EM.pure, EM.lift, op2, op1, gUn, view, moAt, Slot.mo?, Mo.view, fIx, fII, gAsg, gCall, M.gCons, M.gNil, consM, opL, views, aliveR, gdTup, gdCons, gdSub, gdNil, Tg.bind, Tg.binds, setV, putMo, gRet, gPass, M.gSet, setM, storeR, gFz, gFrz, M.gLst, M.gTup, valsR, gSl, slM, gPt, gNoP, fSl, gAnd, gOr, gNot, gTru, truM, tru, gAndV, gOrV, gNotV, stays, gIf, gDrop, gRcv, isL, gApp, gMeth, methM, tyD, gFn, callM, argsOf, argOf, brws, nodupN, putBack, Ret.res, gFnK, allVal, Perm.swap, Perm.id, swapL, gChain, gChain3, blM, gRaise, fAdd, fSub, fLt, fInt, fLen, fDivmod, fMod, fFdiv, fMax2, fIsi, isB, gPar, fEq, fNe, eqM, eqS, keyD, gItems, itemsM, tupItems, lstItems, gFor, gEnum, gRange1, sizeLine, noE, anyItems, dctItems, gDct, gDct0, gDctE, flatP, M.pairD, gAll, gFnM, fEqK, fNeK, fMulS, fStrB, fTuple, fDict, gIsT, isAny, fMul, gYes, gNever, finR, gHeardB, atI, ixN, l3]
  obtain ⟨x0, hx0, s0⟩ := s0
  obtain ⟨ρ', e1, x, y, rfl, hx, hy⟩ := loopF_inv (t := .nm 3) (body := (gSet 2 (gOp fMod (gCall fInt (gCons (gOp fAdd (gOp fAdd (gOp fMulS (gVar 2) (gC (.int 57047))) (gOp fMulS (gOp fMod (gCall fInt (gCons (gVar 3) gNil)) (gC (.int 2147483323))) (gC (.int 29)))) (gC (.int 11))) gNil)) (gC (.int 2147483323)))))
    (fun j ρ => ∃ x y, ρ = [.val (.rol (ns.map D.int)), .val (.int t), .val (.int x), y, .un] ∧ Mx x ∧ Pl y)
    (M.cutD (ns.map D.int) none (some 12)) 0 [.val (.rol (ns.map D.int)), .val (.int t), .val (.int x0), .un, .un] (by
    rintro j ρ d hd hj ⟨x, y, rfl, hx, py⟩
    obtain ⟨i, rfl⟩ := cut_ints hd
    have q1 := md_ok i
    have l1 := mx_log hx
    have l2 := mx_log q1
    have n1 : Nat.log2 57047 = 15 := by decide
    have n2 : Nat.log2 29 = 4 := by decide
    have l3 : x.natAbs.log2 + Nat.log2 57047 < 1000000 := by omega
    have l4 : (i % 2147483323).natAbs.log2 + Nat.log2 29 < 1000000 := by omega
    refine ⟨[.val (.rol (ns.map D.int)), .val (.int t), .val (.int x), .val (.int i), .un], [.val (.rol (ns.map D.int)), .val (.int t), .val (.int ((x * 57047 + i % 2147483323 * 29 + 11) % 2147483323)), .val (.int i), .un], ?_, .inl ?_, _, _, rfl, md_ok _, .inr ⟨_, rfl⟩⟩
    · rcases py with rfl | ⟨_, rfl⟩ <;> rfl
    · simp [gSeq, gIfS, gBl, gOp, gVar, gC, EM.bind, EM.pure, EM.lift, op2, op1, gUn, view, moAt, Slot.mo?, Mo.view, fIx, fII, gAsg, gCall, M.gCons, M.gNil, consM, opL, views, aliveR, gdTup, gdCons, gdSub, gdNil, Tg.bind, Tg.binds, setV, putMo, gRet, gPass, M.gSet, setM, storeR, gFz, gFrz, M.gLst, M.gTup, valsR, gSl, slM, gPt, gNoP, fSl, gAnd, gOr, gNot, gTru, truM, tru, gAndV, gOrV, gNotV, stays, gIf, gDrop, gRcv, isL, gApp, gMeth, methM, tyD, gFn, callM, argsOf, argOf, brws, nodupN, putBack, Ret.res, gFnK, allVal, Perm.swap, Perm.id, swapL, gChain, gChain3, blM, gRaise, fAdd, fSub, fLt, fInt, fLen, fDivmod, fMod, fFdiv, fMax2, fIsi, isB, gPar, fEq, fNe, eqM, eqS, keyD, gItems, itemsM, tupItems, lstItems, gFor, gEnum, gRange1, sizeLine, noE, anyItems, dctItems, gDct, gDct0, gDctE, flatP, M.pairD, gAll, gFnM, fEqK, fNeK, fMulS, fStrB, fTuple, fDict, gIsT, isAny, fMul, gYes, gNever, finR, gHeardB, atI, ixN, l3, l4]) ⟨x0, .un, rfl, hx0, .inl rfl⟩
  have s1 : pl_1 c [.val (.rol (ns.map D.int)), .val (.int t), .val (.int x0), .un, .un] = some (.ok .nx [.val (.rol (ns.map D.int)), .val (.int t), .val (.int x), y, .un]) := by
    unfold pl_1
    exact (for_at (ds := M.cutD (ns.map D.int) none (some 12)) (ρ1 := [.val (.rol (ns.map D.int)), .val (.int t), .val (.int x0), .un, .un]) (items_ok (d := .lst (M.cutD (ns.map D.int) none (some 12))) (by simp [gSeq, gIfS, gBl, gOp, gVar, gC, EM.bind, EM.pure, EM.lift, op2, op1, gUn, view, moAt, Slot.mo?, Mo.view, fIx, fII, gAsg, gCall, M.gCons, M.gNil, consM, opL, views, aliveR, gdTup, gdCons, gdSub, gdNil, Tg.bind, Tg.binds, setV, putMo, gRet, gPass, M.gSet, setM, storeR, gFz, gFrz, M.gLst, M.gTup, valsR, gSl, slM, gPt, gNoP, fSl, gAnd, gOr, gNot, gTru, truM, tru, gAndV, gOrV, gNotV, stays, gIf, gDrop, gRcv, isL, gApp, gMeth, methM, tyD, gFn, callM, argsOf, argOf, brws, nodupN, putBack, Ret.res, gFnK, allVal, Perm.swap, Perm.id, swapL, gChain, gChain3, blM, gRaise, fAdd, fSub, fLt, fInt, fLen, fDivmod, fMod, fFdiv, fMax2, fIsi, isB, gPar, fEq, fNe, eqM, eqS, keyD, gItems, itemsM, tupItems, lstItems, gFor, gEnum, gRange1, sizeLine, noE, anyItems, dctItems, gDct, gDct0, gDctE, flatP, M.pairD, gAll, gFnM, fEqK, fNeK, fMulS, fStrB, fTuple, fDict, gIsT, isAny, fMul, gYes, gNever, finR, gHeardB, atI, ixN]) rfl)).trans e1
  have s2 : ∃ o, pl_2 c [.val (.rol (ns.map D.int)), .val (.int t), .val (.int x), y, .un] = some (.ok .nx [.val (.rol (ns.map D.int)), .val (.int t), .val (.int x), y, .val (.int o)]) := by
    unfold pl_2
    by_cases h : t < ns.length
    · have gi : (ns.map D.int)[t]? = some (.int ns[t]) := by rw [List.getElem?_map, List.getElem?_eq_getElem h]; rfl
      have t1 := atI_nat gi
      have h' : ns.length ≤ 16777216 := by omega
      exact ⟨ns[t], by simp [gSeq, gIfS, gBl, gOp, gVar, gC, EM.bind, EM.pure, EM.lift, op2, op1, gUn, view, moAt, Slot.mo?, Mo.view, fIx, fII, gAsg, gCall, M.gCons, M.gNil, consM, opL, views, aliveR, gdTup, gdCons, gdSub, gdNil, Tg.bind, Tg.binds, setV, putMo, gRet, gPass, M.gSet, setM, storeR, gFz, gFrz, M.gLst, M.gTup, valsR, gSl, slM, gPt, gNoP, fSl, gAnd, gOr, gNot, gTru, truM, tru, gAndV, gOrV, gNotV, stays, gIf, gDrop, gRcv, isL, gApp, gMeth, methM, tyD, gFn, callM, argsOf, argOf, brws, nodupN, putBack, Ret.res, gFnK, allVal, Perm.swap, Perm.id, swapL, gChain, gChain3, blM, gRaise, fAdd, fSub, fLt, fInt, fLen, fDivmod, fMod, fFdiv, fMax2, fIsi, isB, gPar, fEq, fNe, eqM, eqS, keyD, gItems, itemsM, tupItems, lstItems, gFor, gEnum, gRange1, sizeLine, noE, anyItems, dctItems, gDct, gDct0, gDctE, flatP, M.pairD, gAll, gFnM, fEqK, fNeK, fMulS, fStrB, fTuple, fDict, gIsT, isAny, fMul, gYes, gNever, finR, gHeardB, h, t1, h']⟩
    · have h' : ns.length ≤ 16777216 := by omega
      exact ⟨0, by simp [gSeq, gIfS, gBl, gOp, gVar, gC, EM.bind, EM.pure, EM.lift, op2, op1, gUn, view, moAt, Slot.mo?, Mo.view, fIx, fII, gAsg, gCall, M.gCons, M.gNil, consM, opL, views, aliveR, gdTup, gdCons, gdSub, gdNil, Tg.bind, Tg.binds, setV, putMo, gRet, gPass, M.gSet, setM, storeR, gFz, gFrz, M.gLst, M.gTup, valsR, gSl, slM, gPt, gNoP, fSl, gAnd, gOr, gNot, gTru, truM, tru, gAndV, gOrV, gNotV, stays, gIf, gDrop, gRcv, isL, gApp, gMeth, methM, tyD, gFn, callM, argsOf, argOf, brws, nodupN, putBack, Ret.res, gFnK, allVal, Perm.swap, Perm.id, swapL, gChain, gChain3, blM, gRaise, fAdd, fSub, fLt, fInt, fLen, fDivmod, fMod, fFdiv, fMax2, fIsi, isB, gPar, fEq, fNe, eqM, eqS, keyD, gItems, itemsM, tupItems, lstItems, gFor, gEnum, gRange1, sizeLine, noE, anyItems, dctItems, gDct, gDct0, gDctE, flatP, M.pairD, gAll, gFnM, fEqK, fNeK, fMulS, fStrB, fTuple, fDict, gIsT, isAny, fMul, gYes, gNever, finR, gHeardB, h, h']⟩
  obtain ⟨o, s2⟩ := s2
  have q1 := md_ok o
  have l1 := mx_log hx
  have l2 := mx_log q1
  have n1 : Nat.log2 83 = 6 := by decide
  have n2 : Nat.log2 33013 = 15 := by decide
  have l3 : x.natAbs.log2 + Nat.log2 83 < 1000000 := by omega
  have l4 : (o % 2147483323).natAbs.log2 + Nat.log2 33013 < 1000000 := by omega
  have mz := md_ok (x * 83 + o % 2147483323 * 33013 + 23)
  have s3 : pl_3 c [.val (.rol (ns.map D.int)), .val (.int t), .val (.int x), y, .val (.int o)] = some (.ok .nx [.val (.rol (ns.map D.int)), .val (.int t), .val (.int ((x * 83 + o % 2147483323 * 33013 + 23) % 2147483323)), y, .val (.int o)]) := by
    unfold pl_3
    simp [gSeq, gIfS, gBl, gOp, gVar, gC, EM.bind, EM.pure, EM.lift, op2, op1, gUn, view, moAt, Slot.mo?, Mo.view, fIx, fII, gAsg, gCall, M.gCons, M.gNil, consM, opL, views, aliveR, gdTup, gdCons, gdSub, gdNil, Tg.bind, Tg.binds, setV, putMo, gRet, gPass, M.gSet, setM, storeR, gFz, gFrz, M.gLst, M.gTup, valsR, gSl, slM, gPt, gNoP, fSl, gAnd, gOr, gNot, gTru, truM, tru, gAndV, gOrV, gNotV, stays, gIf, gDrop, gRcv, isL, gApp, gMeth, methM, tyD, gFn, callM, argsOf, argOf, brws, nodupN, putBack, Ret.res, gFnK, allVal, Perm.swap, Perm.id, swapL, gChain, gChain3, blM, gRaise, fAdd, fSub, fLt, fInt, fLen, fDivmod, fMod, fFdiv, fMax2, fIsi, isB, gPar, fEq, fNe, eqM, eqS, keyD, gItems, itemsM, tupItems, lstItems, gFor, gEnum, gRange1, sizeLine, noE, anyItems, dctItems, gDct, gDct0, gDctE, flatP, M.pairD, gAll, gFnM, fEqK, fNeK, fMulS, fStrB, fTuple, fDict, gIsT, isAny, fMul, gYes, gNever, finR, gHeardB, atI, ixN, l3, l4]
  generalize (x * 83 + o % 2147483323 * 33013 + 23) % 2147483323 = z at mz s3
  have s4 : ∃ a, 0 ≤ a ∧ a < 10 ^ 61 ∧ pl_4 c [.val (.rol (ns.map D.int)), .val (.int t), .val (.int z), y, .val (.int o)] = some (.ok (.rt (.new (.l [.int a, .int z, .int 0]))) [.val (.rol (ns.map D.int)), .val (.int t), .val (.int z), y, .val (.int o)]) := by
    unfold pl_4
    have p60 : (0 : Int) < 10 ^ 60 := by decide
    have am : ∀ k : Int, 0 ≤ k % 10 ^ 60 ∧ k % 10 ^ 60 < 10 ^ 61 := fun k => ⟨Int.emod_nonneg _ (by decide), by have := Int.emod_lt_of_pos k p60; omega⟩
    by_cases c0 : o < 0
    · refine ⟨(-o) % 10 ^ 60, (am _).1, (am _).2, ?_⟩
      simp [gSeq, gIfS, gBl, gOp, gVar, gC, EM.bind, EM.pure, EM.lift, op2, op1, gUn, view, moAt, Slot.mo?, Mo.view, fIx, fII, gAsg, gCall, M.gCons, M.gNil, consM, opL, views, aliveR, gdTup, gdCons, gdSub, gdNil, Tg.bind, Tg.binds, setV, putMo, gRet, gPass, M.gSet, setM, storeR, gFz, gFrz, M.gLst, M.gTup, valsR, gSl, slM, gPt, gNoP, fSl, gAnd, gOr, gNot, gTru, truM, tru, gAndV, gOrV, gNotV, stays, gIf, gDrop, gRcv, isL, gApp, gMeth, methM, tyD, gFn, callM, argsOf, argOf, brws, nodupN, putBack, Ret.res, gFnK, allVal, Perm.swap, Perm.id, swapL, gChain, gChain3, blM, gRaise, fAdd, fSub, fLt, fInt, fLen, fDivmod, fMod, fFdiv, fMax2, fIsi, isB, gPar, fEq, fNe, eqM, eqS, keyD, gItems, itemsM, tupItems, lstItems, gFor, gEnum, gRange1, sizeLine, noE, anyItems, dctItems, gDct, gDct0, gDctE, flatP, M.pairD, gAll, gFnM, fEqK, fNeK, fMulS, fStrB, fTuple, fDict, gIsT, isAny, fMul, gYes, gNever, finR, gHeardB, atI, ixN, fGe, fPow, fAbs, c0]
    · by_cases c1 : (10 : Int) ^ 15 ≤ o
      · refine ⟨o % 10 ^ 60, (am _).1, (am _).2, ?_⟩
        have c1' : (1000000000000000 : Int) ≤ o := by omega
        simp [gSeq, gIfS, gBl, gOp, gVar, gC, EM.bind, EM.pure, EM.lift, op2, op1, gUn, view, moAt, Slot.mo?, Mo.view, fIx, fII, gAsg, gCall, M.gCons, M.gNil, consM, opL, views, aliveR, gdTup, gdCons, gdSub, gdNil, Tg.bind, Tg.binds, setV, putMo, gRet, gPass, M.gSet, setM, storeR, gFz, gFrz, M.gLst, M.gTup, valsR, gSl, slM, gPt, gNoP, fSl, gAnd, gOr, gNot, gTru, truM, tru, gAndV, gOrV, gNotV, stays, gIf, gDrop, gRcv, isL, gApp, gMeth, methM, tyD, gFn, callM, argsOf, argOf, brws, nodupN, putBack, Ret.res, gFnK, allVal, Perm.swap, Perm.id, swapL, gChain, gChain3, blM, gRaise, fAdd, fSub, fLt, fInt, fLen, fDivmod, fMod, fFdiv, fMax2, fIsi, isB, gPar, fEq, fNe, eqM, eqS, keyD, gItems, itemsM, tupItems, lstItems, gFor, gEnum, gRange1, sizeLine, noE, anyItems, dctItems, gDct, gDct0, gDctE, flatP, M.pairD, gAll, gFnM, fEqK, fNeK, fMulS, fStrB, fTuple, fDict, gIsT, isAny, fMul, gYes, gNever, finR, gHeardB, atI, ixN, fGe, fPow, fAbs, c0, c1']
      · refine ⟨0, by omega, by decide, ?_⟩
        have c1' : ¬ (1000000000000000 : Int) ≤ o := by omega
        simp [gSeq, gIfS, gBl, gOp, gVar, gC, EM.bind, EM.pure, EM.lift, op2, op1, gUn, view, moAt, Slot.mo?, Mo.view, fIx, fII, gAsg, gCall, M.gCons, M.gNil, consM, opL, views, aliveR, gdTup, gdCons, gdSub, gdNil, Tg.bind, Tg.binds, setV, putMo, gRet, gPass, M.gSet, setM, storeR, gFz, gFrz, M.gLst, M.gTup, valsR, gSl, slM, gPt, gNoP, fSl, gAnd, gOr, gNot, gTru, truM, tru, gAndV, gOrV, gNotV, stays, gIf, gDrop, gRcv, isL, gApp, gMeth, methM, tyD, gFn, callM, argsOf, argOf, brws, nodupN, putBack, Ret.res, gFnK, allVal, Perm.swap, Perm.id, swapL, gChain, gChain3, blM, gRaise, fAdd, fSub, fLt, fInt, fLen, fDivmod, fMod, fFdiv, fMax2, fIsi, isB, gPar, fEq, fNe, eqM, eqS, keyD, gItems, itemsM, tupItems, lstItems, gFor, gEnum, gRange1, sizeLine, noE, anyItems, dctItems, gDct, gDct0, gDctE, flatP, M.pairD, gAll, gFnM, fEqK, fNeK, fMulS, fStrB, fTuple, fDict, gIsT, isAny, fMul, gYes, gNever, finR, gHeardB, atI, ixN, fGe, fPow, fAbs, c0, c1']
  obtain ⟨a, a0, a1, s4⟩ := s4
  refine ⟨.l [.int a, .int z, .int 0], ?_, a, z, 0, rfl, a0, a1, mz.1, mz.2, by omega, by omega⟩
  unfold m__law_pail
  rw [pl_eq]
  refine run_nx (N := 5) (as := [.val (.rol (ns.map D.int)), .val (.int t)]) (r := .new (.l [.int a, .int z, .int 0])) (ρ := [.val (.rol (ns.map D.int)), .val (.int t), .val (.int z), y, .val (.int o)]) ?_
  exact (seq_nx s0).trans ((seq_nx s1).trans ((seq_nx s2).trans ((seq_nx s3).trans s4)))
def lwL (c : Ads) : EM Res := (gLc (gRange1 (gCons (gC (.int 3)) gNil)) (.nm 1) [1] gYes (gFrz (gFn 1 (m__law_right c) (gCons (gFn 2 (m__law_pail c) (gCons (gFz 0) (gCons (gFz 1) gNil))) gNil))))
def lw_0 (c : Ads) : EM Fl := (gRet (gCall fAll (gCons (lwL c) gNil)))
theorem lw_eq (c : Ads) : b_law c = (lw_0 c) := rfl
theorem plain (c : Ads) (ns : List Int) (h : ns.length ≤ 63) : ∃ as', m_law c [.val (.rol (ns.map D.int))] = some (.ok (.val (.bl true)) as') := by
  have e : lwL c [.val (.rol (ns.map D.int)), .un] = some (.ok (.new (.l ((upto 3).map fun d => D.bl true))) [.val (.rol (ns.map D.int)), .un]) := by
    unfold lwL
    refine lc_map 1 (gi := (gRange1 (gCons (gC (.int 3)) gNil))) (ρ := [.val (.rol (ns.map D.int)), .un]) (ρ1 := [.val (.rol (ns.map D.int)), .un]) (upto 3) (fun d => D.bl true) (by simp) (by simp) (range_ok (k := 3) (by simp [gSeq, gIfS, gBl, gOp, gVar, gC, EM.bind, EM.pure, EM.lift, op2, op1, gUn, view, moAt, Slot.mo?, Mo.view, fIx, fII, gAsg, gCall, M.gCons, M.gNil, consM, opL, views, aliveR, gdTup, gdCons, gdSub, gdNil, Tg.bind, Tg.binds, setV, putMo, gRet, gPass, M.gSet, setM, storeR, gFz, gFrz, M.gLst, M.gTup, valsR, gSl, slM, gPt, gNoP, fSl, gAnd, gOr, gNot, gTru, truM, tru, gAndV, gOrV, gNotV, stays, gIf, gDrop, gRcv, isL, gApp, gMeth, methM, tyD, gFn, callM, argsOf, argOf, brws, nodupN, putBack, Ret.res, gFnK, allVal, Perm.swap, Perm.id, swapL, gChain, gChain3, blM, gRaise, fAdd, fSub, fLt, fInt, fLen, fDivmod, fMod, fFdiv, fMax2, fIsi, isB, gPar, fEq, fNe, eqM, eqS, keyD, gItems, itemsM, tupItems, lstItems, gFor, gEnum, gRange1, sizeLine, noE, anyItems, dctItems, gDct, gDct0, gDctE, flatP, M.pairD, gAll, gFnM, fEqK, fNeK, fMulS, fStrB, fTuple, fDict, gIsT, isAny, fMul, gYes, gNever, finR, gHeardB, atI, ixN]) (by omega) (by omega)) (by rw [upto_len, sizeLine_eq]; omega) fun d hd => ?_
    obtain ⟨i, rfl, hi⟩ := upto_mem hd
    obtain ⟨m, e1, w⟩ := pail_ok c ns h i (by omega)
    obtain ⟨m', e2⟩ := right_ok c w
    simp [gSeq, gIfS, gBl, gOp, gVar, gC, EM.bind, EM.pure, EM.lift, op2, op1, gUn, view, moAt, Slot.mo?, Mo.view, fIx, fII, gAsg, gCall, M.gCons, M.gNil, consM, opL, views, aliveR, gdTup, gdCons, gdSub, gdNil, Tg.bind, Tg.binds, setV, putMo, gRet, gPass, M.gSet, setM, storeR, gFz, gFrz, M.gLst, M.gTup, valsR, gSl, slM, gPt, gNoP, fSl, gAnd, gOr, gNot, gTru, truM, tru, gAndV, gOrV, gNotV, stays, gIf, gDrop, gRcv, isL, gApp, gMeth, methM, tyD, gFn, callM, argsOf, argOf, brws, nodupN, putBack, Ret.res, gFnK, allVal, Perm.swap, Perm.id, swapL, gChain, gChain3, blM, gRaise, fAdd, fSub, fLt, fInt, fLen, fDivmod, fMod, fFdiv, fMax2, fIsi, isB, gPar, fEq, fNe, eqM, eqS, keyD, gItems, itemsM, tupItems, lstItems, gFor, gEnum, gRange1, sizeLine, noE, anyItems, dctItems, gDct, gDct0, gDctE, flatP, M.pairD, gAll, gFnM, fEqK, fNeK, fMulS, fStrB, fTuple, fDict, gIsT, isAny, fMul, gYes, gNever, finR, gHeardB, atI, ixN, e1, e2]
  have fa := fAll_map (fun _ => true) (upto 3)
  have ha : ((upto 3).all fun _ => true) = true := List.all_eq_true.mpr fun _ _ => rfl
  rw [ha] at fa
  refine ⟨[.val (.rol (ns.map D.int))], ?_⟩
  unfold m_law
  rw [lw_eq]
  refine run_nx (N := 2) (as := [.val (.rol (ns.map D.int))]) (r := .val (.bl true)) (ρ := [.val (.rol (ns.map D.int)), .un]) ?_
  unfold lw_0
  simp [gSeq, gIfS, gBl, gOp, gVar, gC, EM.bind, EM.pure, EM.lift, op2, op1, gUn, view, moAt, Slot.mo?, Mo.view, fIx, fII, gAsg, gCall, M.gCons, M.gNil, consM, opL, views, aliveR, gdTup, gdCons, gdSub, gdNil, Tg.bind, Tg.binds, setV, putMo, gRet, gPass, M.gSet, setM, storeR, gFz, gFrz, M.gLst, M.gTup, valsR, gSl, slM, gPt, gNoP, fSl, gAnd, gOr, gNot, gTru, truM, tru, gAndV, gOrV, gNotV, stays, gIf, gDrop, gRcv, isL, gApp, gMeth, methM, tyD, gFn, callM, argsOf, argOf, brws, nodupN, putBack, Ret.res, gFnK, allVal, Perm.swap, Perm.id, swapL, gChain, gChain3, blM, gRaise, fAdd, fSub, fLt, fInt, fLen, fDivmod, fMod, fFdiv, fMax2, fIsi, isB, gPar, fEq, fNe, eqM, eqS, keyD, gItems, itemsM, tupItems, lstItems, gFor, gEnum, gRange1, sizeLine, noE, anyItems, dctItems, gDct, gDct0, gDctE, flatP, M.pairD, gAll, gFnM, fEqK, fNeK, fMulS, fStrB, fTuple, fDict, gIsT, isAny, fMul, gYes, gNever, finR, gHeardB, atI, ixN, e, fa]
end
end My

namespace My
open PySem PySem.Spec PyProof.Rows L2 M
def d_is_name : He.DefD := ⟨("is_name", none), "is_name", "is_name", defArgs (topS 4), defBody (topS 4), defScope (topS 4), [], []⟩
def d_has_level : He.DefD := ⟨("has_level", none), "has_level", "has_level", defArgs (topS 5), defBody (topS 5), defScope (topS 5), [], []⟩
def d_same_values : He.DefD := ⟨("same_values", none), "same_values", "same_values", defArgs (topS 6), defBody (topS 6), defScope (topS 6), [], []⟩
def d_InvalidValue_init : He.DefD := ⟨("InvalidValue", some "__init__"), "__init__", "InvalidValue.__init__", defArgs (inClass (topS 9) 0), defBody (inClass (topS 9) 0), defScope (inClass (topS 9) 0), [], []⟩
def d_is_value : He.DefD := ⟨("is_value", none), "is_value", "is_value", defArgs (topS 11), defBody (topS 11), defScope (topS 11), [], []⟩
def d_same : He.DefD := ⟨("same", none), "same", "same", defArgs (topS 12), defBody (topS 12), defScope (topS 12), [], []⟩
def d__law_pail : He.DefD := ⟨("_law_pail", none), "_law_pail", "_law_pail", defArgs (topS 14), defBody (topS 14), defScope (topS 14), [], []⟩
def d__law_deal : He.DefD := ⟨("_law_deal", none), "_law_deal", "_law_deal", defArgs (topS 15), defBody (topS 15), defScope (topS 15), [], []⟩
def d__law_any : He.DefD := ⟨("_law_any", none), "_law_any", "_law_any", defArgs (topS 16), defBody (topS 16), defScope (topS 16), [], []⟩
def d__law_shuffled : He.DefD := ⟨("_law_shuffled", none), "_law_shuffled", "_law_shuffled", defArgs (topS 17), defBody (topS 17), defScope (topS 17), [], []⟩
def d__law_same : He.DefD := ⟨("_law_same", none), "_law_same", "_law_same", defArgs (topS 18), defBody (topS 18), defScope (topS 18), [], []⟩
def d__law_swapped : He.DefD := ⟨("_law_swapped", none), "_law_swapped", "_law_swapped", defArgs (topS 19), defBody (topS 19), defScope (topS 19), [], []⟩
def d__law_name : He.DefD := ⟨("_law_name", none), "_law_name", "_law_name", defArgs (topS 20), defBody (topS 20), defScope (topS 20), [], []⟩
def d__law_names : He.DefD := ⟨("_law_names", none), "_law_names", "_law_names", defArgs (topS 21), defBody (topS 21), defScope (topS 21), [], []⟩
def d__law_text : He.DefD := ⟨("_law_text", none), "_law_text", "_law_text", defArgs (topS 22), defBody (topS 22), defScope (topS 22), [], []⟩
def d__law_number : He.DefD := ⟨("_law_number", none), "_law_number", "_law_number", defArgs (topS 23), defBody (topS 23), defScope (topS 23), [], []⟩
def d__law_any_value : He.DefD := ⟨("_law_any_value", none), "_law_any_value", "_law_any_value", defArgs (topS 24), defBody (topS 24), defScope (topS 24), [], []⟩
def d__law_copy : He.DefD := ⟨("_law_copy", none), "_law_copy", "_law_copy", defArgs (topS 25), defBody (topS 25), defScope (topS 25), [], []⟩
def d__law_otherwise : He.DefD := ⟨("_law_otherwise", none), "_law_otherwise", "_law_otherwise", defArgs (topS 26), defBody (topS 26), defScope (topS 26), [], []⟩
def d__law_refused : He.DefD := ⟨("_law_refused", none), "_law_refused", "_law_refused", defArgs (topS 27), defBody (topS 27), defScope (topS 27), [], []⟩
def d__law_bounds_right : He.DefD := ⟨("_law_bounds_right", none), "_law_bounds_right", "_law_bounds_right", defArgs (topS 28), defBody (topS 28), defScope (topS 28), [], []⟩
def d__law_right : He.DefD := ⟨("_law_right", none), "_law_right", "_law_right", defArgs (topS 29), defBody (topS 29), defScope (topS 29), [], []⟩
def d_law : He.DefD := ⟨("law", none), "law", "law", defArgs (topS 30), defBody (topS 30), defScope (topS 30), [], []⟩
def fn : List He.DefD := [d_is_name, d_has_level, d_same_values, d_InvalidValue_init, d_is_value, d_same, d__law_pail, d__law_deal, d__law_any, d__law_shuffled, d__law_same, d__law_swapped, d__law_name, d__law_names, d__law_text, d__law_number, d__law_any_value, d__law_copy, d__law_otherwise, d__law_refused, d__law_bounds_right, d__law_right, d_law]
def fa : List He.Fa := [.glo "is_name", .glo "has_level", .glo "same_values", .glo "is_value", .glo "same", .glo "_law_pail", .glo "_law_deal", .glo "_law_any", .glo "_law_shuffled", .glo "_law_same", .glo "_law_swapped", .glo "_law_name", .glo "_law_names", .glo "_law_text", .glo "_law_number", .glo "_law_any_value", .glo "_law_copy", .glo "_law_otherwise", .glo "_law_refused", .glo "_law_bounds_right", .glo "_law_right", .glo "law", .glo "ShapeError", .glo "InvalidValue", .free "abs", .free "all", .free "bool", .free "dict", .free "divmod", .free "int", .free "isinstance", .free "len", .free "list", .free "min", .free "range", .free "repr", .free "sorted", .free "str", .free "tuple", .free "zip", .str "LETTERS" "abcdefghijklmnopqrstuvwxyz", .int "MAX_ELEMENTS" 60, .int "MAX_LEVELS" 6]
def tf : List He.Defn := [("_law_right", none)]
def loose : List PySem.Str := (["MAX_ELEMENTS", "MAX_LEVELS", "LETTERS", "is_name", "has_level", "same_values", "ShapeError", "InvalidValue", "is_value", "same", "_law_pail", "_law_deal", "_law_any", "_law_shuffled", "_law_same", "_law_swapped", "_law_name", "_law_names", "_law_text", "_law_number", "_law_any_value", "_law_copy", "_law_otherwise", "_law_refused", "_law_bounds_right", "_law_right"] : List PySem.Str)
def exs (K : PySem.W.Frag) : List Bool := [M.oexB K (He.ga K "InvalidValue"),
  decide (PySem.W.findIn K (.ref (He.ga K "InvalidValue")) "__init__" = some (some (.ref (He.fAd K ("InvalidValue", some "__init__"))))),
  decide (PySem.W.typeIn K (.ref (He.fAd K ("InvalidValue", some "__init__"))) = some (.type "function")),
  decide (∀ f ∈ (["value"] : List Str), PySem.W.findIn K (.ref (He.ga K "InvalidValue")) f = some none),
  L2.xfB K (He.ga K "InvalidValue"),
  M.excB K (He.ga K "InvalidValue"),
  decide (PySem.W.exmAny K (.ref (He.ga K "InvalidValue")) [.ref (He.ga K "InvalidValue")] = some true)]
def ex (K : PySem.W.Frag) : Bool := (exs K).all id
theorem ex_at {K : PySem.W.Frag} (h : ex K = true) (i : Nat) {b : Bool} (e : (exs K)[i]? = some b) : b = true := List.all_eq_true.mp h b (List.mem_of_getElem? e)
abbrev R : PySem.W.OpenRow := PySem.W.OpenLaw.row PySem.Challenge.rw_shapekeep_k04_main_whole_values_that_are
abbrev hk : PySem.W.Hook := He.hookX 6 fa fn [] tf ex
def ob (s : PySem.W.SharedT) : He.AlX := He.obsX 6 fa fn [] tf ex (HandSHeadRun.getT s)
theorem ob_eq (s : PySem.W.SharedT) : ob s = hk.obs s.abs := He.obsX_eq (HandSHeadRun.getT_eq s)
theorem run (w : World) : HandSHeadRun.RunEq R (PySem.W.view R.prog [30]) hk ob 4000 loose w := by
  intro os
  kernel_rfl
theorem fx_of {K : PySem.W.Frag} {h base : Heap} {w : World} {mg : Str → Option Value} (X : K.In base) (G : base.Ns mainGlobals mg) (c : He.SaysX fa fn [] tf ex w h K) (tb : ∀ p ∈ tf, LamX.TabB base mg (He.cT K p).1 (He.cT K p).2) : Fx K mg base where
  F_is_name := c.t.d.def_ 0 (d := d_is_name) rfl
  F_has_level := c.t.d.def_ 1 (d := d_has_level) rfl
  F_same_values := c.t.d.def_ 2 (d := d_same_values) rfl
  F_InvalidValue_init := c.t.d.def_ 3 (d := d_InvalidValue_init) rfl
  F_is_value := c.t.d.def_ 4 (d := d_is_value) rfl
  F_same := c.t.d.def_ 5 (d := d_same) rfl
  F__law_pail := c.t.d.def_ 6 (d := d__law_pail) rfl
  F__law_deal := c.t.d.def_ 7 (d := d__law_deal) rfl
  F__law_any := c.t.d.def_ 8 (d := d__law_any) rfl
  F__law_shuffled := c.t.d.def_ 9 (d := d__law_shuffled) rfl
  F__law_same := c.t.d.def_ 10 (d := d__law_same) rfl
  F__law_swapped := c.t.d.def_ 11 (d := d__law_swapped) rfl
  F__law_name := c.t.d.def_ 12 (d := d__law_name) rfl
  F__law_names := c.t.d.def_ 13 (d := d__law_names) rfl
  F__law_text := c.t.d.def_ 14 (d := d__law_text) rfl
  F__law_number := c.t.d.def_ 15 (d := d__law_number) rfl
  F__law_any_value := c.t.d.def_ 16 (d := d__law_any_value) rfl
  F__law_copy := c.t.d.def_ 17 (d := d__law_copy) rfl
  F__law_otherwise := c.t.d.def_ 18 (d := d__law_otherwise) rfl
  F__law_refused := c.t.d.def_ 19 (d := d__law_refused) rfl
  F__law_bounds_right := c.t.d.def_ 20 (d := d__law_bounds_right) rfl
  F__law_right := c.t.d.def_ 21 (d := d__law_right) rfl
  F_law := c.t.d.def_ 22 (d := d_law) rfl
  g_is_name := He.glo_ok X G (c.t.d.fact 0 (f := .glo "is_name") rfl)
  g_has_level := He.glo_ok X G (c.t.d.fact 1 (f := .glo "has_level") rfl)
  g_same_values := He.glo_ok X G (c.t.d.fact 2 (f := .glo "same_values") rfl)
  g_is_value := He.glo_ok X G (c.t.d.fact 3 (f := .glo "is_value") rfl)
  g_same := He.glo_ok X G (c.t.d.fact 4 (f := .glo "same") rfl)
  g__law_pail := He.glo_ok X G (c.t.d.fact 5 (f := .glo "_law_pail") rfl)
  g__law_deal := He.glo_ok X G (c.t.d.fact 6 (f := .glo "_law_deal") rfl)
  g__law_any := He.glo_ok X G (c.t.d.fact 7 (f := .glo "_law_any") rfl)
  g__law_shuffled := He.glo_ok X G (c.t.d.fact 8 (f := .glo "_law_shuffled") rfl)
  g__law_same := He.glo_ok X G (c.t.d.fact 9 (f := .glo "_law_same") rfl)
  g__law_swapped := He.glo_ok X G (c.t.d.fact 10 (f := .glo "_law_swapped") rfl)
  g__law_name := He.glo_ok X G (c.t.d.fact 11 (f := .glo "_law_name") rfl)
  g__law_names := He.glo_ok X G (c.t.d.fact 12 (f := .glo "_law_names") rfl)
  g__law_text := He.glo_ok X G (c.t.d.fact 13 (f := .glo "_law_text") rfl)
  g__law_number := He.glo_ok X G (c.t.d.fact 14 (f := .glo "_law_number") rfl)
  g__law_any_value := He.glo_ok X G (c.t.d.fact 15 (f := .glo "_law_any_value") rfl)
  g__law_copy := He.glo_ok X G (c.t.d.fact 16 (f := .glo "_law_copy") rfl)
  g__law_otherwise := He.glo_ok X G (c.t.d.fact 17 (f := .glo "_law_otherwise") rfl)
  g__law_refused := He.glo_ok X G (c.t.d.fact 18 (f := .glo "_law_refused") rfl)
  g__law_bounds_right := He.glo_ok X G (c.t.d.fact 19 (f := .glo "_law_bounds_right") rfl)
  g__law_right := He.glo_ok X G (c.t.d.fact 20 (f := .glo "_law_right") rfl)
  g_law := He.glo_ok X G (c.t.d.fact 21 (f := .glo "law") rfl)
  g_ShapeError := He.glo_ok X G (c.t.d.fact 22 (f := .glo "ShapeError") rfl)
  g_InvalidValue := He.glo_ok X G (c.t.d.fact 23 (f := .glo "InvalidValue") rfl)
  n_abs := He.free_ok X G (c.t.d.fact 24 (f := .free "abs") rfl)
  n_all := He.free_ok X G (c.t.d.fact 25 (f := .free "all") rfl)
  n_bool := He.free_ok X G (c.t.d.fact 26 (f := .free "bool") rfl)
  n_dict := He.free_ok X G (c.t.d.fact 27 (f := .free "dict") rfl)
  n_divmod := He.free_ok X G (c.t.d.fact 28 (f := .free "divmod") rfl)
  n_int := He.free_ok X G (c.t.d.fact 29 (f := .free "int") rfl)
  n_isinstance := He.free_ok X G (c.t.d.fact 30 (f := .free "isinstance") rfl)
  n_len := He.free_ok X G (c.t.d.fact 31 (f := .free "len") rfl)
  n_list := He.free_ok X G (c.t.d.fact 32 (f := .free "list") rfl)
  n_min := He.free_ok X G (c.t.d.fact 33 (f := .free "min") rfl)
  n_range := He.free_ok X G (c.t.d.fact 34 (f := .free "range") rfl)
  n_repr := He.free_ok X G (c.t.d.fact 35 (f := .free "repr") rfl)
  n_sorted := He.free_ok X G (c.t.d.fact 36 (f := .free "sorted") rfl)
  n_str := He.free_ok X G (c.t.d.fact 37 (f := .free "str") rfl)
  n_tuple := He.free_ok X G (c.t.d.fact 38 (f := .free "tuple") rfl)
  n_zip := He.free_ok X G (c.t.d.fact 39 (f := .free "zip") rfl)
  c_LETTERS := He.str_ok X G (c.t.d.fact 40 (f := .str "LETTERS" "abcdefghijklmnopqrstuvwxyz") rfl)
  c_MAX_ELEMENTS := He.int_ok X G (c.t.d.fact 41 (f := .int "MAX_ELEMENTS" 60) rfl)
  c_MAX_LEVELS := He.int_ok X G (c.t.d.fact 42 (f := .int "MAX_LEVELS" 6) rfl)
  x_InvalidValue := M.oexB_ok (ex_at c.more 0 rfl)
  i_InvalidValue := of_decide_eq_true (ex_at c.more 1 rfl)
  t_InvalidValue := of_decide_eq_true (ex_at c.more 2 rfl)
  no_InvalidValue := of_decide_eq_true (ex_at c.more 3 rfl)
  xf_InvalidValue := L2.xfB_ok (ex_at c.more 4 rfl)
  xe_InvalidValue := M.excB_ok (ex_at c.more 5 rfl)
  m__law_refused_InvalidValue := of_decide_eq_true (ex_at c.more 6 rfl)
  tb__law_right := tb ("_law_right", none) (by decide)
theorem tt_in {K : PySem.W.Frag} {H : L2.Hp} (hT : ∀ p ∈ tf.map (He.cT K), H p.2 = some (.tbl #[])) {p : Addr × Str} (hp : p ∈ TT K) : H p.1 = some (.tbl #[]) := by
  unfold TT at hp
  simp only [List.mem_cons, List.not_mem_nil, or_false] at hp
  rcases hp with rfl
  · exact hT _ (List.mem_map.mpr ⟨("_law_right", none), by decide, rfl⟩)

end My
open PySem PySem.W PySem.Calls PyProof.Rows
theorem PySem.Challenge.cw_shapekeep_k04_main_whole_values_that_are_holds : PySem.Challenge.rw_shapekeep_k04_main_whole_values_that_are.Holds := by
  w_on; o_law
  refine HandSHeadRun.head_any (r := OpenLaw.row PySem.Challenge.rw_shapekeep_k04_main_whole_values_that_are) (q := view (OpenLaw.row PySem.Challenge.rw_shapekeep_k04_main_whole_values_that_are).prog [30]) (H := My.hk) (ob := My.ob) (M := 4000) (loose := My.loose) (d := HandSHeadRun.topDef (OpenLaw.row PySem.Challenge.rw_shapekeep_k04_main_whole_values_that_are).prog 30) (kwd := []) My.ob_eq
    (by kernel_rfl) (fun s => by kernel_rfl) My.run (by kernel_rfl) (by kernel_rfl) (by kernel_rfl) (by rfl) (by first | assumption | decide +kernel) (by decide +kernel) ⟨rfl, rfl, rfl, rfl, rfl, by decide +kernel⟩ ?hw ?hc
  case hw => w_witness2
  case hc =>
    refine LamX.walk_ofTsE (l := PySem.Challenge.rw_shapekeep_k04_main_whole_values_that_are) (n := 63) (k := 17) (x := "script") (CX := fun w => L2.CX (PySem.Challenge.rw_shapekeep_k04_main_whole_values_that_are).prog w) rfl (by decide) (by kernel_rfl) ⟨rfl, by decide, by decide⟩ ?F (fun w H s e s' h => by
      obtain ⟨_, _, _, _, _, _, _, _, _, _, _, _, z⟩ := h
      exact z)
    intro w mg fa h Y G hmg0
    obtain ⟨K, KX, c⟩ := Y
    have hmg : mg ("law" : PySem.Str) = some (.ref fa) := by
      have e : (HandSHeadRun.topDef (OpenLaw.row PySem.Challenge.rw_shapekeep_k04_main_whole_values_that_are).prog 30).name = ("law" : PySem.Str) := by kernel_rfl
      rw [← e]
      exact hmg0
    obtain ⟨fd, F⟩ := c.t.d.def_ 22 (d := My.d_law) rfl
    have efa : fa = He.ga K "law" := by
      have e := hmg.symm.trans (He.glo_ok KX G (c.t.d.fact 21 (f := .glo "law") rfl))
      cases e
      rfl
    subst efa
    refine ⟨K, KX, fd, My.tf.map (He.cT K), M.spM K (My.TT K) 1 (My.m_law (My.ads K)), ?_, ?_, ?_, ?_, ?_, ?_⟩
    · intro p hp
      obtain ⟨q, hq, rfl⟩ := List.mem_map.mp hp
      exact c.empty q hq
    · intro p hp
      obtain ⟨q, hq, rfl⟩ := List.mem_map.mp hp
      exact c.out q hq
    · intro p hp
      obtain ⟨q, hq, rfl⟩ := List.mem_map.mp hp
      exact PySem.W.codeHd_of_K KX (c.hd q hq)
    · exact fun s u => L2.FunD.bindsA (ps := ["script"]) F (fun _ _ _ _ _ _ us hl => match us, hl with | [_], _ => rfl) s [u] rfl
    · intro H a ns hn hb hT hS
      refine M.law_sp (fun p hp => ?_) hS (My.plain (My.ads K)  ns hn)
      exact My.tt_in hT hp
    · intro base hKb hGb hTb
      exact My.ok_law (My.fx_of hKb hGb c fun p hp => hTb _ (List.mem_map.mpr ⟨p, hp, rfl⟩)) fd F
