import PyProof.Rows.All
import Wide.All
import OpenK.AllK
import Wide.FinOn
import HandS.ForMost
import HandS.Exc
import HandS.Conv
import HandS.Codes
import HandS.IsInst
import HandS.Flow
import HandS.TupAny
import HandS.TupMul
import HandS.Wide
import HandS.WideBits
import HandS.CallSlots
import HandS.WordsExc
import HandS.Defaults
import HandS.Lambda
import HandS.ExcInit
import HandS.ExcField
import KE.KTryMore
import KE.KExcIs
import HandS.ExcIs
import HandS.Iter
import KE.GoesMore
import HandS.Comp
import HandS.SetFor
import HandS.Style
import KE.KRevSl
import HandS.Head0
import HandS.Head1
import HandS.Head2
import HandS.HeadEnd
import HandS.HeadHook1
import HandS.HeadHook2
import HandS.HeadHook3
import HandS.HeadHook4
import HandS.HeadWalk
import PySem.Challenge.RW_shapekeep_k77_whole_patches_on_any_texts
set_option Elab.async false
set_option linter.all false
set_option maxRecDepth 100000
set_option maxHeartbeats 0
/-! M1: data values, what represents them in a heap, environments, the transformers. -/
namespace M
open PySem PySem.Spec PyProof.Rows L2

/-- data -/
inductive D where
  | non | bl (b : Bool) | int (i : Int) | str (x : Str) | adr (a : Addr) | ty (n : String)
  | tup (ds : List D) | lst (ds : List D) | rol (ds : List D) | dct (kvs : List (Key × D)) | ins (C : Addr) (fs : List (Str × D))

/-- what is read in F is read in H -/
structure Le (F H : Hp) : Prop where
  rd : ∀ a u, (∀ ps, u ≠ .tbl ps) → Rd F a u → Rd H a u
  th : ∀ a o, F a = some o → ∃ y, H a = some y
  ls : ∀ a xs, F a = some (.lst xs) → H a = some (.lst xs)
  xd : ∀ a xs, F a = some (.xd xs) → H a = some (.xd xs)
theorem Le.refl (F : Hp) : Le F F := ⟨fun _ _ _ h => h, fun _ o h => ⟨o, h⟩, fun _ _ h => h, fun _ _ h => h⟩
theorem Le.trans {F G H : Hp} (a : Le F G) (b : Le G H) : Le F H := ⟨fun x u n h => b.rd x u n (a.rd x u n h), fun x o h => let ⟨y, h1⟩ := a.th x o h; b.th x y h1, fun x u h => b.ls x u (a.ls x u h), fun x u h => b.xd x u (a.xd x u h)⟩

section
variable (K : PySem.W.Frag) (F : Hp)
mutual
inductive Rep : V → D → Prop
  | non : Rep .non .non
  | bl (b : Bool) : Rep (.bl b) (.bl b)
  | int (i : Int) : Rep (.int i) (.int i)
  | str (x : Str) : Rep (.str x) (.str x)
  | adr (a : Addr) : Rep (.ref a) (.adr a)
  | ty (n : String) : Rep (.ty n) (.ty n)
  | tup {a : Addr} {xs : List V} {ds : List D} (h : SqT K F a xs) (r : Reps xs ds) : Rep (.ref a) (.tup ds)
  | lst {a : Addr} {xs : List V} {ds : List D} (h : F a = some (.lst xs)) (r : Reps xs ds) : Rep (.ref a) (.lst ds)
  | rol {a : Addr} {xs : List V} {ds : List D} (h : SqL K F a xs) (r : Reps xs ds) : Rep (.ref a) (.rol ds)
  | dct {a : Addr} {xs : List (Key × V)} {ds : List (Key × D)} (h : Rd F a (.dK xs)) (r : RepK xs ds) : Rep (.ref a) (.dct ds)
  | ins {a C dx : Addr} {xs : List (Str × V)} {ds : List (Str × D)} (h : Rd F a (.ins C dx xs)) (r : RepF xs ds) : Rep (.ref a) (.ins C ds)
inductive Reps : List V → List D → Prop
  | nil : Reps [] []
  | cons {x : V} {xs : List V} {d : D} {ds : List D} (h : Rep x d) (r : Reps xs ds) : Reps (x :: xs) (d :: ds)
inductive RepK : List (Key × V) → List (Key × D) → Prop
  | nil : RepK [] []
  | cons {k : Key} {x : V} {xs : List (Key × V)} {d : D} {ds : List (Key × D)} (h : Rep x d) (r : RepK xs ds) : RepK ((k, x) :: xs) ((k, d) :: ds)
inductive RepF : List (Str × V) → List (Str × D) → Prop
  | nil : RepF [] []
  | cons {k : Str} {x : V} {xs : List (Str × V)} {d : D} {ds : List (Str × D)} (h : Rep x d) (r : RepF xs ds) : RepF ((k, x) :: xs) ((k, d) :: ds)
end
end

theorem le_d {F H : Hp} {a : Addr} {xs : List (Key × V)} (e : Le F H) (h : Rd F a (.dK xs)) : Rd H a (.dK xs) := e.rd a _ (fun _ z => nomatch z) h
theorem le_i {F H : Hp} {a C dx : Addr} {xs : List (Str × V)} (e : Le F H) (h : Rd F a (.ins C dx xs)) : Rd H a (.ins C dx xs) := e.rd a _ (fun _ z => nomatch z) h
theorem le_l {K : PySem.W.Frag} {F H : Hp} {a : Addr} {xs : List V} (e : Le F H) (h : SqL K F a xs) : SqL K H a xs := by
  rcases h with h | h
  · exact .inl (e.rd a _ (fun _ z => nomatch z) h)
  · exact .inr h
theorem le_t {K : PySem.W.Frag} {F H : Hp} {a : Addr} {xs : List V} (e : Le F H) (h : SqT K F a xs) : SqT K H a xs := by
  rcases h with h | h
  · exact .inl (e.rd a _ (fun _ z => nomatch z) h)
  · exact .inr h

section
variable {K : PySem.W.Frag} {F H : Hp}
mutual
theorem Rep.mono {v : V} {d : D} (e : Le F H) : Rep K F v d → Rep K H v d
  | .non => .non
  | .bl b => .bl b
  | .int i => .int i
  | .str x => .str x
  | .adr a => .adr a
  | .ty n => .ty n
  | .tup h r => .tup (le_t e h) (Reps.mono e r)
  | .lst h r => .lst (e.ls _ _ h) (Reps.mono e r)
  | .rol h r => .rol (le_l e h) (Reps.mono e r)
  | .dct h r => .dct (le_d e h) (RepK.mono e r)
  | .ins h r => .ins (le_i e h) (RepF.mono e r)
theorem Reps.mono {vs : List V} {ds : List D} (e : Le F H) : Reps K F vs ds → Reps K H vs ds
  | .nil => .nil
  | .cons h r => .cons (Rep.mono e h) (Reps.mono e r)
theorem RepK.mono {vs : List (Key × V)} {ds : List (Key × D)} (e : Le F H) : RepK K F vs ds → RepK K H vs ds
  | .nil => .nil
  | .cons h r => .cons (Rep.mono e h) (RepK.mono e r)
theorem RepF.mono {vs : List (Str × V)} {ds : List (Str × D)} (e : Le F H) : RepF K F vs ds → RepF K H vs ds
  | .nil => .nil
  | .cons h r => .cons (Rep.mono e h) (RepF.mono e r)
end
theorem Reps.length : ∀ {vs : List V} {ds : List D}, Reps K F vs ds → vs.length = ds.length
  | _, _, .nil => rfl
  | _, _, .cons _ r => congrArg (· + 1) (Reps.length r)
theorem Reps.get : ∀ {vs : List V} {ds : List D} {i : Nat} {d : D}, Reps K F vs ds → ds[i]? = some d → ∃ v, vs[i]? = some v ∧ Rep K F v d
  | _, _, _, _, .nil, e => by simp at e
  | _, _, 0, _, .cons h _, e => by
    have e' := Option.some.inj e
    subst e'
    exact ⟨_, rfl, h⟩
  | _, _, i + 1, d, .cons _ r, e => by
    obtain ⟨v, h1, h2⟩ := Reps.get (i := i) (d := d) r (by simpa using e)
    exact ⟨v, by simpa using h1, h2⟩
theorem Reps.get' : ∀ {vs : List V} {ds : List D} {i : Nat} {v : V}, Reps K F vs ds → vs[i]? = some v → ∃ d, ds[i]? = some d ∧ Rep K F v d
  | _, _, _, _, .nil, e => by simp at e
  | _, _, 0, _, .cons h _, e => by
    have e' := Option.some.inj e
    subst e'
    exact ⟨_, rfl, h⟩
  | _, _, i + 1, d, .cons _ r, e => by
    obtain ⟨v, h1, h2⟩ := Reps.get' (i := i) (v := d) r (by simpa using e)
    exact ⟨v, by simpa using h1, h2⟩
theorem Reps.append : ∀ {xs ys : List V} {ds es : List D}, Reps K F xs ds → Reps K F ys es → Reps K F (xs ++ ys) (ds ++ es)
  | _, _, _, _, .nil, s => s
  | _, _, _, _, .cons h r, s => .cons h (Reps.append r s)
theorem Reps.take : ∀ {xs : List V} {ds : List D} (n : Nat), Reps K F xs ds → Reps K F (xs.take n) (ds.take n)
  | _, _, 0, _ => .nil
  | _, _, _ + 1, .nil => .nil
  | _, _, n + 1, .cons h r => .cons h (Reps.take n r)
theorem Reps.drop : ∀ {xs : List V} {ds : List D} (n : Nat), Reps K F xs ds → Reps K F (xs.drop n) (ds.drop n)
  | _, _, 0, r => r
  | _, _, _ + 1, .nil => .nil
  | _, _, n + 1, .cons _ r => Reps.drop n r
theorem Reps.set {x : V} {d : D} (h : Rep K F x d) : ∀ {xs : List V} {ds : List D} (n : Nat), Reps K F xs ds → Reps K F (xs.set n x) (ds.set n d)
  | _, _, _, .nil => .nil
  | _, _, 0, .cons _ r => .cons h r
  | _, _, n + 1, .cons q r => .cons q (Reps.set h n r)
theorem Reps.reverse {xs : List V} {ds : List D} (r : Reps K F xs ds) : Reps K F xs.reverse ds.reverse := by
  induction xs generalizing ds with
  | nil => cases r; exact .nil
  | cons x xs ih =>
    cases r with
    | cons h r =>
      rw [List.reverse_cons, List.reverse_cons]
      exact (ih r).append (.cons h .nil)
theorem Reps.flat : ∀ {k : Nat} {xs : List V} {ds : List D}, Reps K F xs ds → Reps K F (List.replicate k xs).flatten (List.replicate k ds).flatten
  | 0, _, _, _ => .nil
  | k + 1, _, _, r => by
    rw [List.replicate_succ, List.replicate_succ, List.flatten_cons, List.flatten_cons]
    exact r.append (Reps.flat (k := k) r)
theorem Reps.eraseIdx : ∀ {xs : List V} {ds : List D} (n : Nat), Reps K F xs ds → Reps K F (xs.eraseIdx n) (ds.eraseIdx n)
  | _, _, _, .nil => .nil
  | _, _, 0, .cons _ r => r
  | _, _, n + 1, .cons h r => .cons h (Reps.eraseIdx n r)
theorem Reps.dropLast {xs : List V} {ds : List D} (r : Reps K F xs ds) : Reps K F xs.dropLast ds.dropLast := by
  rw [List.dropLast_eq_take, List.dropLast_eq_take, r.length]
  exact r.take _
end

/-! ### what may change: a list, a dict -/
inductive Mo where
  | l (ds : List D) | d (kvs : List (Key × D))
def MoAt (K : PySem.W.Frag) (F H : Hp) (a : Addr) : Mo → Prop
  | .l ds => ∃ vs, H a = some (.lst vs) ∧ Reps K F vs ds
  | .d ds => ∃ vs, H a = some (.dK vs) ∧ RepK K F vs ds
theorem MoAt.mono {K : PySem.W.Frag} {F F' H : Hp} {a : Addr} {m : Mo} (e : Le F F') (h : MoAt K F H a m) : MoAt K F' H a m := by
  cases m with
  | l ds => obtain ⟨vs, h1, h2⟩ := h; exact ⟨vs, h1, h2.mono e⟩
  | d ds => obtain ⟨vs, h1, h2⟩ := h; exact ⟨vs, h1, h2.mono e⟩
theorem MoAt.keep {K : PySem.W.Frag} {F H H' : Hp} {a : Addr} {m : Mo} (e : H' a = H a) (h : MoAt K F H a m) : MoAt K F H' a m := by
  cases m with
  | l ds => obtain ⟨vs, h1, h2⟩ := h; exact ⟨vs, e.trans h1, h2⟩
  | d ds => obtain ⟨vs, h1, h2⟩ := h; exact ⟨vs, e.trans h1, h2⟩
theorem MoAt.there {K : PySem.W.Frag} {F H : Hp} {a : Addr} {m : Mo} (h : MoAt K F H a m) : ∃ o, H a = some o := by
  cases m with
  | l ds => obtain ⟨vs, h1, h2⟩ := h; exact ⟨_, h1⟩
  | d ds => obtain ⟨vs, h1, h2⟩ := h; exact ⟨_, h1⟩

theorem MoAt.there' {K : PySem.W.Frag} {F H : Hp} {a : Addr} {m : Mo} (h : MoAt K F H a m) : (∃ xs, H a = some (.lst xs)) ∨ ∃ xs, H a = some (.dK xs) := by
  cases m with
  | l ds => obtain ⟨vs, h1, h2⟩ := h; exact .inl ⟨_, h1⟩
  | d ds => obtain ⟨vs, h1, h2⟩ := h; exact .inr ⟨_, h1⟩
theorem MoAt.ntbl {K : PySem.W.Frag} {F H : Hp} {a : Addr} {m : Mo} {o : HO} (h : MoAt K F H a m) (e : H a = some o) : ∀ ps, o ≠ .tbl ps := fun ps z => by
  rcases h.there' with ⟨xs, q⟩ | ⟨xs, q⟩
  · rw [q, z] at e; cases e
  · rw [q, z] at e; cases e
/-- the tables bear what is laid, what is written -/
theorem tabs_upd {T : List (Addr × Str)} {H : Hp} {p : Addr} {o : HO} (ht : LamX.Tabs T H) (h : H p = none ∨ (∃ xs, H p = some (.lst xs)) ∨ ∃ xs, H p = some (.dK xs)) : LamX.Tabs T (upd H p o) := by
  intro q hq
  obtain ⟨ps, h1, h2, h3⟩ := ht q hq
  have n1 : q.1 ≠ p := fun z => by
    rw [z] at h1
    rcases h with h | ⟨xs, h⟩ | ⟨xs, h⟩ <;> rw [h] at h1 <;> cases h1
  refine ⟨ps, by rw [upd_ne n1]; exact h1, h2, fun pos cv hc => ?_⟩
  obtain ⟨c, e1, e2⟩ := h3 pos cv hc
  have n2 : c ≠ p := fun z => by
    rw [z] at e2
    unfold LamX.CodeO at e2
    rcases h with h | ⟨xs, h⟩ | ⟨xs, h⟩ <;> rw [h] at e2 <;> cases e2
  exact ⟨c, e1, by rw [upd_ne n2]; exact e2⟩

/-! ### environments -/
/-- the heap at the def's entry; the exception that is handled: its place, its class, its dict; the tables of code objects -/
structure HE where
  h : Hp
  ex : Addr → Value → Option Addr → Prop
  T : List (Addr × Str)
instance : CoeFun HE (fun _ => Addr → Option HO) := ⟨fun e => e.h⟩
/-- an exception's dict -/
def ExAt (K : PySem.W.Frag) (F : Hp) (d : Option Addr) (fs : List (Str × D)) : Prop := (d = none ∧ fs = []) ∨ ∃ dx vs, d = some dx ∧ F dx = some (.xd vs) ∧ RepF K F vs fs

inductive Slot where
  | un | val (d : D) | own (m : Mo) | par (m : Mo) | exc (C : Value) (fs : List (Str × D))
abbrev En := List Slot
def Slot.mo? : Slot → Option Mo
  | .own m => some m
  | .par m => some m
  | _ => none
def moAt (ρ : En) (i : Nat) : Option Mo := (ρ[i]?).bind Slot.mo?
def isPar (ρ : En) (i : Nat) : Prop := ∃ m, ρ[i]? = some (.par m)
def OwnA (ρ : En) (A : Nat → Addr) (a : Addr) : Prop := ∃ i m, moAt ρ i = some m ∧ A i = a

theorem ExAt.mono {K : PySem.W.Frag} {F F' : Hp} {d : Option Addr} {fs : List (Str × D)} (e : Le F F') (h : ExAt K F d fs) : ExAt K F' d fs := by
  rcases h with h | ⟨dx, vs, h1, h2, h3⟩
  · exact .inl h
  · exact .inr ⟨dx, vs, h1, e.xd _ _ h2, h3.mono e⟩
def SlotOk (K : PySem.W.Frag) (H0 : HE) (F H : Hp) (σ : L2.St) (A : Nat → Addr) (i : Nat) : Slot → Prop
  | .un => True
  | .val d => ∃ v, σ[i]? = some (some v) ∧ Rep K F v d
  | .own m => σ[i]? = some (some (.ref (A i))) ∧ F (A i) = none ∧ MoAt K F H (A i) m ∧ H0 (A i) = none
  | .par m => σ[i]? = some (some (.ref (A i))) ∧ F (A i) = none ∧ MoAt K F H (A i) m
  | .exc C fs => ∃ a d, σ[i]? = some (some (.ref a)) ∧ H0.ex a C d ∧ ExAt K F d fs

/-- the state: F what is frozen, H the heap, σ the names' values, ρ what they stand for, A where the owned things stand; H0 the heap at the def's entry -/
structure ER (K : PySem.W.Frag) (H0 : HE) (F H : Hp) (σ : L2.St) (ρ : En) (A : Nat → Addr) : Prop where
  len : σ.length = ρ.length
  le : Le F H
  sl : ∀ (i : Nat) (s : Slot), ρ[i]? = some s → SlotOk K H0 F H σ A i s
  inj : ∀ (i j : Nat) (m m' : Mo), moAt ρ i = some m → moAt ρ j = some m' → A i = A j → i = j
  dom : ∀ a x, H0 a = some x → ∃ y, H a = some y
  tabs : LamX.Tabs H0.T H

/-- a step: what is frozen stays, what is not in S stays, what is newly frozen is new -/
structure Tr (S : Addr → Prop) (F H F' H' : Hp) : Prop where
  ff : Le F F'
  keep : ∀ a x, ¬ S a → (∀ ps, x ≠ .tbl ps) → H a = some x → H' a = some x
  fresh : ∀ a x, F' a = some x → (∃ y, F a = some y) ∨ H a = none ∨ S a
  there : ∀ a x, H a = some x → ∃ y, H' a = some y

theorem Tr.refl {S : Addr → Prop} {F H : Hp} : Tr S F H F H := ⟨Le.refl F, fun _ _ _ _ h => h, fun _ x h => .inl ⟨x, h⟩, fun _ x h => ⟨x, h⟩⟩
theorem none_back {H H' : Hp} (t : ∀ a x, H a = some x → ∃ y, H' a = some y) {a : Addr} (h : H' a = none) : H a = none := by
  cases q : H a with
  | none => rfl
  | some o => obtain ⟨y, e⟩ := t a o q; rw [h] at e; cases e
/-- two steps; what the second may change: what the first might, or what was made since -/
theorem Tr.trans {S T : Addr → Prop} {F H F1 H1 F2 H2 : Hp} (a : Tr S F H F1 H1) (b : Tr T F1 H1 F2 H2) (st : ∀ x, T x → S x ∨ H x = none) : Tr S F H F2 H2 where
  ff := a.ff.trans b.ff
  keep := fun x o n nt e => b.keep x o (fun t => by
    rcases st x t with h | h
    · exact n h
    · rw [h] at e; cases e) nt (a.keep x o n nt e)
  fresh := fun x o e => by
    rcases b.fresh x o e with ⟨y, h⟩ | h | h
    · exact a.fresh x y h
    · exact .inr (.inl (none_back a.there h))
    · rcases st x h with q | q
      · exact .inr (.inr q)
      · exact .inr (.inl q)
  there := fun x o e => by
    obtain ⟨y, h⟩ := a.there x o e
    exact b.there x y h
theorem Tr.mono {S T : Addr → Prop} {F H F1 H1 : Hp} (a : Tr S F H F1 H1) (st : ∀ x, S x → T x) : Tr T F H F1 H1 :=
  ⟨a.ff, fun x o n nt e => a.keep x o (fun h => n (st x h)) nt e, fun x o e => (a.fresh x o e).imp_right (.imp_right (st x)), a.there⟩

/-- the slots' sorts behind an expression: owned ones were owned, parameters stay -/
structure Sb (ρ ρ' : En) : Prop where
  own : ∀ (i : Nat) (m' : Mo), moAt ρ' i = some m' → ∃ m, moAt ρ i = some m
  par : ∀ (i : Nat) (m : Mo), ρ[i]? = some (Slot.par m) → ∃ m', ρ'[i]? = some (Slot.par m')
theorem Sb.refl {ρ : En} : Sb ρ ρ := ⟨fun _ m h => ⟨m, h⟩, fun _ m h => ⟨m, h⟩⟩
theorem Sb.trans {ρ ρ1 ρ2 : En} (a : Sb ρ ρ1) (b : Sb ρ1 ρ2) : Sb ρ ρ2 :=
  ⟨fun i m h => let ⟨m1, h1⟩ := b.own i m h; a.own i m1 h1, fun i m h => let ⟨m1, h1⟩ := a.par i m h; b.par i m1 h1⟩
theorem Sb.ownA {ρ ρ' : En} {A : Nat → Addr} (s : Sb ρ ρ') {a : Addr} (h : OwnA ρ' A a) : OwnA ρ A a := by
  obtain ⟨i, m, h1, h2⟩ := h
  obtain ⟨m', h3⟩ := s.own i m h1
  exact ⟨i, m', h3, h2⟩
theorem Tr.then {ρ ρ1 : En} {A : Nat → Addr} {F H F1 H1 F2 H2 : Hp} (a : Tr (OwnA ρ A) F H F1 H1) (s : Sb ρ ρ1) (b : Tr (OwnA ρ1 A) F1 H1 F2 H2) : Tr (OwnA ρ A) F H F2 H2 :=
  a.trans b fun x h => .inl (s.ownA h)

/-! ### results -/
inductive Res where
  | val (d : D) | new (m : Mo) | brw (i : Nat)
def RAt (K : PySem.W.Frag) (H0 : HE) (ok : Addr → Prop) (F H : Hp) (ρ : En) (A : Nat → Addr) (v : V) : Res → Prop
  | .val d => Rep K F v d
  | .new m => ∃ p, v = .ref p ∧ F p = none ∧ ¬ OwnA ρ A p ∧ MoAt K F H p m ∧ H0 p = none ∧ ok p
  | .brw i => (∃ m, moAt ρ i = some m) ∧ v = .ref (A i)

/-- outcomes: a value, or an exception of the class at C with its fields -/
inductive Out (α : Type) where
  | ok (a : α) (ρ : En)
  | ex (C : Value) (fs : List (Str × D)) (ρ : En)
abbrev EM (α : Type) := En → Option (Out α)

section
variable (K : PySem.W.Frag) (H0 : HE) (W : WX)
/-- what a step from here may freeze: what is new, what was owned -/
def Okp (ρ : En) (A : Nat → Addr) (H : Hp) (p : Addr) : Prop := H p = none ∨ OwnA ρ A p
def Post {α β : Type} (R : (Addr → Prop) → Hp → Hp → En → (Nat → Addr) → β → α → Prop) (ok : Addr → Prop) (σ : L2.St) (F H : Hp) (ρ : En) (A : Nat → Addr) (Q : β → Hp → Prop) : Out α → Prop
  | .ok a ρ' => ∀ b F' H', Tr (OwnA ρ A) F H F' H' → ER K H0 F' H' σ ρ' A → Sb ρ ρ' → R ok F' H' ρ' A b a → Q b H'
  | .ex C fs ρ' => ∀ d F' H', Tr (OwnA ρ A) F H F' H' → ER K H0 F' H' σ ρ' A → Sb ρ ρ' → ExAt K F' d fs → W C d σ H'
/-- from the state (F, ρ, A): g's outcome leads to Q; ok: what may be frozen of what comes out -/
def WpAt {α β : Type} (R : (Addr → Prop) → Hp → Hp → En → (Nat → Addr) → β → α → Prop) (ok : Addr → Prop) (F : Hp) (ρ : En) (A : Nat → Addr) (g : EM α) (σ : L2.St) (H : Hp) (Q : β → Hp → Prop) : Prop :=
  ER K H0 F H σ ρ A ∧ (∀ p, Okp ρ A H p → ok p) ∧ ∃ o, g ρ = some o ∧ Post K H0 W R ok σ F H ρ A Q o
def Wp {α β : Type} (R : (Addr → Prop) → Hp → Hp → En → (Nat → Addr) → β → α → Prop) (g : EM α) (σ : L2.St) (H : Hp) (Q : β → Hp → Prop) : Prop := ∃ F ρ A, WpAt K H0 W R (Okp ρ A H) F ρ A g σ H Q
abbrev tE (g : EM Res) : TE := fun σ H Q => Wp K H0 W (RAt K H0) g σ H Q
abbrev tT (g : EM Bool) : TT := fun σ H Q => Wp K H0 W (fun _ _ _ _ _ b a => b = a) g σ H Q
abbrev tO (g : EM (Option Int)) : TO := fun σ H Q => Wp K H0 W (fun _ _ _ _ _ b a => b = a) g σ H Q
end

/-! ### composing -/
def EM.bind {α γ : Type} (g : EM α) (f : α → EM γ) : EM γ := fun ρ => match g ρ with
  | some (.ok a ρ') => f a ρ'
  | some (.ex C fs ρ') => some (.ex C fs ρ')
  | none => none
def EM.pure {α : Type} (a : α) : EM α := fun ρ => some (.ok a ρ)
def EM.lift {α : Type} (o : Option α) : EM α := fun ρ => match o with
  | some a => some (.ok a ρ)
  | none => none
section
variable {K : PySem.W.Frag} {H0 : HE} {W : WX} {α β γ δ : Type} {R : (Addr → Prop) → Hp → Hp → En → (Nat → Addr) → β → α → Prop} {R' : (Addr → Prop) → Hp → Hp → En → (Nat → Addr) → δ → γ → Prop} {σ : L2.St}
def MonoR {β α : Type} (R : (Addr → Prop) → Hp → Hp → En → (Nat → Addr) → β → α → Prop) : Prop := ∀ (ok ok' : Addr → Prop) F H ρ A b a, (∀ p, ok p → ok' p) → R ok F H ρ A b a → R ok' F H ρ A b a
theorem mono_rat : MonoR (RAt K H0) := fun ok ok' F H ρ A b a k h => by
  cases a with
  | val d => exact h
  | new m => obtain ⟨p, h1, h2, h3, h4, h5, h6⟩ := h; exact ⟨p, h1, h2, h3, h4, h5, k p h6⟩
  | brw i => exact h
theorem mono_eq {ε : Type} : MonoR (fun _ _ _ _ _ (b a : ε) => b = a) := fun _ _ _ _ _ _ _ _ _ h => h
theorem Okp.back {ρ ρ1 : En} {A : Nat → Addr} {S : Addr → Prop} {F H F1 H1 : Hp} (tr : Tr S F H F1 H1) (sb : Sb ρ ρ1) (p : Addr) (h : Okp ρ1 A H1 p) : Okp ρ A H p :=
  h.imp (none_back tr.there) sb.ownA
/-- the rule of composition: behind g, from where it leads, f a -/
theorem WpAt.bind {ok okg : Addr → Prop} {g : EM α} {f : α → EM γ} {F H : Hp} {ρ : En} {A : Nat → Addr} {Q : δ → Hp → Prop} {Q1 : β → Hp → Prop} (h : WpAt K H0 W R' ok F ρ A (g.bind f) σ H Q)
    (k : ∀ b a F1 H1 ρ1, Tr (OwnA ρ A) F H F1 H1 → Sb ρ ρ1 → R okg F1 H1 ρ1 A b a → WpAt K H0 W R' ok F1 ρ1 A (f a) σ H1 Q → Q1 b H1) (kg : ∀ p, Okp ρ A H p → okg p := by intro _ h; exact h) : WpAt K H0 W R okg F ρ A g σ H Q1 := by
  obtain ⟨er, kn, o, e, p⟩ := h
  refine ⟨er, kg, ?_⟩
  unfold EM.bind at e
  cases eg : g ρ with
  | none => rw [eg] at e; cases e
  | some og =>
    rw [eg] at e
    cases og with
    | ok a ρ1 =>
      refine ⟨_, rfl, fun b F1 H1 tr er1 sb r => k b a F1 H1 ρ1 tr sb r ⟨er1, fun q z => kn q (z.back tr sb), o, e, ?_⟩⟩
      cases o with
      | ok c ρ2 => exact fun d F2 H2 tr2 er2 sb2 r2 => p d F2 H2 (tr.then sb tr2) er2 (sb.trans sb2) r2
      | ex C fs ρ2 => exact fun d F2 H2 tr2 er2 sb2 r2 => p d F2 H2 (tr.then sb tr2) er2 (sb.trans sb2) r2
    | ex C fs ρ1 =>
      cases e
      exact ⟨_, rfl, p⟩
theorem Wp.at {F H : Hp} {ρ : En} {A : Nat → Addr} {g : EM α} {Q : β → Hp → Prop} (h : WpAt K H0 W R (Okp ρ A H) F ρ A g σ H Q) : Wp K H0 W R g σ H Q := ⟨F, ρ, A, h⟩
/-- the outer wish about what may be frozen is put aside -/
theorem WpAt.own {ok : Addr → Prop} (hm : MonoR R) {F H : Hp} {ρ : En} {A : Nat → Addr} {g : EM α} {Q : β → Hp → Prop} (h : WpAt K H0 W R ok F ρ A g σ H Q) : Wp K H0 W R g σ H Q := by
  obtain ⟨er, kn, o, e, p⟩ := h
  refine ⟨F, ρ, A, er, fun _ z => z, o, e, ?_⟩
  cases o with
  | ok a ρ1 => exact fun b F1 H1 tr er1 sb r => p b F1 H1 tr er1 sb (hm _ _ _ _ _ _ _ _ kn r)
  | ex C fs ρ1 => exact p
/-- an outcome without a step -/
theorem WpAt.ret {ok : Addr → Prop} {F H : Hp} {ρ : En} {A : Nat → Addr} {a : α} {b : β} {Q : β → Hp → Prop} (h : WpAt K H0 W R ok F ρ A (EM.pure a) σ H Q) (r : R ok F H ρ A b a) : Q b H := by
  obtain ⟨er, kn, o, e, p⟩ := h
  cases e
  exact p b F H .refl er .refl r
theorem WpAt.lift {ok : Addr → Prop} {F H : Hp} {ρ : En} {A : Nat → Addr} {o : Option α} {Q : β → Hp → Prop} (h : WpAt K H0 W R ok F ρ A (EM.lift o) σ H Q) : ∃ a, o = some a ∧ WpAt K H0 W R ok F ρ A (EM.pure a) σ H Q := by
  obtain ⟨er, kn, q, e, p⟩ := h
  unfold EM.lift at e
  cases o with
  | none => cases e
  | some a => exact ⟨a, rfl, er, kn, q, e, p⟩
end

/-! ### results persist -/
section
variable {K : PySem.W.Frag} {H0 : HE} {F H F' H' : Hp} {ρ ρ' : En} {A : Nat → Addr} {σ : L2.St} {v : V}
theorem ER.at {i : Nat} {m : Mo} (er : ER K H0 F H σ ρ A) (h : moAt ρ i = some m) : σ[i]? = some (some (.ref (A i))) ∧ F (A i) = none ∧ MoAt K F H (A i) m := by
  unfold moAt at h
  cases e : ρ[i]? with
  | none => rw [e] at h; cases h
  | some s =>
    rw [e] at h
    have q := er.sl i s e
    cases s with
    | un => cases h
    | val d => cases h
    | exc C fs => cases h
    | own m' => cases h; exact ⟨q.1, q.2.1, q.2.2.1⟩
    | par m' => cases h; exact ⟨q.1, q.2.1, q.2.2⟩
/-- an owned thing's place is in the heap -/
theorem ER.ownThere (er : ER K H0 F H σ ρ A) {a : Addr} (h : OwnA ρ A a) : F a = none ∧ ∃ o, H a = some o := by
  obtain ⟨i, m, h1, rfl⟩ := h
  exact ⟨(er.at h1).2.1, (er.at h1).2.2.there⟩
/-- a value goes through a step -/
theorem RAt.val_step {d : D} {ok : Addr → Prop} (h : RAt K H0 ok F H ρ A v (.val d)) (tr : Tr (OwnA ρ A) F H F' H') : RAt K H0 ok F' H' ρ' A v (.val d) := Rep.mono tr.ff h
theorem RAt.new_step {m : Mo} {ok : Addr → Prop} (h : RAt K H0 ok F H ρ A v (.new m)) (tr : Tr (OwnA ρ A) F H F' H') (sb : Sb ρ ρ') : RAt K H0 ok F' H' ρ' A v (.new m) := by
  obtain ⟨p, e, fp, no, mo, h0, hok⟩ := h
  obtain ⟨o, ho⟩ := mo.there
  refine ⟨p, e, ?_, fun q => no (sb.ownA q), (mo.keep ?_).mono tr.ff, h0, hok⟩
  · cases q : F' p with
    | none => rfl
    | some x =>
      rcases tr.fresh p x q with ⟨y, h⟩ | h | h
      · rw [fp] at h; cases h
      · rw [ho] at h; cases h
      · exact absurd h no
  · rw [ho]; exact tr.keep p o no (mo.ntbl ho) ho
end

/-! ### what a result shows: its data, its top in the heap, its parts frozen -/
def Mo.view : Mo → D
  | .l ds => .lst ds
  | .d ds => .dct ds
def view (ρ : En) : Res → Option D
  | .val d => some d
  | .new m => some m.view
  | .brw i => (moAt ρ i).map Mo.view
/-- d stands at v: its top in H, its parts in F -/
def Top (K : PySem.W.Frag) (F H : Hp) (v : V) : D → Prop
  | .lst ds => ∃ a xs, v = .ref a ∧ H a = some (.lst xs) ∧ Reps K F xs ds
  | .dct ds => ∃ a xs, v = .ref a ∧ Rd H a (.dK xs) ∧ RepK K F xs ds
  | d => Rep K F v d
section
variable {K : PySem.W.Frag} {H0 : HE} {F H : Hp} {ρ : En} {A : Nat → Addr} {σ : L2.St} {v : V}
theorem Rep.top {d : D} (e : Le F H) (h : Rep K F v d) : Top K F H v d := by
  cases h with
  | non => exact .non
  | bl b => exact .bl b
  | int i => exact .int i
  | str x => exact .str x
  | adr a => exact .adr a
  | ty n => exact .ty n
  | tup h r => exact .tup h r
  | lst h r => exact ⟨_, _, rfl, e.ls _ _ h, r⟩
  | rol h r => exact .rol h r
  | dct h r => exact ⟨_, _, rfl, e.rd _ _ (fun _ z => nomatch z) h, r⟩
  | ins h r => exact .ins h r
theorem MoAt.top {a : Addr} {m : Mo} (h : MoAt K F H a m) : Top K F H (.ref a) m.view := by
  cases m with
  | l ds => obtain ⟨vs, h1, h2⟩ := h; exact ⟨a, vs, rfl, h1, h2⟩
  | d ds => obtain ⟨vs, h1, h2⟩ := h; exact ⟨a, vs, rfl, Rd.of h1, h2⟩
theorem RAt.top {r : Res} {d : D} {ok : Addr → Prop} (er : ER K H0 F H σ ρ A) (h : RAt K H0 ok F H ρ A v r) (e : view ρ r = some d) : Top K F H v d := by
  cases r with
  | val d' => cases e; exact Rep.top er.le h
  | new m =>
    obtain ⟨p, rfl, _, _, mo, _, _⟩ := h
    cases e
    exact mo.top
  | brw i =>
    obtain ⟨⟨m, hm⟩, rfl⟩ := h
    have e' : (moAt ρ i).map Mo.view = some d := e
    rw [hm] at e'
    cases e'
    exact (er.at hm).2.2.top
/-- through a step: what was borrowed is looked at anew -/
theorem RAt.later {F' H' : Hp} {ρ' : En} {r : Res} {d : D} {ok : Addr → Prop} (er : ER K H0 F' H' σ ρ' A) (h : RAt K H0 ok F H ρ A v r) (tr : Tr (OwnA ρ A) F H F' H') (sb : Sb ρ ρ') (e : view ρ' r = some d) : Top K F' H' v d := by
  cases r with
  | val d' => exact RAt.top (r := .val d') er (RAt.val_step (ρ' := ρ') h tr) e
  | new m => exact RAt.top (r := .new m) er (RAt.new_step h tr sb) e
  | brw i =>
    obtain ⟨_, rfl⟩ := h
    have e' : (moAt ρ' i).map Mo.view = some d := e
    cases hm : moAt ρ' i with
    | none => rw [hm] at e'; cases e'
    | some m =>
      rw [hm] at e'
      cases e'
      exact (er.at hm).2.2.top
end

/-! ### a new thing in the heap -/
section
variable {K : PySem.W.Frag} {H0 : HE} {F H : Hp} {ρ : En} {A : Nat → Addr} {σ : L2.St}
theorem rd_ne {H : Hp} {a p : Addr} {u o : HO} (n : a ≠ p) : Rd (upd H p o) a u ↔ Rd H a u := by
  unfold Rd
  rw [upd_ne n]
theorem rd_there {H : Hp} {a : Addr} {u : HO} (h : Rd H a u) : ∃ o, H a = some o := by
  rcases h with q | ⟨b, q⟩
  · exact ⟨_, q⟩
  · exact ⟨_, q⟩
theorem ne_there {H : Hp} {a p : Addr} {o : HO} (e : H a = some o) (hp : H p = none) : a ≠ p := fun z => by rw [z, hp] at e; cases e
theorem le_new {F H : Hp} {p : Addr} {o : HO} (e : Le F H) (hp : H p = none) : Le F (upd H p o) := by
  refine ⟨fun a u n h => ?_, fun a x h => ?_, fun a xs h => by rw [upd_ne (ne_of_none (e.ls a xs h) hp)]; exact e.ls a xs h, fun a xs h => by rw [upd_ne (ne_of_none (e.xd a xs h) hp)]; exact e.xd a xs h⟩
  · have q := e.rd a u n h
    obtain ⟨x, hx⟩ := rd_there q
    exact (rd_ne (ne_there hx hp)).mpr q
  · obtain ⟨y, hy⟩ := e.th a x h
    exact ⟨y, by rw [upd_ne (ne_there hy hp)]; exact hy⟩
theorem le_upd {F H : Hp} {p : Addr} {ob : HO} (le : Le F H) (hp : F p = none) : Le F (upd H p ob) := by
  refine ⟨fun a u n z => ?_, fun a x h => ?_, fun a xs z => by rw [upd_ne (ne_there z hp)]; exact le.ls a xs z, fun a xs z => by rw [upd_ne (ne_there z hp)]; exact le.xd a xs z⟩
  · obtain ⟨x, hx⟩ := rd_there z
    exact (rd_ne (ne_there hx hp)).mpr (le.rd a u n z)
  · obtain ⟨y, hy⟩ := le.th a x h
    exact ⟨y, by rw [upd_ne (ne_there h hp)]; exact hy⟩
/-- what stands in the heap is frozen -/
theorem le_frz {F H : Hp} {p : Addr} {ob : HO} (e : Le F H) (h : H p = some ob) : Le (upd F p ob) H := by
  refine ⟨fun a u n z => ?_, fun a x z => ?_, fun a xs z => ?_, fun a xs z => ?_⟩
  · by_cases ap : a = p
    · subst ap
      rcases z with z | ⟨b, z⟩
      · rw [upd_same] at z; exact .inl (h.trans z)
      · rw [upd_same] at z; exact .inr ⟨b, h.trans z⟩
    · exact e.rd a u n ((rd_ne ap).mp z)
  · by_cases ap : a = p
    · subst ap; exact ⟨_, h⟩
    · rw [upd_ne ap] at z; exact e.th a x z
  · by_cases ap : a = p
    · subst ap; rw [upd_same] at z; exact h.trans z
    · rw [upd_ne ap] at z; exact e.ls a xs z
  · by_cases ap : a = p
    · subst ap; rw [upd_same] at z; exact h.trans z
    · rw [upd_ne ap] at z; exact e.xd a xs z
theorem le_new2 {F H : Hp} {p : Addr} {o : HO} (e : Le F H) (hp : H p = none) : Le (upd F p o) (upd H p o) := le_frz (le_new e hp) upd_same
theorem le_self {F : Hp} {p : Addr} {o : HO} (h : F p = none) : Le F (upd F p o) := le_new (Le.refl F) h
theorem free_F (e : Le F H) {p : Addr} (h : H p = none) : F p = none := by
  cases q : F p with
  | none => rfl
  | some o =>
    obtain ⟨y, z⟩ := e.th p o q
    rw [h] at z; cases z
theorem free_own (er : ER K H0 F H σ ρ A) {p : Addr} (h : H p = none) : ¬ OwnA ρ A p := fun q => by
  obtain ⟨_, o, e⟩ := er.ownThere q
  rw [h] at e; cases e
/-- .. that stays unfrozen -/
theorem ER.laid (er : ER K H0 F H σ ρ A) {p : Addr} {o : HO} (hp : H p = none) : ER K H0 F (upd H p o) σ ρ A := by
  refine ⟨er.len, le_new er.le hp, fun i s e => ?_, er.inj, fun a x e => ?_, tabs_upd er.tabs (.inl hp)⟩
  · have q := er.sl i s e
    have ne : ∀ {m}, MoAt K F H (A i) m → A i ≠ p := fun {m} mo z => by
      obtain ⟨x, hx⟩ := mo.there
      rw [z, hp] at hx; cases hx
    cases s with
    | un => trivial
    | val d => exact q
    | exc C fs => exact q
    | own m => exact ⟨q.1, q.2.1, q.2.2.1.keep (upd_ne (ne q.2.2.1)), q.2.2.2⟩
    | par m => exact ⟨q.1, q.2.1, q.2.2.keep (upd_ne (ne q.2.2))⟩
  · obtain ⟨y, h⟩ := er.dom a x e
    by_cases z : a = p
    · exact ⟨o, by rw [z]; exact upd_same⟩
    · exact ⟨y, by rw [upd_ne z]; exact h⟩
/-- what is frozen grows -/
theorem ER.grow {F' : Hp} (er : ER K H0 F H σ ρ A) (ff : Le F F') (fh : Le F' H) (no : ∀ a, OwnA ρ A a → F' a = none) : ER K H0 F' H σ ρ A := by
  refine ⟨er.len, fh, fun i s e => ?_, er.inj, er.dom, er.tabs⟩
  have q := er.sl i s e
  cases s with
  | un => trivial
  | val d => obtain ⟨v, h1, h2⟩ := q; exact ⟨v, h1, h2.mono ff⟩
  | exc C fs => obtain ⟨a, d, h1, h2, h3⟩ := q; exact ⟨a, d, h1, h2, h3.mono ff⟩
  | own m => exact ⟨q.1, no _ ⟨i, m, by unfold moAt; rw [e]; rfl, rfl⟩, q.2.2.1.mono ff, q.2.2.2⟩
  | par m => exact ⟨q.1, no _ ⟨i, m, by unfold moAt; rw [e]; rfl, rfl⟩, q.2.2.mono ff⟩
/-- .. that is frozen at once -/
theorem ER.laidF (er : ER K H0 F H σ ρ A) {p : Addr} {o : HO} (hp : H p = none) : ER K H0 (upd F p o) (upd H p o) σ ρ A := by
  have fp := free_F er.le hp
  refine (er.laid hp).grow (le_self fp) (le_new2 er.le hp) fun a h => ?_
  have : a ≠ p := fun z => free_own er hp (by rw [← z]; exact h)
  rw [upd_ne this]
  exact (er.ownThere h).1
theorem Tr.laid {S : Addr → Prop} {p : Addr} {o : HO} (hp : H p = none) : Tr S F H F (upd H p o) where
  ff := Le.refl F
  keep := fun a x _ _ e => by rw [upd_ne (ne_of_none e hp)]; exact e
  fresh := fun a x e => .inl ⟨x, e⟩
  there := fun a x e => ⟨x, by rw [upd_ne (ne_of_none e hp)]; exact e⟩
theorem Tr.laidF {S : Addr → Prop} {p : Addr} {o : HO} (fh : Le F H) (hp : H p = none) : Tr S F H (upd F p o) (upd H p o) where
  ff := le_self (free_F fh hp)
  keep := fun a x _ _ e => by rw [upd_ne (ne_of_none e hp)]; exact e
  fresh := fun a x e => by
    by_cases z : a = p
    · rw [z]; exact .inr (.inl hp)
    · rw [upd_ne z] at e; exact .inl ⟨x, e⟩
  there := fun a x e => ⟨x, by rw [upd_ne (ne_of_none e hp)]; exact e⟩
theorem free_0 (er : ER K H0 F H σ ρ A) {p : Addr} (h : H p = none) : H0 p = none := none_back er.dom h
end
section
variable {K : PySem.W.Frag} {H0 : HE} {W : WX} {F H : Hp} {ρ : En} {A : Nat → Addr} {σ : L2.St} {Q : VK}
/-- an outcome: a new tuple -/
theorem WpAt.tup {ok : Addr → Prop} {ds : List D} {vs : List V} {p : Addr} (h : WpAt K H0 W (RAt K H0) ok F ρ A (EM.pure (.val (.tup ds))) σ H Q) (r : Reps K F vs ds) (hp : H p = none) : Q (.ref p) (upd H p (.tup vs)) := by
  obtain ⟨er, kn, o, e, q⟩ := h
  cases e
  refine q (.ref p) (upd F p (.tup vs)) _ (Tr.laidF er.le hp) (er.laidF hp) .refl ?_
  exact Rep.tup (.inl (.inl upd_same)) (r.mono (le_self (free_F er.le hp)))
/-- an outcome: a new list, a new dict -/
theorem WpAt.new {ok : Addr → Prop} {m : Mo} {ob : HO} {p : Addr} (h : WpAt K H0 W (RAt K H0) ok F ρ A (EM.pure (.new m)) σ H Q) (hp : H p = none) (r : MoAt K F (upd H p ob) p m) : Q (.ref p) (upd H p ob) := by
  obtain ⟨er, kn, o, e, q⟩ := h
  cases e
  exact q (.ref p) F _ (Tr.laid hp) (er.laid hp) .refl ⟨p, rfl, free_F er.le hp, free_own er hp, r, free_0 er hp, kn p (.inl hp)⟩
theorem WpAt.lst {ok : Addr → Prop} {ds : List D} {vs : List V} {p : Addr} (h : WpAt K H0 W (RAt K H0) ok F ρ A (EM.pure (.new (.l ds))) σ H Q) (r : Reps K F vs ds) (hp : H p = none) : Q (.ref p) (upd H p (.lst vs)) :=
  h.new hp ⟨vs, upd_same, r⟩
theorem WpAt.dct {ok : Addr → Prop} {ds : List (Key × D)} {vs : List (Key × V)} {p : Addr} (h : WpAt K H0 W (RAt K H0) ok F ρ A (EM.pure (.new (.d ds))) σ H Q) (r : RepK K F vs ds) (hp : H p = none) : Q (.ref p) (upd H p (.dK vs)) :=
  h.new hp ⟨vs, upd_same, r⟩
/-- an outcome: a value that stands -/
theorem WpAt.val {ok : Addr → Prop} {d : D} {v : V} (h : WpAt K H0 W (RAt K H0) ok F ρ A (EM.pure (.val d)) σ H Q) (r : Rep K F v d) : Q v H := h.ret (b := v) r
end
end M

/-! M2: expressions. -/
namespace M
open PySem PySem.Spec PyProof.Rows L2

section
variable {X : Cx} {e a b c : Expr} {pos : Pos}
theorem _root_.L2.PE.weak {t t' : TE} (h : PE X e t) (k : ∀ σ H Q, t' σ H Q → t σ H Q) : PE X e t' := ⟨fun pins s σ H Q I q => h.run pins s σ H Q I (k σ H Q q)⟩
theorem _root_.L2.PT.weak {t t' : TT} (h : PT X e t) (k : ∀ σ H Q, t' σ H Q → t σ H Q) : PT X e t' := ⟨fun pins s σ H Q I q => h.run pins s σ H Q I (k σ H Q q)⟩
theorem _root_.L2.PW.weak {t t' : TT} (h : PW X e t) (k : ∀ σ H Q, t' σ H Q → t σ H Q) : PW X e t' := ⟨fun w pins s σ H Q I q => h.run w pins s σ H Q I (k σ H Q q)⟩
theorem _root_.L2.PA.weak {es : List Expr} {t t' : TA} (h : PA X es t) (k : ∀ σ H Q, t' σ H Q → t σ H Q) : PA X es t' := ⟨fun p pins s σ H Q I q => h.run p pins s σ H Q I (k σ H Q q)⟩
theorem _root_.L2.PO.weak {o : Option Expr} {t t' : TO} (h : PO X o t) (k : ∀ σ H Q, t' σ H Q → t σ H Q) : PO X o t' := ⟨fun pins s σ H Q I q => h.run pins s σ H Q I (k σ H Q q)⟩
theorem _root_.L2.PS.weak {st : Stmt} {t t' : TS} (h : PS X st t) (k : ∀ D σ H, t' D σ H → t D σ H) : PS X st t' := ⟨fun pins s σ H D I q => h.run pins s σ H D I (k D σ H q)⟩
theorem _root_.L2.PSs.weak {st : List Stmt} {t t' : TS} (h : PSs X st t) (k : ∀ D σ H, t' D σ H → t D σ H) : PSs X st t' := ⟨fun pins s σ H D I q => h.run pins s σ H D I (k D σ H q)⟩
end

/-! ### mirrors of expressions -/
/-- the data of a result -/
def viewM (r : Res) : EM D := fun ρ => match view ρ r with
  | some d => some (.ok d ρ)
  | none => none
def gVar (i : Nat) : EM Res := fun ρ => match ρ[i]? with
  | some (.val d) => some (.ok (.val d) ρ)
  | some (.own _) => some (.ok (.brw i) ρ)
  | some (.par _) => some (.ok (.brw i) ρ)
  | _ => none
def gC (d : D) : EM Res := EM.pure (.val d)
/-- an owned list leaves its name -/
def gMv (i : Nat) : EM Res := fun ρ => match ρ[i]? with
  | some (.own m) => some (.ok (.new m) (ρ.set i .un))
  | _ => none
/-- a new thing is frozen -/
def gFrz (g : EM Res) : EM Res := g.bind fun r => match r with
  | .val d => EM.pure (.val d)
  | .new m => EM.pure (.val m.view)
  | .brw _ => fun _ => none
def op2 (f : D → D → Option Res) (r1 r2 : Res) : EM Res := fun ρ => match view ρ r1, view ρ r2 with
  | some d1, some d2 => (f d1 d2).map fun r => .ok r ρ
  | _, _ => none
def gOp (f : D → D → Option Res) (ga gb : EM Res) : EM Res := ga.bind fun r1 => gb.bind fun r2 => op2 f r1 r2
def op1 (f : D → Option Res) (r1 : Res) : EM Res := fun ρ => match view ρ r1 with
  | some d1 => (f d1).map fun r => .ok r ρ
  | _ => none
def gUn (f : D → Option Res) (ga : EM Res) : EM Res := ga.bind fun r1 => op1 f r1

section
variable {K : PySem.W.Frag} {H0 : HE} {F H : Hp} {W : WX} {ρ : En} {A : Nat → Addr} {σ : L2.St}
/-- soundness of an operation's reading: what the mirror tells leads to what is asked -/
def Snd1 (K : PySem.W.Frag) (r : V → Hp → VK → Prop) (f : D → Option Res) : Prop :=
  ∀ (H0 : HE) (W : WX) (ok : Addr → Prop) (F H : Hp) (ρ : En) (A : Nat → Addr) (σ : L2.St) (x : V) (d : D) (res : Res) (Q : VK), Top K F H x d → f d = some res → WpAt K H0 W (RAt K H0) ok F ρ A (EM.pure res) σ H Q → r x H Q
def Snd2 (K : PySem.W.Frag) (r : R2) (f : D → D → Option Res) : Prop :=
  ∀ (H0 : HE) (W : WX) (ok : Addr → Prop) (F H : Hp) (ρ : En) (A : Nat → Addr) (σ : L2.St) (x y : V) (d1 d2 : D) (res : Res) (Q : VK), Top K F H x d1 → Top K F H y d2 → f d1 d2 = some res → WpAt K H0 W (RAt K H0) ok F ρ A (EM.pure res) σ H Q → r x y H Q
theorem op1_at {ok : Addr → Prop} {f : D → Option Res} {r1 : Res} {Q : VK} (h : WpAt K H0 W (RAt K H0) ok F ρ A (op1 f r1) σ H Q) : ∃ d res, view ρ r1 = some d ∧ f d = some res ∧ WpAt K H0 W (RAt K H0) ok F ρ A (EM.pure res) σ H Q := by
  obtain ⟨er, kn, o, e, p⟩ := h
  unfold op1 at e
  cases e1 : view ρ r1 with
  | none => rw [e1] at e; cases e
  | some d =>
    rw [e1] at e
    cases e2 : f d with
    | none => simp only [e2, Option.map_none] at e; cases e
    | some res =>
      simp only [e2, Option.map_some] at e
      exact ⟨d, res, rfl, e2, er, kn, o, e, p⟩
theorem op2_at {ok : Addr → Prop} {f : D → D → Option Res} {r1 r2 : Res} {Q : VK} (h : WpAt K H0 W (RAt K H0) ok F ρ A (op2 f r1 r2) σ H Q) :
    ∃ d1 d2 res, view ρ r1 = some d1 ∧ view ρ r2 = some d2 ∧ f d1 d2 = some res ∧ WpAt K H0 W (RAt K H0) ok F ρ A (EM.pure res) σ H Q := by
  obtain ⟨er, kn, o, e, p⟩ := h
  unfold op2 at e
  cases e1 : view ρ r1 with
  | none => rw [e1] at e; cases e
  | some d1 =>
    cases e2 : view ρ r2 with
    | none => rw [e1, e2] at e; cases e
    | some d2 =>
      rw [e1, e2] at e
      cases e3 : f d1 d2 with
      | none => simp only [e3, Option.map_none] at e; cases e
      | some res =>
        simp only [e3, Option.map_some] at e
        exact ⟨d1, d2, res, rfl, rfl, e3, er, kn, o, e, p⟩
/-- the steps of two operands -/
theorem two {f : D → D → Option Res} {ga gb : EM Res} {Q : VK} {R : V → V → Hp → Prop} (h : Wp K H0 W (RAt K H0) (gOp f ga gb) σ H Q)
    (k : ∀ x y ok F2 H2 ρ2 A d1 d2 res, Top K F2 H2 x d1 → Top K F2 H2 y d2 → f d1 d2 = some res → WpAt K H0 W (RAt K H0) ok F2 ρ2 A (EM.pure res) σ H2 Q → R x y H2) :
    Wp K H0 W (RAt K H0) ga σ H fun x H1 => Wp K H0 W (RAt K H0) gb σ H1 fun y H2 => R x y H2 := by
  obtain ⟨F, ρ, A, h⟩ := h
  refine ⟨F, ρ, A, h.bind fun x r1 F1 H1 ρ1 tr1 sb1 ra h1 => ⟨F1, ρ1, A, h1.bind fun y r2 F2 H2 ρ2 tr2 sb2 rb h2 => ?_⟩⟩
  obtain ⟨d1, d2, res, e1, e2, e3, h3⟩ := op2_at h2
  exact k x y _ F2 H2 ρ2 A d1 d2 res (ra.later h3.1 tr2 sb2 e1) (rb.top h3.1 e2) e3 h3
end

section
variable {X : Cx} {H0 : HE} {W : WX} {e a b c : Expr} {pos : Pos}
theorem p_var (i : Nat) {x : Str} (hN : X.N[i]? = some x := by rfl) (hv : Vis X.env.scope x := by first | exact Or.inl rfl | exact Or.inr (Or.inl rfl) | exact Or.inr (Or.inr rfl)) (hd : (x == ("__debug__" : Str)) = false := by decide)
    (hcd : (x == ("__classdict__" : Str)) = false := by decide) : PE X (.Name x pos) (tE X.K H0 W (gVar i)) := by
  refine (pe_var hN hv hd hcd).weak fun σ H Q h => ?_
  obtain ⟨F, ρ, A, er, kn, o, e, p⟩ := h
  unfold gVar at e
  cases q : ρ[i]? with
  | none => rw [q] at e; cases e
  | some s =>
    rw [q] at e
    have so := er.sl i s q
    cases s with
    | un => cases e
    | exc C fs => cases e
    | val d =>
      cases e
      obtain ⟨v, h1, h2⟩ := so
      exact ⟨v, h1, p v F H .refl er .refl h2⟩
    | own m =>
      cases e
      exact ⟨_, so.1, p _ F H .refl er .refl ⟨⟨m, by unfold moAt; rw [q]; rfl⟩, rfl⟩⟩
    | par m =>
      cases e
      exact ⟨_, so.1, p _ F H .refl er .refl ⟨⟨m, by unfold moAt; rw [q]; rfl⟩, rfl⟩⟩
theorem p_mv (i : Nat) {x : Str} (hN : X.N[i]? = some x := by rfl) (hv : Vis X.env.scope x := by first | exact Or.inl rfl | exact Or.inr (Or.inl rfl) | exact Or.inr (Or.inr rfl)) (hd : (x == ("__debug__" : Str)) = false := by decide)
    (hcd : (x == ("__classdict__" : Str)) = false := by decide) : PE X (.Name x pos) (tE X.K H0 W (gMv i)) := by
  refine (pe_var hN hv hd hcd).weak fun σ H Q h => ?_
  obtain ⟨F, ρ, A, er, kn, o, e, p⟩ := h
  unfold gMv at e
  cases q : ρ[i]? with
  | none => rw [q] at e; cases e
  | some s =>
    rw [q] at e
    have so := er.sl i s q
    cases s with
    | un => cases e
    | val d => cases e
    | exc C fs => cases e
    | par m => cases e
    | own m =>
      cases e
      have hi : i < ρ.length := (List.getElem?_eq_some_iff.mp q).1
      have moE : ∀ j, moAt (ρ.set i .un) j = if j = i then none else moAt ρ j := fun j => by
        unfold moAt
        by_cases z : j = i
        · subst z; rw [List.getElem?_set_self hi, if_pos rfl]; rfl
        · rw [List.getElem?_set_ne (Ne.symm z), if_neg z]
      have mi : moAt ρ i = some m := by unfold moAt; rw [q]; rfl
      refine ⟨_, so.1, p _ F H .refl ⟨by simpa using er.len, er.le, fun j s e => ?_, fun j k m1 m2 e1 e2 => ?_, er.dom, er.tabs⟩ ⟨fun j m1 e1 => ?_, fun j m1 e1 => ?_⟩ ⟨_, rfl, so.2.1, fun z => ?_, so.2.2.1, so.2.2.2, .inr ⟨i, m, mi, rfl⟩⟩⟩
      · by_cases z : j = i
        · subst z
          rw [List.getElem?_set_self hi] at e
          cases e
          trivial
        · rw [List.getElem?_set_ne (Ne.symm z)] at e
          exact er.sl j s e
      · rw [moE] at e1 e2
        split at e1
        · cases e1
        · split at e2
          · cases e2
          · exact er.inj j k m1 m2 e1 e2
      · rw [moE] at e1
        split at e1
        · cases e1
        · exact ⟨_, e1⟩
      · by_cases z : j = i
        · subst z; rw [q] at e1; cases e1
        · exact ⟨m1, by rw [List.getElem?_set_ne (Ne.symm z)]; exact e1⟩
      · obtain ⟨j, m1, e1, e2⟩ := z
        rw [moE] at e1
        split at e1
        · cases e1
        · rename_i ne
          exact ne (er.inj j i m1 m e1 mi e2)
theorem p_frz {g : EM Res} (h : PE X e (tE X.K H0 W g)) : PE X e (tE X.K H0 W (gFrz g)) := by
  refine h.weak fun σ H Q q => ?_
  obtain ⟨F, ρ, A, er, kn, o, e, p⟩ := q
  unfold gFrz EM.bind at e
  refine ⟨F, ρ, A, er, kn, ?_⟩
  cases eg : g ρ with
  | none => rw [eg] at e; cases e
  | some og =>
    rw [eg] at e
    cases og with
    | ex C fs ρ1 => cases e; exact ⟨_, rfl, p⟩
    | ok r ρ1 =>
      refine ⟨_, rfl, fun v F1 H1 tr er1 sb ra => ?_⟩
      cases r with
      | val d => cases e; exact p v F1 H1 tr er1 sb ra
      | brw i => cases e
      | new m =>
        cases e
        obtain ⟨pp, rfl, fp, no, mo, h0, hok⟩ := ra
        obtain ⟨ob, hob⟩ := mo.there
        have ff : Le F1 (upd F1 pp ob) := le_self fp
        have fh : Le (upd F1 pp ob) H1 := le_frz er1.le hob
        refine p _ (upd F1 pp ob) H1 ⟨tr.ff.trans ff, tr.keep, fun a x z => ?_, tr.there⟩ (er1.grow ff fh fun a z => ?_) sb ?_
        · by_cases ap : a = pp
          · subst ap; exact .inr hok
          · rw [upd_ne ap] at z; exact tr.fresh a x z
        · rw [upd_ne (fun q => no (by rw [← q]; exact z))]
          exact (er1.ownThere z).1
        · cases m with
          | l ds => obtain ⟨vs, h1, h2⟩ := mo; rw [hob] at h1; cases h1; exact Rep.lst upd_same (h2.mono ff)
          | d ds => obtain ⟨vs, h1, h2⟩ := mo; rw [hob] at h1; cases h1; exact Rep.dct (.inl upd_same) (h2.mono ff)
end
end M

/-! M3: operations on data. -/
namespace M
open PySem PySem.Spec PyProof.Rows L2

abbrev rv (d : D) : Option Res := some (.val d)
/-! ### + -/
def fAdd : D → D → Option Res
  | .int i, .int j => rv (.int (i + j))
  | .str a, .str b => if a.length + b.length ≤ sizeLine then rv (.str (a ++ b)) else none
  | .tup a, .tup b => if a.length + b.length ≤ sizeLine then rv (.tup (a ++ b)) else none
  | .lst a, .lst b => if a.length + b.length ≤ sizeLine then some (.new (.l (a ++ b))) else none
  | _, _ => none
def rAddA (K : PySem.W.Frag) : R2 := fun x y H Q => (rI0 fun i j => .int (i + j)) x y H Q ∨ (∃ i j, x = .str i ∧ y = .str j ∧ i.length + j.length ≤ sizeLine ∧ Q (.str (i ++ j)) H) ∨ rCatA K x y H Q ∨ rCat x y H Q
theorem o_add {X : Cx} : OpR X (binaryOp .Add) (rAddA X.K) := (op_add).or ((op_add_str).or ((op_catA).or op_cat))
theorem top_int {K : PySem.W.Frag} {F H : Hp} {x : V} {i : Int} (h : Top K F H x (.int i)) : x = .int i := by cases h; rfl
theorem top_str {K : PySem.W.Frag} {F H : Hp} {x : V} {i : Str} (h : Top K F H x (.str i)) : x = .str i := by cases h; rfl
theorem top_bl {K : PySem.W.Frag} {F H : Hp} {x : V} {i : Bool} (h : Top K F H x (.bl i)) : x = .bl i := by cases h; rfl
theorem top_non {K : PySem.W.Frag} {F H : Hp} {x : V} (h : Top K F H x .non) : x = .non := by cases h; rfl
theorem top_tup {K : PySem.W.Frag} {F H : Hp} {x : V} {ds : List D} (h : Top K F H x (.tup ds)) : ∃ a xs, x = .ref a ∧ SqT K F a xs ∧ Reps K F xs ds := by
  cases h with
  | tup h r => exact ⟨_, _, rfl, h, r⟩
theorem top_rol {K : PySem.W.Frag} {F H : Hp} {x : V} {ds : List D} (h : Top K F H x (.rol ds)) : ∃ a xs, x = .ref a ∧ SqL K F a xs ∧ Reps K F xs ds := by
  cases h with
  | rol h r => exact ⟨_, _, rfl, h, r⟩
theorem top_ins {K : PySem.W.Frag} {F H : Hp} {x : V} {C : Addr} {ds : List (Str × D)} (h : Top K F H x (.ins C ds)) : ∃ a dx xs, x = .ref a ∧ Rd F a (.ins C dx xs) ∧ RepF K F xs ds := by
  cases h with
  | ins h r => exact ⟨_, _, _, rfl, h, r⟩
theorem ite_some' {α : Type} {c : Prop} [Decidable c] {x : Option α} {z : α} (h : (if c then x else none) = some z) : c ∧ x = some z := by
  by_cases q : c
  · rw [if_pos q] at h; exact ⟨q, h⟩
  · rw [if_neg q] at h; cases h
theorem s_add {K : PySem.W.Frag} : Snd2 K (rAddA K) fAdd := by
  intro H0 W ok F H ρ A σ x y d1 d2 res Q t1 t2 e h
  unfold fAdd at e
  split at e
  · cases e
    cases top_int t1; cases top_int t2
    exact .inl ⟨_, _, rfl, rfl, h.val (.int _)⟩
  · obtain ⟨c, e⟩ := ite_some' e
    cases e
    cases top_str t1; cases top_str t2
    exact .inr (.inl ⟨_, _, rfl, rfl, c, h.val (.str _)⟩)
  · obtain ⟨c, e⟩ := ite_some' e
    cases e
    obtain ⟨a, xs, rfl, s1, r1⟩ := top_tup t1
    obtain ⟨b, ys, rfl, s2, r2⟩ := top_tup t2
    have le := h.1.le
    refine .inr (.inr (.inl ⟨a, b, xs, ys, rfl, rfl, le_t le s1, le_t le s2, by rw [r1.length, r2.length]; exact c, fun z => ?_, fun _ z => ?_, fun _ _ p hp => h.tup (r1.append r2) hp⟩))
    · subst z
      cases r1
      exact h.val (.tup s2 r2)
    · subst z
      cases r2
      refine h.val ?_
      rw [List.append_nil]
      exact .tup s1 r1
  · obtain ⟨c, e⟩ := ite_some' e
    cases e
    obtain ⟨a, xs, rfl, s1, r1⟩ := t1
    obtain ⟨b, ys, rfl, s2, r2⟩ := t2
    exact .inr (.inr (.inr ⟨a, b, xs, ys, rfl, rfl, s1, s2, by rw [r1.length, r2.length]; exact c, fun p hp => h.lst (r1.append r2) hp⟩))
  · cases e

section
variable {X : Cx} {H0 : HE} {W : WX} {a b c : Expr} {pos : Pos} {ga gb gc : EM Res}
theorem p_op {op : Operator} {r : R2} {f : D → D → Option Res} (ho : OpR X (binaryOp op) r) (hs : Snd2 X.K r f) (ha : PE X a (tE X.K H0 W ga)) (hb : PE X b (tE X.K H0 W gb)) : PE X (.BinOp a op b pos) (tE X.K H0 W (gOp f ga gb)) :=
  (pe_op ho ha hb).weak fun σ H Q h => two h fun x y ok F2 H2 ρ2 A d1 d2 res t1 t2 e q => hs H0 W ok F2 H2 ρ2 A σ x y d1 d2 res Q t1 t2 e q
theorem p_cmp {op : CmpOp} {r : R2} {f : D → D → Option Res} (ho : OpR X (compareOp op) r) (hs : Snd2 X.K r f) (ha : PE X a (tE X.K H0 W ga)) (hb : PE X b (tE X.K H0 W gb)) (hm : behindInMarks op b = false) : PE X (.Compare a [op] [b] pos) (tE X.K H0 W (gOp f ga gb)) :=
  (pe_cmpR ho ha hb hm).weak fun σ H Q h => two h fun x y ok F2 H2 ρ2 A d1 d2 res t1 t2 e q => hs H0 W ok F2 H2 ρ2 A σ x y d1 d2 res Q t1 t2 e q
theorem p_un {op : UnaryOp} {r : V → Hp → VK → Prop} {f : D → Option Res} (ho : UnR X (unaryOp op) r) (hs : Snd1 X.K r f) (ha : PE X a (tE X.K H0 W ga)) : PE X (.UnaryOp op a pos) (tE X.K H0 W (gUn f ga)) :=
  (pe_un ho ha).weak fun σ H Q h => by
    obtain ⟨F, ρ, A, h⟩ := h
    refine ⟨F, ρ, A, h.bind fun x r1 F1 H1 ρ1 tr sb ra h1 => ?_⟩
    obtain ⟨d, res, e1, e2, h2⟩ := op1_at h1
    exact hs H0 W _ F1 H1 ρ1 A σ x d res Q (ra.top h2.1 e1) e2 h2
theorem p_add (ha : PE X a (tE X.K H0 W ga)) (hb : PE X b (tE X.K H0 W gb)) : PE X (.BinOp a .Add b pos) (tE X.K H0 W (gOp fAdd ga gb)) := p_op o_add s_add ha hb
theorem p_int {i j} : PE X (.Constant (.int i) j pos) (tE X.K H0 W (gC (.int i))) := pe_int.weak fun σ H Q h => by obtain ⟨F, ρ, A, h⟩ := h; exact h.val (.int i)
theorem p_str {i j} : PE X (.Constant (.str i) j pos) (tE X.K H0 W (gC (.str i))) := pe_str.weak fun σ H Q h => by obtain ⟨F, ρ, A, h⟩ := h; exact h.val (.str i)
theorem p_bl {i j} : PE X (.Constant (.bool i) j pos) (tE X.K H0 W (gC (.bl i))) := pe_bl.weak fun σ H Q h => by obtain ⟨F, ρ, A, h⟩ := h; exact h.val (.bl i)
theorem p_non {j} : PE X (.Constant .none j pos) (tE X.K H0 W (gC .non)) := pe_non.weak fun σ H Q h => by obtain ⟨F, ρ, A, h⟩ := h; exact h.val .non
end

/-! ### - * // % ** -/
def fSub : D → D → Option Res
  | .int i, .int j => rv (.int (i - j))
  | _, _ => none
theorem s_sub {K : PySem.W.Frag} : Snd2 K (rI0 fun i j => .int (i - j)) fSub := by
  intro H0 W ok F H ρ A σ x y d1 d2 res Q t1 t2 e h
  unfold fSub at e
  split at e
  · cases e
    cases top_int t1; cases top_int t2
    exact ⟨_, _, rfl, rfl, h.val (.int _)⟩
  · cases e
/-- a product: within a million bits -/
def fMul : D → D → Option Res
  | .int i, .int j => if i.natAbs.log2 + j.natAbs.log2 < 1000000 then rv (.int (i * j)) else none
  | .tup ds, .int k => if ds ≠ [] ∧ 2 ≤ k ∧ k ≤ 1000 ∧ ds.length ≤ 1000 then rv (.tup (List.replicate k.toNat ds).flatten) else none
  | .lst ds, .int k => if -(2 ^ 63) ≤ k ∧ k < 2 ^ 63 ∧ ds.length * k.toNat ≤ sizeLine then some (.new (.l (List.replicate k.toNat ds).flatten)) else none
  | _, _ => none
def rMulA (K : PySem.W.Frag) : R2 := fun x y H Q => rI CMulW (fun i j => .int (i * j)) x y H Q ∨ rRepT K x y H Q ∨ rRep x y H Q
theorem o_mul {X : Cx} : OpR X (binaryOp .Mult) (rMulA X.K) := (op_mulW).or ((op_repT).or op_rep)
theorem Reps.ne_nil {K : PySem.W.Frag} {F : Hp} {xs : List V} {ds : List D} (r : Reps K F xs ds) (h : ds ≠ []) : xs ≠ [] := fun z => by subst z; cases r; exact h rfl
theorem s_mul {K : PySem.W.Frag} : Snd2 K (rMulA K) fMul := by
  intro H0 W ok F H ρ A σ x y d1 d2 res Q t1 t2 e h
  unfold fMul at e
  split at e
  · obtain ⟨c, e⟩ := ite_some' e
    cases e
    cases top_int t1; cases top_int t2
    exact .inl ⟨_, _, rfl, rfl, c, h.val (.int _)⟩
  · obtain ⟨⟨c1, c2, c3, c4⟩, e⟩ := ite_some' e
    cases e
    obtain ⟨a, xs, rfl, s1, r1⟩ := top_tup t1
    cases top_int t2
    exact .inr (.inl ⟨a, _, xs, rfl, rfl, le_t h.1.le s1, r1.ne_nil c1, c2, c3, by rw [r1.length]; exact c4, fun p hp => h.tup r1.flat hp⟩)
  · obtain ⟨⟨c1, c2, c3⟩, e⟩ := ite_some' e
    cases e
    obtain ⟨a, xs, rfl, s1, r1⟩ := t1
    cases top_int t2
    exact .inr (.inr ⟨a, _, xs, rfl, rfl, s1, c1, c2, by rw [r1.length]; exact c3, fun p hp => h.lst r1.flat hp⟩)
  · cases e
def fFdiv : D → D → Option Res
  | .int i, .int j => if 0 < j ∧ j.natAbs.log2 < 9000 then rv (.int (i / j)) else none
  | _, _ => none
theorem s_fdiv {K : PySem.W.Frag} : Snd2 K (rI CDivW fun i j => .int (i / j)) fFdiv := by
  intro H0 W ok F H ρ A σ x y d1 d2 res Q t1 t2 e h
  unfold fFdiv at e
  split at e
  · obtain ⟨c, e⟩ := ite_some' e
    cases e
    cases top_int t1; cases top_int t2
    exact ⟨_, _, rfl, rfl, c, h.val (.int _)⟩
  · cases e
def fMod : D → D → Option Res
  | .int i, .int j => if 0 < j then rv (.int (i % j)) else none
  | _, _ => none
theorem s_mod {K : PySem.W.Frag} : Snd2 K (rI (fun _ j => 0 < j) fun i j => .int (i % j)) fMod := by
  intro H0 W ok F H ρ A σ x y d1 d2 res Q t1 t2 e h
  unfold fMod at e
  split at e
  · obtain ⟨c, e⟩ := ite_some' e
    cases e
    cases top_int t1; cases top_int t2
    exact ⟨_, _, rfl, rfl, c, h.val (.int _)⟩
  · cases e
def fPow : D → D → Option Res
  | .int i, .int j => if 0 ≤ j ∧ j ≤ 1000000 ∧ i.natAbs < 2 ^ 64 then rv (.int (i ^ j.toNat)) else none
  | _, _ => none
theorem s_pow {K : PySem.W.Frag} : Snd2 K (rI CPow fun i j => .int (i ^ j.toNat)) fPow := by
  intro H0 W ok F H ρ A σ x y d1 d2 res Q t1 t2 e h
  unfold fPow at e
  split at e
  · obtain ⟨c, e⟩ := ite_some' e
    cases e
    cases top_int t1; cases top_int t2
    exact ⟨_, _, rfl, rfl, c, h.val (.int _)⟩
  · cases e
def fNeg : D → Option Res
  | .int i => rv (.int (-i))
  | _ => none
theorem s_neg {K : PySem.W.Frag} : Snd1 K (rU fun i => .int (-i)) fNeg := by
  intro H0 W ok F H ρ A σ x d res Q t e h
  unfold fNeg at e
  split at e
  · cases e
    cases top_int t
    exact ⟨_, rfl, h.val (.int _)⟩
  · cases e

/-! ### order -/
def fLt : D → D → Option Res
  | .int i, .int j => rv (.bl (decide (i < j)))
  | .str a, .str b => rv (.bl (decide (a.cps.toList < b.cps.toList)))
  | _, _ => none
def rLtA : R2 := fun x y H Q => (rI0 fun i j => .bl (decide (i < j))) x y H Q ∨ (∃ i j, x = .str i ∧ y = .str j ∧ Q (.bl (decide (i.cps.toList < j.cps.toList))) H)
theorem o_lt {X : Cx} : OpR X (compareOp .Lt) rLtA := (op_lt).or op_lt_str
theorem s_lt {K : PySem.W.Frag} : Snd2 K rLtA fLt := by
  intro H0 W ok F H ρ A σ x y d1 d2 res Q t1 t2 e h
  unfold fLt at e
  split at e
  · cases e
    cases top_int t1; cases top_int t2
    exact .inl ⟨_, _, rfl, rfl, h.val (.bl _)⟩
  · cases e
    cases top_str t1; cases top_str t2
    exact .inr ⟨_, _, rfl, rfl, h.val (.bl _)⟩
  · cases e
def fII (p : Int → Int → Bool) : D → D → Option Res
  | .int i, .int j => rv (.bl (p i j))
  | _, _ => none
theorem s_ii {K : PySem.W.Frag} {p : Int → Int → Bool} : Snd2 K (rI0 fun i j => .bl (p i j)) (fII p) := by
  intro H0 W ok F H ρ A σ x y d1 d2 res Q t1 t2 e h
  unfold fII at e
  split at e
  · cases e
    cases top_int t1; cases top_int t2
    exact ⟨_, _, rfl, rfl, h.val (.bl _)⟩
  · cases e
abbrev fLe := fII fun i j => decide (i ≤ j)
abbrev fGt := fII fun i j => decide (j < i)
abbrev fGe := fII fun i j => decide (j ≤ i)

/-! ### is None -/
def fIsN (neg : Bool) : D → D → Option Res
  | .non, .non => rv (.bl (!neg))
  | _, .non => rv (.bl neg)
  | _, _ => none
theorem top_ne_non {K : PySem.W.Frag} {F H : Hp} {x : V} {d : D} (h : Top K F H x d) (n : d ≠ .non) : x ≠ .non := by
  rintro rfl
  cases d with
  | lst ds => obtain ⟨a, xs, e, _⟩ := h; cases e
  | dct ds => obtain ⟨a, xs, e, _⟩ := h; cases e
  | non => exact n rfl
  | _ => cases h
theorem s_isN {K : PySem.W.Frag} : Snd2 K (fun x y H Q => y = .non ∧ Q (.bl (decide (x = .non))) H) (fIsN false) := by
  intro H0 W ok F H ρ A σ x y d1 d2 res Q t1 t2 e h
  unfold fIsN at e
  split at e
  · cases e
    cases top_non t1; cases top_non t2
    exact ⟨rfl, h.val (.bl _)⟩
  · rename_i n
    cases e
    cases top_non t2
    refine ⟨rfl, ?_⟩
    rw [decide_eq_false (top_ne_non t1 n)]
    exact h.val (.bl _)
  · cases e
theorem s_notN {K : PySem.W.Frag} : Snd2 K (fun x y H Q => y = .non ∧ Q (.bl (!decide (x = .non))) H) (fIsN true) := by
  intro H0 W ok F H ρ A σ x y d1 d2 res Q t1 t2 e h
  unfold fIsN at e
  split at e
  · cases e
    cases top_non t1; cases top_non t2
    exact ⟨rfl, h.val (.bl _)⟩
  · rename_i n
    cases e
    cases top_non t2
    refine ⟨rfl, ?_⟩
    rw [decide_eq_false (top_ne_non t1 n)]
    exact h.val (.bl _)
  · cases e

/-! ### truth -/
def tru : D → Option Bool
  | .non => some false
  | .bl b => some b
  | .int i => some (i != 0)
  | .str x => if x.length ≤ sizeLine then some ((x.length : Int) != 0) else none
  | .tup ds => some !ds.isEmpty
  | .lst ds => some !ds.isEmpty
  | .rol ds => some !ds.isEmpty
  | _ => none
theorem Reps.isEmpty {K : PySem.W.Frag} {F : Hp} {xs : List V} {ds : List D} (r : Reps K F xs ds) : xs.isEmpty = ds.isEmpty := by cases r <;> rfl
theorem RepK.isEmpty {K : PySem.W.Frag} {F : Hp} {xs : List (Key × V)} {ds : List (Key × D)} (r : RepK K F xs ds) : xs.isEmpty = ds.isEmpty := by cases r <;> rfl

theorem s_tru {K : PySem.W.Frag} {F H : Hp} {x : V} {d : D} {k : Bool} (le : Le F H) (t : Top K F H x d) (e : tru d = some k) : TruV K x H k := by
  unfold tru at e
  split at e
  · cases e; cases top_non t; exact rfl
  · cases e; cases top_bl t; exact rfl
  · cases e; cases top_int t; exact rfl
  · obtain ⟨c, e⟩ := ite_some' e
    cases e; cases top_str t; exact ⟨c, rfl⟩
  · cases e
    obtain ⟨a, xs, rfl, s1, r1⟩ := top_tup t
    exact .inr (.inl ⟨xs, le_t le s1, by rw [r1.isEmpty]⟩)
  · cases e
    obtain ⟨a, xs, rfl, s1, r1⟩ := t
    exact .inl ⟨xs, SqL.of s1, by rw [r1.isEmpty]⟩
  · cases e
    obtain ⟨a, xs, rfl, s1, r1⟩ := top_rol t
    exact .inl ⟨xs, le_l le s1, by rw [r1.isEmpty]⟩
  · cases e
def truM (r : Res) : EM Bool := fun ρ => match view ρ r with
  | some d => (tru d).map fun k => .ok k ρ
  | none => none
section
variable {K : PySem.W.Frag} {H0 : HE} {F H : Hp} {W : WX} {ρ : En} {A : Nat → Addr} {σ : L2.St} {α β : Type} {R : (Addr → Prop) → Hp → Hp → En → (Nat → Addr) → β → α → Prop}
/-- the truth of a result, then -/
theorem truM_at {r : Res} {f : Bool → EM α} {Q : β → Hp → Prop} {v : V} {ok okr : Addr → Prop} (h : WpAt K H0 W R okr F ρ A ((truM r).bind f) σ H Q) (ra : RAt K H0 ok F H ρ A v r) : ∃ k, TruV K v H k ∧ WpAt K H0 W R okr F ρ A (f k) σ H Q := by
  obtain ⟨er, kn, o, e, p⟩ := h
  unfold EM.bind truM at e
  cases e1 : view ρ r with
  | none => rw [e1] at e; cases e
  | some d =>
    rw [e1] at e
    cases e2 : tru d with
    | none => simp only [e2, Option.map_none] at e; cases e
    | some k =>
      simp only [e2, Option.map_some] at e
      exact ⟨k, s_tru er.le (ra.top er e1) e2, er, kn, o, e, p⟩
end
/-! ### tests -/
def gTru (g : EM Res) : EM Bool := g.bind fun r => (truM r).bind EM.pure
def gAnd (a b : EM Bool) : EM Bool := a.bind fun c => if c = true then b else EM.pure false
def gOr (a b : EM Bool) : EM Bool := a.bind fun c => if c = true then EM.pure true else b
def gNot (a : EM Bool) : EM Bool := a.bind fun c => EM.pure (!c)
def gIf (c : EM Bool) (a b : EM Res) : EM Res := c.bind fun k => if k = true then a else b
/-- a result that is no new thing -/
def stays (r : Res) : EM Res := match r with
  | .new _ => fun _ => none
  | r => EM.pure r
def gAndV (a b : EM Res) : EM Res := a.bind fun r => (truM r).bind fun k => if k = true then b else stays r
def gOrV (a b : EM Res) : EM Res := a.bind fun r => (truM r).bind fun k => if k = true then stays r else b
def gNotV (a : EM Res) : EM Res := a.bind fun r => (truM r).bind fun k => EM.pure (.val (.bl (!k)))
section
variable {X : Cx} {H0 : HE} {W : WX} {e a b c : Expr} {rest : List Expr} {pos : Pos} {ga gb : EM Res} {gc ta tb : EM Bool}
theorem p_tru (ha : PE X a (tE X.K H0 W ga)) (he : ∀ whole, isTrue a X.env whole = (do let v ← whole; standAt a.pos; holding [v] (truthy v)) := by intro _; rfl) : PT X a (tT X.K H0 W (gTru ga)) :=
  (pt_truth ha he).weak fun σ H Q h => by
    obtain ⟨F, ρ, A, h⟩ := h
    refine ⟨F, ρ, A, h.bind fun x r F1 H1 ρ1 tr sb ra h1 => ?_⟩
    obtain ⟨k, t, h2⟩ := truM_at h1 ra
    exact ⟨k, t, h2.ret rfl⟩
/-- a comparison's value as a test -/
def gBl (g : EM Res) : EM Bool := g.bind fun r => match r with
  | .val (.bl k) => EM.pure k
  | _ => fun _ => none
theorem bl_at {K : PySem.W.Frag} {F H : Hp} {ρ : En} {A : Nat → Addr} {σ : L2.St} {ok okr : Addr → Prop} {Q : Bool → Hp → Prop} {x : V} {r : Res} (ra : RAt K H0 ok F H ρ A x r)
    (h1 : WpAt K H0 W (fun _ _ _ _ _ b a => b = a) okr F ρ A (match r with | .val (.bl k) => EM.pure k | _ => fun _ => none) σ H Q) : ∃ k, x = .bl k ∧ Q k H := by
  split at h1
  · cases ra
    exact ⟨_, rfl, h1.ret rfl⟩
  · obtain ⟨_, _, _, e, _⟩ := h1; cases e
theorem p_tcmp {op : CmpOp} {r : R2} {f : D → D → Option Res} (ho : OpR X (compareOp op) r) (hs : Snd2 X.K r f) (ha : PE X a (tE X.K H0 W ga)) (hb : PE X b (tE X.K H0 W gb)) (hm : behindInMarks op b = false) : PT X (.Compare a [op] [b] pos) (tT X.K H0 W (gBl (gOp f ga gb))) :=
  (pt_cmpR ho ha hb hm).weak fun σ H Q h => by
    obtain ⟨F, ρ, A, h⟩ := h
    have h' : Wp X.K H0 W (RAt X.K H0) (gOp f ga gb) σ H fun x H' => ∃ k, x = .bl k ∧ Q k H' := ⟨F, ρ, A, h.bind fun x r F1 H1 ρ1 tr sb ra h1 => bl_at ra h1⟩
    exact two h' fun x y ok F2 H2 ρ2 A d1 d2 res t1 t2 e q => hs H0 W ok F2 H2 ρ2 A σ x y d1 d2 res _ t1 t2 e q
theorem w_and1 (ha : PT X a (tT X.K H0 W ta)) : PW X (.BoolOp .And [a] pos) (tT X.K H0 W ta) := pw_and1 ha
theorem w_or1 (ha : PT X a (tT X.K H0 W ta)) : PW X (.BoolOp .Or [a] pos) (tT X.K H0 W ta) := pw_or1 ha
theorem w_and (ha : PT X a (tT X.K H0 W ta)) (hb : PW X (.BoolOp .And (b :: rest) pos) (tT X.K H0 W tb)) : PW X (.BoolOp .And (a :: b :: rest) pos) (tT X.K H0 W (gAnd ta tb)) :=
  (pw_and ha hb).weak fun σ H Q h => by
    obtain ⟨F, ρ, A, h⟩ := h
    refine ⟨F, ρ, A, h.bind fun k k' F1 H1 ρ1 tr sb ra h1 => ?_⟩
    subst ra
    cases k with
    | true => exact h1.own (by first | exact mono_rat | exact mono_eq)
    | false => exact h1.ret (b := false) rfl
theorem w_or (ha : PT X a (tT X.K H0 W ta)) (hb : PW X (.BoolOp .Or (b :: rest) pos) (tT X.K H0 W tb)) : PW X (.BoolOp .Or (a :: b :: rest) pos) (tT X.K H0 W (gOr ta tb)) :=
  (pw_or ha hb).weak fun σ H Q h => by
    obtain ⟨F, ρ, A, h⟩ := h
    refine ⟨F, ρ, A, h.bind fun k k' F1 H1 ρ1 tr sb ra h1 => ?_⟩
    subst ra
    cases k with
    | true => exact h1.ret (b := true) rfl
    | false => exact h1.own (by first | exact mono_rat | exact mono_eq)
theorem t_not (ha : PT X a (tT X.K H0 W ta)) : PT X (.UnaryOp .Not a pos) (tT X.K H0 W (gNot ta)) :=
  (pt_not ha).weak fun σ H Q h => by
    obtain ⟨F, ρ, A, h⟩ := h
    refine ⟨F, ρ, A, h.bind fun k k' F1 H1 ρ1 tr sb ra h1 => ?_⟩
    subst ra
    exact h1.ret rfl
theorem p_if (hc : PT X c (tT X.K H0 W gc)) (ha : PE X a (tE X.K H0 W ga)) (hb : PE X b (tE X.K H0 W gb)) : PE X (.IfExp c a b pos) (tE X.K H0 W (gIf gc ga gb)) :=
  (pe_ifExp hc ha hb).weak fun σ H Q h => by
    obtain ⟨F, ρ, A, h⟩ := h
    refine ⟨F, ρ, A, h.bind fun k k' F1 H1 ρ1 tr sb ra h1 => ?_⟩
    subst ra
    cases k with
    | true => rw [if_pos rfl] at h1 ⊢; exact h1.own (by first | exact mono_rat | exact mono_eq)
    | false => rw [if_neg Bool.false_ne_true] at h1 ⊢; exact h1.own (by first | exact mono_rat | exact mono_eq)
/-- the outcome is the result that stands -/
theorem stays_at {K : PySem.W.Frag} {F H : Hp} {ρ : En} {A : Nat → Addr} {σ : L2.St} {r : Res} {v : V} {Q : VK} {S ok : Addr → Prop} (h : WpAt K H0 W (RAt K H0) ok F ρ A (stays r) σ H Q) (ra : RAt K H0 S F H ρ A v r) : Q v H := by
  cases r with
  | val d => exact h.ret (b := v) ra
  | brw i => exact h.ret (b := v) ra
  | new m => obtain ⟨_, _, _, e, _⟩ := h; cases e
theorem p_and1 (ha : PE X a (tE X.K H0 W ga)) : PE X (.BoolOp .And [a] pos) (tE X.K H0 W ga) := pe_one ha
theorem p_or1 (ha : PE X a (tE X.K H0 W ga)) : PE X (.BoolOp .Or [a] pos) (tE X.K H0 W ga) := pe_one ha
theorem p_and (ha : PE X a (tE X.K H0 W ga)) (hb : PE X (.BoolOp .And (b :: rest) pos) (tE X.K H0 W gb)) : PE X (.BoolOp .And (a :: b :: rest) pos) (tE X.K H0 W (gAndV ga gb)) :=
  (pe_andT ha hb).weak fun σ H Q h => by
    obtain ⟨F, ρ, A, h⟩ := h
    refine ⟨F, ρ, A, h.bind fun x r F1 H1 ρ1 tr sb ra h1 => ?_⟩
    obtain ⟨k, t, h2⟩ := truM_at h1 ra
    refine ⟨k, t, ?_⟩
    cases k with
    | true => rw [if_pos rfl] at h2 ⊢; exact h2.own mono_rat
    | false => rw [if_neg Bool.false_ne_true] at h2 ⊢; exact stays_at h2 ra
theorem p_or (ha : PE X a (tE X.K H0 W ga)) (hb : PE X (.BoolOp .Or (b :: rest) pos) (tE X.K H0 W gb)) : PE X (.BoolOp .Or (a :: b :: rest) pos) (tE X.K H0 W (gOrV ga gb)) :=
  (pe_orT ha hb).weak fun σ H Q h => by
    obtain ⟨F, ρ, A, h⟩ := h
    refine ⟨F, ρ, A, h.bind fun x r F1 H1 ρ1 tr sb ra h1 => ?_⟩
    obtain ⟨k, t, h2⟩ := truM_at h1 ra
    refine ⟨k, t, ?_⟩
    cases k with
    | true => rw [if_pos rfl] at h2 ⊢; exact stays_at h2 ra
    | false => rw [if_neg Bool.false_ne_true] at h2 ⊢; exact h2.own mono_rat
theorem p_not (ha : PE X a (tE X.K H0 W ga)) : PE X (.UnaryOp .Not a pos) (tE X.K H0 W (gNotV ga)) :=
  (pe_notT ha).weak fun σ H Q h => by
    obtain ⟨F, ρ, A, h⟩ := h
    refine ⟨F, ρ, A, h.bind fun x r F1 H1 ρ1 tr sb ra h1 => ?_⟩
    obtain ⟨k, t, h2⟩ := truM_at h1 ra
    exact ⟨k, t, h2.val (.bl _)⟩
end
end M

/-! M4: argument lists, displays, calls of builtins, subscripts, slices. -/
namespace M
open PySem PySem.Spec PyProof.Rows L2

/-! ### argument lists -/
def aliveR (ρ : En) : Res → Bool
  | .brw i => (moAt ρ i).isSome
  | _ => true
def gNil : EM (List Res) := EM.pure []
def consM (r : Res) (rs : List Res) : EM (List Res) := fun ρ => if aliveR ρ r = true then some (.ok (r :: rs) ρ) else none
def gCons (g : EM Res) (gs : EM (List Res)) : EM (List Res) := g.bind fun r => gs.bind fun rs => consM r rs
/-- the new things among them -/
def newAt : List V → List Res → List V
  | v :: vs, .new _ :: rs => v :: newAt vs rs
  | _ :: vs, _ :: rs => newAt vs rs
  | _, _ => []
def RAts (K : PySem.W.Frag) (H0 : HE) (ok : Addr → Prop) (F H : Hp) (ρ : En) (A : Nat → Addr) (vs : List V) (rs : List Res) : Prop := Paired (RAt K H0 ok F H ρ A) vs rs ∧ (newAt vs rs).Nodup
abbrev tA (K : PySem.W.Frag) (H0 : HE) (W : WX) (g : EM (List Res)) : TA := fun σ H Q => Wp K H0 W (RAts K H0) g σ H Q
section
variable {K : PySem.W.Frag} {H0 : HE} {F H : Hp} {W : WX} {ρ : En} {A : Nat → Addr} {σ : L2.St}
theorem mono_rats : MonoR (RAts K H0) := fun ok ok' F H ρ A b a k h => ⟨Paired.mapP h.1 fun v r q => mono_rat ok ok' F H ρ A v r k q, h.2⟩
theorem newAt_ok {ok : Addr → Prop} : ∀ {vs : List V} {rs : List Res}, Paired (RAt K H0 ok F H ρ A) vs rs → ∀ w ∈ newAt vs rs, ∃ q, w = .ref q ∧ ok q
  | _, _, .nil, w, h => by cases h
  | _, .val d :: rs, .cons _ t, w, h => newAt_ok t w h
  | _, .brw i :: rs, .cons _ t, w, h => newAt_ok t w h
  | _, .new m :: rs, .cons a t, w, h => by
    unfold newAt at h
    rcases List.mem_cons.mp h with rfl | h
    · obtain ⟨p, e, _, _, _, _, o⟩ := a
      exact ⟨p, e, o⟩
    · exact newAt_ok t w h
theorem RAt.go {F' H' : Hp} {ρ' : En} {r : Res} {v : V} {ok : Addr → Prop} (h : RAt K H0 ok F H ρ A v r) (tr : Tr (OwnA ρ A) F H F' H') (sb : Sb ρ ρ') (al : aliveR ρ' r = true) : RAt K H0 ok F' H' ρ' A v r := by
  cases r with
  | val d => exact RAt.val_step (ρ' := ρ') h tr
  | new m => exact RAt.new_step h tr sb
  | brw i => exact ⟨Option.isSome_iff_exists.mp al, h.2⟩
end
section
variable {X : Cx} {H0 : HE} {W : WX} {e : Expr} {es : List Expr} {g : EM Res} {gs : EM (List Res)}
theorem a_nil : PA X [] (tA X.K H0 W gNil) := pa_nil.weak fun σ H Q h => by obtain ⟨F, ρ, A, h⟩ := h; exact h.ret (b := []) ⟨.nil, List.nodup_nil⟩
theorem a_cons (he : PE X e (tE X.K H0 W g)) (hr : PA X es (tA X.K H0 W gs)) (hs : starEach (e :: es) X.env = (false, eval e X.env) :: starEach es X.env := by rfl) : PA X (e :: es) (tA X.K H0 W (gCons g gs)) :=
  (pa_cons he hr hs).weak fun σ H Q h => by
    obtain ⟨F, ρ, A, h⟩ := h
    refine ⟨F, ρ, A, h.bind fun x r F1 H1 ρ1 tr1 sb1 ra h1 => ⟨F1, ρ1, A, h1.bind fun xs rs F2 H2 ρ2 tr2 sb2 rb h2 => ?_⟩⟩
    obtain ⟨er, kn, o, e, p⟩ := h2
    unfold consM at e
    obtain ⟨al, e⟩ := ite_some' e
    cases e
    refine p (x :: xs) F2 H2 .refl er .refl ⟨.cons (ra.go tr2 sb2 al) (mono_rats _ _ _ _ _ _ _ _ (fun q z => z.back tr1 sb1) rb).1, ?_⟩
    cases r with
    | val d => exact rb.2
    | brw i => exact rb.2
    | new m =>
      refine List.nodup_cons.mpr ⟨fun hx => ?_, rb.2⟩
      obtain ⟨q, e1, e2⟩ := newAt_ok rb.1 x hx
      obtain ⟨pp, e3, _, no, mo, _, _⟩ := ra
      obtain ⟨ob, hob⟩ := mo.there
      have : q = pp := V.ref.inj (e1.symm.trans e3)
      subst this
      rcases e2 with z | z
      · rw [hob] at z; cases z
      · exact no z
end

/-! ### data of all arguments -/
def views (ρ : En) : List Res → Option (List D)
  | [] => some []
  | r :: rs => match view ρ r, views ρ rs with
    | some d, some ds => some (d :: ds)
    | _, _ => none
abbrev Tops (K : PySem.W.Frag) (F H : Hp) : List V → List D → Prop := Paired (Top K F H)
theorem rats_tops {K : PySem.W.Frag} {H0 : HE} {F H : Hp} {ρ : En} {A : Nat → Addr} {σ : L2.St} {ok : Addr → Prop} (er : ER K H0 F H σ ρ A) : ∀ {vs : List V} {rs : List Res} {ds : List D}, Paired (RAt K H0 ok F H ρ A) vs rs → views ρ rs = some ds → Tops K F H vs ds
  | _, _, _, .nil, e => by cases e; exact .nil
  | _, r :: rs, ds, .cons h t, e => by
    unfold views at e
    cases e1 : view ρ r with
    | none => rw [e1] at e; cases e
    | some d =>
      cases e2 : views ρ rs with
      | none => rw [e1, e2] at e; cases e
      | some ds' =>
        rw [e1, e2] at e
        cases e
        exact .cons (h.top er e1) (rats_tops er t e2)
def opL (f : List D → Option Res) (rs : List Res) : EM Res := fun ρ => match views ρ rs with
  | some ds => (f ds).map fun r => .ok r ρ
  | none => none
def gCall (f : List D → Option Res) (gs : EM (List Res)) : EM Res := gs.bind fun rs => opL f rs
def SndL (K : PySem.W.Frag) (r : List V → Hp → VK → Prop) (f : List D → Option Res) : Prop :=
  ∀ (H0 : HE) (W : WX) (ok : Addr → Prop) (F H : Hp) (ρ : En) (A : Nat → Addr) (σ : L2.St) (xs : List V) (ds : List D) (res : Res) (Q : VK), Tops K F H xs ds → f ds = some res → WpAt K H0 W (RAt K H0) ok F ρ A (EM.pure res) σ H Q → r xs H Q
theorem opL_at {K : PySem.W.Frag} {H0 : HE} {F H : Hp} {W : WX} {ρ : En} {A : Nat → Addr} {σ : L2.St} {ok : Addr → Prop} {f : List D → Option Res} {rs : List Res} {Q : VK} (h : WpAt K H0 W (RAt K H0) ok F ρ A (opL f rs) σ H Q) :
    ∃ ds res, views ρ rs = some ds ∧ f ds = some res ∧ WpAt K H0 W (RAt K H0) ok F ρ A (EM.pure res) σ H Q := by
  obtain ⟨er, kn, o, e, p⟩ := h
  unfold opL at e
  cases e1 : views ρ rs with
  | none => rw [e1] at e; cases e
  | some ds =>
    rw [e1] at e
    cases e2 : f ds with
    | none => simp only [e2, Option.map_none] at e; cases e
    | some res =>
      simp only [e2, Option.map_some] at e
      exact ⟨ds, res, rfl, e2, er, kn, o, e, p⟩
section
variable {X : Cx} {H0 : HE} {W : WX} {e a b : Expr} {es : List Expr} {g ga gb : EM Res} {gs : EM (List Res)} {x : Str} {p pos : Pos}
theorem call_weak {r : List V → Hp → VK → Prop} {f : List D → Option Res} (hs : SndL X.K r f) (σ : L2.St) (H : Hp) (Q : VK) (h : tE X.K H0 W (gCall f gs) σ H Q) : tCB r (tA X.K H0 W gs) σ H Q := by
  obtain ⟨F, ρ, A, h⟩ := h
  refine ⟨F, ρ, A, h.bind fun vs rs F1 H1 ρ1 tr sb ra h1 => ?_⟩
  obtain ⟨ds, res, e1, e2, h2⟩ := opL_at h1
  exact hs H0 W _ F1 H1 ρ1 A σ vs ds res Q (rats_tops h2.1 ra.1 e1) e2 h2
theorem p_callB {id : String} {r : List V → Hp → VK → Prop} {f : List D → Option Res} (hs : SndL X.K r f) (hc : CallR X (.builtin id) r) (hg : Gl X x) (hm : X.mg x = none) (hv : bootBuiltins x = some (.builtin id)) (ha : PA X (e :: es) (tA X.K H0 W gs)) (hn : x ≠ "__name__" := by decide) (hdb : (x == ("__debug__" : Str)) = false := by decide)
    (he : starEach (e :: es) X.env = (false, eval e X.env) :: starEach es X.env := by rfl) (hpl : (backTo pos (starEach es X.env)).any (·.1) = false := by rfl) : PE X (.Call (.Name x p) (e :: es) [] pos) (tE X.K H0 W (gCall f gs)) :=
  (pe_callB hc hg hm hv ha hn hdb he hpl).weak (call_weak hs)
theorem p_callTy {T : String} {r : List V → Hp → VK → Prop} {f : List D → Option Res} (hs : SndL X.K r f) (hc : CallR X (.type T) r) (hg : Gl X x) (hm : X.mg x = none) (hv : bootBuiltins x = some (.type T)) (ha : PA X (e :: es) (tA X.K H0 W gs)) (hn : x ≠ "__name__" := by decide) (hdb : (x == ("__debug__" : Str)) = false := by decide)
    (he : starEach (e :: es) X.env = (false, eval e X.env) :: starEach es X.env := by rfl) (hpl : (backTo pos (starEach es X.env)).any (·.1) = false := by rfl) : PE X (.Call (.Name x p) (e :: es) [] pos) (tE X.K H0 W (gCall f gs)) :=
  (pe_callTy hc hg hm hv ha hn hdb he hpl).weak (call_weak hs)

/-! ### displays -/
def valsR : List Res → Option (List D)
  | [] => some []
  | .val d :: rs => (valsR rs).map (d :: ·)
  | _ => none
theorem rats_reps {K : PySem.W.Frag} {H0 : HE} {F H : Hp} {ρ : En} {A : Nat → Addr} {ok : Addr → Prop} : ∀ {vs : List V} {rs : List Res} {ds : List D}, Paired (RAt K H0 ok F H ρ A) vs rs → valsR rs = some ds → Reps K F vs ds
  | _, _, _, .nil, e => by cases e; exact .nil
  | _, .val d :: rs, ds, .cons h t, e => by
    unfold valsR at e
    cases e2 : valsR rs with
    | none => simp only [e2, Option.map_none] at e; cases e
    | some ds' =>
      simp only [e2, Option.map_some] at e
      cases e
      exact .cons h (rats_reps t e2)
  | _, .new _ :: _, _, .cons _ _, e => by cases e
  | _, .brw _ :: _, _, .cons _ _, e => by cases e
def gTup (gs : EM (List Res)) : EM Res := gs.bind fun rs => EM.lift ((valsR rs).bind fun ds => if ds.length ≤ sizeLine then some (.val (.tup ds)) else none)
def gLst (gs : EM (List Res)) : EM Res := gs.bind fun rs => EM.lift ((valsR rs).bind fun ds => if ds.length ≤ sizeLine then some (.new (.l ds)) else none)
theorem lift_sz {α : Type} {o : Option (List D)} {f : List D → α} {c : α} (e : (o.bind fun ds => if ds.length ≤ sizeLine then some (f ds) else none) = some c) : ∃ ds, o = some ds ∧ ds.length ≤ sizeLine ∧ f ds = c := by
  cases o with
  | none => cases e
  | some ds =>
    obtain ⟨q, e⟩ := ite_some' (show (if ds.length ≤ sizeLine then some (f ds) else none) = some c from e)
    cases e
    exact ⟨ds, rfl, q, rfl⟩
theorem p_tup {x1} (h : PA X es (tA X.K H0 W gs)) : PE X (.Tuple es x1 pos) (tE X.K H0 W (gTup gs)) := (pe_tup h).weak fun σ H Q h => by
  obtain ⟨F, ρ, A, h⟩ := h
  refine ⟨F, ρ, A, h.bind fun vs rs F1 H1 ρ1 tr sb ra h1 => ?_⟩
  obtain ⟨c, e, h2⟩ := h1.lift
  obtain ⟨ds, e1, sz, rfl⟩ := lift_sz e
  have r := rats_reps ra.1 e1
  exact ⟨by rw [r.length]; exact sz, fun q hq => h2.tup r hq⟩
theorem p_lst (h : PA X es (tA X.K H0 W gs)) : PE X (.List es pos) (tE X.K H0 W (gLst gs)) := (pe_lst h).weak fun σ H Q h => by
  obtain ⟨F, ρ, A, h⟩ := h
  refine ⟨F, ρ, A, h.bind fun vs rs F1 H1 ρ1 tr sb ra h1 => ?_⟩
  obtain ⟨c, e, h2⟩ := h1.lift
  obtain ⟨ds, e1, sz, rfl⟩ := lift_sz e
  have r := rats_reps ra.1 e1
  exact ⟨by rw [r.length]; exact sz, fun q hq => h2.lst r hq⟩

/-! ### subscripts -/
def keyD : D → Option Key
  | .int i => some (.inl i)
  | .str x => some (.inr x)
  | _ => none
def lookD (kvs : List (Key × D)) (k : Key) : Option D := (kvs.find? fun kv => decide (kv.1 = k)).map (·.2)
theorem RepK.look {K : PySem.W.Frag} {F : Hp} {k : Key} : ∀ {xs : List (Key × V)} {ds : List (Key × D)}, RepK K F xs ds → (∀ d, lookD ds k = some d → ∃ v, valV xs k = some v ∧ Rep K F v d) ∧ (lookD ds k = none → valV xs k = none)
  | _, _, .nil => ⟨fun d e => (by cases e), fun _ => rfl⟩
  | _, _, .cons (k := j) (x := x) (xs := xs) (d := d0) (ds := ds) h r => by
    obtain ⟨i1, i2⟩ := RepK.look (k := k) r
    by_cases z : j = k
    · have e1 : lookD ((j, d0) :: ds) k = some d0 := by simp [lookD, z]
      have e2 : valV ((j, x) :: xs) k = some x := valV_pos z
      rw [e1, e2]
      exact ⟨fun d e => (by cases e; exact ⟨_, rfl, h⟩), fun e => (by cases e)⟩
    · have e1 : lookD ((j, d0) :: ds) k = lookD ds k := by simp [lookD, z]
      have e2 : valV ((j, x) :: xs) k = valV xs k := valV_neg z
      rw [e1, e2]
      exact ⟨i1, i2⟩
theorem RepK.keys {K : PySem.W.Frag} {F : Hp} : ∀ {xs : List (Key × V)} {ds : List (Key × D)}, RepK K F xs ds → xs.map (·.1) = ds.map (·.1)
  | _, _, .nil => rfl
  | _, _, .cons h r => by rw [List.map_cons, List.map_cons, RepK.keys r]
theorem RepK.length {K : PySem.W.Frag} {F : Hp} {xs : List (Key × V)} {ds : List (Key × D)} (r : RepK K F xs ds) : xs.length = ds.length := by
  have := congrArg List.length r.keys
  simpa using this
theorem key_top {K : PySem.W.Frag} {F H : Hp} {x : V} {d : D} {k : Key} (t : Top K F H x d) (e : keyD d = some k) : x = kV k := by
  unfold keyD at e
  split at e
  · cases e; exact top_int t
  · cases e; exact top_str t
  · cases e
def fIx : D → D → Option Res
  | .tup ds, .int i => (atI ds i).map .val
  | .lst ds, .int i => (atI ds i).map .val
  | .rol ds, .int i => (atI ds i).map .val
  | .str z, .int i => if z.length ≤ sizeLine then (atI z.cps.toList i).map fun c => .val (.str ⟨#[c]⟩) else none
  | .dct kvs, k => (keyD k).bind fun k => (lookD kvs k).map .val
  | _, _ => none
def rIxDc : R2 := fun x y H Q => ∃ a v, x = .ref a ∧ DGet H a y (some v) ∧ Q v H
theorem ix_dct (hu : X.A.units + 1 < cLine) : IxR X rIxDc := by
  intro value slice pins s σ H x y v u Q I rx ry h hs
  obtain ⟨a, z, rfl, g, q⟩ := h
  obtain rfl : v = Value.ref a := rx
  exact tail_any (dict_typeIs I g) PySem.F.slot_dict_getitem.lookup (d_getItem hu I g ry fun w' s3 I3 rw' => ⟨z, H, I3, rw', q⟩) hs
def rIxA (K : PySem.W.Frag) : R2 := fun x y H Q => rIx K x y H Q ∨ rIxDc x y H Q
theorem ix_all (hu : X.A.units + 1 < cLine) : IxR X (rIxA X.K) := ix_seq.or (ix_dct hu)
theorem Reps.atI {K : PySem.W.Frag} {F : Hp} {xs : List V} {ds : List D} {i : Int} {d : D} (r : Reps K F xs ds) (e : L2.atI ds i = some d) : ∃ v, L2.atI xs i = some v ∧ Rep K F v d := by
  unfold L2.atI at e ⊢
  rw [r.length]
  cases q : ixN ds.length i with
  | none => rw [q] at e; cases e
  | some j =>
    rw [q] at e
    obtain ⟨v, h1, h2⟩ := r.get e
    exact ⟨v, h1, h2⟩
theorem map_some' {α β : Type} {f : α → β} {o : Option α} {c : β} (e : o.map f = some c) : ∃ a, o = some a ∧ f a = c := by
  cases o with
  | none => cases e
  | some a => cases e; exact ⟨a, rfl, rfl⟩
theorem s_ix {K : PySem.W.Frag} : Snd2 K (rIxA K) fIx := by
  intro H0 W ok F H ρ A σ x y d1 d2 res Q t1 t2 e h
  have le := h.1.le
  unfold fIx at e
  split at e
  · obtain ⟨d, e', rfl⟩ := map_some' e
    obtain ⟨a, xs, rfl, s1, r1⟩ := top_tup t1
    cases top_int t2
    obtain ⟨v, ev, rv⟩ := r1.atI e'
    exact .inl (.inr (.inl ⟨a, xs, _, v, rfl, rfl, le_t le s1, ev, h.val rv⟩))
  · obtain ⟨d, e', rfl⟩ := map_some' e
    obtain ⟨a, xs, rfl, s1, r1⟩ := t1
    cases top_int t2
    obtain ⟨v, ev, rv⟩ := r1.atI e'
    exact .inl (.inl ⟨a, xs, _, v, rfl, rfl, SqL.of s1, ev, h.val rv⟩)
  · obtain ⟨d, e', rfl⟩ := map_some' e
    obtain ⟨a, xs, rfl, s1, r1⟩ := top_rol t1
    cases top_int t2
    obtain ⟨v, ev, rv⟩ := r1.atI e'
    exact .inl (.inl ⟨a, xs, _, v, rfl, rfl, le_l le s1, ev, h.val rv⟩)
  · obtain ⟨c, e⟩ := ite_some' e
    obtain ⟨d, e', rfl⟩ := map_some' e
    cases top_str t1; cases top_int t2
    exact .inl (.inr (.inr ⟨_, _, d, rfl, rfl, c, e', h.val (.str _)⟩))
  · cases ek : keyD d2 with
    | none => rw [ek] at e; cases e
    | some k =>
      rw [ek] at e
      obtain ⟨d, e', rfl⟩ := map_some' e
      obtain ⟨a, xs, rfl, s1, r1⟩ := t1
      obtain ⟨v, ev, rv⟩ := (RepK.look (k := k) r1).1 d e'
      exact .inr ⟨a, v, rfl, .inl ⟨xs, k, s1, key_top t2 ek, ev.symm⟩, h.val rv⟩
  · cases e
theorem p_ix (hu : X.A.units + 1 < cLine) (ha : PE X a (tE X.K H0 W ga)) (hb : PE X b (tE X.K H0 W gb)) (hs : PlainIx b := by intro _ _; rfl) : PE X (.Subscript a b pos) (tE X.K H0 W (gOp fIx ga gb)) :=
  (pe_ix (ix_all hu) ha hb hs).weak fun σ H Q h => two h fun x y ok F2 H2 ρ2 A d1 d2 res t1 t2 e q => s_ix H0 W ok F2 H2 ρ2 A σ x y d1 d2 res Q t1 t2 e q

/-! ### slices -/
def cutD (xs : List D) (lo hi : Option Int) : List D := (xs.drop (HT.sIx xs.length 0 lo)).take (HT.sIx xs.length xs.length hi - HT.sIx xs.length 0 lo)
theorem Reps.cut {K : PySem.W.Frag} {F : Hp} {xs : List V} {ds : List D} (lo hi : Option Int) (r : Reps K F xs ds) : Reps K F (cutV xs lo hi) (cutD ds lo hi) := by
  unfold cutV cutD
  rw [r.length]
  exact (r.drop _).take _
def fSl : D → Option Int → Option Int → Option Res
  | .tup ds, lo, hi => some (.val (.tup (cutD ds lo hi)))
  | .lst ds, lo, hi => some (.new (.l (cutD ds lo hi)))
  | .rol ds, lo, hi => some (.new (.l (cutD ds lo hi)))
  | .str z, lo, hi => if z.length ≤ sizeLine then some (.val (.str (cutS z lo hi))) else none
  | _, _, _ => none
def gNoP : EM (Option Int) := EM.pure none
def gPt (g : EM Res) : EM (Option Int) := g.bind fun r => match r with
  | .val (.int i) => EM.pure (some i)
  | _ => fun _ => none
def slM (r : Res) (lo hi : Option Int) : EM Res := fun ρ => match view ρ r with
  | some d => (fSl d lo hi).map fun r => .ok r ρ
  | none => none
def gSl (g : EM Res) (gl gh : EM (Option Int)) : EM Res := g.bind fun r => gl.bind fun lo => gh.bind fun hi => slM r lo hi
def rSlAll (K : PySem.W.Frag) : V → Option Int → Option Int → Hp → VK → Prop := fun x lo hi H Q => rSlL K x lo hi H Q ∨ rSlA K x lo hi H Q ∨ rSlS x lo hi H Q
theorem sl_all : SlR X (rSlAll X.K) := sl_list.or (sl_tupA.or sl_str)
theorem o_none : PO X none (tO X.K H0 W gNoP) := po_none.weak fun σ H Q h => by obtain ⟨F, ρ, A, h⟩ := h; exact h.ret rfl
theorem o_some (h : PE X e (tE X.K H0 W g)) : PO X (some e) (tO X.K H0 W (gPt g)) := (po_some h).weak fun σ H Q h => by
  obtain ⟨F, ρ, A, h⟩ := h
  refine ⟨F, ρ, A, h.bind fun v r F1 H1 ρ1 tr sb ra h1 => ?_⟩
  split at h1
  · cases ra
    exact ⟨_, rfl, h1.ret rfl⟩
  · obtain ⟨_, _, _, e, _⟩ := h1; cases e
theorem cutD_whole {ds : List D} {lo hi : Option Int} (z : HT.sIx ds.length 0 lo = 0 ∧ HT.sIx ds.length ds.length hi = ds.length) : cutD ds lo hi = ds := by
  unfold cutD
  rw [z.1, z.2, List.drop_zero, Nat.sub_zero, List.take_length]
theorem p_sl {lo hi : Option Expr} {gl gh : EM (Option Int)} {p2 : Pos} (he : PE X e (tE X.K H0 W g)) (hl : PO X lo (tO X.K H0 W gl)) (hu : PO X hi (tO X.K H0 W gh)) : PE X (.Subscript e (.Slice lo hi none p2) pos) (tE X.K H0 W (gSl g gl gh)) :=
  (pe_slice sl_all he hl hu).weak fun σ H Q h => by
    obtain ⟨F, ρ, A, h⟩ := h
    refine ⟨F, ρ, A, h.bind fun x r F1 H1 ρ1 tr1 sb1 ra h1 => ⟨F1, ρ1, A, h1.bind fun l l' F2 H2 ρ2 tr2 sb2 rb h2 => ⟨F2, ρ2, A, h2.bind fun u u' F3 H3 ρ3 tr3 sb3 rc h3 => ?_⟩⟩⟩
    subst rb rc
    obtain ⟨er, kn, o, e, p⟩ := h3
    unfold slM at e
    cases e1 : view ρ3 r with
    | none => rw [e1] at e; cases e
    | some d =>
      rw [e1] at e
      obtain ⟨res, e2, rfl⟩ := map_some' e
      have h4 : WpAt X.K H0 W (RAt X.K H0) _ F3 ρ3 A (EM.pure res) σ H3 Q := ⟨er, kn, _, rfl, p⟩
      have t := ra.later er (tr2.then sb2 tr3) (sb2.trans sb3) e1
      have le := er.le
      unfold fSl at e2
      split at e2
      · cases e2
        obtain ⟨a, xs, rfl, s1, r1⟩ := top_tup t
        refine .inr (.inl ⟨a, xs, rfl, le_t le s1, fun z => ?_, fun _ q hq => h4.tup (r1.cut _ _) hq⟩)
        rw [r1.length] at z
        refine h4.val ?_
        rw [cutD_whole z]
        exact .tup s1 r1
      · cases e2
        obtain ⟨a, xs, rfl, s1, r1⟩ := t
        exact .inl ⟨a, xs, rfl, SqL.of s1, fun q hq => h4.lst (r1.cut _ _) hq⟩
      · cases e2
        obtain ⟨a, xs, rfl, s1, r1⟩ := top_rol t
        exact .inl ⟨a, xs, rfl, le_l le s1, fun q hq => h4.lst (r1.cut _ _) hq⟩
      · obtain ⟨c, e2⟩ := ite_some' e2
        cases e2
        cases top_str t
        exact .inr (.inr ⟨_, rfl, c, h4.val (.str _)⟩)
      · cases e2
end
end M

/-! M5: statements. -/
namespace M
open PySem PySem.Spec PyProof.Rows L2

inductive Fl where
  | nx | bk | ct | rt (r : Res)
/-- the names' sorts behind a statement -/
structure StepS (ρ : En) (A : Nat → Addr) (ρ' : En) (A' : Nat → Addr) (H : Hp) : Prop where
  own : ∀ a, OwnA ρ' A' a → OwnA ρ A a ∨ H a = none
  par : ∀ (i : Nat) (m : Mo), ρ[i]? = some (Slot.par m) → ∃ m', ρ'[i]? = some (Slot.par m') ∧ A' i = A i
theorem StepS.refl {ρ : En} {A : Nat → Addr} {H : Hp} : StepS ρ A ρ A H := ⟨fun _ h => .inl h, fun _ m h => ⟨m, h, rfl⟩⟩
theorem StepS.of {ρ ρ1 ρ2 : En} {A A2 : Nat → Addr} {S : Addr → Prop} {F H F1 H1 : Hp} (tr : Tr S F H F1 H1) (sb : Sb ρ ρ1) (s : StepS ρ1 A ρ2 A2 H1) : StepS ρ A ρ2 A2 H :=
  ⟨fun a h => (s.own a h).imp sb.ownA (none_back tr.there), fun i m h => let ⟨m1, h1⟩ := sb.par i m h; s.par i m1 h1⟩
theorem StepS.trans {ρ ρ1 ρ2 : En} {A A1 A2 : Nat → Addr} {S : Addr → Prop} {F H F1 H1 : Hp} (s1 : StepS ρ A ρ1 A1 H) (tr : Tr S F H F1 H1) (s2 : StepS ρ1 A1 ρ2 A2 H1) : StepS ρ A ρ2 A2 H :=
  ⟨fun a h => (s2.own a h).elim (s1.own a) fun q => .inr (none_back tr.there q), fun i m h => let ⟨m1, h1, e1⟩ := s1.par i m h; let ⟨m2, h2, e2⟩ := s2.par i m1 h1; ⟨m2, h2, e2.trans e1⟩⟩
theorem Sb.step {ρ ρ' : En} {A : Nat → Addr} {H : Hp} (s : Sb ρ ρ') : StepS ρ A ρ' A H := ⟨fun a h => .inl (s.ownA h), fun i m h => let ⟨m', h'⟩ := s.par i m h; ⟨m', h', rfl⟩⟩

section
variable (K : PySem.W.Frag) (H0 : HE) (W : WX)
def PostS (D : Ends) (F H : Hp) (ρ : En) (A : Nat → Addr) : Out Fl → Prop
  | .ok .nx ρ' => ∀ σ' F' H' A', Tr (OwnA ρ A) F H F' H' → ER K H0 F' H' σ' ρ' A' → StepS ρ A ρ' A' H → D.nx σ' H'
  | .ok .bk ρ' => ∀ σ' F' H' A', Tr (OwnA ρ A) F H F' H' → ER K H0 F' H' σ' ρ' A' → StepS ρ A ρ' A' H → D.bk σ' H'
  | .ok .ct ρ' => ∀ σ' F' H' A', Tr (OwnA ρ A) F H F' H' → ER K H0 F' H' σ' ρ' A' → StepS ρ A ρ' A' H → D.ct σ' H'
  | .ok (.rt r) ρ' => ∀ v σ' F' H' A', Tr (OwnA ρ A) F H F' H' → ER K H0 F' H' σ' ρ' A' → StepS ρ A ρ' A' H → RAt K H0 (fun _ => True) F' H' ρ' A' v r → D.rt v H'
  | .ex C fs ρ' => ∀ d σ' F' H' A', Tr (OwnA ρ A) F H F' H' → ER K H0 F' H' σ' ρ' A' → StepS ρ A ρ' A' H → ExAt K F' d fs → W C d σ' H'
def StAt (F : Hp) (ρ : En) (A : Nat → Addr) (g : EM Fl) (D : Ends) (σ : L2.St) (H : Hp) : Prop := ER K H0 F H σ ρ A ∧ ∃ o, g ρ = some o ∧ PostS K H0 W D F H ρ A o
def tSt (g : EM Fl) : TS := fun D σ H => ∃ F ρ A, StAt K H0 W F ρ A g D σ H
end

section
variable {K : PySem.W.Frag} {H0 : HE} {W : WX} {σ : L2.St} {G : Ends} {α β : Type} {R : (Addr → Prop) → Hp → Hp → En → (Nat → Addr) → β → α → Prop}
/-- the end's wish, seen from a later state -/
theorem PostS.later {F H F1 H1 : Hp} {ρ ρ1 : En} {A A1 : Nat → Addr} {o : Out Fl} (p : PostS K H0 W G F H ρ A o) (tr : Tr (OwnA ρ A) F H F1 H1) (st : StepS ρ A ρ1 A1 H) : PostS K H0 W G F1 H1 ρ1 A1 o := by
  have tt : ∀ {F2 H2}, Tr (OwnA ρ1 A1) F1 H1 F2 H2 → Tr (OwnA ρ A) F H F2 H2 := fun t => tr.trans t st.own
  cases o with
  | ok fl ρ2 =>
    cases fl with
    | nx => exact fun σ' F' H' A' t e s => p σ' F' H' A' (tt t) e (st.trans tr s)
    | bk => exact fun σ' F' H' A' t e s => p σ' F' H' A' (tt t) e (st.trans tr s)
    | ct => exact fun σ' F' H' A' t e s => p σ' F' H' A' (tt t) e (st.trans tr s)
    | rt r => exact fun v σ' F' H' A' t e s r => p v σ' F' H' A' (tt t) e (st.trans tr s) r
  | ex C fs ρ2 => exact fun d σ' F' H' A' t e s r => p d σ' F' H' A' (tt t) e (st.trans tr s) r
theorem StAt.bind0 {okg : Addr → Prop} {g : EM α} {f : α → EM Fl} {F H : Hp} {ρ : En} {A : Nat → Addr} {Q1 : β → Hp → Prop} (h : StAt K H0 W F ρ A (g.bind f) G σ H)
    (k : ∀ b a F1 H1 ρ1 o, Tr (OwnA ρ A) F H F1 H1 → Sb ρ ρ1 → ER K H0 F1 H1 σ ρ1 A → R okg F1 H1 ρ1 A b a → f a ρ1 = some o → PostS K H0 W G F H ρ A o → Q1 b H1) (kg : ∀ p, Okp ρ A H p → okg p := by intro _ h; exact h) : WpAt K H0 W R okg F ρ A g σ H Q1 := by
  obtain ⟨er, o, e, p⟩ := h
  refine ⟨er, kg, ?_⟩
  unfold EM.bind at e
  cases eg : g ρ with
  | none => rw [eg] at e; cases e
  | some og =>
    rw [eg] at e
    cases og with
    | ok a ρ1 => exact ⟨_, rfl, fun b F1 H1 tr er1 sb r => k b a F1 H1 ρ1 o tr sb er1 r e p⟩
    | ex C fs ρ1 =>
      cases e
      exact ⟨_, rfl, fun dx F1 H1 tr er1 sb x => p dx σ F1 H1 A tr er1 sb.step x⟩
theorem StAt.bind {okg : Addr → Prop} {g : EM α} {f : α → EM Fl} {F H : Hp} {ρ : En} {A : Nat → Addr} {Q1 : β → Hp → Prop} (h : StAt K H0 W F ρ A (g.bind f) G σ H)
    (k : ∀ b a F1 H1 ρ1, Tr (OwnA ρ A) F H F1 H1 → Sb ρ ρ1 → R okg F1 H1 ρ1 A b a → StAt K H0 W F1 ρ1 A (f a) G σ H1 → Q1 b H1) (kg : ∀ p, Okp ρ A H p → okg p := by intro _ h; exact h) : WpAt K H0 W R okg F ρ A g σ H Q1 :=
  h.bind0 (fun b a F1 H1 ρ1 o tr sb er r e p => k b a F1 H1 ρ1 tr sb r ⟨er, o, e, p.later tr sb.step⟩) kg
theorem StAt.nx {F H : Hp} {ρ : En} {A : Nat → Addr} (h : StAt K H0 W F ρ A (EM.pure .nx) G σ H) : G.nx σ H := by
  obtain ⟨er, o, e, p⟩ := h
  cases e
  exact p σ F H A .refl er .refl
end

/-! ### blocks -/
def gSeq (g1 g2 : EM Fl) : EM Fl := fun ρ => match g1 ρ with
  | some (.ok .nx ρ1) => g2 ρ1
  | o => o
def gPass : EM Fl := EM.pure .nx
section
variable {X : Cx} {H0 : HE} {W : WX} {st : Stmt} {rest a b : List Stmt} {e : Expr} {g g1 g2 : EM Fl} {ge : EM Res} {gc : EM Bool} {pos : Pos}
theorem seq_weak {G : Ends} {σ : L2.St} {H : Hp} (h : tSt X.K H0 W (gSeq g1 g2) G σ H) : tSt X.K H0 W g1 { G with nx := tSt X.K H0 W g2 G } σ H := by
  obtain ⟨F, ρ, A, er, o, e, p⟩ := h
  unfold gSeq at e
  refine ⟨F, ρ, A, er, ?_⟩
  cases eg : g1 ρ with
  | none => rw [eg] at e; cases e
  | some og =>
    rw [eg] at e
    refine ⟨_, rfl, ?_⟩
    cases og with
    | ok fl ρ1 =>
      cases fl with
      | nx => exact fun σ' F' H' A' tr er' s => ⟨F', ρ1, A', er', o, e, p.later tr s⟩
      | bk => cases e; exact p
      | ct => cases e; exact p
      | rt r => cases e; exact p
    | ex C fs ρ1 => cases e; exact p
theorem b_nil : PSs X [] (tSt X.K H0 W gPass) := pss_nil.weak fun D σ H h => by obtain ⟨F, ρ, A, h⟩ := h; exact h.nx
theorem b_cons (h1 : PS X st (tSt X.K H0 W g1)) (h2 : PSs X rest (tSt X.K H0 W g2)) : PSs X (st :: rest) (tSt X.K H0 W (gSeq g1 g2)) := (pss_cons h1 h2).weak fun _ _ _ h => seq_weak h
theorem b_one (h1 : PS X st (tSt X.K H0 W g1)) : PSs X [st] (tSt X.K H0 W g1) := pss_one h1
/-- what is never run -/
def gNever {α : Type} : EM α := fun _ => none
theorem b_never {sts : List Stmt} : PSs X sts (tSt X.K H0 W gNever) := pss_never.weak fun D σ H h => by obtain ⟨F, ρ, A, _, _, e, _⟩ := h; cases e
theorem c_never : PS X st (tSt X.K H0 W gNever) := ps_never.weak fun D σ H h => by obtain ⟨F, ρ, A, _, _, e, _⟩ := h; cases e
theorem c_pass : PS X (.Pass pos) (tSt X.K H0 W gPass) := ps_pass.weak fun D σ H h => by obtain ⟨F, ρ, A, h⟩ := h; exact h.nx
def gBreak : EM Fl := EM.pure .bk
def gCont : EM Fl := EM.pure .ct
theorem c_break : PS X (.Break pos) (tSt X.K H0 W gBreak) := ps_break.weak fun D σ H h => by obtain ⟨F, ρ, A, er, o, e, p⟩ := h; cases e; exact p σ F H A .refl er .refl
theorem c_continue : PS X (.Continue pos) (tSt X.K H0 W gCont) := ps_continue.weak fun D σ H h => by obtain ⟨F, ρ, A, er, o, e, p⟩ := h; cases e; exact p σ F H A .refl er .refl
def gDrop (g : EM Res) : EM Fl := g.bind fun _ => EM.pure .nx
theorem c_expr (he : PE X e (tE X.K H0 W ge)) (hs : swapsWith e none pos.line X.env = pure false := by rfl) : PS X (.Expr e pos) (tSt X.K H0 W (gDrop ge)) := (ps_expr he hs).weak fun D σ H h => by
  obtain ⟨F, ρ, A, h⟩ := h
  exact ⟨F, ρ, A, h.bind fun v r F1 H1 ρ1 tr sb ra h1 => h1.nx⟩
def gRet (g : EM Res) : EM Fl := g.bind fun r => EM.pure (.rt r)
theorem c_ret (he : PE X e (tE X.K H0 W ge)) : PS X (.Return (some e) pos) (tSt X.K H0 W (gRet ge)) := (ps_ret he).weak fun D σ H h => by
  obtain ⟨F, ρ, A, h⟩ := h
  refine ⟨F, ρ, A, h.bind fun v r F1 H1 ρ1 tr sb ra h1 => ?_⟩
  obtain ⟨er, o, e, p⟩ := h1
  cases e
  exact p v σ F1 H1 A .refl er .refl (mono_rat _ _ _ _ _ _ _ _ (fun _ _ => trivial) ra)
def gRetN : EM Fl := EM.pure (.rt (.val .non))
theorem c_retN : PS X (.Return none pos) (tSt X.K H0 W gRetN) := ps_retN.weak fun D σ H h => by
  obtain ⟨F, ρ, A, er, o, e, p⟩ := h
  cases e
  exact p .non σ F H A .refl er .refl Rep.non
def gIfS (c : EM Bool) (a b : EM Fl) : EM Fl := c.bind fun k => if k = true then a else b
theorem c_if {c : Expr} (hc : PT X c (tT X.K H0 W gc)) (ha : PSs X a (tSt X.K H0 W g1)) (hb : PSs X b (tSt X.K H0 W g2)) : PS X (.If c a b pos) (tSt X.K H0 W (gIfS gc g1 g2)) := (ps_if hc ha hb).weak fun D σ H h => by
  obtain ⟨F, ρ, A, h⟩ := h
  refine ⟨F, ρ, A, h.bind fun k k' F1 H1 ρ1 tr sb ra h1 => ?_⟩
  subst ra
  cases k with
  | true => rw [if_pos rfl] at h1 ⊢; exact ⟨F1, ρ1, A, h1⟩
  | false => rw [if_neg Bool.false_ne_true] at h1 ⊢; exact ⟨F1, ρ1, A, h1⟩
end

/-! ### a name is stored -/
def storeR (i : Nat) (r : Res) : EM Fl := fun ρ => match r with
  | .val d => some (.ok .nx (ρ.set i (.val d)))
  | .new m => some (.ok .nx (ρ.set i (.own m)))
  | .brw _ => none
def setM (i : Nat) (r : Res) : EM Fl := fun ρ => match ρ[i]? with
  | none => none
  | some (.par _) => none
  | some _ => storeR i r ρ
theorem moAt_set {ρ : En} {i j : Nat} {s : Slot} (hi : i < ρ.length) : moAt (ρ.set i s) j = if j = i then s.mo? else moAt ρ j := by
  unfold moAt
  by_cases z : j = i
  · subst z; rw [List.getElem?_set_self hi, if_pos rfl]; rfl
  · rw [List.getElem?_set_ne (Ne.symm z), if_neg z]
section
variable {K : PySem.W.Frag} {H0 : HE} {F H : Hp} {W : WX} {σ : L2.St} {G : Ends} {ρ : En} {A : Nat → Addr}
theorem ER.setVal {i : Nat} {v : V} {d : D} (er : ER K H0 F H σ ρ A) (hi : i < ρ.length) (r : Rep K F v d) : ER K H0 F H (σ.set i (some v)) (ρ.set i (.val d)) A := by
  have hs : i < σ.length := by rw [er.len]; exact hi
  refine ⟨by simpa using er.len, er.le, fun j s e => ?_, fun j k m1 m2 e1 e2 => ?_, er.dom, er.tabs⟩
  · by_cases z : j = i
    · subst z
      rw [List.getElem?_set_self hi] at e
      cases e
      exact ⟨v, List.getElem?_set_self hs, r⟩
    · rw [List.getElem?_set_ne (Ne.symm z)] at e
      have q := er.sl j s e
      cases s with
      | un => trivial
      | val d' => obtain ⟨v', h1, h2⟩ := q; exact ⟨v', by rw [List.getElem?_set_ne (Ne.symm z)]; exact h1, h2⟩
      | exc C fs => obtain ⟨a, d, h1, h2⟩ := q; exact ⟨a, d, by rw [List.getElem?_set_ne (Ne.symm z)]; exact h1, h2⟩
      | own m => exact ⟨by rw [List.getElem?_set_ne (Ne.symm z)]; exact q.1, q.2⟩
      | par m => exact ⟨by rw [List.getElem?_set_ne (Ne.symm z)]; exact q.1, q.2⟩
  · rw [moAt_set hi] at e1 e2
    split at e1
    · cases e1
    · split at e2
      · cases e2
      · exact er.inj j k m1 m2 e1 e2
theorem StepS.setVal {i : Nat} {d : D} (hi : i < ρ.length) (np : ∀ m, ρ[i]? ≠ some (Slot.par m)) : StepS ρ A (ρ.set i (.val d)) A H := by
  refine ⟨fun a h => .inl ?_, fun j m h => ?_⟩
  · obtain ⟨j, m, h1, h2⟩ := h
    rw [moAt_set hi] at h1
    split at h1
    · cases h1
    · exact ⟨j, m, h1, h2⟩
  · by_cases z : j = i
    · subst z; exact absurd h (np m)
    · exact ⟨m, by rw [List.getElem?_set_ne (Ne.symm z)]; exact h, rfl⟩
def putA (A : Nat → Addr) (i : Nat) (p : Addr) : Nat → Addr := fun j => if j = i then p else A j
theorem ER.setOwn {i : Nat} {p : Addr} {m : Mo} (er : ER K H0 F H σ ρ A) (hi : i < ρ.length) (fp : F p = none) (no : ¬ OwnA ρ A p) (mo : MoAt K F H p m) (h0 : H0 p = none) : ER K H0 F H (σ.set i (some (.ref p))) (ρ.set i (.own m)) (putA A i p) := by
  have hs : i < σ.length := by rw [er.len]; exact hi
  have an : ∀ {j}, j ≠ i → putA A i p j = A j := fun {j} z => if_neg z
  have ai : putA A i p i = p := if_pos rfl
  refine ⟨by simpa using er.len, er.le, fun j s e => ?_, fun j k m1 m2 e1 e2 ea => ?_, er.dom, er.tabs⟩
  · by_cases z : j = i
    · subst z
      rw [List.getElem?_set_self hi] at e
      cases e
      exact ⟨by rw [ai]; exact List.getElem?_set_self hs, by rw [ai]; exact fp, by rw [ai]; exact mo, by rw [ai]; exact h0⟩
    · rw [List.getElem?_set_ne (Ne.symm z)] at e
      have q := er.sl j s e
      cases s with
      | un => trivial
      | val d' => obtain ⟨v', h1, h2⟩ := q; exact ⟨v', by rw [List.getElem?_set_ne (Ne.symm z)]; exact h1, h2⟩
      | exc C fs => obtain ⟨a, d, h1, h2⟩ := q; exact ⟨a, d, by rw [List.getElem?_set_ne (Ne.symm z)]; exact h1, h2⟩
      | own m => exact ⟨by rw [List.getElem?_set_ne (Ne.symm z), an z]; exact q.1, by rw [an z]; exact q.2⟩
      | par m => exact ⟨by rw [List.getElem?_set_ne (Ne.symm z), an z]; exact q.1, by rw [an z]; exact q.2⟩
  · rw [moAt_set hi] at e1 e2
    by_cases z1 : j = i
    · by_cases z2 : k = i
      · rw [z1, z2]
      · rw [if_neg z2] at e2
        rw [z1, ai, an z2] at ea
        exact absurd ⟨k, m2, e2, ea.symm⟩ no
    · by_cases z2 : k = i
      · rw [if_neg z1] at e1
        rw [z2, ai, an z1] at ea
        exact absurd ⟨j, m1, e1, ea⟩ no
      · rw [if_neg z1] at e1
        rw [if_neg z2] at e2
        rw [an z1, an z2] at ea
        exact er.inj j k m1 m2 e1 e2 ea
theorem StepS.setOwn {i : Nat} {p : Addr} {m : Mo} (hi : i < ρ.length) (np : ∀ m, ρ[i]? ≠ some (Slot.par m)) (ok : Okp ρ A H p) : StepS ρ A (ρ.set i (.own m)) (putA A i p) H := by
  refine ⟨fun a h => ?_, fun j m h => ?_⟩
  · obtain ⟨j, m', h1, h2⟩ := h
    rw [moAt_set hi] at h1
    by_cases z : j = i
    · subst z
      have : p = a := by rw [← h2]; exact (if_pos rfl).symm
      rw [← this]
      exact ok.symm
    · rw [if_neg z] at h1
      exact .inl ⟨j, m', h1, by rw [← h2]; exact (if_neg z).symm⟩
  · by_cases z : j = i
    · subst z; exact absurd h (np m)
    · exact ⟨m, by rw [List.getElem?_set_ne (Ne.symm z)]; exact h, if_neg z⟩
/-- the end of a store -/
theorem setM_end {i : Nat} {r : Res} {v : V} {F1 H1 : Hp} {ρ1 : En} {o : Out Fl} (tr : Tr (OwnA ρ A) F H F1 H1) (sb : Sb ρ ρ1) (er : ER K H0 F1 H1 σ ρ1 A) (ra : RAt K H0 (Okp ρ A H) F1 H1 ρ1 A v r) (e : setM i r ρ1 = some o) (p : PostS K H0 W G F H ρ A o) :
    G.nx (σ.set i (some v)) H1 := by
  unfold setM at e
  cases q : ρ1[i]? with
  | none => rw [q] at e; cases e
  | some s =>
    rw [q] at e
    have hi : i < ρ1.length := (List.getElem?_eq_some_iff.mp q).1
    have main : (∀ m, s ≠ .par m) → storeR i r ρ1 = some o → G.nx (σ.set i (some v)) H1 := fun ns e => by
      have np : ∀ m, ρ1[i]? ≠ some (Slot.par m) := fun m z => by rw [q] at z; exact ns m (Option.some.inj z)
      cases r with
      | val d =>
        cases e
        exact p _ F1 H1 A tr (er.setVal hi ra) (sb.step.trans tr (StepS.setVal hi np))
      | new m =>
        cases e
        obtain ⟨pp, rfl, fp, no, mo, h0, ok⟩ := ra
        refine p _ F1 H1 (putA A i pp) tr (er.setOwn hi fp no mo h0) ?_
        refine ⟨fun a h => ?_, fun j m' h => ?_⟩
        · obtain ⟨j, m', h1, h2⟩ := h
          rw [moAt_set hi] at h1
          by_cases z : j = i
          · subst z
            have : pp = a := by rw [← h2]; exact (if_pos rfl).symm
            rw [← this]
            exact ok.symm
          · rw [if_neg z] at h1
            exact .inl (sb.ownA ⟨j, m', h1, by rw [← h2]; exact (if_neg z).symm⟩)
        · obtain ⟨m1, h1⟩ := sb.par j m' h
          by_cases z : j = i
          · subst z; exact absurd h1 (np m1)
          · exact ⟨m1, by rw [List.getElem?_set_ne (Ne.symm z)]; exact h1, if_neg z⟩
      | brw j => cases e
    cases s with
    | par m => cases e
    | un => exact main (fun _ z => nomatch z) e
    | exc C fs => exact main (fun _ z => nomatch z) e
    | val d => exact main (fun _ z => nomatch z) e
    | own m => exact main (fun _ z => nomatch z) e
end
section
variable {X : Cx} {H0 : HE} {W : WX} {e : Expr} {ge : EM Res} {pos pos' : Pos} {x : Str}
def gSet (i : Nat) (g : EM Res) : EM Fl := g.bind fun r => setM i r
theorem set_weak {i : Nat} {G : Ends} {σ : L2.St} {H : Hp} (h : tSt X.K H0 W (gSet i ge) G σ H) : tAsg (tE X.K H0 W ge) (gName i) G σ H := by
  obtain ⟨F, ρ, A, h⟩ := h
  exact ⟨F, ρ, A, h.bind0 fun v r F1 H1 ρ1 o tr sb er ra e p => setM_end tr sb er ra e p⟩
theorem c_set (i : Nat) (hN : X.N.Nodup) (he : PE X e (tE X.K H0 W ge)) (hi : X.N[i]? = some x := by rfl) (hx : Loc X.env.scope x := by first | exact .inl rfl | exact .inr rfl) (hs : swapsWith e (some (.Name x pos')) pos.line X.env = pure false := by rfl) (hf : X.fn x = true ∨ X.env.scope.names.lookup x = some .local := by first | exact .inl rfl | exact .inr rfl | assumption) :
    PS X (.Assign [.Name x pos'] e pos) (tSt X.K H0 W (gSet i ge)) := (ps_set hN hi hx he hs hf).weak fun _ _ _ h => set_weak h
end
end M

/-! M6: targets, changes of owned things, loops. -/
namespace M
open PySem PySem.Spec PyProof.Rows L2

/-! ### an owned thing is changed -/
def putMo (ρ : En) (k : Nat) (m : Mo) : En := match ρ[k]? with
  | some (.own _) => ρ.set k (.own m)
  | some (.par _) => ρ.set k (.par m)
  | _ => ρ
section
variable {K : PySem.W.Frag} {H0 : HE} {F H : Hp} {W : WX} {σ : L2.St} {ρ : En} {A : Nat → Addr} {k : Nat} {m m' : Mo} {ob : HO}
theorem moAt_put (h : moAt ρ k = some m) (j : Nat) : moAt (putMo ρ k m') j = if j = k then some m' else moAt ρ j := by
  unfold moAt at h
  cases q : ρ[k]? with
  | none => rw [q] at h; cases h
  | some s =>
    have hk : k < ρ.length := (List.getElem?_eq_some_iff.mp q).1
    rw [q] at h
    unfold putMo
    rw [q]
    cases s with
    | un => cases h
    | val d => cases h
    | exc C fs => cases h
    | own m0 => exact moAt_set hk
    | par m0 => exact moAt_set hk
theorem put_get (h : moAt ρ k = some m) {j : Nat} (z : j ≠ k) : (putMo ρ k m')[j]? = ρ[j]? := by
  unfold putMo
  split
  · exact List.getElem?_set_ne (Ne.symm z)
  · exact List.getElem?_set_ne (Ne.symm z)
  · rfl
theorem put_len : (putMo ρ k m').length = ρ.length := by
  unfold putMo
  split
  · exact List.length_set
  · exact List.length_set
  · rfl
theorem ER.put (er : ER K H0 F H σ ρ A) (h : moAt ρ k = some m) (mo : MoAt K F (upd H (A k) ob) (A k) m') : ER K H0 F (upd H (A k) ob) σ (putMo ρ k m') A := by
  obtain ⟨a1, a2, a3⟩ := er.at h
  refine ⟨by rw [put_len]; exact er.len, le_upd er.le a2, fun j s e => ?_, fun j i m1 m2 e1 e2 ea => ?_, fun a x e => ?_, tabs_upd er.tabs (.inr a3.there')⟩
  · by_cases z : j = k
    · subst z
      unfold moAt at h
      cases q : ρ[j]? with
      | none => rw [q] at h; cases h
      | some s0 =>
        have hk : j < ρ.length := (List.getElem?_eq_some_iff.mp q).1
        have so := er.sl j s0 q
        unfold putMo at e
        rw [q] at h e
        cases s0 with
        | un => cases h
        | val d => cases h
        | exc C fs => cases h
        | own m0 =>
          rw [List.getElem?_set_self hk] at e
          cases e
          exact ⟨so.1, so.2.1, mo, so.2.2.2⟩
        | par m0 =>
          rw [List.getElem?_set_self hk] at e
          cases e
          exact ⟨so.1, so.2.1, mo⟩
    · rw [put_get h z] at e
      have q := er.sl j s e
      have ne : ∀ {mm}, moAt ρ j = some mm → A j ≠ A k := fun {mm} e' ea => z (er.inj j k mm m e' h ea)
      cases s with
      | un => trivial
      | val d => exact q
      | exc C fs => exact q
      | own mm => exact ⟨q.1, q.2.1, q.2.2.1.keep (upd_ne (ne (by unfold moAt; rw [e]; rfl))), q.2.2.2⟩
      | par mm => exact ⟨q.1, q.2.1, q.2.2.keep (upd_ne (ne (by unfold moAt; rw [e]; rfl)))⟩
  · rw [moAt_put h] at e1 e2
    have f : ∀ {j mm}, (if j = k then some m' else moAt ρ j) = some mm → ∃ m0, moAt ρ j = some m0 := fun {j mm} e => by
      by_cases z : j = k
      · subst z; exact ⟨m, h⟩
      · rw [if_neg z] at e; exact ⟨mm, e⟩
    obtain ⟨x1, y1⟩ := f e1
    obtain ⟨x2, y2⟩ := f e2
    exact er.inj j i x1 x2 y1 y2 ea
  · obtain ⟨y, q⟩ := er.dom a x e
    by_cases z : a = A k
    · exact ⟨ob, by rw [z]; exact upd_same⟩
    · exact ⟨y, by rw [upd_ne z]; exact q⟩
theorem Tr.put (h : moAt ρ k = some m) : Tr (OwnA ρ A) F H F (upd H (A k) ob) where
  ff := Le.refl F
  keep := fun a x n _ e => by rw [upd_ne (fun z => n ⟨k, m, h, z.symm⟩)]; exact e
  fresh := fun a x e => .inl ⟨x, e⟩
  there := fun a x e => by
    by_cases z : a = A k
    · exact ⟨ob, by rw [z]; exact upd_same⟩
    · exact ⟨x, by rw [upd_ne z]; exact e⟩
theorem Sb.put (h : moAt ρ k = some m) : Sb ρ (putMo ρ k m') := by
  refine ⟨fun j m1 e => ?_, fun j m1 e => ?_⟩
  · rw [moAt_put h] at e
    by_cases z : j = k
    · subst z; exact ⟨m, h⟩
    · rw [if_neg z] at e; exact ⟨m1, e⟩
  · by_cases z : j = k
    · subst z
      have hk : j < ρ.length := (List.getElem?_eq_some_iff.mp e).1
      unfold putMo
      rw [e]
      exact ⟨m', List.getElem?_set_self hk⟩
    · exact ⟨m1, by rw [put_get h z]; exact e⟩
end

/-! ### list.append, list.pop .. of an owned list at a name -/
/-- xs.append(e) -/
def gApp (k : Nat) (g : EM Res) : EM Res := g.bind fun r => fun ρ => match r, moAt ρ k with
  | .val d, some (.l ds) => if ds.length < sizeLine then some (.ok (.val .non) (putMo ρ k (.l (ds ++ [d])))) else none
  | _, _ => none
section
variable {X : Cx} {H0 : HE} {W : WX} {e : Expr} {es : List Expr} {g : EM Res} {gs : EM (List Res)} {x : Str} {pos apos npos : Pos}
theorem own_list {K : PySem.W.Frag} {F H : Hp} {σ : L2.St} {ρ : En} {A : Nat → Addr} {k : Nat} {ds : List D} (er : ER K H0 F H σ ρ A) (h : moAt ρ k = some (.l ds)) : σ[k]? = some (some (.ref (A k))) ∧ ∃ vs, H (A k) = some (.lst vs) ∧ Reps K F vs ds := by
  obtain ⟨a1, a2, vs, a3, a4⟩ := er.at h
  exact ⟨a1, vs, a3, a4⟩
/-- the owned list is an owned list ahead of the argument, too -/
theorem own_back {ρ ρ1 : En} {k : Nat} {m : Mo} (sb : Sb ρ ρ1) (h : moAt ρ1 k = some m) : ∃ m0, moAt ρ k = some m0 := sb.own k m h
theorem mo_ty {K : PySem.W.Frag} {F H : Hp} {a : Addr} {m : Mo} (h : MoAt K F H a m) : (∃ xs, SqL K H a xs) ∨ ∃ kvs, H a = some (.dK kvs) := by
  cases m with
  | l ds => obtain ⟨vs, h1, _⟩ := h; exact .inl ⟨vs, SqL.of h1⟩
  | d ds => obtain ⟨vs, h1, _⟩ := h; exact .inr ⟨vs, h1⟩
/-- a list's kind does not change: needed of the receiver ahead of the arguments -/
def isL (ρ : En) (k : Nat) : Bool := match moAt ρ k with
  | some (.l _) => true
  | _ => false
def gRcv (k : Nat) (g : EM Res) : EM Res := fun ρ => if isL ρ k = true then g ρ else none
theorem rcv_at {K : PySem.W.Frag} {F H : Hp} {σ : L2.St} {ρ : En} {A : Nat → Addr} {k : Nat} {ok : Addr → Prop} {Q : VK} (h : WpAt K H0 W (RAt K H0) ok F ρ A (gRcv k g) σ H Q) :
    σ[k]? = some (some (.ref (A k))) ∧ tyV K "list" (.ref (A k)) H ∧ WpAt K H0 W (RAt K H0) ok F ρ A g σ H Q := by
  obtain ⟨er, kn, o, e, p⟩ := h
  unfold gRcv at e
  obtain ⟨c, e⟩ := ite_some' e
  unfold isL at c
  cases q : moAt ρ k with
  | none => rw [q] at c; cases c
  | some m =>
    rw [q] at c
    cases m with
    | d ds => cases c
    | l ds =>
      obtain ⟨a1, vs, a2, a3⟩ := own_list er q
      exact ⟨a1, .inl ⟨rfl, vs, SqL.of a2⟩, er, kn, o, e, p⟩
theorem p_append (k : Nat) (he : PE X e (tE X.K H0 W g)) (hN : X.N[k]? = some x := by rfl) (hv : Vis X.env.scope x := by first | exact Or.inl rfl | exact Or.inr (Or.inl rfl) | exact Or.inr (Or.inr rfl)) (hd : (x == ("__debug__" : Str)) = false := by decide) (hcd : (x == ("__classdict__" : Str)) = false := by decide)
    (hbase : attributeBase (.Name x npos) "append" X.env (eval (.Name x npos) X.env) = eval (.Name x npos) X.env := by rfl)
    (hfew : ((backTo pos (starEach (e :: []) X.env)).all (fun x => !x.1) && (backToKw pos (keywordEach [] X.env)).all (fun x => x.1.isSome)
      && decide ((e :: []).length + ([] : List Keyword).length + (if ([] : List Keyword).isEmpty then 0 else 1) < 30)) = true := by rfl)
    (hline : (apos.endLine == pos.line) = true := by rfl) (hs : starEach (e :: []) X.env = (false, eval e X.env) :: starEach [] X.env := by rfl) (hplain : (backTo pos (starEach [] X.env)).any (·.1) = false := by rfl) :
    PE X (.Call (.Attribute (.Name x npos) "append" apos) [e] [] pos) (tE X.K H0 W (gRcv k (gApp k g))) :=
  (pe_bm PySem.F.plainAttrs_list PySem.F.slot_list_append PySem.F.type_list_append mt_append (pe_var hN hv hd hcd) (pa_cons he pa_nil hs) hbase hfew hline hs hplain).weak fun σ H Q h => by
    obtain ⟨F, ρ, A, h⟩ := h
    obtain ⟨a1, a2, h⟩ := rcv_at h
    refine ⟨_, a1, a2, ⟨F, ρ, A, h.bind fun v r F1 H1 ρ1 tr sb ra h1 => ?_⟩⟩
    obtain ⟨er, kn, o, e, p⟩ := h1
    cases r with
    | new m => cases e
    | brw j => cases e
    | val d =>
      cases q : moAt ρ1 k with
      | none => simp only [q] at e; cases e
      | some m =>
        cases m with
        | d ds => simp only [q] at e; cases e
        | l ds =>
          simp only [q] at e
          obtain ⟨c, e⟩ := ite_some' e
          cases e
          obtain ⟨b1, vs, b2, b3⟩ := own_list er q
          refine ⟨A k, vs, v, rfl, rfl, b2, by rw [b3.length]; exact c, ?_⟩
          exact p .non F1 _ (Tr.put q) (er.put q ⟨_, upd_same, b3.append (.cons ra .nil)⟩) (Sb.put q) Rep.non
/-- xs.pop(i), the index not below nought -/
def gPopAt (k : Nat) (g : EM Res) : EM Res := g.bind fun r => fun ρ => match r, moAt ρ k with
  | .val (.int i), some (.l ds) => if -(2 ^ 63) ≤ i ∧ i < 2 ^ 63 then (match seqIndex? i ds.length with
    | some j => (match ds[j]? with
      | some d => some (.ok (.val d) (putMo ρ k (.l (ds.eraseIdx j))))
      | none => none)
    | none => none) else none
  | _, _ => none
theorem p_popAt (k : Nat) (he : PE X e (tE X.K H0 W g)) (hN : X.N[k]? = some x := by rfl) (hv : Vis X.env.scope x := by first | exact Or.inl rfl | exact Or.inr (Or.inl rfl) | exact Or.inr (Or.inr rfl)) (hd : (x == ("__debug__" : Str)) = false := by decide) (hcd : (x == ("__classdict__" : Str)) = false := by decide)
    (hbase : attributeBase (.Name x npos) "pop" X.env (eval (.Name x npos) X.env) = eval (.Name x npos) X.env := by rfl)
    (hfew : ((backTo pos (starEach (e :: []) X.env)).all (fun x => !x.1) && (backToKw pos (keywordEach [] X.env)).all (fun x => x.1.isSome)
      && decide ((e :: []).length + ([] : List Keyword).length + (if ([] : List Keyword).isEmpty then 0 else 1) < 30)) = true := by rfl)
    (hline : (apos.endLine == pos.line) = true := by rfl) (hs : starEach (e :: []) X.env = (false, eval e X.env) :: starEach [] X.env := by rfl) (hplain : (backTo pos (starEach [] X.env)).any (·.1) = false := by rfl) :
    PE X (.Call (.Attribute (.Name x npos) "pop" apos) [e] [] pos) (tE X.K H0 W (gRcv k (gPopAt k g))) :=
  (pe_bm PySem.F.plainAttrs_list PySem.F.slot_list_pop PySem.F.type_list_pop mt_popAt (pe_var hN hv hd hcd) (pa_cons he pa_nil hs) hbase hfew hline hs hplain).weak fun σ H Q h => by
    obtain ⟨F, ρ, A, h⟩ := h
    obtain ⟨a1, a2, h⟩ := rcv_at h
    refine ⟨_, a1, a2, ⟨F, ρ, A, h.bind fun v r F1 H1 ρ1 tr sb ra h1 => ?_⟩⟩
    obtain ⟨er, kn, o, e, p⟩ := h1
    dsimp only at e
    split at e
    · rename_i i ds q
      obtain ⟨⟨c1, c2⟩, e⟩ := ite_some' e
      cases e1 : seqIndex? i ds.length with
      | none => simp only [e1] at e; cases e
      | some j =>
        simp only [e1] at e
        cases e2 : ds[j]? with
        | none => simp only [e2] at e; cases e
        | some d =>
          simp only [e2] at e
          cases e
          cases ra
          obtain ⟨b1, vs, b2, b3⟩ := own_list er q
          obtain ⟨y, hy, ry⟩ := b3.get e2
          refine ⟨A k, vs, i, j, y, rfl, rfl, b2, c1, c2, by rw [b3.length]; exact e1, hy, ?_⟩
          exact p y F1 _ (Tr.put q) (er.put q ⟨_, upd_same, b3.eraseIdx j⟩) (Sb.put q) ry
    · cases e
end
end M

/-! M7: targets, augmented assignments, loops. -/
namespace M
open PySem PySem.Spec PyProof.Rows L2

/-! ### targets: names and tuples of them -/
inductive Tg where
  | nm (i : Nat) | tp (ts : List Tg)
def setV (i : Nat) (d : D) (ρ : En) : Option En := match ρ[i]? with
  | none => none
  | some (.par _) => none
  | some _ => some (ρ.set i (.val d))
mutual
def Tg.bind : Tg → D → En → Option En
  | .nm i, d, ρ => setV i d ρ
  | .tp ts, .tup ds, ρ => Tg.binds ts ds ρ
  | .tp _, _, _ => none
def Tg.binds : List Tg → List D → En → Option En
  | [], [], ρ => some ρ
  | t :: ts, d :: ds, ρ => (t.bind d ρ).bind fun ρ1 => Tg.binds ts ds ρ1
  | _, _, _ => none
end
mutual
def Tg.slots : Tg → List Nat
  | .nm i => [i]
  | .tp ts => Tg.slotss ts
def Tg.slotss : List Tg → List Nat
  | [] => []
  | t :: ts => t.slots ++ Tg.slotss ts
end
section
variable (K : PySem.W.Frag) (H0 : HE)
/-- what a target of names asks: the heap stays -/
def tGT (t : Tg) : TG := fun v σ H Q => ∃ F ρ A d ρ', ER K H0 F H σ ρ A ∧ Rep K F v d ∧ t.bind d ρ = some ρ' ∧
  ∀ σ', ER K H0 F H σ' ρ' A → StepS ρ A ρ' A H → (∀ j, j ∉ t.slots → σ'[j]? = σ[j]?) → Q σ' H
def tGTs (ts : List Tg) : TGs := fun vs σ H Q => ∃ F ρ A ds ρ', ER K H0 F H σ ρ A ∧ Reps K F vs ds ∧ Tg.binds ts ds ρ = some ρ' ∧
  ∀ σ', ER K H0 F H σ' ρ' A → StepS ρ A ρ' A H → (∀ j, j ∉ Tg.slotss ts → σ'[j]? = σ[j]?) → Q σ' H
end
theorem setV_some {i : Nat} {d : D} {ρ ρ' : En} (e : setV i d ρ = some ρ') : i < ρ.length ∧ (∀ m, ρ[i]? ≠ some (Slot.par m)) ∧ ρ' = ρ.set i (.val d) := by
  unfold setV at e
  cases q : ρ[i]? with
  | none => rw [q] at e; cases e
  | some s =>
    rw [q] at e
    refine ⟨(List.getElem?_eq_some_iff.mp q).1, fun m z => ?_, ?_⟩
    · cases Option.some.inj z; cases e
    · cases s with
      | par m => cases e
      | un => cases e; rfl
      | val _ => cases e; rfl
      | exc _ _ => cases e; rfl
      | own _ => cases e; rfl
section
variable {X : Cx} {H0 : HE} {pos : Pos}
theorem g_nm (i : Nat) {x : Str} (hN : X.N.Nodup) (hi : X.N[i]? = some x := by rfl) (hx : Loc X.env.scope x := by first | exact .inl rfl | exact .inr rfl) (hf : X.fn x = true ∨ X.env.scope.names.lookup x = some .local := by first | exact .inl rfl | exact .inr rfl | assumption) : PG X (.Name x pos) (tGT X.K H0 (.nm i)) := by
  refine ⟨fun pins s σ H v u Q I r h => (pg_name hN hi hx hf).run pins s σ H v u Q I r ?_⟩
  obtain ⟨F, ρ, A, d, ρ', er, rp, e, k⟩ := h
  unfold Tg.bind at e
  obtain ⟨hl, np, rfl⟩ := setV_some e
  refine k _ (er.setVal hl rp) (StepS.setVal hl np) fun j z => ?_
  exact List.getElem?_set_ne (fun q => z (by rw [← q]; exact List.mem_singleton.mpr rfl))
theorem gs_nil : PGs X [] (tGTs X.K H0 []) := by
  refine ⟨fun pins s σ H vs us Q I r h => pgs_nil.run pins s σ H vs us Q I r ?_⟩
  obtain ⟨F, ρ, A, ds, ρ', er, rp, e, k⟩ := h
  cases rp with
  | nil => unfold Tg.binds at e; cases e; exact ⟨rfl, k σ er .refl fun _ _ => rfl⟩
  | cons h t => unfold Tg.binds at e; cases e
theorem gs_cons {t : Tg} {ts : List Tg} {e : Expr} {es : List Expr} (h1 : PG X e (tGT X.K H0 t)) (h2 : PGs X es (tGTs X.K H0 ts))
    (hs : (assignEach (e :: es) X.env).map (·.2) = assign e X.env :: (assignEach es X.env).map (·.2) := by rfl) : PGs X (e :: es) (tGTs X.K H0 (t :: ts)) := by
  refine ⟨fun pins s σ H vs us Q I r h => (pgs_cons h1 h2 hs).run pins s σ H vs us Q I r ?_⟩
  obtain ⟨F, ρ, A, ds, ρ', er, rp, e, k⟩ := h
  cases rp with
  | nil => unfold Tg.binds at e; cases e
  | @cons v vs d ds h rr =>
    unfold Tg.binds at e
    cases e1 : t.bind d ρ with
    | none => rw [e1] at e; cases e
    | some ρ1 =>
      rw [e1] at e
      refine ⟨v, vs, rfl, F, ρ, A, d, ρ1, er, h, e1, fun σ1 er1 s1 k1 => ⟨F, ρ1, A, ds, ρ', er1, rr, e, fun σ2 er2 s2 k2 => ?_⟩⟩
      refine k σ2 er2 (s1.trans (S := fun _ => False) (F := F) (F1 := F) .refl s2) fun j z => ?_
      have z1 : j ∉ t.slots := fun q => z (by unfold Tg.slotss; exact List.mem_append_left _ q)
      have z2 : j ∉ Tg.slotss ts := fun q => z (by unfold Tg.slotss; exact List.mem_append_right _ q)
      rw [k2 j z2, k1 j z1]
theorem g_tp {ts : List Tg} {es : List Expr} {k n : Nat} (hc : X.calm = true) (h : PGs X es (tGTs X.K H0 ts)) (hn : (assignEach es X.env).length = n := by rfl) (hn2 : ts.length = n := by rfl) (hst : (assignEach es X.env).findIdx? (·.1) = none := by rfl) :
    PG X (.Tuple es k pos) (tGT X.K H0 (.tp ts)) := by
  refine ⟨fun pins s σ H v u Q I r q => (pg_tup hc h hn hst).run pins s σ H v u Q I r ?_⟩
  obtain ⟨F, ρ, A, d, ρ', er, rp, e, k⟩ := q
  have len : ∀ {ts : List Tg} {ds : List D} {ρ ρ' : En}, Tg.binds ts ds ρ = some ρ' → ds.length = ts.length := by
    intro ts
    induction ts with
    | nil => intro ds ρ ρ' e; cases ds with
      | nil => rfl
      | cons => unfold Tg.binds at e; cases e
    | cons t ts ih =>
      intro ds ρ ρ' e
      cases ds with
      | nil => unfold Tg.binds at e; cases e
      | cons d ds =>
        unfold Tg.binds at e
        cases e1 : t.bind d ρ with
        | none => rw [e1] at e; cases e
        | some ρ1 => rw [e1] at e; exact congrArg (· + 1) (ih e)
  cases d with
  | tup ds =>
    unfold Tg.bind at e
    cases rp with
    | tup s1 r1 => exact ⟨_, _, rfl, le_t er.le s1, by rw [r1.length, len e]; exact hn2, F, ρ, A, ds, ρ', er, r1, e, k⟩
  | _ => unfold Tg.bind at e; cases e
end

/-! ### target = value -/
/-! targets that may change owned things -/
section
variable (K : PySem.W.Frag) (H0 : HE)
def tGd (g : D → En → Option En) : TG := fun v σ H Q => ∃ F ρ A d ρ', ER K H0 F H σ ρ A ∧ Rep K F v d ∧ g d ρ = some ρ' ∧
  ∀ σ' F' H', Tr (OwnA ρ A) F H F' H' → ER K H0 F' H' σ' ρ' A → StepS ρ A ρ' A H → Q σ' H'
def tGds (g : List D → En → Option En) : TGs := fun vs σ H Q => ∃ F ρ A ds ρ', ER K H0 F H σ ρ A ∧ Reps K F vs ds ∧ g ds ρ = some ρ' ∧
  ∀ σ' F' H', Tr (OwnA ρ A) F H F' H' → ER K H0 F' H' σ' ρ' A → StepS ρ A ρ' A H → Q σ' H'
end
def gdNil : List D → En → Option En
  | [], ρ => some ρ
  | _, _ => none
def gdCons (g : D → En → Option En) (gs : List D → En → Option En) : List D → En → Option En
  | d :: ds, ρ => (g d ρ).bind fun ρ1 => gs ds ρ1
  | _, _ => none
def gdTup (n : Nat) (gs : List D → En → Option En) : D → En → Option En
  | .tup ds, ρ => if ds.length = n then gs ds ρ else none
  | _, _ => none
/-- x[i] = d, x an owned list or dict -/
def gdSub (k : Nat) (gi : EM Res) : D → En → Option En := fun d ρ => if (moAt ρ k).isSome = true then (match gi ρ with
  | some (.ok (.val i) ρ1) => (match moAt ρ1 k with
    | some (.l ds) => (match i with
      | .int n => (ixN ds.length n).map fun j => putMo ρ1 k (.l (ds.set j d))
      | _ => none)
    | some (.d kvs) => (match keyD i with
      | some y => if kvs.length < sizeLine then some (putMo ρ1 k (.d (if (kvs.any fun kv => decide (kv.1 = y)) = true then kvs.map (fun kv => if kv.1 = y then (kv.1, d) else kv) else kvs ++ [(y, d)]))) else none
      | none => none)
    | none => none)
  | _ => none) else none
def rSetA : TSet := fun o i v H Q => rSetL o i v H Q ∨ ∃ a H', o = .ref a ∧ DPut H a i v H' ∧ Q H'
theorem set_all {X : Cx} (hu : X.A.units + 1 < cLine) : PSet X rSetA := by
  intro pins s σ H o i v ov iv u Q I ro ri rv h
  rcases h with h | ⟨a, H', rfl, g, q⟩
  · exact set_list pins s σ H o i v ov iv u Q I ro ri rv h
  · obtain rfl : ov = Value.ref a := ro
    exact d_setItem hu I g ri rv fun s' I' => ⟨H', I', q⟩
theorem RepK.put {K : PySem.W.Frag} {F : Hp} {y : Key} {v : V} {d : D} (h : Rep K F v d) {xs : List (Key × V)} {ds : List (Key × D)} (r : RepK K F xs ds) :
    RepK K F (putK xs y v) (if (ds.any fun kv => decide (kv.1 = y)) = true then ds.map (fun kv => if kv.1 = y then (kv.1, d) else kv) else ds ++ [(y, d)]) := by
  have e : (xs.any fun kv => decide (kv.1 = y)) = ds.any fun kv => decide (kv.1 = y) := by
    induction xs generalizing ds with
    | nil => cases r; rfl
    | cons x xs ih => cases r with
      | cons h r => rw [List.any_cons, List.any_cons, ih r]
  unfold putK
  rw [e]
  by_cases c : (ds.any fun kv => decide (kv.1 = y)) = true
  · rw [if_pos c, if_pos c]
    clear c e
    induction xs generalizing ds with
    | nil => cases r; exact .nil
    | cons x xs ih => cases r with
      | cons h' r =>
        rename_i k x d' ds'
        rw [List.map_cons, List.map_cons]
        by_cases z : k = y
        · rw [if_pos z, if_pos z]; exact .cons h (ih r)
        · rw [if_neg z, if_neg z]; exact .cons h' (ih r)
  · rw [if_neg c, if_neg c]
    clear c e
    induction xs generalizing ds with
    | nil => cases r; exact .cons h .nil
    | cons x xs ih => cases r with
      | cons h' r => exact .cons h' (ih r)
section
variable {X : Cx} {H0 : HE} {W : WX} {e : Expr} {pos : Pos} {ge gi : EM Res} {x : Str}
theorem gd_of {t : Tg} {tg : Expr} (h : PG X tg (tGT X.K H0 t)) : PG X tg (tGd X.K H0 t.bind) := ⟨fun pins s σ H v u Q I r q => h.run pins s σ H v u Q I r (by
  obtain ⟨F, ρ, A, d, ρ', er, rp, e, k⟩ := q
  exact ⟨F, ρ, A, d, ρ', er, rp, e, fun σ' er' s _ => k σ' F H .refl er' s⟩)⟩
theorem gds_nil : PGs X [] (tGds X.K H0 gdNil) := by
  refine ⟨fun pins s σ H vs us Q I r h => pgs_nil.run pins s σ H vs us Q I r ?_⟩
  obtain ⟨F, ρ, A, ds, ρ', er, rp, e, k⟩ := h
  cases rp with
  | nil => cases e; exact ⟨rfl, k σ F H .refl er .refl⟩
  | cons h t => cases e
theorem gds_cons {g : D → En → Option En} {gs : List D → En → Option En} {e : Expr} {es : List Expr} (h1 : PG X e (tGd X.K H0 g)) (h2 : PGs X es (tGds X.K H0 gs))
    (hs : (assignEach (e :: es) X.env).map (·.2) = assign e X.env :: (assignEach es X.env).map (·.2) := by rfl) : PGs X (e :: es) (tGds X.K H0 (gdCons g gs)) := by
  refine ⟨fun pins s σ H vs us Q I r h => (pgs_cons h1 h2 hs).run pins s σ H vs us Q I r ?_⟩
  obtain ⟨F, ρ, A, ds, ρ', er, rp, e, k⟩ := h
  cases rp with
  | nil => cases e
  | @cons v vs d ds h rr =>
    have e : (g d ρ).bind (fun ρ1 => gs ds ρ1) = some ρ' := e
    cases e1 : g d ρ with
    | none => rw [e1] at e; cases e
    | some ρ1 =>
      rw [e1] at e
      refine ⟨v, vs, rfl, F, ρ, A, d, ρ1, er, h, e1, fun σ1 F1 H1 t1 er1 s1 => ⟨F1, ρ1, A, ds, ρ', er1, rr.mono t1.ff, e, fun σ2 F2 H2 t2 er2 s2 => ?_⟩⟩
      exact k σ2 F2 H2 (t1.trans t2 s1.own) er2 (s1.trans t1 s2)
theorem gd_tup {gs : List D → En → Option En} {es : List Expr} {k : Nat} (n : Nat) (hc : X.calm = true) (h : PGs X es (tGds X.K H0 gs)) (hn : (assignEach es X.env).length = n := by rfl) (hst : (assignEach es X.env).findIdx? (·.1) = none := by rfl) :
    PG X (.Tuple es k pos) (tGd X.K H0 (gdTup n gs)) := by
  refine ⟨fun pins s σ H v u Q I r q => (pg_tup hc h hn hst).run pins s σ H v u Q I r ?_⟩
  obtain ⟨F, ρ, A, d, ρ', er, rp, e, k⟩ := q
  unfold gdTup at e
  split at e
  · obtain ⟨c, e⟩ := ite_some' e
    cases rp with
    | tup s1 r1 => exact ⟨_, _, rfl, le_t er.le s1, by rw [r1.length]; exact c, F, _, A, _, ρ', er, r1, e, k⟩
  · cases e
theorem gd_sub {i : Expr} {npos : Pos} (k : Nat) (hu : X.A.units + 1 < cLine) (hi : PE X i (tE X.K H0 (fun _ _ _ _ => False) gi)) (hN : X.N[k]? = some x := by rfl) (hv : Vis X.env.scope x := by first | exact Or.inl rfl | exact Or.inr (Or.inl rfl) | exact Or.inr (Or.inr rfl))
    (hd : (x == ("__debug__" : Str)) = false := by decide) (hcd : (x == ("__classdict__" : Str)) = false := by decide)
    (ha : ∀ v, assign (.Subscript (.Name x npos) i pos) X.env v = (do
      let ov ← holding [v] (eval (.Name x npos) X.env)
      let iv ← holding [v, ov] (eval i X.env)
      standAt pos
      holding [v, ov, iv] (setItem ov iv v)
      release [v, ov, iv] []) := by intro _; rfl) : PG X (.Subscript (.Name x npos) i pos) (tGd X.K H0 (gdSub k gi)) := by
  refine ⟨fun pins s σ H v u Q I r q => (pg_sub (pe_var (i := k) hN hv hd hcd) hi (set_all hu) ha).run pins s σ H v u Q I r ?_⟩
  obtain ⟨F, ρ, A, d, ρ', er, rp, e, kk⟩ := q
  unfold gdSub at e
  obtain ⟨c0, e⟩ := ite_some' e
  cases eg : gi ρ with
  | none => rw [eg] at e; cases e
  | some og =>
    rw [eg] at e
    cases og with
    | ex C fs ρ1 => cases e
    | ok res ρ1 =>
      cases res with
      | new m => cases e
      | brw j => cases e
      | val di =>
        simp only at e
        cases q : moAt ρ1 k with
        | none => rw [q] at e; cases e
        | some m =>
          have main : ∀ F1 H1 v1, Tr (OwnA ρ A) F H F1 H1 → ER X.K H0 F1 H1 σ ρ1 A → Sb ρ ρ1 → Rep X.K F1 v1 di → rSetA (.ref (A k)) v1 v H1 (fun H3 => Q σ H3) := fun F1 H1 v1 tr er1 sb ri => by
            have rd : Rep X.K F1 v d := rp.mono tr.ff
            rw [q] at e
            cases m with
            | l ds =>
              cases di with
              | int n =>
                obtain ⟨j, e1, rfl⟩ := map_some' e
                cases ri
                obtain ⟨b1, vs, b2, b3⟩ := own_list er1 q
                refine .inl ⟨A k, vs, n, j, rfl, rfl, b2, by rw [b3.length]; exact e1, ?_⟩
                exact kk σ F1 _ (tr.then sb (Tr.put q)) (er1.put q ⟨_, upd_same, b3.set rd j⟩) (Sb.step (sb.trans (Sb.put q)))
              | _ => cases e
            | d kvs =>
              cases ek : keyD di with
              | none => simp only [ek] at e; cases e
              | some y =>
                simp only [ek] at e
                obtain ⟨c, e⟩ := ite_some' e
                cases e
                obtain ⟨b1, b2, vs, b3, b4⟩ := er1.at q
                have ey : v1 = kV y := key_top (Rep.top er1.le ri) ek
                subst ey
                refine .inr ⟨A k, _, rfl, DPut.k b3 (by rw [b4.length]; exact c), ?_⟩
                exact kk σ F1 _ (tr.then sb (Tr.put q)) (er1.put q ⟨_, upd_same, RepK.put rd b4⟩) (Sb.step (sb.trans (Sb.put q)))
          obtain ⟨m0, hm0⟩ := Option.isSome_iff_exists.mp c0
          refine ⟨_, (er.at hm0).1, F, ρ, A, er, fun _ z => z, _, eg, ?_⟩
          exact fun v1 F1 H1 tr er1 sb ri => main F1 H1 v1 tr er1 sb ri

/-- target = e -/
def gAsg (gt : D → En → Option En) (g : EM Res) : EM Fl := g.bind fun r => fun ρ => match r with
  | .val d => (gt d ρ).map fun ρ' => .ok .nx ρ'
  | _ => none
theorem c_asg {tg : Expr} {gt : D → En → Option En} (he : PE X e (tE X.K H0 W ge)) (hg : PG X tg (tGd X.K H0 gt)) (hs : swapsWithSole [tg] e pos.line X.env = pure false := by rfl) (hw : swappedStores [tg] e X.env = pure none := by rfl)
    (h1 : (assignEach [tg] X.env).map (·.2) = [assign tg X.env] := by rfl) : PS X (.Assign [tg] e pos) (tSt X.K H0 W (gAsg gt ge)) := (ps_asg he hg hs hw h1).weak fun G σ H h => by
  obtain ⟨F, ρ, A, h⟩ := h
  refine ⟨F, ρ, A, h.bind0 fun v r F1 H1 ρ1 o tr sb er ra e p => ?_⟩
  cases r with
  | new m => cases e
  | brw j => cases e
  | val d =>
    obtain ⟨ρ2, e1, rfl⟩ := map_some' e
    exact ⟨F1, ρ1, A, d, ρ2, er, ra, e1, fun σ2 F2 H2 t2 er2 s2 => p σ2 F2 H2 A (tr.trans t2 fun x z => .inl (sb.ownA z)) er2 (sb.step.trans tr s2)⟩
/-- name op= e -/
def gAug (i : Nat) (f : D → D → Option Res) (g : EM Res) : EM Fl := fun ρ => match ρ[i]? with
  | some (.val d1) => (g.bind fun r => (op2 f (.val d1) r).bind fun r2 => fun ρ2 => match r2 with
    | .val d => (setV i d ρ2).map fun ρ' => .ok .nx ρ'
    | _ => none) ρ
  | _ => none
theorem c_aug (i : Nat) {op : Operator} {r : R2} {f : D → D → Option Res} (ho : OpR X (inplaceOp op) r) (hs : Snd2 X.K r f) (hN : X.N.Nodup) (he : PE X e (tE X.K H0 W ge)) (hi : X.N[i]? = some x := by rfl) (hx : Loc X.env.scope x := by first | exact .inl rfl | exact .inr rfl)
    (hf : X.fn x = true ∨ X.env.scope.names.lookup x = some .local := by first | exact .inl rfl | exact .inr rfl | assumption) {pos' : Pos} :
    PS X (.AugAssign (.Name x pos') op e pos) (tSt X.K H0 W (gAug i f ge)) := (ps_aug hN hi hx he (ti := r) ho hf).weak fun G σ H h => by
  obtain ⟨F, ρ, A, er, o, e, p⟩ := h
  unfold gAug at e
  split at e
  · rename_i d1 q
    obtain ⟨v1, hv, r1⟩ : ∃ v, σ[i]? = some (some v) ∧ Rep X.K F v d1 := er.sl i _ q
    refine ⟨v1, hv, ?_⟩
    have h' : StAt X.K H0 W F ρ A (ge.bind fun r => (op2 f (.val d1) r).bind fun r2 => fun ρ2 => match r2 with
      | .val d => (setV i d ρ2).map fun ρ' => Out.ok Fl.nx ρ'
      | _ => none) G σ H := ⟨er, o, e, p⟩
    refine ⟨F, ρ, A, h'.bind fun v2 r2 F1 H1 ρ1 tr sb ra h1 => ?_⟩
    have w := h1.bind0 (R := RAt X.K H0) (okg := Okp ρ1 A H1) (Q1 := fun z H2 => G.nx (σ.set i (some z)) H2) fun v3 r3 F3 H3 ρ3 o3 tr3 sb3 er3 ra3 e3 p3 => by
      cases r3 with
      | new m => cases e3
      | brw j => cases e3
      | val d =>
        obtain ⟨ρ4, e4, rfl⟩ := map_some' e3
        obtain ⟨hl, np, rfl⟩ := setV_some e4
        exact p3 _ F3 H3 A tr3 (er3.setVal hl ra3) (sb3.step.trans tr3 (StepS.setVal hl np))
    obtain ⟨dd1, dd2, res, e1, e2, e3, h3⟩ := op2_at w
    cases e1
    exact hs H0 W _ F1 H1 ρ1 A σ v1 v2 d1 dd2 res _ (Rep.top h3.1.le (r1.mono tr.ff)) (ra.top h3.1 e2) e3 h3
  · cases e
end

/-! ### a, b = x, y with plain local names -/
def gPar (i j : Nat) (gs : EM (List Res)) : EM Fl := gs.bind fun rs => match rs with
  | [r1, r2] => fun ρ => match setM i r1 ρ with
    | some (.ok .nx ρ1) => setM j r2 ρ1
    | _ => none
  | _ => fun _ => none
section
variable {X : Cx} {H0 : HE} {W : WX} {a b : Expr} {pos px py pt pt2 : Pos} {x y : Str} {kt k2 : Nat} {gs : EM (List Res)}
theorem setM_some {i : Nat} {r : Res} {ρ : En} {o : Out Fl} (e : setM i r ρ = some o) : i < ρ.length ∧ (∀ m, ρ[i]? ≠ some (Slot.par m)) ∧ ((∃ d, r = .val d ∧ o = .ok .nx (ρ.set i (.val d))) ∨ ∃ m, r = .new m ∧ o = .ok .nx (ρ.set i (.own m))) := by
  unfold setM at e
  cases q : ρ[i]? with
  | none => rw [q] at e; cases e
  | some s =>
    rw [q] at e
    refine ⟨(List.getElem?_eq_some_iff.mp q).1, fun m z => ?_, ?_⟩
    · cases Option.some.inj z; cases e
    · have e' : storeR i r ρ = some o := by
        cases s with
        | par m => cases e
        | un => exact e
        | val _ => exact e
        | exc _ _ => exact e
        | own _ => exact e
      cases r with
      | val d => cases e'; exact .inl ⟨d, rfl, rfl⟩
      | new m => cases e'; exact .inr ⟨m, rfl, rfl⟩
      | brw j => cases e'
theorem c_par (i j : Nat) (hc : X.calm = true) (hN : X.N.Nodup) (ha : PA X [a, b] (tA X.K H0 W gs)) (hw : swappedStores [.Tuple [.Name x px, .Name y py] kt pt] (.Tuple [a, b] k2 pt2) X.env = pure (some [x, y])) (hij : i ≠ j := by decide)
    (hi : X.N[i]? = some x := by rfl) (hj : X.N[j]? = some y := by rfl) (hx : X.env.scope.names.lookup x = some .local := by rfl) (hy : X.env.scope.names.lookup y = some .local := by rfl)
    (hs : swapsWithSole [.Tuple [.Name x px, .Name y py] kt pt] (.Tuple [a, b] k2 pt2) pos.line X.env = pure false := by rfl) :
    PS X (.Assign [.Tuple [.Name x px, .Name y py] kt pt] (.Tuple [a, b] k2 pt2) pos) (tSt X.K H0 W (gPar i j gs)) := (ps_par hc hN hi hj hij hx hy ha hw hs).weak fun G σ H h => by
  obtain ⟨F, ρ, A, h⟩ := h
  refine ⟨F, ρ, A, h.bind0 fun vs rs F1 H1 ρ1 o tr sb er ra e p => ?_⟩
  split at e
  · rename_i r1 r2
    obtain ⟨pr, nd⟩ := ra
    cases pr with
    | @cons v1 _ vs1 _ a1 t1 =>
      cases t1 with
      | @cons v2 _ vs2 _ a2 t2 =>
        cases t2
        refine ⟨v1, v2, rfl, ?_⟩
        cases e1 : setM i r1 ρ1 with
        | none => rw [e1] at e; cases e
        | some o1 =>
          rw [e1] at e
          obtain ⟨l1, np1, c1⟩ := setM_some e1
          rcases c1 with ⟨d1, rfl, rfl⟩ | ⟨m1, rfl, rfl⟩
          · obtain ⟨l2, np2, c2⟩ := setM_some e
            have er1 := er.setVal l1 a1
            have s1 : StepS ρ1 A (ρ1.set i (.val d1)) A H1 := StepS.setVal l1 np1
            rcases c2 with ⟨d2, rfl, rfl⟩ | ⟨m2, rfl, rfl⟩
            · exact p _ F1 H1 A tr (er1.setVal l2 a2) (sb.step.trans tr (s1.trans (Tr.refl (S := fun _ => False) (F := F1)) (StepS.setVal l2 np2)))
            · obtain ⟨p2, rfl, f2, no2, mo2, h02, ok2⟩ := a2
              have no2' : ¬ OwnA (ρ1.set i (.val d1)) A p2 := fun ⟨q, m, z1, z2⟩ => no2 (by
                rw [moAt_set l1] at z1
                split at z1
                · cases z1
                · exact ⟨q, m, z1, z2⟩)
              refine p _ F1 H1 (putA A j p2) tr (er1.setOwn l2 f2 no2' mo2 h02) ⟨fun q z => ?_, fun q m z => ?_⟩
              · obtain ⟨k, m, z1, z2⟩ := z
                rw [moAt_set l2] at z1
                by_cases w : k = j
                · subst w
                  have : p2 = q := by rw [← z2]; exact (if_pos rfl).symm
                  rw [← this]; exact ok2.symm
                · rw [if_neg w, moAt_set l1] at z1
                  split at z1
                  · cases z1
                  · exact .inl (sb.ownA ⟨k, m, z1, by rw [← z2]; exact (if_neg w).symm⟩)
              · obtain ⟨m', z'⟩ := sb.par q m z
                have w1 : q ≠ i := fun w => np1 m' (by rw [← w]; exact z')
                have w2 : q ≠ j := fun w => np2 m' (by rw [← w, List.getElem?_set_ne (Ne.symm w1)]; exact z')
                exact ⟨m', by rw [List.getElem?_set_ne (Ne.symm w2), List.getElem?_set_ne (Ne.symm w1)]; exact z', if_neg w2⟩
          · obtain ⟨l2, np2, c2⟩ := setM_some e
            obtain ⟨p1, rfl, f1, no1, mo1, h01, ok1⟩ := a1
            have er1 := er.setOwn l1 f1 no1 mo1 h01
            have own1 : ∀ {k m}, moAt (ρ1.set i (.own m1)) k = some m → k ≠ i → OwnA ρ1 A (putA A i p1 k) := fun {k m} z w => by
              rw [moAt_set l1, if_neg w] at z
              exact ⟨k, m, z, (if_neg w).symm⟩
            have par1 : ∀ {q m}, ρ[q]? = some (Slot.par m) → ∃ m', q ≠ i ∧ q ≠ j ∧ ρ1[q]? = some (Slot.par m') := fun {q m} z => by
              obtain ⟨m', z'⟩ := sb.par q m z
              have w1 : q ≠ i := fun w => np1 m' (by rw [← w]; exact z')
              exact ⟨m', w1, fun w => np2 m' (by rw [← w, List.getElem?_set_ne (Ne.symm w1)]; exact z'), z'⟩
            rcases c2 with ⟨d2, rfl, rfl⟩ | ⟨m2, rfl, rfl⟩
            · refine p _ F1 H1 (putA A i p1) tr (er1.setVal l2 a2) ⟨fun q z => ?_, fun q m z => ?_⟩
              · obtain ⟨k, m, z1, z2⟩ := z
                rw [moAt_set l2] at z1
                split at z1
                · cases z1
                · by_cases w : k = i
                  · subst w
                    have : p1 = q := by rw [← z2]; exact (if_pos rfl).symm
                    rw [← this]; exact ok1.symm
                  · exact .inl (sb.ownA (by rw [← z2]; exact own1 z1 w))
              · obtain ⟨m', w1, w2, z'⟩ := par1 z
                exact ⟨m', by rw [List.getElem?_set_ne (Ne.symm w2), List.getElem?_set_ne (Ne.symm w1)]; exact z', if_neg w1⟩
            · obtain ⟨p2, rfl, f2, no2, mo2, h02, ok2⟩ := a2
              have ne : p2 ≠ p1 := fun z => by
                subst z
                have := (List.nodup_cons.mp (show ([V.ref p2, V.ref p2] : List V).Nodup from nd)).1
                exact this (List.mem_singleton.mpr rfl)
              have no2' : ¬ OwnA (ρ1.set i (.own m1)) (putA A i p1) p2 := fun ⟨k, m, z1, z2⟩ => by
                by_cases w : k = i
                · subst w
                  have : p1 = p2 := by rw [← z2]; exact (if_pos rfl).symm
                  exact ne this.symm
                · exact no2 (by rw [← z2]; exact own1 z1 w)
              refine p _ F1 H1 (putA (putA A i p1) j p2) tr (er1.setOwn l2 f2 no2' mo2 h02) ⟨fun q z => ?_, fun q m z => ?_⟩
              · obtain ⟨k, m, z1, z2⟩ := z
                rw [moAt_set l2] at z1
                by_cases w : k = j
                · subst w
                  have : p2 = q := by rw [← z2]; exact (if_pos rfl).symm
                  rw [← this]; exact ok2.symm
                · rw [if_neg w] at z1
                  have e3 : putA (putA A i p1) j p2 k = putA A i p1 k := if_neg w
                  rw [e3] at z2
                  by_cases w2 : k = i
                  · subst w2
                    have : p1 = q := by rw [← z2]; exact (if_pos rfl).symm
                    rw [← this]; exact ok1.symm
                  · exact .inl (sb.ownA (by rw [← z2]; exact own1 z1 w2))
              · obtain ⟨m', w1, w2, z'⟩ := par1 z
                exact ⟨m', by rw [List.getElem?_set_ne (Ne.symm w2), List.getElem?_set_ne (Ne.symm w1)]; exact z', (if_neg w2).trans (if_neg w1)⟩
  · cases e
end
end M

/-! M8: what is walked; for, while. -/
namespace M
open PySem PySem.Spec PyProof.Rows L2

/-- what a turn yields: a value that stands, or a new pair -/
def Yld (K : PySem.W.Frag) (F H : Hp) (x : V) (H' : Hp) (d : D) : Prop :=
  (H' = H ∧ Rep K F x d) ∨ ∃ T vs ds, x = .ref T ∧ H T = none ∧ H' = upd H T (.tup vs) ∧ Reps K F vs ds ∧ d = .tup ds
/-- the walk J goes over the data ds, while what is frozen in F stays -/
structure IterOk (K : PySem.W.Frag) (F : Hp) (J : It) (ds : List D) : Prop where
  go : ∀ F' H' i, Le F F' → Le F' H' → i < ds.length → J.go i H'
  yl : ∀ F' H' i x H2, Le F F' → Le F' H' → J.yld i H' x H2 → i < ds.length → ∃ d, ds[i]? = some d ∧ Yld K F' H' x H2 d
  st : ∀ F' H' i, Le F F' → Le F' H' → ds.length ≤ i → J.stop i H'
abbrev tI (K : PySem.W.Frag) (H0 : HE) (W : WX) (g : EM (List D)) : TI := fun σ H R => Wp K H0 W (fun _ F' _ _ _ J ds => IterOk K F' J ds) g σ H R

def itemsM (f : D → Option (List D)) (r : Res) : EM (List D) := fun ρ => match r with
  | .val d => (f d).map fun ds => .ok ds ρ
  | _ => none
def gItems (f : D → Option (List D)) (g : EM Res) : EM (List D) := g.bind fun r => itemsM f r
theorem items_at {α : Type} {K : PySem.W.Frag} {H0 : HE} {F H : Hp} {W : WX} {ρ : En} {A : Nat → Addr} {σ : L2.St} {ok : Addr → Prop} {f : D → Option (List D)} {r : Res} {R : (Addr → Prop) → Hp → Hp → En → (Nat → Addr) → α → List D → Prop} {Q : α → Hp → Prop} (h : WpAt K H0 W R ok F ρ A (itemsM f r) σ H Q) :
    ∃ d ds, r = .val d ∧ f d = some ds ∧ WpAt K H0 W R ok F ρ A (EM.pure ds) σ H Q := by
  obtain ⟨er, kn, o, e, p⟩ := h
  unfold itemsM at e
  cases r with
  | val d =>
    obtain ⟨ds, e1, rfl⟩ := map_some' e
    exact ⟨d, ds, rfl, e1, er, kn, _, rfl, p⟩
  | new m => cases e
  | brw i => cases e
def lstItems : D → Option (List D)
  | .lst ds => some ds
  | .rol ds => some ds
  | _ => none
def tupItems : D → Option (List D)
  | .tup ds => some ds
  | _ => none
def strItems : D → Option (List D)
  | .str z => some (z.cps.toList.map fun c => .str ⟨#[c]⟩)
  | _ => none
section
variable {X : Cx} {H0 : HE} {W : WX} {tg e : Expr} {g : EM Res}
theorem rep_l {K : PySem.W.Frag} {F : Hp} {v : V} {d : D} {ds : List D} (r : Rep K F v d) (e : lstItems d = some ds) : ∃ a xs, v = .ref a ∧ SqL K F a xs ∧ Reps K F xs ds := by
  unfold lstItems at e
  split at e
  · cases e; cases r with
    | lst h r => exact ⟨_, _, rfl, SqL.of h, r⟩
  · cases e; cases r with
    | rol h r => exact ⟨_, _, rfl, h, r⟩
  · cases e
theorem i_lst (he : PE X e (tE X.K H0 W g)) : PI X tg e (tI X.K H0 W (gItems lstItems g)) := ⟨fun pins s σ H R I h => (pi_list he).run pins s σ H R I (by
  obtain ⟨F, ρ, A, h⟩ := h
  refine ⟨F, ρ, A, h.bind fun v r F1 H1 ρ1 tr sb ra h1 => ?_⟩
  obtain ⟨d, ds, rfl, e1, h2⟩ := items_at h1
  obtain ⟨a, xs, rfl, sq, rs⟩ := rep_l ra e1
  refine ⟨a, rfl, ⟨xs, le_l h2.1.le sq⟩, h2.ret (b := Itl X.K a) ⟨fun F' H' i l1 l2 hi => ?_, fun F' H' i x H2 l1 l2 y hi => ?_, fun F' H' i l1 l2 hi => ?_⟩⟩
  · obtain ⟨v, hv, _⟩ := rs.get (List.getElem?_eq_getElem hi)
    exact ⟨xs, v, le_l l2 (le_l l1 sq), hv⟩
  · obtain ⟨rfl, q⟩ := y
    obtain ⟨d', hd, rd⟩ := rs.get' (q xs (le_l l2 (le_l l1 sq)))
    exact ⟨d', hd, .inl ⟨rfl, rd.mono l1⟩⟩
  · exact ⟨xs, le_l l2 (le_l l1 sq), by rw [rs.length]; exact hi⟩)⟩
theorem i_tup (he : PE X e (tE X.K H0 W g)) : PI X tg e (tI X.K H0 W (gItems tupItems g)) := ⟨fun pins s σ H R I h => (pi_tup he).run pins s σ H R I (by
  obtain ⟨F, ρ, A, h⟩ := h
  refine ⟨F, ρ, A, h.bind fun v r F1 H1 ρ1 tr sb ra h1 => ?_⟩
  obtain ⟨d, ds, rfl, e1, h2⟩ := items_at h1
  cases ra with
  | @tup a xs ds0 sq rs =>
    cases e1
    refine ⟨a, rfl, ⟨xs, le_t h2.1.le sq⟩, h2.ret (b := Itt X.K a) ⟨fun F' H' i l1 l2 hi => ?_, fun F' H' i x H2 l1 l2 y hi => ?_, fun F' H' i l1 l2 hi => ?_⟩⟩
    · obtain ⟨v, hv, _⟩ := rs.get (List.getElem?_eq_getElem hi)
      exact ⟨xs, v, le_t l2 (le_t l1 sq), hv⟩
    · obtain ⟨rfl, q⟩ := y
      obtain ⟨d', hd, rd⟩ := rs.get' (q xs (le_t l2 (le_t l1 sq)))
      exact ⟨d', hd, .inl ⟨rfl, rd.mono l1⟩⟩
    · exact ⟨xs, le_t l2 (le_t l1 sq), by rw [rs.length]; exact hi⟩
  | _ => cases e1)⟩
theorem i_str (he : PE X e (tE X.K H0 W g)) : PI X tg e (tI X.K H0 W (gItems strItems g)) := ⟨fun pins s σ H R I h => (pi_str he).run pins s σ H R I (by
  obtain ⟨F, ρ, A, h⟩ := h
  refine ⟨F, ρ, A, h.bind fun v r F1 H1 ρ1 tr sb ra h1 => ?_⟩
  obtain ⟨d, ds, rfl, e1, h2⟩ := items_at h1
  cases ra with
  | str z =>
    cases e1
    refine ⟨z, rfl, h2.ret (b := Its z) ⟨fun F' H' i l1 l2 hi => ?_, fun F' H' i x H2 l1 l2 y hi => ?_, fun F' H' i l1 l2 hi => ?_⟩⟩
    · show i < z.cps.size
      simpa using hi
    · obtain ⟨rfl, c, hc, rfl⟩ := y
      exact ⟨.str ⟨#[c]⟩, by rw [List.getElem?_map, Array.getElem?_toList, hc]; rfl, .inl ⟨rfl, .str _⟩⟩
    · show z.cps.size ≤ i
      simpa using hi
  | _ => cases e1)⟩
/-- range(n) -/
def gRange1 (gs : EM (List Res)) : EM (List D) := gs.bind fun rs => match rs with
  | [.val (.int j)] => if -(2 ^ 62) ≤ j ∧ j < 2 ^ 62 then EM.pure ((List.range j.toNat).map fun (i : Nat) => D.int (i : Int)) else fun _ => none
  | _ => fun _ => none
theorem i_range1 {gs : EM (List Res)} {a : Expr} {p pos : Pos} (hg : Gl X "range") (hm : X.mg "range" = none) (ha : PA X [a] (tA X.K H0 W gs)) (hs : starEach [a] X.env = [(false, eval a X.env)] := by rfl) : PI X tg (.Call (.Name "range" p) [a] [] pos) (tI X.K H0 W (gRange1 gs)) :=
  ⟨fun pins s σ H R I h => (pi_range1 hg hm ha hs).run pins s σ H R I (by
  obtain ⟨F, ρ, A, h⟩ := h
  refine ⟨F, ρ, A, h.bind fun vs rs F1 H1 ρ1 tr sb ra h1 => ?_⟩
  split at h1
  · rename_i j
    obtain ⟨pr, _⟩ := ra
    cases pr with
    | cons h t =>
      cases t
      cases h
      by_cases c : -(2 ^ 62) ≤ j ∧ j < 2 ^ 62
      · rw [if_pos c] at h1
        refine ⟨j, rfl, c.1, c.2, h1.ret (b := Itr 0 j.toNat) ⟨fun F' H' i l1 l2 hi => ?_, fun F' H' i x H2 l1 l2 y hi => ?_, fun F' H' i l1 l2 hi => ?_⟩⟩
        · show i < j.toNat
          simpa using hi
        · obtain ⟨rfl, rfl⟩ := y
          have hi' : i < j.toNat := by simpa using hi
          exact ⟨.int (i : Int), by simp [hi'], .inl ⟨rfl, by rw [Int.zero_add]; exact .int _⟩⟩
        · show j.toNat ≤ i
          simpa using hi
      · rw [if_neg c] at h1
        obtain ⟨_, _, _, e, _⟩ := h1; cases e
  · obtain ⟨_, _, _, e, _⟩ := h1; cases e)⟩
end

/-! ### for -/
def loopF (t : Tg) (body : EM Fl) : List D → EM Fl
  | [] => EM.pure .nx
  | d :: ds => fun ρ => match t.bind d ρ with
    | none => none
    | some ρ1 => (match body ρ1 with
      | some (.ok .nx ρ2) => loopF t body ds ρ2
      | some (.ok .ct ρ2) => loopF t body ds ρ2
      | some (.ok .bk ρ2) => some (.ok .nx ρ2)
      | o => o)
def gFor (gi : EM (List D)) (t : Tg) (body : EM Fl) : EM Fl := gi.bind fun ds => loopF t body ds
section
variable {K : PySem.W.Frag} {H0 : HE} {W : WX} {σ : L2.St} {G : Ends}
/-- a turn's value is there, frozen -/
theorem yld_in {F H : Hp} {ρ : En} {A : Nat → Addr} {x : V} {H2 : Hp} {d : D} (er : ER K H0 F H σ ρ A) (y : Yld K F H x H2 d) : ∃ F2, Tr (OwnA ρ A) F H F2 H2 ∧ ER K H0 F2 H2 σ ρ A ∧ Rep K F2 x d := by
  rcases y with ⟨rfl, r⟩ | ⟨T, vs, ds, rfl, hT, rfl, r, rfl⟩
  · exact ⟨F, .refl, er, r⟩
  · exact ⟨upd F T (.tup vs), Tr.laidF er.le hT, er.laidF hT, .tup (.inl (.inl upd_same)) (r.mono (le_self (free_F er.le hT)))⟩
theorem for_weak {t : Tg} {body : EM Fl} {gi : EM (List D)} {H : Hp} (h : tSt K H0 W (gFor gi t body) G σ H) : tFor (tI K H0 W gi) (tGT K H0 t) (tSt K H0 W body) G σ H := by
  obtain ⟨F, ρ, A, h⟩ := h
  refine ⟨F, ρ, A, h.bind0 fun J ds F1 H1 ρ1 o tr sb er it e p => ?_⟩
  -- the invariant
  refine ⟨fun i m σ' H' => i ≤ ds.length ∧ m = ds.length - i ∧ ∃ F' ρ' A' o', Le F1 F' ∧ ER K H0 F' H' σ' ρ' A' ∧ loopF t body (ds.drop i) ρ' = some o' ∧ PostS K H0 W G F' H' ρ' A' o', ⟨_, Nat.zero_le _, rfl, F1, ρ1, A, o, Le.refl _, er, by rw [List.drop_zero]; exact e, p.later tr sb.step⟩, ?_⟩
  rintro i m σ' H' ⟨hi, rfl, F', ρ', A', o', l1, er', e', p'⟩
  by_cases hlt : i < ds.length
  · refine .inr ⟨it.go F' H' i l1 er'.le hlt, fun σ2 H2 => i + 1 ≤ ds.length ∧ ∃ F2 ρ2 A2 o2, Le F1 F2 ∧ ER K H0 F2 H2 σ2 ρ2 A2 ∧ loopF t body (ds.drop (i + 1)) ρ2 = some o2 ∧ PostS K H0 W G F2 H2 ρ2 A2 o2, ?_, fun x H2 y => ?_⟩
    · rintro σ2 H2 ⟨hi2, F2, ρ2, A2, o2, l2, er2, e2, p2⟩
      exact ⟨ds.length - (i + 1), by omega, hi2, rfl, F2, ρ2, A2, o2, l2, er2, e2, p2⟩
    · obtain ⟨d, hd, yd⟩ := it.yl F' H' i x H2 l1 er'.le y hlt
      obtain ⟨F2, tr2, er2, rx⟩ := yld_in er' yd
      have dd : ds.drop i = d :: ds.drop (i + 1) := by
        rw [List.drop_eq_getElem_cons hlt]
        have := List.getElem?_eq_getElem hlt
        rw [hd] at this
        rw [Option.some.inj this]
      rw [dd] at e'
      unfold loopF at e'
      cases e1 : t.bind d ρ' with
      | none => rw [e1] at e'; cases e'
      | some ρ3 =>
        rw [e1] at e'
        have e'' : (match body ρ3 with
          | some (.ok .nx ρ2) => loopF t body (ds.drop (i + 1)) ρ2
          | some (.ok .ct ρ2) => loopF t body (ds.drop (i + 1)) ρ2
          | some (.ok .bk ρ2) => some (.ok .nx ρ2)
          | o => o) = some o' := e'
        clear e'
        refine ⟨F2, ρ', A', d, ρ3, er2, rx, e1, fun σ3 er3 s3 _ => ?_⟩
        have p3 := (p'.later tr2 Sb.refl.step).later (Tr.refl (S := OwnA ρ' A') (F := F2) (H := H2)) s3
        have l3 := l1.trans tr2.ff
        cases eb : body ρ3 with
        | none => rw [eb] at e''; cases e''
        | some ob =>
          rw [eb] at e''
          refine ⟨F2, ρ3, A', er3, ob, eb, ?_⟩
          cases ob with
          | ok fl ρ4 =>
            cases fl with
            | nx => exact fun σ5 F5 H5 A5 tr5 er5 s5 => ⟨hlt, F5, ρ4, A5, o', l3.trans tr5.ff, er5, e'', p3.later tr5 s5⟩
            | ct => exact fun σ5 F5 H5 A5 tr5 er5 s5 => ⟨hlt, F5, ρ4, A5, o', l3.trans tr5.ff, er5, e'', p3.later tr5 s5⟩
            | bk => cases e''; exact fun σ5 F5 H5 A5 tr5 er5 s5 => p3 σ5 F5 H5 A5 tr5 er5 s5
            | rt r => cases e''; exact fun v σ5 F5 H5 A5 tr5 er5 s5 r5 => p3 v σ5 F5 H5 A5 tr5 er5 s5 r5
          | ex C fs ρ4 => cases e''; exact fun dx σ5 F5 H5 A5 tr5 er5 s5 r5 => p3 dx σ5 F5 H5 A5 tr5 er5 s5 r5
  · have hd : ds.drop i = [] := List.drop_eq_nil_iff.mpr (by omega)
    rw [hd] at e'
    cases e'
    exact .inl ⟨it.st F' H' i l1 er'.le (by omega), p' σ' F' H' A' .refl er' .refl⟩
theorem c_for {X : Cx} {H0 : HE} {W : WX} {tg iter : Expr} {body : List Stmt} {t : Tg} {gb : EM Fl} {gi : EM (List D)} {pos : Pos} (hp : PassesOwn (model X.prog X.w) X.A X.env X.xe) (hc : X.calm = true) (hi : PI X tg iter (tI X.K H0 W gi)) (hg : PG X tg (tGT X.K H0 t)) (hb : PSs X body (tSt X.K H0 W gb))
    (hs : ∀ x, foldedSetIterable iter X.env x = pure x := by intro _; rfl) : PS X (.For tg iter body [] pos) (tSt X.K H0 W (gFor gi t gb)) := (ps_for hp hc hi hg hb hs).weak fun _ _ _ h => for_weak h
end
end M

/-! M9: defs and calls. -/
namespace M
open PySem PySem.Spec PyProof.Rows L2

theorem WpAt.bind0 {K : PySem.W.Frag} {H0 : HE} {W : WX} {α β γ δ : Type} {R : (Addr → Prop) → Hp → Hp → En → (Nat → Addr) → β → α → Prop} {R' : (Addr → Prop) → Hp → Hp → En → (Nat → Addr) → δ → γ → Prop} {σ : L2.St} {ok okg : Addr → Prop} {g : EM α} {f : α → EM γ} {F H : Hp} {ρ : En} {A : Nat → Addr} {Q : δ → Hp → Prop} {Q1 : β → Hp → Prop} (h : WpAt K H0 W R' ok F ρ A (g.bind f) σ H Q)
    (k : ∀ b a F1 H1 ρ1 o, Tr (OwnA ρ A) F H F1 H1 → Sb ρ ρ1 → ER K H0 F1 H1 σ ρ1 A → R okg F1 H1 ρ1 A b a → f a ρ1 = some o → Post K H0 W R' ok σ F H ρ A Q o → (∀ p, Okp ρ A H p → ok p) → Q1 b H1) (kg : ∀ p, Okp ρ A H p → okg p := by intro _ h; exact h) : WpAt K H0 W R okg F ρ A g σ H Q1 := by
  obtain ⟨er, kn, o, e, p⟩ := h
  refine ⟨er, kg, ?_⟩
  unfold EM.bind at e
  cases eg : g ρ with
  | none => rw [eg] at e; cases e
  | some og =>
    rw [eg] at e
    cases og with
    | ok a ρ1 => exact ⟨_, rfl, fun b F1 H1 tr er1 sb r => k b a F1 H1 ρ1 o tr sb er1 r e p kn⟩
    | ex C fs ρ1 =>
      cases e
      exact ⟨_, rfl, p⟩

/-! ### a def's mirror -/
inductive Ret where
  | val (d : D) | new (m : Mo)
/-- the arguments' slots; the outcome, with the arguments' slots behind -/
abbrev Mir := List Slot → Option (Out Ret)
def runM (N : Nat) (g : EM Fl) : Mir := fun as => match g (as ++ List.replicate (N - as.length) .un) with
  | some (.ok .nx ρ) => some (.ok (.val .non) (ρ.take as.length))
  | some (.ok (.rt (.val d)) ρ) => some (.ok (.val d) (ρ.take as.length))
  | some (.ok (.rt (.new m)) ρ) => some (.ok (.new m) (ρ.take as.length))
  | some (.ok (.rt (.brw i)) ρ) => (match ρ[i]? with
    | some (.own m) => some (.ok (.new m) (ρ.take as.length))
    | _ => none)
  | some (.ex C fs ρ) => some (.ex C fs (ρ.take as.length))
  | _ => none
def ArgAt (K : PySem.W.Frag) (F H : Hp) (v : V) : Slot → Prop
  | .val d => Rep K F v d
  | .par m => ∃ a, v = .ref a ∧ F a = none ∧ MoAt K F H a m
  | _ => False
/-- the places that a callee may change -/
def parA : List V → List Slot → List Addr
  | .ref a :: vs, .par _ :: ss => a :: parA vs ss
  | _ :: vs, _ :: ss => parA vs ss
  | _, _ => []
structure Ent (K : PySem.W.Frag) (T : List (Addr × Str)) (F H : Hp) (vs : List V) (as : List Slot) : Prop where
  le : Le F H
  at' : Paired (ArgAt K F H) vs as
  nd : (parA vs as).Nodup
  tabs : LamX.Tabs T H
def Back (K : PySem.W.Frag) (F H : Hp) (vs : List V) (as as' : List Slot) : Prop :=
  ∀ (i : Nat) (m : Mo), as[i]? = some (.par m) → ∃ m' a, as'[i]? = some (.par m') ∧ vs[i]? = some (.ref a) ∧ F a = none ∧ MoAt K F H a m'
def RetAt (K : PySem.W.Frag) (H F' H' : Hp) (v : V) : Ret → Prop
  | .val d => Rep K F' v d
  | .new m => ∃ p, v = .ref p ∧ F' p = none ∧ H p = none ∧ MoAt K F' H' p m
def PostF (K : PySem.W.Frag) (T : List (Addr × Str)) (F H : Hp) (vs : List V) (as : List Slot) (Q : VK) (E : XK) : Out Ret → Prop
  | .ok r as' => ∀ v F' H', Tr (· ∈ parA vs as) F H F' H' → Le F' H' → LamX.Tabs T H' → Back K F' H' vs as as' → RetAt K H F' H' v r → Q v H'
  | .ex C fs as' => ∀ d F' H', Tr (· ∈ parA vs as) F H F' H' → Le F' H' → LamX.Tabs T H' → Back K F' H' vs as as' → ExAt K F' d fs → E C d H'
/-- what a def with the mirror m promises -/
def spM (K : PySem.W.Frag) (T : List (Addr × Str)) (n : Nat) (m : Mir) : Sp := fun vs H Q E => vs.length = n ∧ ∃ F as, Ent K T F H vs as ∧ ∃ o, m as = some o ∧ PostF K T F H vs as Q E o

theorem Paired.get? {α β : Type} {P : α → β → Prop} : ∀ {xs : List α} {ys : List β} {i : Nat} {y : β}, Paired P xs ys → ys[i]? = some y → ∃ x, xs[i]? = some x ∧ P x y
  | _, _, _, _, .nil, e => by simp at e
  | _, _, 0, _, .cons h _, e => by
    have e' := Option.some.inj e
    subst e'
    exact ⟨_, rfl, h⟩
  | _, _, i + 1, y, .cons _ r, e => by
    obtain ⟨v, h1, h2⟩ := Paired.get? (i := i) (y := y) r (by simpa using e)
    exact ⟨v, by simpa using h1, h2⟩
theorem parA_mem : ∀ {vs : List V} {as : List Slot} {i : Nat} {a : Addr} {m : Mo}, vs[i]? = some (.ref a) → as[i]? = some (.par m) → a ∈ parA vs as
  | [], _, _, _, _, e, _ => by simp at e
  | _ :: _, [], _, _, _, _, e => by simp at e
  | v :: vs, s :: ss, 0, a, m, e1, e2 => by
    cases Option.some.inj e1
    cases Option.some.inj e2
    unfold parA
    exact List.mem_cons_self
  | v :: vs, s :: ss, i + 1, a, m, e1, e2 => by
    have ih : a ∈ parA vs ss := parA_mem (i := i) (by simpa using e1) (by simpa using e2)
    unfold parA
    split
    · rename_i h1 h2; cases h1; cases h2; exact List.mem_cons_of_mem _ ih
    · rename_i h1 h2; cases h1; cases h2; exact ih
    · rename_i hx; exact (hx _ _ _ _ rfl rfl).elim
theorem parA_inj : ∀ {vs : List V} {as : List Slot} {i j : Nat} {a : Addr} {m m' : Mo}, (parA vs as).Nodup → vs[i]? = some (.ref a) → as[i]? = some (.par m) → vs[j]? = some (.ref a) → as[j]? = some (.par m') → i = j
  | [], _, _, _, _, _, _, _, e, _, _, _ => by simp at e
  | _ :: _, [], _, _, _, _, _, _, _, e, _, _ => by simp at e
  | v :: vs, s :: ss, 0, 0, a, m, m', nd, e1, e2, e3, e4 => rfl
  | v :: vs, s :: ss, 0, j + 1, a, m, m', nd, e1, e2, e3, e4 => by
    cases Option.some.inj e1
    cases Option.some.inj e2
    have : a ∈ parA vs ss := parA_mem (i := j) (by simpa using e3) (by simpa using e4)
    exact absurd this (List.nodup_cons.mp (show (a :: parA vs ss).Nodup from nd)).1
  | v :: vs, s :: ss, i + 1, 0, a, m, m', nd, e1, e2, e3, e4 => by
    cases Option.some.inj e3
    cases Option.some.inj e4
    have : a ∈ parA vs ss := parA_mem (i := i) (by simpa using e1) (by simpa using e2)
    exact absurd this (List.nodup_cons.mp (show (a :: parA vs ss).Nodup from nd)).1
  | v :: vs, s :: ss, i + 1, j + 1, a, m, m', nd, e1, e2, e3, e4 => by
    have nd' : (parA vs ss).Nodup := by
      unfold parA at nd
      split at nd
      · rename_i h1 h2; cases h1; cases h2; exact (List.nodup_cons.mp nd).2
      · rename_i h1 h2; cases h1; cases h2; exact nd
      · rename_i hx; exact (hx _ _ _ _ rfl rfl).elim
    exact congrArg (· + 1) (parA_inj (i := i) (j := j) nd' (by simpa using e1) (by simpa using e2) (by simpa using e3) (by simpa using e4))

def entA (vs : List V) : Nat → Addr := fun i => match vs[i]? with
  | some (.ref a) => a
  | _ => 0
theorem start_get {N : List Str} {vs : List V} {i : Nat} {v : V} (h : vs[i]? = some v) : (L2.start N vs)[i]? = some (some v) := by
  unfold L2.start
  have hi : i < vs.length := (List.getElem?_eq_some_iff.mp h).1
  rw [List.getElem?_append_left (by simpa using hi), List.getElem?_map, h]
  rfl
section
variable {K : PySem.W.Frag} {T : List (Addr × Str)} {F H : Hp} {vs : List V} {as : List Slot} {N : List Str}
theorem ent_mo {n i : Nat} {m : Mo} (e : Ent K T F H vs as) (h : moAt (as ++ List.replicate n .un) i = some m) : as[i]? = some (.par m) ∧ ∃ a, vs[i]? = some (.ref a) ∧ entA vs i = a ∧ F a = none ∧ MoAt K F H a m := by
  unfold moAt at h
  have hi : i < as.length := by
    by_cases hi : i < as.length
    · exact hi
    · rw [List.getElem?_append_right (by omega), List.getElem?_replicate] at h
      split at h <;> cases h
  rw [List.getElem?_append_left hi] at h
  cases q : as[i]? with
  | none => rw [q] at h; cases h
  | some s =>
    rw [q] at h
    obtain ⟨v, e1, e2⟩ := Paired.get? e.at' q
    cases s with
    | un => cases h
    | val d => cases h
    | exc C fs => cases h
    | own m' => exact e2.elim
    | par m' =>
      cases h
      obtain ⟨a, rfl, f, mo⟩ := e2
      exact ⟨rfl, a, e1, by unfold entA; rw [e1], f, mo⟩
theorem Ent.er (e : Ent K T F H vs as) (hl : as.length ≤ N.length) : ER K ⟨H, fun _ _ _ => False, T⟩ F H (L2.start N vs) (as ++ List.replicate (N.length - as.length) .un) (entA vs) := by
  have lv : vs.length = as.length := Paired.length e.at'
  refine ⟨?_, e.le, fun i s q => ?_, fun i j m m' e1 e2 ea => ?_, fun a x q => ⟨x, q⟩, e.tabs⟩
  · unfold L2.start
    rw [List.length_append, List.length_append, List.length_map, List.length_replicate, List.length_replicate, lv]
  · by_cases hi : i < as.length
    · rw [List.getElem?_append_left hi] at q
      obtain ⟨v, e1, e2⟩ := Paired.get? e.at' q
      cases s with
      | un => trivial
      | exc C fs => exact e2.elim
      | val d => exact ⟨v, start_get e1, e2⟩
      | own m' => exact e2.elim
      | par m' =>
        obtain ⟨a, rfl, f, mo⟩ := e2
        have ea : entA vs i = a := by unfold entA; rw [e1]
        exact ⟨by rw [ea]; exact start_get e1, by rw [ea]; exact f, by rw [ea]; exact mo⟩
    · rw [List.getElem?_append_right (by omega), List.getElem?_replicate] at q
      split at q
      · cases q; trivial
      · cases q
  · obtain ⟨a1, x, b1, c1, _⟩ := ent_mo e e1
    obtain ⟨a2, y, b2, c2, _⟩ := ent_mo e e2
    have : x = y := by rw [← c1, ← c2, ea]
    subst this
    exact parA_inj e.nd b1 a1 b2 a2
theorem ent_own {n : Nat} {a : Addr} (e : Ent K T F H vs as) (h : OwnA (as ++ List.replicate n .un) (entA vs) a) : a ∈ parA vs as := by
  obtain ⟨i, m, h1, h2⟩ := h
  obtain ⟨b1, x, b2, b3, _⟩ := ent_mo e h1
  have : x = a := b3.symm.trans h2
  subst this
  exact parA_mem b2 b1
/-- a body's end gives the call's end -/
theorem run_post {g : EM Fl} {Q : VK} {E : XK} {o : Out Ret} (e : Ent K T F H vs as) (hl : as.length ≤ N.length) (eo : runM N.length g as = some o) (p : PostF K T F H vs as Q E o) :
    tSt K ⟨H, fun _ _ _ => False, T⟩ (fun cls d _ H' => E cls d H') g { nx := fun _ H' => Q .non H', rt := Q } (L2.start N vs) H := by
  refine ⟨F, _, entA vs, e.er hl, ?_⟩
  unfold runM at eo
  have tk : ∀ {ρ' : En} {A' : Nat → Addr} {σ' : L2.St} {F' H' : Hp}, ER K ⟨H, fun _ _ _ => False, T⟩ F' H' σ' ρ' A' → StepS (as ++ List.replicate (N.length - as.length) .un) (entA vs) ρ' A' H → Back K F' H' vs as (ρ'.take as.length) := fun {ρ' A' σ' F' H'} er s i m q => by
    have hi : i < as.length := (List.getElem?_eq_some_iff.mp q).1
    have q0 : (as ++ List.replicate (N.length - as.length) Slot.un)[i]? = some (.par m) := by rw [List.getElem?_append_left hi]; exact q
    obtain ⟨_, a, b2, b3, _⟩ := ent_mo (i := i) (m := m) e (n := N.length - as.length) (by unfold moAt; rw [q0]; rfl)
    obtain ⟨m', h1, h2⟩ := s.par i m q0
    have q1 := er.sl i _ h1
    have ea : A' i = a := h2.trans b3
    exact ⟨m', a, by rw [List.getElem?_take_of_lt hi]; exact h1, b2, by rw [← ea]; exact q1.2.1, by rw [← ea]; exact q1.2.2⟩
  cases eg : g (as ++ List.replicate (N.length - as.length) .un) with
  | none => rw [eg] at eo; cases eo
  | some og =>
    rw [eg] at eo
    refine ⟨og, rfl, ?_⟩
    cases og with
    | ok fl ρ' =>
      cases fl with
      | nx =>
        cases eo
        exact fun σ' F' H' A' tr er s => p .non F' H' (tr.mono fun _ h => ent_own e h) er.le er.tabs (tk er s) .non
      | bk => cases eo
      | ct => cases eo
      | rt r =>
        cases r with
        | val d =>
          cases eo
          exact fun v σ' F' H' A' tr er s r => p v F' H' (tr.mono fun _ h => ent_own e h) er.le er.tabs (tk er s) r
        | new m =>
          cases eo
          exact fun v σ' F' H' A' tr er s r => p v F' H' (tr.mono fun _ h => ent_own e h) er.le er.tabs (tk er s) (by
            obtain ⟨q, e1, e2, e3, e4, e5, _⟩ := r
            exact ⟨q, e1, e2, e5, e4⟩)
        | brw i =>
          dsimp only at eo
          cases q : ρ'[i]? with
          | none => rw [q] at eo; cases eo
          | some s0 =>
            rw [q] at eo
            cases s0 with
            | un => cases eo
            | val d => cases eo
            | exc C fs => cases eo
            | par m => cases eo
            | own m =>
              cases eo
              exact fun v σ' F' H' A' tr er s r => p v F' H' (tr.mono fun _ h => ent_own e h) er.le er.tabs (tk er s) (by
                have q1 := er.sl i _ q
                exact ⟨A' i, r.2, q1.2.1, q1.2.2.2, q1.2.2.1⟩)
    | ex C fs ρ' =>
      cases eo
      exact fun dx σ' F' H' A' tr er s x => p dx F' H' (tr.mono fun _ h => ent_own e h) er.le er.tabs (tk er s) x
end

/-- the def at f bears the code object cdv -/
def CodeAt (K : PySem.W.Frag) (f : Addr) (cdv : Value) : Prop := ∃ (oc : Value) (od : Option Addr) (osl : Array (Option Value)) (fd : FuncData), K.lookup f = some ⟨oc, od, .func fd, osl⟩ ∧ fd.code = cdv ∧ ∃ q : Str, PySem.W.codeIn K cdv q = true
/-- THE RULE for a def of the text: its body's mirror -/
theorem fn_ok {P : Program} {w : World} {K : PySem.W.Frag} {mg : Str → Option Value} {base : Heap} {x qual : Str} {params : Arguments} {body : List Stmt} {scope : Scope} {dvs : List V} {kws : List (Str × V)} {f : Addr} {fd : FuncData} {N ps : List Str} {T : List (Addr × Str)} {k : Nat} {g : EM Fl} {m : Mir}
    (Fd : FunD K x qual params body scope dvs kws f fd) (S : FnScope N ps scope) (hm : ∀ as, as.length = ps.length → m as = runM N.length g as)
    (hbody : ∀ (cdv : Value) (A : Around) (outer : List Env) (s : Shared) (H : Hp) (E : XK), CodeAt K f cdv → Room k (A.deeper (envOfC qual scope s.heap.objs.size f cdv)) →
      Takes (cxOf (L2.CX P w) P w K mg base N qual scope f cdv A outer s H E) (fun cls d _ H' => E cls d H') →
      PassesOwn (model P w) (cxOf (L2.CX P w) P w K mg base N qual scope f cdv A outer s H E).A (cxOf (L2.CX P w) P w K mg base N qual scope f cdv A outer s H E).env (cxOf (L2.CX P w) P w K mg base N qual scope f cdv A outer s H E).xe →
      PSs (cxOf (L2.CX P w) P w K mg base N qual scope f cdv A outer s H E) body (tSt K ⟨H, fun _ _ _ => False, T⟩ (fun cls d _ H' => E cls d H') g)) :
    FnOk P w K mg base (L2.CX P w) (k + 1) f fd ps (spM K T ps.length m) := by
  have hpl : ps.length ≤ N.length := by have := congrArg List.length S.pre; rw [List.length_take] at this; omega
  obtain ⟨oc, od, dV, kV, doc, pm, an, cdv, ct, osl, rfl, lk, hcd, _, _⟩ := Fd.ex
  refine fn_of lk hcd S (fun vs H Q E h => h.1) fun A outer s H vs Q E hr ⟨hl, F, as, e, o, eo, p⟩ => ?_
  have la : as.length = ps.length := (Paired.length e.at').symm.trans hl
  refine ⟨tSt K ⟨H, fun _ _ _ => False, T⟩ (fun cls d _ H' => E cls d H') g, hbody cdv A outer s H E ⟨_, _, _, _, lk, rfl, _, hcd⟩ hr (takes_of rfl rfl rfl rfl) PassesOwn.leaving, ?_⟩
  exact run_post e (by omega) (by rw [← hm as la]; exact eo) p
end M

/-! M10: calls of the text's defs. -/
namespace M
open PySem PySem.Spec PyProof.Rows L2

def argOf (ρ : En) : Res → Option Slot
  | .val d => some (.val d)
  | .new m => some (.par m)
  | .brw i => (moAt ρ i).map .par
def argsOf (ρ : En) : List Res → Option (List Slot)
  | [] => some []
  | r :: rs => match argOf ρ r, argsOf ρ rs with
    | some a, some as => some (a :: as)
    | _, _ => none
def brws : List Res → List Nat
  | [] => []
  | .brw i :: rs => i :: brws rs
  | _ :: rs => brws rs
def nodupN : List Nat → Bool
  | [] => true
  | i :: l => !(l.contains i) && nodupN l
theorem nodupN_ok : ∀ {l : List Nat}, nodupN l = true → l.Nodup
  | [], _ => List.nodup_nil
  | i :: l, h => by
    unfold nodupN at h
    rw [Bool.and_eq_true] at h
    refine List.nodup_cons.mpr ⟨fun z => ?_, nodupN_ok h.2⟩
    have := h.1
    rw [List.contains_iff_mem.mpr z] at this
    cases this
def putBack : En → List Res → List Slot → En
  | ρ, .brw i :: rs, .par m :: as => putBack (putMo ρ i m) rs as
  | ρ, _ :: rs, _ :: as => putBack ρ rs as
  | ρ, _, _ => ρ
def Ret.res : Ret → Res
  | .val d => .val d
  | .new m => .new m
def callM (m : Mir) (rs : List Res) : EM Res := fun ρ => match argsOf ρ rs with
  | none => none
  | some as => if nodupN (brws rs) = true then (match m as with
    | some (.ok r as') => some (.ok r.res (putBack ρ rs as'))
    | some (.ex C fs as') => some (.ex C fs (putBack ρ rs as'))
    | none => none) else none
def gFn (n : Nat) (m : Mir) (gs : EM (List Res)) : EM Res := gs.bind fun rs => fun ρ => if rs.length = n then callM m rs ρ else none

section
variable {K : PySem.W.Frag} {H0 : HE} {F H F' H' : Hp} {W : WX} {σ : L2.St} {ρ ρ' : En} {A : Nat → Addr} {S : Addr → Prop}
/-- the state behind a step that changed what some names hold -/
theorem ER.change (er : ER K H0 F H σ ρ A) (tr : Tr S F H F' H') (le : Le F' H') (ht : LamX.Tabs H0.T H') (hl : ρ'.length = ρ.length)
    (h : ∀ i, (ρ'[i]? = ρ[i]? ∧ ∀ m, moAt ρ i = some m → ¬ S (A i)) ∨ (∃ m m', ρ[i]? = some (.own m) ∧ ρ'[i]? = some (.own m') ∧ F' (A i) = none ∧ MoAt K F' H' (A i) m') ∨ (∃ m m', ρ[i]? = some (.par m) ∧ ρ'[i]? = some (.par m') ∧ F' (A i) = none ∧ MoAt K F' H' (A i) m')) :
    ER K H0 F' H' σ ρ' A ∧ Sb ρ ρ' := by
  have mos : ∀ i m', moAt ρ' i = some m' → ∃ m, moAt ρ i = some m := fun i m' e => by
    rcases h i with ⟨e1, _⟩ | ⟨m, m2, e1, e2, _⟩ | ⟨m, m2, e1, e2, _⟩
    · exact ⟨m', by unfold moAt at e ⊢; rw [← e1]; exact e⟩
    · exact ⟨m, by unfold moAt; rw [e1]; rfl⟩
    · exact ⟨m, by unfold moAt; rw [e1]; rfl⟩
  have stay : ∀ {a : Addr} {m : Mo}, F a = none → MoAt K F H a m → ¬ S a → F' a = none ∧ MoAt K F' H' a m := fun {a m} fa mo ns => by
    obtain ⟨o, ho⟩ := mo.there
    refine ⟨?_, (mo.keep (by rw [ho]; exact tr.keep a o ns (mo.ntbl ho) ho)).mono tr.ff⟩
    cases q : F' a with
    | none => rfl
    | some x =>
      rcases tr.fresh a x q with ⟨y, z⟩ | z | z
      · rw [fa] at z; cases z
      · rw [ho] at z; cases z
      · exact absurd z ns
  refine ⟨⟨er.len.trans hl.symm, le, fun i s e => ?_, fun i j m m' e1 e2 ea => ?_, fun a x e => ?_, ht⟩, ⟨mos, fun i m e => ?_⟩⟩
  · rcases h i with ⟨e1, ns⟩ | ⟨m, m', e1, e2, f, mo⟩ | ⟨m, m', e1, e2, f, mo⟩
    · rw [e1] at e
      have q := er.sl i s e
      cases s with
      | un => trivial
      | val d => obtain ⟨v, h1, h2⟩ := q; exact ⟨v, h1, h2.mono tr.ff⟩
      | exc C fs => obtain ⟨a, d, h1, h2, h3⟩ := q; exact ⟨a, d, h1, h2, h3.mono tr.ff⟩
      | own m =>
        obtain ⟨f, mo⟩ := stay q.2.1 q.2.2.1 (ns m (by unfold moAt; rw [e]; rfl))
        exact ⟨q.1, f, mo, q.2.2.2⟩
      | par m =>
        obtain ⟨f, mo⟩ := stay q.2.1 q.2.2 (ns m (by unfold moAt; rw [e]; rfl))
        exact ⟨q.1, f, mo⟩
    · rw [e2] at e
      cases e
      have q := er.sl i _ e1
      exact ⟨q.1, f, mo, q.2.2.2⟩
    · rw [e2] at e
      cases e
      have q := er.sl i _ e1
      exact ⟨q.1, f, mo⟩
  · obtain ⟨n, h1⟩ := mos i m e1
    obtain ⟨n', h2⟩ := mos j m' e2
    exact er.inj i j n n' h1 h2 ea
  · obtain ⟨y, h1⟩ := er.dom a x e
    exact tr.there a y h1
  · rcases h i with ⟨e1, _⟩ | ⟨m1, m', e1, e2, _⟩ | ⟨m1, m', e1, e2, _⟩
    · exact ⟨m, by rw [e1]; exact e⟩
    · rw [e1] at e; cases e
    · exact ⟨m', e2⟩

theorem putBack_len : ∀ {rs : List Res} {as : List Slot} {ρ : En}, (putBack ρ rs as).length = ρ.length
  | [], _, ρ => by unfold putBack; rfl
  | r :: rs, [], ρ => by unfold putBack; split <;> first | rfl | simp_all
  | r :: rs, s :: as, ρ => by
    unfold putBack
    split
    · rename_i h1 h2
      cases h1; cases h2
      rw [putBack_len, put_len]
    · rename_i h1 h2
      cases h1; cases h2
      exact putBack_len
    · rfl
theorem brw_mem {j i : Nat} : ∀ {rs : List Res}, rs[i]? = some (.brw j) → j ∈ brws rs := by
  intro rs
  induction rs generalizing i with
  | nil => intro h; simp at h
  | cons r rs ih =>
    intro h
    cases i with
    | zero =>
      cases Option.some.inj h
      exact List.mem_cons_self
    | succ i =>
      have q := ih (i := i) (by simpa using h)
      cases r with
      | val d => exact q
      | new m => exact q
      | brw k => exact List.mem_cons_of_mem _ q
theorem mem_brw {j : Nat} : ∀ {rs : List Res}, j ∈ brws rs → ∃ i : Nat, rs[i]? = some (Res.brw j) := by
  intro rs
  induction rs with
  | nil => intro h; cases h
  | cons r rs ih =>
    intro h
    cases r with
    | val d => obtain ⟨i, e⟩ := ih h; exact ⟨i + 1, by simpa using e⟩
    | new m => obtain ⟨i, e⟩ := ih h; exact ⟨i + 1, by simpa using e⟩
    | brw k =>
      rcases List.mem_cons.mp (show j ∈ k :: brws rs from h) with rfl | h
      · exact ⟨0, rfl⟩
      · obtain ⟨i, e⟩ := ih h; exact ⟨i + 1, by simpa using e⟩
theorem put_eq {k j : Nat} {m : Mo} (h : j ≠ k) : (putMo ρ k m)[j]? = ρ[j]? := by
  unfold putMo
  split
  · exact List.getElem?_set_ne (Ne.symm h)
  · exact List.getElem?_set_ne (Ne.symm h)
  · rfl
theorem putBack_out {j : Nat} : ∀ {rs : List Res} {as : List Slot} {ρ : En}, j ∉ brws rs → (putBack ρ rs as)[j]? = ρ[j]?
  | [], _, ρ, _ => by unfold putBack; rfl
  | r :: rs, [], ρ, _ => by unfold putBack; split <;> first | rfl | simp_all
  | r :: rs, s :: as, ρ, h => by
    unfold putBack
    split
    · rename_i i _ m _ h1 h2
      cases h1; cases h2
      have h' : j ∉ i :: brws rs := h
      rw [putBack_out (fun z => h' (List.mem_cons_of_mem _ z))]
      exact put_eq fun z => h' (by rw [z]; exact List.mem_cons_self)
    · rename_i h1 h2
      cases h1; cases h2
      refine putBack_out fun z => h ?_
      cases r with
      | val d => exact z
      | new m => exact z
      | brw k => exact List.mem_cons_of_mem _ z
    · rfl
theorem putBack_in {j i : Nat} {m' : Mo} : ∀ {rs : List Res} {as : List Slot} {ρ : En}, (brws rs).Nodup → rs[i]? = some (.brw j) → as[i]? = some (.par m') → (putBack ρ rs as)[j]? = (putMo ρ j m')[j]? := by
  intro rs
  induction rs generalizing i with
  | nil => intro as ρ _ h; simp at h
  | cons r rs ih =>
    intro as ρ nd h1 h2
    cases as with
    | nil => simp at h2
    | cons s as =>
      cases i with
      | zero =>
        cases Option.some.inj h1
        cases Option.some.inj h2
        show (putBack (putMo ρ j m') rs as)[j]? = _
        exact putBack_out (List.nodup_cons.mp nd).1
      | succ i =>
        have h1' : rs[i]? = some (.brw j) := by simpa using h1
        have h2' : as[i]? = some (.par m') := by simpa using h2
        cases r with
        | val d => exact ih nd h1' h2'
        | new m => exact ih nd h1' h2'
        | brw k =>
          obtain ⟨n1, n2⟩ := List.nodup_cons.mp (show (k :: brws rs).Nodup from nd)
          have ne : j ≠ k := fun z => n1 (by rw [← z]; exact brw_mem h1')
          cases s with
          | par m =>
            show (putBack (putMo ρ k m) rs as)[j]? = _
            rw [ih n2 h1' h2']
            unfold putMo
            repeat' split
            all_goals (try rfl)
            all_goals simp_all [List.getElem?_set, Ne.symm ne]
          | un => exact ih n2 h1' h2'
          | exc C fs => exact ih n2 h1' h2'
          | val d => exact ih n2 h1' h2'
          | own m => exact ih n2 h1' h2'
theorem argsOf_get {rs : List Res} {as : List Slot} : argsOf ρ rs = some as → ∀ (i : Nat) (r : Res), rs[i]? = some r → ∃ s, as[i]? = some s ∧ argOf ρ r = some s := by
  induction rs generalizing as with
  | nil => intro _ i r h; simp at h
  | cons r0 rs ih =>
    intro e i r h
    unfold argsOf at e
    cases e1 : argOf ρ r0 with
    | none => rw [e1] at e; cases e
    | some s =>
      cases e2 : argsOf ρ rs with
      | none => rw [e1, e2] at e; cases e
      | some ss =>
        rw [e1, e2] at e
        cases e
        cases i with
        | zero => cases Option.some.inj h; exact ⟨s, rfl, e1⟩
        | succ i =>
          obtain ⟨s', h1, h2⟩ := ih e2 i r (by simpa using h)
          exact ⟨s', by simpa using h1, h2⟩
end
section
variable {K : PySem.W.Frag} {H0 : HE} {F H F' H' : Hp} {W : WX} {σ : L2.St} {ρ ρ' : En} {A : Nat → Addr} {S ok : Addr → Prop} {vs : List V} {rs : List Res} {as as' : List Slot}
theorem args_at (er : ER K H0 F H σ ρ A) : ∀ {vs : List V} {rs : List Res} {as : List Slot}, Paired (RAt K H0 ok F H ρ A) vs rs → argsOf ρ rs = some as → Paired (ArgAt K F H) vs as
  | _, _, _, .nil, e => by cases e; exact .nil
  | v :: vs, r :: rs, as, .cons h t, e => by
    unfold argsOf at e
    cases e1 : argOf ρ r with
    | none => rw [e1] at e; cases e
    | some s =>
      cases e2 : argsOf ρ rs with
      | none => rw [e1, e2] at e; cases e
      | some ss =>
        rw [e1, e2] at e
        cases e
        refine .cons ?_ (args_at er t e2)
        cases r with
        | val d => cases e1; exact h
        | new m =>
          cases e1
          obtain ⟨p, e, f, _, mo, _, _⟩ := h
          exact ⟨p, e, f, mo⟩
        | brw i =>
          obtain ⟨⟨m, hm⟩, rfl⟩ := h
          have e1' : (moAt ρ i).map Slot.par = some s := e1
          rw [hm] at e1'
          cases e1'
          exact ⟨A i, rfl, (er.at hm).2.1, (er.at hm).2.2⟩
/-- what a callee may change: what was made here, what names hold -/
theorem args_own (er : ER K H0 F H σ ρ A) : ∀ {vs : List V} {rs : List Res} {as : List Slot}, Paired (RAt K H0 ok F H ρ A) vs rs → argsOf ρ rs = some as → ∀ a ∈ parA vs as, (V.ref a ∈ newAt vs rs ∧ ok a ∧ ¬ OwnA ρ A a) ∨ ∃ j, j ∈ brws rs ∧ A j = a ∧ ∃ m, moAt ρ j = some m
  | _, _, _, .nil, e, a, ha => by cases e; cases ha
  | v :: vs, r :: rs, as, .cons h t, e, a, ha => by
    unfold argsOf at e
    cases e1 : argOf ρ r with
    | none => rw [e1] at e; cases e
    | some s =>
      cases e2 : argsOf ρ rs with
      | none => rw [e1, e2] at e; cases e
      | some ss =>
        rw [e1, e2] at e
        cases e
        have ih := args_own er t e2 a
        cases r with
        | val d =>
          cases e1
          have ha' : a ∈ parA vs ss := by
            unfold parA at ha
            split at ha
            · rename_i h1 h2; cases h2
            · rename_i h1 h2; cases h1; cases h2; exact ha
            · rename_i hx; exact (hx _ _ _ _ rfl rfl).elim
          exact ih ha'
        | new m =>
          cases e1
          obtain ⟨p, rfl, f, no, mo, _, okp⟩ := h
          rcases List.mem_cons.mp (show a ∈ p :: parA vs ss from ha) with rfl | ha
          · exact .inl ⟨List.mem_cons_self, okp, no⟩
          · exact (ih ha).imp_left fun q => ⟨List.mem_cons_of_mem _ q.1, q.2⟩
        | brw i =>
          obtain ⟨⟨m, hm⟩, rfl⟩ := h
          have e1' : (moAt ρ i).map Slot.par = some s := e1
          rw [hm] at e1'
          cases e1'
          rcases List.mem_cons.mp (show a ∈ A i :: parA vs ss from ha) with rfl | ha
          · exact .inr ⟨i, List.mem_cons_self, rfl, m, hm⟩
          · rcases ih ha with q | ⟨j, q1, q2⟩
            · exact .inl q
            · exact .inr ⟨j, List.mem_cons_of_mem _ q1, q2⟩
theorem args_nd (er : ER K H0 F H σ ρ A) : ∀ {vs : List V} {rs : List Res} {as : List Slot}, Paired (RAt K H0 ok F H ρ A) vs rs → argsOf ρ rs = some as → (newAt vs rs).Nodup → (brws rs).Nodup → (parA vs as).Nodup
  | _, _, _, .nil, e, _, _ => by cases e; exact List.nodup_nil
  | v :: vs, r :: rs, as, .cons h t, e, n1, n2 => by
    unfold argsOf at e
    cases e1 : argOf ρ r with
    | none => rw [e1] at e; cases e
    | some s =>
      cases e2 : argsOf ρ rs with
      | none => rw [e1, e2] at e; cases e
      | some ss =>
        rw [e1, e2] at e
        cases e
        cases r with
        | val d =>
          cases e1
          have ih := args_nd er t e2 n1 n2
          unfold parA
          split
          · rename_i h1 h2; cases h2
          · rename_i h1 h2; cases h1; cases h2; exact ih
          · rename_i hx; exact (hx _ _ _ _ rfl rfl).elim
        | new m =>
          cases e1
          obtain ⟨p, rfl, f, no, mo, _, okp⟩ := h
          obtain ⟨m1, m2⟩ := List.nodup_cons.mp (show (V.ref p :: newAt vs rs).Nodup from n1)
          refine List.nodup_cons.mpr ⟨fun z => ?_, args_nd er t e2 m2 n2⟩
          rcases args_own er t e2 p z with q | ⟨j, _, q2, q3⟩
          · exact m1 q.1
          · exact no ⟨j, q3.choose, q3.choose_spec, q2⟩
        | brw i =>
          obtain ⟨⟨m, hm⟩, rfl⟩ := h
          have e1' : (moAt ρ i).map Slot.par = some s := e1
          rw [hm] at e1'
          cases e1'
          obtain ⟨m1, m2⟩ := List.nodup_cons.mp (show (i :: brws rs).Nodup from n2)
          refine List.nodup_cons.mpr ⟨fun z => ?_, args_nd er t e2 n1 m2⟩
          rcases args_own er t e2 _ z with q | ⟨j, q1, q2, m', q3⟩
          · exact q.2.2 ⟨i, m, hm, rfl⟩
          · exact m1 (by rw [← er.inj j i m' m q3 hm q2]; exact q1)
/-- the state behind a call -/
theorem args_back (er : ER K H0 F H σ ρ A) (pr : Paired (RAt K H0 ok F H ρ A) vs rs) (e : argsOf ρ rs = some as) (nd : (brws rs).Nodup) (tr : Tr (· ∈ parA vs as) F H F' H') (le : Le F' H') (ht : LamX.Tabs H0.T H') (bk : Back K F' H' vs as as') :
    ER K H0 F' H' σ (putBack ρ rs as') A ∧ Sb ρ (putBack ρ rs as') := by
  refine er.change tr le ht putBack_len fun j => ?_
  by_cases hj : j ∈ brws rs
  · obtain ⟨i, hi⟩ := mem_brw hj
    obtain ⟨s, h1, h2⟩ := argsOf_get e i _ hi
    have h2' : (moAt ρ j).map Slot.par = some s := h2
    cases hm : moAt ρ j with
    | none => rw [hm] at h2'; cases h2'
    | some m =>
      rw [hm] at h2'
      cases h2'
      obtain ⟨m', a, b1, b2, b3, b4⟩ := bk i m h1
      obtain ⟨v, c1, c2⟩ := Paired.get? pr hi
      have ea : a = A j := by
        have e1 : v = V.ref (A j) := c2.2
        rw [b2] at c1
        have e2 := Option.some.inj c1
        rw [e1] at e2
        exact V.ref.inj e2
      subst ea
      have pi := putBack_in (ρ := ρ) nd hi b1
      unfold moAt at hm
      cases q : ρ[j]? with
      | none => rw [q] at hm; cases hm
      | some s =>
        rw [q] at hm
        have hk : j < ρ.length := (List.getElem?_eq_some_iff.mp q).1
        unfold putMo at pi
        rw [q] at pi
        cases s with
        | un => cases hm
        | val d => cases hm
        | exc C fs => cases hm
        | own m0 => cases hm; exact .inr (.inl ⟨m, m', rfl, by rw [pi]; exact List.getElem?_set_self hk, b3, b4⟩)
        | par m0 => cases hm; exact .inr (.inr ⟨m, m', rfl, by rw [pi]; exact List.getElem?_set_self hk, b3, b4⟩)
  · refine .inl ⟨putBack_out hj, fun m hm z => ?_⟩
    rcases args_own er pr e _ z with q | ⟨i, q1, q2, m', q3⟩
    · exact q.2.2 ⟨j, m, hm, rfl⟩
    · exact hj (by rw [← er.inj i j m' m q3 hm q2]; exact q1)
/-- the arguments stand: the callee's promise is asked -/
theorem call_sp {m : Mir} {n : Nat} {ρ0 : En} {F0 H00 : Hp} {okr : Addr → Prop} {Q : VK} {o : Out Res} (tr : Tr (OwnA ρ0 A) F0 H00 F H) (sb : Sb ρ0 ρ) (er : ER K H0 F H σ ρ A) (ra : RAts K H0 (Okp ρ0 A H00) F H ρ A vs rs) (e : callM m rs ρ = some o)
    (p : Post K H0 W (RAt K H0) okr σ F0 H00 ρ0 A Q o) (kn : ∀ q, Okp ρ0 A H00 q → okr q) (hn : rs.length = n) : spM K H0.T n m vs H Q (WE W σ) := by
  unfold callM at e
  cases e1 : argsOf ρ rs with
  | none => rw [e1] at e; cases e
  | some as =>
    rw [e1] at e
    obtain ⟨nd, e⟩ := ite_some' (show (if nodupN (brws rs) = true then (match m as with
      | some (.ok r as') => some (Out.ok r.res (putBack ρ rs as'))
      | some (.ex C fs as') => some (.ex C fs (putBack ρ rs as'))
      | none => none) else none) = some o from e)
    have nd := nodupN_ok nd
    refine ⟨(Paired.length ra.1).trans hn, F, as, ⟨er.le, args_at er ra.1 e1, args_nd er ra.1 e1 ra.2 nd, er.tabs⟩, ?_⟩
    have st : ∀ x, x ∈ parA vs as → OwnA ρ0 A x ∨ H00 x = none := fun x hx => by
      rcases args_own er ra.1 e1 x hx with ⟨_, q, _⟩ | ⟨j, _, q2, m', q3⟩
      · exact q.symm
      · exact .inl (sb.ownA ⟨j, m', q3, q2⟩)
    cases em : m as with
    | none => rw [em] at e; cases e
    | some om =>
      rw [em] at e
      refine ⟨om, rfl, ?_⟩
      cases om with
      | ok r as' =>
        cases e
        intro v F' H' tr' le' ht' bk' rt
        obtain ⟨er', sb'⟩ := args_back er ra.1 e1 nd tr' le' ht' bk'
        refine p v F' H' (tr.trans tr' st) er' (sb.trans sb') ?_
        cases r with
        | val d => exact rt
        | new m' =>
          obtain ⟨q, rfl, f, hq, mo⟩ := rt
          refine ⟨q, rfl, f, fun z => ?_, mo, free_0 er hq, kn q (.inl (none_back tr.there hq))⟩
          obtain ⟨_, ob, hob⟩ := er.ownThere (sb'.ownA z)
          rw [hq] at hob; cases hob
      | ex C fs as' =>
        cases e
        intro dx F' H' tr' le' ht' bk' x
        obtain ⟨er', sb'⟩ := args_back er ra.1 e1 nd tr' le' ht' bk'
        exact p dx F' H' (tr.trans tr' st) er' (sb.trans sb') x
end
section
variable {X : Cx} {H0 : HE} {W : WX} {k : Nat} {f : Addr} {fd : FuncData} {ps : List Str} {x : Str} {p pos : Pos} {e : Expr} {es : List Expr} {gs : EM (List Res)} {m : Mir}
/-- f(e, ..) -/
theorem p_call {n : Nat} (F : FnOk X.prog X.w X.K X.mg X.base (L2.CX X.prog X.w) k f fd ps (spM X.K H0.T n m)) (hr : Room k X.A) (hg : Gl X x) (hm : X.mg x = some (.ref f)) (hk : PySem.W.keepIn X.K (.ref f) = true) (hb : Binds X.K fd ps []) (tk : Takes X W)
    (ha : PA X (e :: es) (tA X.K H0 W gs)) (hdb : (x == ("__debug__" : Str)) = false := by decide) (he : starEach (e :: es) X.env = (false, eval e X.env) :: starEach es X.env := by rfl) (hpl : (backTo pos (starEach es X.env)).any (·.1) = false := by rfl) :
    PE X (.Call (.Name x p) (e :: es) [] pos) (tE X.K H0 W (gFn n m gs)) :=
  (pe_callSD F hr hg hm hk hb .nil (fun σ => passAt tk σ) ha hdb he hpl).weak fun σ H Q h => by
    obtain ⟨F1, ρ, A, h⟩ := h
    refine ⟨F1, ρ, A, h.bind0 fun vs rs F2 H2 ρ2 o tr sb er ra e p kn => ?_⟩
    obtain ⟨c, e⟩ := ite_some' e
    rw [List.append_nil]
    exact call_sp tr sb er ra e p kn c
end
end M

/-! M11: exceptions. -/
namespace M
open PySem PySem.Spec PyProof.Rows L2

/-! ### own classes with an __init__ that stores its parameters -/
def spInit (K : PySem.W.Frag) (fs : List Str) : Sp := fun vs H Q _ => ∃ a C xs, vs = .ref a :: xs ∧ xs.length = fs.length ∧ OexC K C ∧ (∀ f ∈ fs, PySem.W.findIn K (.ref C) f = some none) ∧ H a = some (exo a C none) ∧
  ∀ dx, H dx = none → dx ≠ a → Q .non (upd (upd H dx (exd dx (fs.zip xs).reverse)) a (exo a C (some dx)))
theorem upd_upd {H : Hp} {a : Addr} {o o' : HO} : upd (upd H a o) a o' = upd H a o' := by
  funext b
  by_cases h : b = a
  · subst h; rw [upd_same, upd_same]
  · rw [upd_ne h, upd_ne h, upd_ne h]
theorem upd_comm {H : Hp} {a b : Addr} {o o' : HO} (h : a ≠ b) : upd (upd H a o) b o' = upd (upd H b o') a o := by
  funext c
  by_cases h1 : c = a
  · subst h1; rw [upd_ne h, upd_same, upd_same]
  · by_cases h2 : c = b
    · subst h2; rw [upd_same, upd_ne h1, upd_same]
    · rw [upd_ne h2, upd_ne h1, upd_ne h1, upd_ne h2]
/-- raise C(e): the exception's dict is made -/
theorem mk_weak {K : PySem.W.Frag} {C : Addr} {fs : List Str} {xs : List V} {H1 : Hp} {Q : XK} (hx : xs.length = fs.length) (hl : xs.length ≤ 1000) (T : OexC K C) (hno : ∀ f ∈ fs, PySem.W.findIn K (.ref C) f = some none)
    (q : ∀ dx, H1 dx = none → Q (.ref C) (some dx) (upd H1 dx (.xd (fs.zip xs).reverse))) :
    xs.length ≤ 1000 ∧ ∀ a, H1 a = none → spInit K fs (.ref a :: (xs ++ [])) (upd H1 a (exo a C none))
      (fun v H2 => v = .non ∧ ∃ (d : Addr) (gs : List (Str × V)), H2 a = some (exo a C (some d)) ∧ H2 d = some (exd d gs) ∧ H1 d = none ∧ Q (.ref C) (some d) (upd (del H2 a) d (.xd gs))) (fun _ _ _ => False) := by
  refine ⟨hl, fun a ha => ⟨a, C, xs, by rw [List.append_nil], hx, T, hno, upd_same, fun dx h1 h2 => ⟨rfl, dx, (fs.zip xs).reverse, upd_same, by rw [upd_ne h2, upd_same], ?_, ?_⟩⟩⟩
  · rw [upd_ne h2] at h1; exact h1
  · rw [upd_ne h2] at h1
    have := q dx h1
    have e : upd (del (upd (upd (upd H1 a (exo a C none)) dx (exd dx (fs.zip xs).reverse)) a (exo a C (some dx))) a) dx (.xd (fs.zip xs).reverse) = upd H1 dx (.xd (fs.zip xs).reverse) := by
      funext b
      by_cases hb : b = dx
      · subst hb; rw [upd_same, upd_same]
      · rw [upd_ne hb, upd_ne hb]
        by_cases hba : b = a
        · subst hba; rw [del_same, ha]
        · rw [del_ne hba, upd_ne hba, upd_ne hb, upd_ne hba]
    rw [e]
    exact this
/-! ### raise -/
def gRaise (C : Value) (fs : List Str) (gs : EM (List Res)) : EM Fl := gs.bind fun rs => fun ρ => match valsR rs with
  | some ds => if ds.length = fs.length ∧ ds.length ≤ 1000 then some (.ex C (fs.zip ds).reverse ρ) else none
  | none => none
theorem repF_zip {K : PySem.W.Frag} {F : Hp} : ∀ {fs : List Str} {vs : List V} {ds : List D}, Reps K F vs ds → RepF K F (fs.zip vs) (fs.zip ds)
  | [], _, _, _ => .nil
  | _ :: _, _, _, .nil => .nil
  | _ :: _, _, _, .cons h r => .cons h (repF_zip r)
theorem RepF.append {K : PySem.W.Frag} {F : Hp} : ∀ {xs ys : List (Str × V)} {ds es : List (Str × D)}, RepF K F xs ds → RepF K F ys es → RepF K F (xs ++ ys) (ds ++ es)
  | _, _, _, _, .nil, s => s
  | _, _, _, _, .cons h r, s => .cons h (RepF.append r s)
theorem RepF.reverse {K : PySem.W.Frag} {F : Hp} {xs : List (Str × V)} {ds : List (Str × D)} (r : RepF K F xs ds) : RepF K F xs.reverse ds.reverse := by
  induction xs generalizing ds with
  | nil => cases r; exact .nil
  | cons x xs ih =>
    cases r with
    | cons h r =>
      rw [List.reverse_cons, List.reverse_cons]
      exact (ih r).append (.cons h .nil)
section
variable {X : Cx} {H0 : HE} {W : WX} {x : Str} {C fI : Addr} {k : Nat} {fd : FuncData} {ps : List Str} {fs : List Str} {e : Expr} {es : List Expr} {gs : EM (List Res)} {p pos pos' : Pos}
theorem c_raise (T : OexC X.K C) (iC : PySem.W.findIn X.K (.ref C) "__init__" = some (some (.ref fI))) (tI : PySem.W.typeIn X.K (.ref fI) = some (.type "function")) (hno : ∀ f ∈ fs, PySem.W.findIn X.K (.ref C) f = some none)
    (F1 : FnOk X.prog X.w X.K X.mg X.base (L2.CX X.prog X.w) k fI fd ps (spInit X.K fs)) (hr : Room (k + 1) X.A) (hb : Binds X.K fd ps []) (hg : Gl X x) (hm : X.mg x = some (.ref C)) (hc : X.calm = true) (tk : Takes X W)
    (ha : PA X (e :: es) (tA X.K H0 W gs))
    (hdb : (x == ("__debug__" : Str)) = false := by decide) (he : starEach (e :: es) X.env = (false, eval e X.env) :: starEach es X.env := by rfl) (hpl : (backTo pos (starEach es X.env)).any (·.1) = false := by rfl) :
    PS X (.Raise (some (.Call (.Name x p) (e :: es) [] pos)) none pos') (tSt X.K H0 W (gRaise (.ref C) fs gs)) :=
  (ps_raise hc tk (pmk_oex T iC tI F1 hr hb .nil (passes_call (E := fun _ _ _ => False) tk fun _ _ _ _ h => h.elim) hg hm ha hdb he hpl)).weak fun G σ H h => by
    obtain ⟨F, ρ, A, h⟩ := h
    refine ⟨F, ρ, A, h.bind fun vs rs F1 H1 ρ1 tr sb ra h1 => ?_⟩
    obtain ⟨er, o, e, p⟩ := h1
    cases ev : valsR rs with
    | none => rw [ev] at e; cases e
    | some ds =>
      rw [ev] at e
      obtain ⟨⟨c1, c2⟩, e⟩ := ite_some' e
      cases e
      have r := rats_reps ra.1 ev
      refine mk_weak (H1 := H1) (Q := fun cls d H' => W cls d σ H') (by rw [r.length]; exact c1) (by rw [r.length]; exact c2) T hno fun dx hd => ?_
      have fd := free_F er.le hd
      exact p (some dx) σ (upd F1 dx (.xd (fs.zip vs).reverse)) _ A (Tr.laidF er.le hd) (er.laidF hd) .refl (.inr ⟨dx, _, rfl, upd_same, ((repF_zip r).reverse).mono (le_self fd)⟩)
end

/-! ### except: what a clause names -/
theorem flying_keeps {B h h' : Heap} {l : List Env} {a : Addr} {Z : Obj → Prop} (R : HandSPX.FlyingZ B l a Z h) (k : ∀ b o, h.get? b = some o → h'.get? b = some o) : HandSPX.FlyingZ B l a Z h' := by
  obtain ⟨f1, f2, f3, oe, vs, T, oT, ts, he, hz, hd, h1, hn, hne, hT, hdT, h3⟩ := R
  exact ⟨fun b o q => k b o (f1 b o q), f2, f3.of_keeps fun b o q _ => ⟨o, k b o q, rfl⟩, oe, vs, T, oT, ts, k _ _ he, hz, hd, h1, hn, hne, k _ _ hT, hdT, h3⟩
/-- the clause's expression tells the classes cs -/
def ClOk (X : Cx) (te : Expr) (cs : List Value) : Prop := ∀ (a : Addr) (oe : Obj) (pn : List (Addr × Obj)) (σ : L2.St) (H : Hp) (s : Shared), Inv (X.suite a ((a, oe) :: pn)) [] σ H s → ∀ (Q : Value → Shared → Prop) (E : Value → Shared → Prop),
  (∀ u h', (∀ b o, s.heap.get? b = some o → h'.get? b = some o) → (∀ (cls : Value) (e : Addr) (b : Bool), PySem.W.Looks (model X.prog X.w) h' (typeOf (.ref e)) cls → PySem.W.exmAny X.K cls cs = some b → PySem.W.Looks (model X.prog X.w) h' (excMatches (.ref e) u) b) → Q u { s with heap := h' }) →
  wpAny (model X.prog X.w) (X.A.mark (some (.ref a))) (eval te X.env) Q E s
section
variable {X : Cx}
theorem cl_ld {x : Str} {c : Value} {a : Addr} {oe : Obj} {pn : List (Addr × Obj)} {σ : L2.St} {H : Hp} {s : Shared} {np : Pos} {Q E : Value → Shared → Prop} (hc : Names X x c) (S3 : Inv (X.suite a ((a, oe) :: pn)) [] σ H s) (q : Q c s) :
    wpAny (model X.prog X.w) (X.A.mark (some (.ref a))) (eval (.Name x np) X.env) Q E s := by
  obtain ⟨hg, hdbg, hm | ⟨hm, hv, hnn⟩⟩ := hc
  · exact ld_glob (X := X.suite a ((a, oe) :: pn)) S3 hg hm q hdbg
  · exact ld_blt (X := X.suite a ((a, oe) :: pn)) S3 hg hm hv q hnn hdbg
theorem cl_name {x : Str} {c : Value} {np : Pos} (hc : Names X x c) : ClOk X (.Name x np) [c] := fun a oe pn σ H s S3 Q E q => by
  refine cl_ld hc S3 (q c s.heap (fun _ _ z => z) fun cls e b LT hx => ?_)
  obtain ⟨b1, d1, x1, y1, z1⟩ := PySem.W.exmAny_cons hx
  cases y1
  rw [Bool.or_false] at z1
  subst z1
  exact PySem.W.exm_one S3.kIn LT x1
theorem cl_tup3 {x1 x2 x3 : Str} {c1 c2 c3 : Value} {n1 n2 n3 np : Pos} {j : Nat} (h1 : Names X x1 c1) (h2 : Names X x2 c2) (h3 : Names X x3 c3) : ClOk X (.Tuple [.Name x1 n1, .Name x2 n2, .Name x3 n3] j np) [c1, c2, c3] := fun a oe pn σ H s S3 Q E q => by
  refine wpAny_Tuple_spliced ?_
  show wpAny _ _ (spliced ((false, eval (.Name x1 n1) X.env) :: backTo np (starEach [.Name x2 n2, .Name x3 n3] X.env))) _ _ s
  refine Calls.spliced_cons (cl_ld h1 S3 ?_)
  show wpAny _ _ (spliced ((false, eval (.Name x2 n2) X.env) :: backTo np (starEach [.Name x3 n3] X.env))) _ _ s
  refine Calls.spliced_cons (cl_ld h2 S3 ?_)
  show wpAny _ _ (spliced ((false, eval (.Name x3 n3) X.env) :: backTo np (starEach [] X.env))) _ _ s
  refine Calls.spliced_cons (cl_ld h3 S3 ?_)
  refine Calls.spliced_nil ?_
  have kp : ∀ b o, s.heap.get? b = some o → (s.heap.push { cls := .type "tuple", data := .seq [c1, c2, c3].toArray }).get? b = some o := fun b o z => Heap.get?_push_of_some _ z
  exact ⟨by rw [sizeLine_eq]; simp, q _ _ kp fun cls e b LT hx => PySem.W.exm_tup3 (S3.kIn.keeps kp) LT (Heap.get?_push_size _ rfl) hx⟩
theorem cl_tup4 {x1 x2 x3 x4 : Str} {c1 c2 c3 c4 : Value} {n1 n2 n3 n4 np : Pos} {j : Nat} (h1 : Names X x1 c1) (h2 : Names X x2 c2) (h3 : Names X x3 c3) (h4 : Names X x4 c4) : ClOk X (.Tuple [.Name x1 n1, .Name x2 n2, .Name x3 n3, .Name x4 n4] j np) [c1, c2, c3, c4] := fun a oe pn σ H s S3 Q E q => by
  refine wpAny_Tuple_spliced ?_
  show wpAny _ _ (spliced ((false, eval (.Name x1 n1) X.env) :: backTo np (starEach [.Name x2 n2, .Name x3 n3, .Name x4 n4] X.env))) _ _ s
  refine Calls.spliced_cons (cl_ld h1 S3 ?_)
  show wpAny _ _ (spliced ((false, eval (.Name x2 n2) X.env) :: backTo np (starEach [.Name x3 n3, .Name x4 n4] X.env))) _ _ s
  refine Calls.spliced_cons (cl_ld h2 S3 ?_)
  show wpAny _ _ (spliced ((false, eval (.Name x3 n3) X.env) :: backTo np (starEach [.Name x4 n4] X.env))) _ _ s
  refine Calls.spliced_cons (cl_ld h3 S3 ?_)
  show wpAny _ _ (spliced ((false, eval (.Name x4 n4) X.env) :: backTo np (starEach [] X.env))) _ _ s
  refine Calls.spliced_cons (cl_ld h4 S3 ?_)
  refine Calls.spliced_nil ?_
  have kp : ∀ b o, s.heap.get? b = some o → (s.heap.push { cls := .type "tuple", data := .seq [c1, c2, c3, c4].toArray }).get? b = some o := fun b o z => Heap.get?_push_of_some _ z
  exact ⟨by rw [sizeLine_eq]; simp, q _ _ kp fun cls e b LT hx => PySem.W.exm_tup4 (S3.kIn.keeps kp) LT (Heap.get?_push_size _ rfl) hx⟩
end

/-! ### try .. except, several clauses -/
/-- a clause: the classes, the name's slot, the suite's reading -/
structure Cl where
  cs : List Value
  slot : Option Nat
  ts : Addr → Value → Option Addr → TS
def endC (i : Option Nat) (G : Ends) : Ends := match i with
  | none => G
  | some i => { nx := fun σ' H' => G.nx (σ'.set i none) H', rt := G.rt, bk := fun σ' H' => G.bk (σ'.set i none) H', ct := fun σ' H' => G.ct (σ'.set i none) H' }
def setC (i : Option Nat) (σ : L2.St) (a : Addr) : L2.St := match i with
  | none => σ
  | some i => σ.set i (some (.ref a))
def wCl (K : PySem.W.Frag) (Wout : WX) (G : Ends) : List Cl → WX
  | [] => Wout
  | c :: r => fun cls d σ H => ∃ b, PySem.W.exmAny K cls c.cs = some b ∧ (b = true → ∀ a, H a = none → c.ts a cls d (endC c.slot G) (setC c.slot σ a) H) ∧ (b = false → wCl K Wout G r cls d σ H)
inductive ClsOk (X : Cx) : List ExceptHandler → List Cl → Prop
  | nil : ClsOk X [] []
  | only {te : Expr} {cs : List Value} {ts : Addr → Value → Option Addr → TS} {b₀ : Stmt} {suite : List Stmt} {pos' : Pos} {hds : List ExceptHandler} {l : List Cl} (hc : ClOk X te cs)
      (hsu : ∀ (a : Addr) (oe : Obj) (cls : Value) (d : Option Addr) (pn : List (Addr × Obj)), Zc cls d oe → (∃ vs, oe.data = .fields vs) → PSs (X.suite a ((a, oe) :: pn)) (b₀ :: suite) (ts a cls d)) (r : ClsOk X hds l) :
      ClsOk X (.ExceptHandler (some te) none (b₀ :: suite) pos' :: hds) (⟨cs, none, ts⟩ :: l)
  | as {te : Expr} {cs : List Value} {n : Str} {i : Nat} {ts : Addr → Value → Option Addr → TS} {b₀ : Stmt} {suite : List Stmt} {pos' : Pos} {hds : List ExceptHandler} {l : List Cl} (hc : ClOk X te cs) (hi : X.N[i]? = some n) (hln : X.env.kindOf n = some .local)
      (hsu : ∀ (a : Addr) (oe : Obj) (cls : Value) (d : Option Addr) (pn : List (Addr × Obj)), Zc cls d oe → (∃ vs, oe.data = .fields vs) → PSs (X.suite a ((a, oe) :: pn)) (b₀ :: suite) (ts a cls d)) (r : ClsOk X hds l) :
      ClsOk X (.ExceptHandler (some te) (some n) (b₀ :: suite) pos' :: hds) (⟨cs, some i, ts⟩ :: l)
section
variable {X : Cx} {body : List Stmt} {h₀ : ExceptHandler} {hds : List ExceptHandler} {l : List Cl} {pos : Pos} {tb : WX → TS} {Wout : WX}
theorem ps_try_cl (hs : X.stack = X.env :: X.outer) (hf : X.env.frame = some X.env.locals) (hN : X.N.Nodup) (tk : Takes X Wout)
    (hb : ∀ (W : WX) (pn : List (Addr × Obj)) (xe : Value → Shared → Prop), Takes (X.tr pn xe) W → PassesOwn (model X.prog X.w) X.A X.env xe → PSs (X.tr pn xe) body (tb W))
    (hh : ClsOk X (h₀ :: hds) l) : PS X (.Try body (h₀ :: hds) [] [] pos) (fun D σ H => tb (wCl X.K Wout D l) D σ H) := by
  refine ⟨fun pins s σ H D I h => ?_⟩
  have ok := I.ok
  have hfr : X.A.frames = some (X.env :: X.outer) := by rw [ok.frames, hs]
  refine wpAny_Try_except ?_
  refine wpAny_mono ((hb (wCl X.K Wout D l) (X.pn ++ pins) (fun e s₁ => wpAny (model X.prog X.w) X.A (noteFrame e X.env) (fun _ s₂ => wpAny (model X.prog X.w) X.A (setFlight e none) (fun _ s₃ =>
    wpAny (model X.prog X.w) X.A (handleBy e X.env (h₀ :: hds)) (SP X pins D) X.xe s₃) X.xe s₂) X.xe s₁) (fun u s' xx => ?_) PassesOwn.looking).run [] s σ H D (I.toTry _) h) (fun f s1 hsp => ?_) (fun e s1 he => he)
  · -- the catch
    obtain ⟨a, B, sI, pins', σ', H', cls, d, rfl, J', nb, up, sky, na, os, ag, w⟩ := xx
    have J : Inv X pins σ' H' sI := J'.ofTry ok
    have sky' : Sky B (X.env :: X.outer) a (Zc cls d) X.env.locals s'.heap := by rw [← hs]; exact sky
    show wpAny (model X.prog X.w) X.A (noteFrame (.ref a) X.env) _ _ _
    refine Sky.land Zc.steady hfr hf sky' fun h3 fl3 up3 => ?_
    have notFr : ∀ {h : Heap} {o : Obj} {vs : Array Value}, h.FunFrames B (X.env :: X.outer) → h.get? a = some o → o.data = .fields vs → a ∉ frs (X.env :: X.outer) := fun {h o vs} ff e dd hm => by
      obtain ⟨_, o', e', hnf⟩ := ff.mem hm
      rw [e] at e'; cases e'
      exact hnf _ dd
    obtain ⟨oe0, vs0, he0, hz0, hd0⟩ := fl3.there
    have nfr := notFr fl3.2.2.1 he0 hd0
    have nL : a ≠ X.env.locals := fun z => nfr (List.mem_filterMap.mpr ⟨X.env, List.mem_cons_self, by rw [hf, z]⟩)
    have nF : a ∉ X.fs := fun hm => by
      obtain ⟨e, he, q⟩ := List.mem_filterMap.mp hm
      exact nfr (List.mem_filterMap.mpr ⟨e, List.mem_cons_of_mem _ he, q⟩)
    have go : ∀ {hds' : List ExceptHandler} {l' : List Cl}, ClsOk X hds' l' → wCl X.K Wout D l' cls d σ' H' → ∀ h3 : Heap, HandSPX.FlyingZ B (X.env :: X.outer) a (Zc cls d) h3 → sI.heap.UpToSlots h3 →
        wpAny (model X.prog X.w) X.A (handleBy (.ref a) X.env hds') (SP X pins D) X.xe { s' with heap := h3 } := by
      intro hds' l' hk
      induction hk with
      | nil =>
        intro w h3 fl3 up3
        refine wpAny_handleBy_nil ?_
        obtain ⟨k1, k2, k3, oe, vs, T, oT, ts', he, hz, hd, h1, hr⟩ := id fl3
        unfold PySem.passOn
        refine wpAny_bind (wpAny_field he hd h1 ?_)
        rw [if_neg (show ¬ ((Value.ref T == Value.none) = true) from by simp)]
        have fin : wpAny (model X.prog X.w) X.A (setFlight (.ref a) X.env.frame) (fun _ s4 => wpAny (model X.prog X.w) X.A (throw (.ref a) : Sem Flow) (SP X pins D) X.xe s4) X.xe { s' with heap := h3 } := by
          rw [hf]
          refine HandSPX.setFlight_upZ fl3 fun h4 hh4 up4 => wpAny_throw (tk _ _ ?_)
          exact ⟨a, B, sI, pins, σ', H', cls, d, rfl, J, nb, up3.trans up4, .inr (.inr (by rw [hs]; exact hh4)), na, os, ag, w⟩
        first
          | exact wpAny_bind (wpAny_pure (wpAny_bind fin))
          | exact wpAny_bind fin
      | only hc hsu r ih =>
        intro w h3 fl3 up3
        obtain ⟨b, hb1, hyes, hno⟩ := w
        have J3 : Inv X pins σ' H' { s' with heap := h3 } := J.landed nb fl3.1 up3 os ag
        obtain ⟨oe3, vs3, he3, hz3, hd3⟩ := fl3.there
        have S3 := J3.suite he3 hd3 na nL nF
        refine wpAny_handleBy_cons (codeAny_handlers_test ?_) (by intro q; cases q)
        refine hc a oe3 _ _ _ _ S3 _ _ fun u h4 kp ex => ?_
        have he4 := kp _ _ he3
        have LT : PySem.W.Looks (model X.prog X.w) h4 (typeOf (.ref a)) cls := fun A Q E s k q => wpAny_typeOf_ref (k _ _ he4) (by rw [hz3.1]; exact q)
        have fl4 := flying_keeps fl3 kp
        have up4 := up3.trans (Heap.UpToSlots.of_keeps kp)
        refine (ex cls a b LT hb1).here ?_
        cases b with
        | true =>
          refine codeAny_handlers_suite ?_
          refine HandSPX.lands_againZ fl4 fun h5 fl5 up5 => ?_
          have J5 : Inv X pins σ' H' { s' with heap := h5 } := J.landed nb fl5.1 (up4.trans up5) os ag
          obtain ⟨oe5, vs5, he5, hz5, hd5⟩ := fl5.there
          have S5 := J5.suite he5 hd5 na nL nF
          refine wpAny_mono ((hsu a oe5 cls d (X.pn ++ pins) hz5 ⟨_, hd5⟩).run [] _ _ H' _ S5 (hyes rfl a na)) (fun f s6 hsp => ?_) (fun _ _ z => False.elim z)
          cases f with
          | next =>
            obtain ⟨σ6, H6, S6, q6⟩ := hsp
            exact ⟨σ6, H6, S6.unsuite ok, q6⟩
          | brk =>
            obtain ⟨σ6, H6, S6, q6⟩ := hsp
            exact ⟨σ6, H6, S6.unsuite ok, q6⟩
          | cont =>
            obtain ⟨σ6, H6, S6, q6⟩ := hsp
            exact ⟨σ6, H6, S6.unsuite ok, q6⟩
          | ret u =>
            obtain ⟨v6, σ6, H6, S6, r6, q6⟩ := hsp
            exact ⟨v6, σ6, H6, S6.unsuite ok, r6, q6⟩
        | false => exact ih (hno rfl) h4 fl4 up4
      | @as te cs n i ts b₀ suite pos' hds'' l'' hc hi hln hsu r ih =>
        intro w h3 fl3 up3
        obtain ⟨b, hb1, hyes, hno⟩ := w
        have J3 : Inv X pins σ' H' { s' with heap := h3 } := J.landed nb fl3.1 up3 os ag
        obtain ⟨oe3, vs3, he3, hz3, hd3⟩ := fl3.there
        have S3 := J3.suite he3 hd3 na nL nF
        have hloc : Loc X.env.scope _ := .inl hln
        refine wpAny_handleBy_cons (codeAny_handlers_test ?_) (by intro q; cases q)
        refine hc a oe3 _ _ _ _ S3 _ _ fun u h4 kp ex => ?_
        have he4 := kp _ _ he3
        have LT : PySem.W.Looks (model X.prog X.w) h4 (typeOf (.ref a)) cls := fun A Q E s k q => wpAny_typeOf_ref (k _ _ he4) (by rw [hz3.1]; exact q)
        have fl4 := flying_keeps fl3 kp
        have up4 := up3.trans (Heap.UpToSlots.of_keeps kp)
        refine (ex cls a b LT hb1).here ?_
        cases b with
        | true =>
          refine codeAny_handlers_suite_as ?_
          refine HandSPX.lands_againZ fl4 fun h5 fl5 up5 => ?_
          have J5 : Inv X pins σ' H' { s' with heap := h5 } := J.landed nb fl5.1 (up4.trans up5) os ag
          obtain ⟨oe5, vs5, he5, hz5, hd5⟩ := fl5.there
          have S5 := J5.suite he5 hd5 na nL nF
          refine store_ok (X := X.suite a ((a, oe5) :: (X.pn ++ pins))) (v := .ref a) S5 hN hi hloc rfl (fun s6 S6 => ?_) (.inr hln)
          refine wpAny_mono ((hsu a oe5 cls d (X.pn ++ pins) hz5 ⟨_, hd5⟩).run [] s6 _ H' _ S6 (hyes rfl a na)) (fun f s7 hsp => ?_) (fun _ _ z => False.elim z)
          have end_ : ∀ {σ7 : L2.St} {H7 : Hp} {Q : Shared → Prop}, Inv (X.suite a ((a, oe5) :: (X.pn ++ pins))) [] σ7 H7 s7 → (∀ s8, Inv X pins (σ7.set i none) H7 s8 → Q s8) →
              wpAny (model X.prog X.w) X.A (do bindName X.env n .none; unbindBehindTheSuite X.env n pos') (fun _ s8 => Q s8) X.xe s7 := fun {σ7 H7 Q} S7 hq => gone_ok (S7.unsuite ok) hN hi hln hq
          cases f with
          | next =>
            obtain ⟨σ6, H6, S6, q6⟩ := hsp
            exact end_ S6 fun s7 J7 => ⟨_, _, J7, q6⟩
          | brk =>
            obtain ⟨σ6, H6, S6, q6⟩ := hsp
            exact end_ S6 fun s7 J7 => ⟨_, _, J7, q6⟩
          | cont =>
            obtain ⟨σ6, H6, S6, q6⟩ := hsp
            exact end_ S6 fun s7 J7 => ⟨_, _, J7, q6⟩
          | ret u =>
            obtain ⟨v6, σ6, H6, S6, r6, q6⟩ := hsp
            exact end_ S6 fun s7 J7 => ⟨_, _, _, J7, r6, q6⟩
        | false => exact ih (hno rfl) h4 fl4 up4
    exact go hh w h3 fl3 (up.trans up3)
  · cases f with
    | next =>
      obtain ⟨σ', H', J', q⟩ := hsp
      exact wpAny_execs_nil ⟨σ', H', J'.ofTry ok, q⟩
    | brk =>
      obtain ⟨σ', H', J', q⟩ := hsp
      exact ⟨σ', H', J'.ofTry ok, q⟩
    | cont =>
      obtain ⟨σ', H', J', q⟩ := hsp
      exact ⟨σ', H', J'.ofTry ok, q⟩
    | ret u =>
      obtain ⟨v, σ', H', J', r, q⟩ := hsp
      exact ⟨v, σ', H', J'.ofTry ok, r, q⟩
end
end M

/-! M12: try, what a suite asks of its exception. -/
namespace M
open PySem PySem.Spec PyProof.Rows L2

/-- a clause's mirror: which classes it takes, the name's slot, the suite -/
structure HM where
  mt : Value → Option Bool
  slot : Option Nat
  g : EM Fl
def noE (ρ : En) : Bool := ρ.all fun s => match s with
  | .exc _ _ => false
  | _ => true
def unR (i : Nat) : Out Fl → Option (Out Fl)
  | .ok (.rt (.brw j)) ρ => if j = i then none else some (.ok (.rt (.brw j)) (ρ.set i .un))
  | .ok fl ρ => some (.ok fl (ρ.set i .un))
  | .ex _ _ _ => none
def outE {α : Type} : Out α → En
  | .ok _ ρ => ρ
  | .ex _ _ ρ => ρ
def isParB : Option Slot → Bool
  | some (.par _) => true
  | none => true
  | _ => false
def gHs (C : Value) (fs : List (Str × D)) : List HM → EM Fl
  | [] => fun ρ => some (.ex C fs ρ)
  | c :: r => fun ρ => match c.mt C with
    | none => none
    | some false => gHs C fs r ρ
    | some true => (match c.slot with
      | none => (match c.g ρ with
        | some (.ok fl ρ') => some (.ok fl ρ')
        | _ => none)
      | some i => if (noE ρ && !isParB ρ[i]?) = true then (match c.g (ρ.set i (.exc C fs)) with
        | some o => (match unR i o with
          | some o' => if (noE (outE o') && !isParB (outE o)[i]?) = true then some o' else none
          | none => none)
        | none => none) else none)
def gTry (gb : EM Fl) (hs : List HM) : EM Fl := fun ρ => match gb ρ with
  | some (.ex C fs ρ1) => gHs C fs hs ρ1
  | o => o
section
variable {K : PySem.W.Frag} {H0 : HE} {F H : Hp} {W : WX} {σ : L2.St} {ρ : En} {A : Nat → Addr} {G : Ends}
theorem noE_get (h : noE ρ = true) {i : Nat} {s : Slot} (e : ρ[i]? = some s) : ∀ C fs, s ≠ .exc C fs := fun C fs z => by
  unfold noE at h
  have := List.all_eq_true.mp h s (List.mem_of_getElem? e)
  rw [z] at this
  cases this
/-- another exception is looked at -/
theorem ER.reex {H1 : HE} (er : ER K H0 F H σ ρ A) (eh : H1.h = H0.h) (et : H1.T = H0.T) (h : noE ρ = true) : ER K H1 F H σ ρ A := by
  obtain ⟨h1, x1, t1⟩ := H1
  obtain ⟨h0, x0, t0⟩ := H0
  obtain rfl : h1 = h0 := eh
  obtain rfl : t1 = t0 := et
  refine ⟨er.len, er.le, fun i s e => ?_, er.inj, er.dom, er.tabs⟩
  have q := er.sl i s e
  cases s with
  | un => trivial
  | val d => exact q
  | exc C fs => exact absurd rfl (noE_get h e C fs)
  | own m => exact q
  | par m => exact q
theorem isParB_no {i : Nat} (h : isParB ρ[i]? = false) : i < ρ.length ∧ ∀ m, ρ[i]? ≠ some (Slot.par m) := by
  cases q : ρ[i]? with
  | none => rw [q] at h; cases h
  | some s =>
    refine ⟨(List.getElem?_eq_some_iff.mp q).1, fun m z => ?_⟩
    rw [q, Option.some.inj z] at h
    cases h
/-- a slot is set, or goes -/
theorem ER.setFlat {i : Nat} {s : Slot} {ov : Option V} (er : ER K H0 F H σ ρ A) (hi : i < ρ.length) (hs : s.mo? = none) (ok : ∀ σ' : L2.St, σ'[i]? = some ov → SlotOk K H0 F H σ' A i s) : ER K H0 F H (σ.set i ov) (ρ.set i s) A := by
  have hl : i < σ.length := by rw [er.len]; exact hi
  refine ⟨by simpa using er.len, er.le, fun j s' e => ?_, fun j k m1 m2 e1 e2 => ?_, er.dom, er.tabs⟩
  · by_cases z : j = i
    · subst z
      rw [List.getElem?_set_self hi] at e
      cases e
      exact ok _ (List.getElem?_set_self hl)
    · rw [List.getElem?_set_ne (Ne.symm z)] at e
      have q := er.sl j s' e
      cases s' with
      | un => trivial
      | val d' => obtain ⟨v', h1, h2⟩ := q; exact ⟨v', by rw [List.getElem?_set_ne (Ne.symm z)]; exact h1, h2⟩
      | exc C fs => obtain ⟨a, d, h1, h2⟩ := q; exact ⟨a, d, by rw [List.getElem?_set_ne (Ne.symm z)]; exact h1, h2⟩
      | own m => exact ⟨by rw [List.getElem?_set_ne (Ne.symm z)]; exact q.1, q.2⟩
      | par m => exact ⟨by rw [List.getElem?_set_ne (Ne.symm z)]; exact q.1, q.2⟩
  · rw [moAt_set hi] at e1 e2
    split at e1
    · rw [hs] at e1; cases e1
    · split at e2
      · rw [hs] at e2; cases e2
      · exact er.inj j k m1 m2 e1 e2
theorem StepS.setFlat {i : Nat} {s : Slot} (hi : i < ρ.length) (hs : s.mo? = none) (np : ∀ m, ρ[i]? ≠ some (Slot.par m)) : StepS ρ A (ρ.set i s) A H := by
  refine ⟨fun a h => .inl ?_, fun j m h => ?_⟩
  · obtain ⟨j, m, h1, h2⟩ := h
    rw [moAt_set hi] at h1
    split at h1
    · rw [hs] at h1; cases h1
    · exact ⟨j, m, h1, h2⟩
  · by_cases z : j = i
    · subst z; exact absurd h (np m)
    · exact ⟨m, by rw [List.getElem?_set_ne (Ne.symm z)]; exact h, rfl⟩
end
/-- the exception that a suite holds -/
def HE.sees (H0 : HE) (a : Addr) (cls : Value) (d : Option Addr) : HE := ⟨H0.h, fun a' C' d' => a' = a ∧ C' = cls ∧ d' = d, H0.T⟩
section
variable {X : Cx} {H0 : HE} {Wout : WX} {G : Ends}
inductive HsOk (X : Cx) (H0 : HE) : List ExceptHandler → List HM → List Cl → Prop
  | nil : HsOk X H0 [] [] []
  | only {te : Expr} {cs : List Value} {mt : Value → Option Bool} {g : EM Fl} {b₀ : Stmt} {suite : List Stmt} {pos' : Pos} {hds : List ExceptHandler} {l : List HM} {ls : List Cl} (hc : ClOk X te cs) (hm : ∀ cls b, mt cls = some b → PySem.W.exmAny X.K cls cs = some b)
      (hsu : ∀ (a : Addr) (oe : Obj) (cls : Value) (d : Option Addr) (pn : List (Addr × Obj)), Zc cls d oe → (∃ vs, oe.data = .fields vs) → PSs (X.suite a ((a, oe) :: pn)) (b₀ :: suite) (tSt X.K H0 (fun _ _ _ _ => False) g)) (r : HsOk X H0 hds l ls) :
      HsOk X H0 (.ExceptHandler (some te) none (b₀ :: suite) pos' :: hds) (⟨mt, none, g⟩ :: l) (⟨cs, none, fun _ _ _ => tSt X.K H0 (fun _ _ _ _ => False) g⟩ :: ls)
  | as {te : Expr} {cs : List Value} {n : Str} {i : Nat} {mt : Value → Option Bool} {g : EM Fl} {b₀ : Stmt} {suite : List Stmt} {pos' : Pos} {hds : List ExceptHandler} {l : List HM} {ls : List Cl} (hc : ClOk X te cs) (hm : ∀ cls b, mt cls = some b → PySem.W.exmAny X.K cls cs = some b) (hi : X.N[i]? = some n) (hln : X.env.kindOf n = some .local)
      (hsu : ∀ (a : Addr) (oe : Obj) (cls : Value) (d : Option Addr) (pn : List (Addr × Obj)), Zc cls d oe → (∃ vs, oe.data = .fields vs) → PSs (X.suite a ((a, oe) :: pn)) (b₀ :: suite) (tSt X.K (H0.sees a cls d) (fun _ _ _ _ => False) g)) (r : HsOk X H0 hds l ls) :
      HsOk X H0 (.ExceptHandler (some te) (some n) (b₀ :: suite) pos' :: hds) (⟨mt, some i, g⟩ :: l) (⟨cs, some i, fun a cls d => tSt X.K (H0.sees a cls d) (fun _ _ _ _ => False) g⟩ :: ls)
theorem HsOk.cls {hds : List ExceptHandler} {l : List HM} {ls : List Cl} (h : HsOk X H0 hds l ls) : ClsOk X hds ls := by
  induction h with
  | nil => exact .nil
  | only hc hm hsu r ih => exact .only hc hsu ih
  | as hc hm hi hln hsu r ih => exact .as hc hi hln hsu ih
theorem hs_weak {hds : List ExceptHandler} {l : List HM} {ls : List Cl} (h : HsOk X H0 hds l ls) : ∀ {F H : Hp} {ρ : En} {A : Nat → Addr} {o : Out Fl} {C : Value} {fs : List (Str × D)} {d : Option Addr} {σ : L2.St}, ER X.K H0 F H σ ρ A → ExAt X.K F d fs → gHs C fs l ρ = some o → PostS X.K H0 Wout G F H ρ A o → wCl X.K Wout G ls C d σ H := by
  induction h with
  | nil =>
    intro F H ρ A o C fs d σ er x e p
    cases e
    exact p d σ F H A .refl er .refl x
  | @only te cs mt g b₀ suite pos' hds l ls hc hm hsu r ih =>
    intro F H ρ A o C fs d σ er x e p
    unfold gHs at e
    cases em : mt C with
    | none => simp only [em] at e; cases e
    | some b =>
      refine ⟨b, hm C b em, fun hb a ha => ?_, fun hb => ?_⟩
      · subst hb
        simp only [em] at e
        cases eg : g ρ with
        | none => rw [eg] at e; cases e
        | some og =>
          rw [eg] at e
          cases og with
          | ex _ _ _ => cases e
          | ok fl ρ' =>
            cases e
            refine ⟨F, ρ, A, er, _, eg, ?_⟩
            cases fl <;> exact p
      · subst hb
        simp only [em] at e
        exact ih er x e p
  | @as te cs n i mt g b₀ suite pos' hds l ls hc hm hi hln hsu r ih =>
    intro F H ρ A o C fs d σ er x e p
    unfold gHs at e
    cases em : mt C with
    | none => simp only [em] at e; cases e
    | some b =>
      refine ⟨b, hm C b em, fun hb a ha => ?_, fun hb => ?_⟩
      · subst hb
        simp only [em] at e
        obtain ⟨c, e⟩ := ite_some' e
        rw [Bool.and_eq_true, Bool.not_eq_true'] at c
        obtain ⟨hl, np⟩ := isParB_no c.2
        cases eg : g (ρ.set i (.exc C fs)) with
        | none => rw [eg] at e; cases e
        | some og =>
          rw [eg] at e
          dsimp only at e
          cases eu : unR i og with
          | none => rw [eu] at e; cases e
          | some o' =>
            rw [eu] at e
            obtain ⟨c2, e⟩ := ite_some' e
            cases e
            rw [Bool.and_eq_true, Bool.not_eq_true'] at c2
            obtain ⟨ne2, c3⟩ := c2
            obtain ⟨hl2, np2⟩ := isParB_no c3
            have er1 : ER X.K (H0.sees a C d) F H σ ρ A := er.reex rfl rfl c.1
            have er2 : ER X.K (H0.sees a C d) F H (σ.set i (some (.ref a))) (ρ.set i (.exc C fs)) A := er1.setFlat hl rfl fun σ' e' => ⟨a, d, e', ⟨rfl, rfl, rfl⟩, x⟩
            have st : StepS ρ A (ρ.set i (.exc C fs)) A H := StepS.setFlat hl rfl np
            have p2 := p.later (Tr.refl (S := OwnA ρ A) (F := F) (H := H)) st
            refine ⟨F, _, A, er2, og, eg, ?_⟩
            have go : ∀ {σ' : L2.St} {F' H' : Hp} {ρ' : En} {A' : Nat → Addr}, outE og = ρ' → noE (ρ'.set i .un) = true → ER X.K (H0.sees a C d) F' H' σ' ρ' A' → StepS (ρ.set i (.exc C fs)) A ρ' A' H → ER X.K H0 F' H' (σ'.set i none) (ρ'.set i .un) A' ∧ StepS (ρ.set i (.exc C fs)) A (ρ'.set i .un) A' H := by
              intro σ' F' H' ρ' A' eo hn er' s'
              subst eo
              refine ⟨ER.reex (H0 := H0.sees a C d) (er'.setFlat hl2 rfl fun _ _ => trivial) rfl rfl hn, s'.trans (Tr.refl (S := fun _ => False) (F := F)) (StepS.setFlat hl2 rfl np2)⟩
            cases og with
            | ex _ _ _ => cases eu
            | ok fl ρ' =>
              cases fl with
              | nx =>
                cases eu
                exact fun σ' F' H' A' tr' er' s' => let ⟨q1, q2⟩ := go rfl ne2 er' s'; p2 _ F' H' A' tr' q1 q2
              | bk =>
                cases eu
                exact fun σ' F' H' A' tr' er' s' => let ⟨q1, q2⟩ := go rfl ne2 er' s'; p2 _ F' H' A' tr' q1 q2
              | ct =>
                cases eu
                exact fun σ' F' H' A' tr' er' s' => let ⟨q1, q2⟩ := go rfl ne2 er' s'; p2 _ F' H' A' tr' q1 q2
              | rt r =>
                have main : (∀ j, r = .brw j → j ≠ i) → some (Out.ok (Fl.rt r) (ρ'.set i .un)) = some o → PostS X.K (H0.sees a C d) (fun _ _ _ _ => False) (endC (some i) G) F H (ρ.set i (.exc C fs)) A (.ok (.rt r) ρ') := by
                  intro hj eo
                  cases eo
                  intro v σ' F' H' A' tr' er' s' ra
                  obtain ⟨q1, q2⟩ := go rfl ne2 er' s'
                  refine p2 v _ F' H' A' tr' q1 q2 ?_
                  have hl3 : i < ρ'.length := hl2
                  cases r with
                  | val d' => exact ra
                  | new m =>
                    obtain ⟨pp, h1, h2, h3, h4, h5, h6⟩ := ra
                    refine ⟨pp, h1, h2, fun ⟨j, m', z1, z2⟩ => h3 ⟨j, m', ?_, z2⟩, h4, h5, h6⟩
                    rw [moAt_set hl3] at z1
                    split at z1
                    · cases z1
                    · exact z1
                  | brw j =>
                    obtain ⟨⟨m, h1⟩, h2⟩ := ra
                    exact ⟨⟨m, by rw [moAt_set hl3, if_neg (hj j rfl)]; exact h1⟩, h2⟩
                cases r with
                | val d' => exact main (fun j z => nomatch z) eu
                | new m => exact main (fun j z => nomatch z) eu
                | brw j =>
                  replace eu : (if j = i then none else some (Out.ok (Fl.rt (Res.brw j)) (ρ'.set i .un))) = some o := eu
                  by_cases z : j = i
                  · rw [if_pos z] at eu; cases eu
                  · rw [if_neg z] at eu
                    exact main (fun j' z' => by cases z'; exact z) eu
      · subst hb
        simp only [em] at e
        exact ih er x e p
theorem c_try {body : List Stmt} {h₀ : ExceptHandler} {hds : List ExceptHandler} {l : List HM} {ls : List Cl} {gb : EM Fl} {pos : Pos} (hs : X.stack = X.env :: X.outer) (hf : X.env.frame = some X.env.locals) (hN : X.N.Nodup) (tk : Takes X Wout)
    (hb : ∀ (W : WX) (pn : List (Addr × Obj)) (xe : Value → Shared → Prop), Takes (X.tr pn xe) W → PassesOwn (model X.prog X.w) X.A X.env xe → PSs (X.tr pn xe) body (tSt X.K H0 W gb))
    (hh : HsOk X H0 (h₀ :: hds) l ls) : PS X (.Try body (h₀ :: hds) [] [] pos) (tSt X.K H0 Wout (gTry gb l)) :=
  (ps_try_cl (tb := fun W => tSt X.K H0 W gb) hs hf hN tk hb hh.cls).weak fun G σ H h => by
    obtain ⟨F, ρ, A, er, o, e, p⟩ := h
    refine ⟨F, ρ, A, er, ?_⟩
    unfold gTry at e
    cases eg : gb ρ with
    | none => rw [eg] at e; cases e
    | some og =>
      rw [eg] at e
      refine ⟨og, rfl, ?_⟩
      cases og with
      | ex C fs ρ1 => exact fun d σ' F' H' A' tr er' s x => hs_weak hh er' x e (p.later tr s)
      | ok fl ρ1 =>
        cases e
        cases fl with
        | nx => exact p
        | bk => exact p
        | ct => exact p
        | rt r => exact p
end

/-! ### in a suite: e.f, isinstance(e, C) -/
def gXf (P : Value → Bool) (i : Nat) (f : Str) : EM Res := fun ρ => match ρ[i]? with
  | some (.exc C fs) => if P C = true then (match fs.lookup f with
    | some d => some (.ok (.val d) ρ)
    | none => none) else none
  | _ => none
def gIsX (mt : Value → Option Bool) (i : Nat) : EM Res := fun ρ => match ρ[i]? with
  | some (.exc C fs) => (mt C).map fun b => .ok (.val (.bl b)) ρ
  | _ => none
theorem RepF.lookup {K : PySem.W.Frag} {F : Hp} {f : Str} : ∀ {xs : List (Str × V)} {ds : List (Str × D)} {d : D}, RepF K F xs ds → ds.lookup f = some d → ∃ v, xs.lookup f = some v ∧ Rep K F v d
  | _, _, _, .nil, e => by cases e
  | _, _, d, .cons (k := k) (x := x) (xs := xs) (d := d0) (ds := ds) h r, e => by
    unfold List.lookup at e ⊢
    cases q : f == k with
    | true => rw [q] at e; cases e; exact ⟨x, rfl, h⟩
    | false => rw [q] at e; exact RepF.lookup r e
section
variable {X : Cx} {H0 : HE} {W : WX} {a : Addr} {cls : Value} {d : Option Addr} {oe : Obj} {pn : List (Addr × Obj)} {pos p1 p2 p3 : Pos}
theorem p_xf (P : Value → Bool) (i : Nat) {x f : Str} (hz : Zc cls d oe) (hf : ∃ vs, oe.data = .fields vs) (hP : ∀ C, P C = true → ∃ c, C = .ref c ∧ XfC X.K c ∧ PySem.W.findIn X.K (.ref c) f = some none)
    (hN : X.N[i]? = some x := by rfl) (hv : Vis X.env.scope x := by first | exact Or.inl rfl | exact Or.inr (Or.inl rfl) | exact Or.inr (Or.inr rfl)) (hd : (x == ("__debug__" : Str)) = false := by decide)
    (hcd : (x == ("__classdict__" : Str)) = false := by decide) (hb : attributeBase (.Name x p1) f X.env (eval (.Name x p1) X.env) = eval (.Name x p1) X.env := by rfl) :
    PE (X.suite a ((a, oe) :: pn)) (.Attribute (.Name x p1) f pos) (tE X.K (H0.sees a cls d) W (gXf P i f)) := by
  by_cases hk : ∃ C, cls = .ref C ∧ XfC X.K C ∧ PySem.W.findIn X.K (.ref C) f = some none
  · obtain ⟨C, rfl, T, hno⟩ := hk
    refine (pe_xf (X := X) T hno hz hf (pe_var (X := X.suite a ((a, oe) :: pn)) (i := i) hN hv hd hcd) hb).weak fun σ H Q h => ?_
    obtain ⟨F, ρ, A, er, kn, o, e, p⟩ := h
    unfold gXf at e
    cases q : ρ[i]? with
    | none => rw [q] at e; cases e
    | some s =>
      rw [q] at e
      have so := er.sl i s q
      cases s with
      | exc C' fs =>
        obtain ⟨c, e2⟩ := ite_some' e
        clear e
        obtain ⟨a', d', h1, ⟨rfl, rfl, rfl⟩, h3⟩ := so
        cases el : fs.lookup f with
        | none => rw [el] at e2; cases e2
        | some dd =>
          rw [el] at e2
          cases e2
          rcases h3 with ⟨_, rfl⟩ | ⟨dx, vs, rfl, h4, h5⟩
          · cases el
          · obtain ⟨v, l1, r1⟩ := h5.lookup el
            exact ⟨_, h1, rfl, rfl, dx, vs, v, rfl, er.le.xd _ _ h4, l1, p v F H .refl er .refl r1⟩
      | _ => cases e
  · refine ⟨fun pins s σ H Q I h => ?_⟩
    exfalso
    obtain ⟨F, ρ, A, er, kn, o, e, p⟩ := h
    unfold gXf at e
    cases q : ρ[i]? with
    | none => rw [q] at e; cases e
    | some s =>
      rw [q] at e
      have so := er.sl i s q
      cases s with
      | exc C' fs =>
        obtain ⟨c, e⟩ := ite_some' e
        obtain ⟨a', d', h1, ⟨rfl, rfl, rfl⟩, h3⟩ := so
        exact hk (hP _ c)
      | _ => cases e
def rIsX (K : PySem.W.Frag) (D a : Addr) (d : Option Addr) : List V → Hp → VK → Prop := fun xs H Q => ∃ (c : V) (cv : Value) (b : Bool), xs = [.ref a, c] ∧ (∀ u, RelV c u → u = cv) ∧ PySem.W.kitOne K (.ref D) cv = some b ∧ (d = none ∨ ∃ dx vs, d = some dx ∧ H dx = some (.xd vs)) ∧ Q (.bl b) H
theorem call_isX {D : Addr} (C : L2.ExcC X.K D) (hz : Zc (.ref D) d oe) (hf : ∃ vs, oe.data = .fields vs) : CallR (X.suite a ((a, oe) :: pn)) (.builtin "isinstance") (rIsX X.K D a d) := by
  intro pins s σ H xs us Q I r h
  obtain ⟨c, cv, b, rfl, hcv, e, hd, q⟩ := h
  cases r with
  | cons rx rr =>
    cases rr with
    | cons rt rr =>
      cases rr
      cases rx
      have ec := hcv _ rt
      subst ec
      obtain ⟨hget, _⟩ := I.pin (a, oe) (List.mem_append.mpr (.inl List.mem_cons_self))
      obtain ⟨vs, hv⟩ := hf
      have hcl : (PySem.W.clsIn X.K D).isSome = true := by obtain ⟨cd, hc, _⟩ := PySem.W.any_some C.hd; rw [hc]; rfl
      have J : ∃ od, PySem.W.InstAt s.heap a oe D od := by
        rcases hd with rfl | ⟨dx, ws, rfl, hx⟩
        · refine ⟨none, hget, hz.1, by unfold PySem.W.notCls; rw [hv] <;> rfl, ?_⟩
          rw [hz.2]; trivial
        · obtain ⟨mA, hns, hr⟩ := (show ObjOk X.prog X.w H s.heap dx (.xd ws) from I.hok dx _ hx)
          obtain ⟨od, ho, hl⟩ := lookIn_ns hns
          exact ⟨some od, hget, hz.1, by unfold PySem.W.notCls; rw [hv] <;> rfl, by rw [hz.2]; exact ho⟩
      obtain ⟨od, J⟩ := J
      exact PySem.W.kia_one (PySem.W.kitx_exc hcl C.hg C.hk C.hs C.ha C.hn C.ht C.hm) I.kIn J e (fun z => nomatch z) fun tk => ⟨.bl b, H, I.kept (t' := tk) fun _ _ z => z, rfl, q⟩
theorem p_isx (mt : Value → Option Bool) (i : Nat) {x c : Str} {cv : Value} {C0 : V} (hz : Zc cls d oe) (hf : ∃ vs, oe.data = .fields vs) (hP : ∀ C b, mt C = some b → ∃ c, C = .ref c ∧ L2.ExcC X.K c ∧ PySem.W.kitOne X.K (.ref c) cv = some b)
    (hg : Gl X "isinstance") (hm : X.mg "isinstance" = none) (hgc : Gl X c) (hmc : X.mg c = some cv) (rc : RelV C0 cv) (hcv : ∀ u, RelV C0 u → u = cv) (hdc : (c == ("__debug__" : Str)) = false := by decide)
    (hN : X.N[i]? = some x := by rfl) (hv : Vis X.env.scope x := by first | exact Or.inl rfl | exact Or.inr (Or.inl rfl) | exact Or.inr (Or.inr rfl)) (hd : (x == ("__debug__" : Str)) = false := by decide)
    (hcd : (x == ("__classdict__" : Str)) = false := by decide) : PE (X.suite a ((a, oe) :: pn)) (.Call (.Name "isinstance" p1) [.Name x p2, .Name c p3] [] pos) (tE X.K (H0.sees a cls d) W (gIsX mt i)) := by
  by_cases hk : ∃ D, cls = .ref D ∧ L2.ExcC X.K D
  · obtain ⟨D, rfl, T⟩ := hk
    refine (pe_callB (X := X.suite a ((a, oe) :: pn)) (call_isX T hz hf) hg hm PyProof.Rows.Boot.«isinstance» (pa_cons (pe_var (i := i) hN hv hd hcd) (pa_cons (pe_glob hgc hmc rc hdc) pa_nil))).weak fun σ H Q h => ?_
    obtain ⟨F, ρ, A, er, kn, o, e, p⟩ := h
    unfold gIsX at e
    cases q : ρ[i]? with
    | none => rw [q] at e; cases e
    | some s =>
      rw [q] at e
      have so := er.sl i s q
      cases s with
      | exc C' fs =>
        obtain ⟨b, e1, rfl⟩ := map_some' e
        obtain ⟨a', d', h1, ⟨rfl, rfl, rfl⟩, h3⟩ := so
        obtain ⟨c', ec, _, hk'⟩ := hP _ b e1
        cases ec
        refine ⟨_, h1, C0, cv, b, rfl, hcv, hk', ?_, p (.bl b) F H .refl er .refl (.bl b)⟩
        rcases h3 with ⟨rfl, _⟩ | ⟨dx, vs, rfl, h4, _⟩
        · exact .inl rfl
        · exact .inr ⟨dx, vs, rfl, er.le.xd _ _ h4⟩
      | _ => cases e
  · refine ⟨fun pins s σ H Q I h => ?_⟩
    exfalso
    obtain ⟨F, ρ, A, er, kn, o, e, p⟩ := h
    unfold gIsX at e
    cases q : ρ[i]? with
    | none => rw [q] at e; cases e
    | some s =>
      rw [q] at e
      have so := er.sl i s q
      cases s with
      | exc C' fs =>
        obtain ⟨b, e1, rfl⟩ := map_some' e
        obtain ⟨a', d', h1, ⟨rfl, rfl, rfl⟩, h3⟩ := so
        obtain ⟨c', ec, hx, _⟩ := hP _ b e1
        exact hk ⟨c', ec, hx⟩
      | _ => cases e
end
end M

/-! M13: enumerate over a tuple. -/
namespace M
open PySem PySem.Spec PyProof.Rows L2

set_option maxHeartbeats 1000000 in
theorem meets_enum_B {v : Value} {o : Obj} {H : Heap → Prop} (B : Begins v o H) :
    Meets (Builtin.«enumerate.__new__» ⟨[.type "enumerate", v], []⟩) (fun _ R s => H s.heap ∧
      R (.ok (.ret (.ref (s.heap.push o).objs.size))) { s with heap := (s.heap.push o).push { cls := .type "enumerate", data := .fields #[.none, .bool false, .ref s.heap.objs.size, rawInt 0, .none, .none] } }) :=
  .of_wp fun prog w A R s h => by
    obtain ⟨hp, g, d, tk, os⟩ := s; obtain ⟨h1, h⟩ := h
    have hsub := sub_enumerate
    have q1 : ∀ {A' : Around} {E : Value → Shared → Prop} {Q : Value → Shared → Prop}, Q (.ref hp.objs.size) ⟨hp.push o, g, d, tk, os⟩ → wpAny (model prog w) A' (pyIter v) Q E ⟨hp, g, d, tk, os⟩ :=
      fun q => B.iter prog w _ _ ⟨hp, g, d, tk, os⟩ _ h1 q
    wp_walk using q1
    refine wpAny_stack_any fun st => wpAny_pure ?_
    split
    · rename_i c _ _ _ _ _
      cases (c == Value.type "enumerate")
      · wp_walk using q1
        exact ⟨_, rfl, h⟩
      · wp_walk using q1
        exact ⟨_, rfl, h⟩
    · wp_walk using q1
      exact ⟨_, rfl, h⟩
theorem enum_begins1 {prog : Program} {w : World} {A : Around} {E : Value → Shared → Prop} {s : Shared} {v : Value} {o : Obj} {H : Heap → Prop} {Q : Value → Shared → Prop} (B : Begins v o H) (h1 : H s.heap)
    (h : ∀ h', IsEnum h' (s.heap.objs.size + 1) s.heap.objs.size 0 .none → h'.get? s.heap.objs.size = some o → h'.objs.size = s.heap.objs.size + 2 →
      (∀ b o, s.heap.get? b = some o → h'.get? b = some o) → Q (.ref (s.heap.objs.size + 1)) { s with heap := h' }) :
    wpAny (model prog w) A (call (.type "enumerate") [v]) Q E s := by
  refine callType_new F.called_enumerate (by decide) (F.typeCall_enumerate_1 _) (F.newCall_enumerate_1 _) (fun obj => F.args_object_init_2 obj _) F.entry_enumerate_new
    (meets_enum_B B) ⟨h1, ?_⟩
  have hz : (s.heap.push o).objs.size = s.heap.objs.size + 1 := Heap.size_push ..
  show _ ∧ _
  rw [hz]
  have he : IsEnum ((s.heap.push o).push { cls := .type "enumerate", data := .fields #[.none, .bool false, .ref s.heap.objs.size, rawInt 0, .none, .none] }) (s.heap.objs.size + 1) s.heap.objs.size 0 .none := by
    have := Heap.get?_push_size (s.heap.push o) (o := { cls := .type "enumerate", data := .fields #[.none, .bool false, .ref s.heap.objs.size, rawInt 0, .none, .none] }) rfl
    rw [hz] at this; exact this
  refine ⟨⟨_, he, rfl⟩, h _ he (Heap.get?_push_of_some _ (Heap.get?_push_size _ B.free)) (by rw [Heap.size_push, hz]) fun b o x => Heap.get?_push_of_some _ (Heap.get?_push_of_some _ x)⟩

/-- the tuple at a, each item in a new pair -/
def IteT (K : PySem.W.Frag) (a : Addr) : It :=
  ⟨fun i H => ∃ (xs : List V) (x : V), SqT K H a xs ∧ xs[i]? = some x, fun i H v H' => ∃ T x, v = .ref T ∧ H T = none ∧ H' = upd H T (.tup [.int (i : Nat), x]) ∧ ∀ xs, SqT K H a xs → xs[i]? = some x, fun i H => ∃ xs : List V, SqT K H a xs ∧ xs.length ≤ i⟩
theorem turn_enumT {P : Program} {w : World} {K : PySem.W.Frag} {elts : List Expr} {kk : Nat} {tpos : Pos} (a e it : Addr) :
    Turn P w K (.Tuple elts kk tpos) (IteT K a) [e, it] e (fun i h => (∃ old, IsEnum h e it ((i : Nat) : Int) old) ∧ h.IsTupleIter it a i ∧ e ≠ it ∧ a ≠ it ∧ a ≠ e) where
  mem := by simp
  obj := fun i h st b hb => by
    obtain ⟨⟨old, he⟩, ⟨o, ho, hc, hd⟩, _⟩ := st
    have e' : b = e ∨ b = it := by simpa using hb
    rcases e' with z | z
    · rw [z]; exact ⟨_, he, fun v q => nomatch q⟩
    · rw [z]; exact ⟨o, ho, fun v q => by rw [hd] at q; cases q⟩
  keep := fun i h h' st k => let ⟨⟨old, he⟩, hi, hne⟩ := st; ⟨⟨old, k e (by simp) _ he⟩, hi.at fun o q => k it (by simp) o q, hne⟩
  item := by
    intro X hP hw hK hc i pins s σ H E I hf st hg
    subst hP hw hK
    obtain ⟨⟨old, he⟩, hit, hne, hai, hae⟩ := st
    obtain ⟨xs, x, hq, hx⟩ := hg
    obtain ⟨its, rv, p, hz⟩ := I.tuple hq
    obtain ⟨u, hu, ru⟩ := rv.get hx
    have hel : e < s.heap.objs.size := Heap.lt_size he
    have hil : it < s.heap.objs.size := by obtain ⟨_, q, _⟩ := hit; exact Heap.lt_size q
    have hlt : i < its.toArray.size := by
      have := (List.getElem?_eq_some_iff.mp hu).1
      simpa using this
    refine wpAny_pyNext_enum_itemD (Draws.tuple (prog := X.prog) (w := X.w) (A := X.A.in1) (I.ok.hd hc) it a hai its.toArray) he ⟨hit, p⟩ hlt hne (by simp [hne, Ne.symm hae]) fun x' h' tk hx' ho hit' hT hsz hk => ?_
    have : x' = u := by
      have hx'' : its.toArray[i]? = some x' := hx'
      rw [List.getElem?_toArray, hu] at hx''
      exact (Option.some.inj hx'').symm
    subst this
    refine ⟨_, rfl, wpAny_letOwnedTupleGo_enum (s := { s with heap := h', toks := tk + 1 }) ho fun h'' he' sb => ?_⟩
    have hT2 : h''.get? s.heap.objs.size = some { cls := .type "tuple", data := .seq #[.int i tk, x'] } := (sb.2 _ (Nat.ne_of_gt hel)).trans hT
    have new : ObjOk X.prog X.w (upd H s.heap.objs.size (.tup [.int (i : Nat), x])) h'' s.heap.objs.size (.tup [.int (i : Nat), x]) :=
      ⟨by show 2 ≤ sizeLine; decide, [.int i tk, x'], .cons ⟨_, rfl⟩ (.cons ru .nil), ⟨_, hT2, rfl, _, rfl⟩⟩
    have I1 : Inv X pins σ (upd H s.heap.objs.size (.tup [.int (i : Nat), x])) { s with heap := h'', toks := tk + 1 } :=
      I.turnedNew (ch := [e, it]) (fun b ob hb q => (sb.2 b (fun z => hb (by simp [z]))).trans (hk b ob (fun z => hb (by simp [z])) (fun z => hb (by simp [z])) q)) hf (Nat.le_refl _) new
    refine ⟨.ref s.heap.objs.size, _, I1, rfl, ⟨_, x, rfl, I.hok.fresh (Nat.le_refl _), rfl, fun ys hy => by rw [I.tuple_inj hy hq]; exact hx⟩, ⟨⟨x', ?_⟩, hit'.1.at fun o q => (sb.2 it (Ne.symm hne)).trans q, hne, hai, hae⟩, fun b hb => ?_⟩
    · have e1 : ((i + 1 : Nat) : Int) = (i : Int) + 1 := by omega
      rw [e1]; exact he'
    · have hb' : b < s.heap.objs.size := by
        have e' : b = e ∨ b = it := by simpa using hb
        rcases e' with z | z
        · rw [z]; exact hel
        · rw [z]; exact hil
      rw [upd_ne (Nat.ne_of_lt hb')]
      exact (hf b hb).1
  done := by
    intro X hP hw hK hc i pins s σ H E I hf st hg
    subst hP hw hK
    obtain ⟨⟨old, he⟩, hit, hne, hai, hae⟩ := st
    obtain ⟨xs, hq, hx⟩ := hg
    obtain ⟨its, rv, p, hz⟩ := I.tuple hq
    obtain ⟨f0, f1, f2, f3, f4, f5⟩ := hf it (by simp)
    have hT : s.TypeIs (.ref e) "enumerate" := ⟨_, he, rfl⟩
    have hl := rv.length
    unfold pyNext
    refine wpAny_bind (wpAny_attempt (wpAny_callSpecial?_slot (name := Str.ofString "__next__") hT F.slot_enumerate_next
      (wpAny_call_entry F.slot_enumerate_next hT F.entry_enumerate_next ?_ (F.args_enumerate_next_1 _))))
    show wpAny _ _ (field (.ref e) 2 >>= _) _ _ _
    refine wpAny_bind (wpAny_field he rfl (x := .ref it) rfl ?_)
    refine wpAny_bind (wpAny_nextOf_tuple_end (I.ok.hd hc) hit p (by simp; omega) fun h' x he' hx' => ?_)
    obtain ⟨o, ho, hc'⟩ := hx'
    refine wpAny_bind (wpAny_isInstance (T := "StopIteration") (b := true) ⟨o, ho, hc'⟩ isSubtype_stop ?_)
    exact wpAny_pure ⟨rfl, I.turned (t' := s.toks) (fun b o hb q => he' b o hb q) f0 f1 f3 f4 f5⟩
  self := fun A i s Q E st h => let ⟨⟨_, he⟩, _⟩ := st; wpAny_pyIter_enum he h
def iEnumT (K : PySem.W.Frag) (ta : TA) : TI := fun σ H R => ta σ H fun vs H1 => ∃ a xs, vs = [.ref a] ∧ SqT K H1 a xs ∧ R (IteT K a) H1
theorem pi_enumT {X : Cx} {e : Expr} {ta : TA} {p pos tpos : Pos} {elts : List Expr} {kk : Nat} (hg : Gl X "enumerate") (hm : X.mg "enumerate" = none) (ha : PA X [e] ta) (hs : starEach [e] X.env = [(false, eval e X.env)] := by rfl) :
    PI X (.Tuple elts kk tpos) (.Call (.Name "enumerate" p) [e] [] pos) (iEnumT X.K ta) := by
  refine ⟨fun pins s σ H R I h => ?_⟩
  refine Call_ (ld_blt I hg hm boot_enumerate (PyProof.Rows.callWith_type1 (thn (ha.run pos pins s σ H _ I h) fun us s1 ⟨vs, H1, I1, r1, q1⟩ => ?_) hs rfl))
  obtain ⟨a, xs, ex, hq, q⟩ := q1
  subst ex
  cases r1 with
  | cons r rr =>
    cases rr
    cases r
    obtain ⟨its, rv, p', hz⟩ := I1.tuple hq
    have hal : a < s1.heap.objs.size := by obtain ⟨o, ho, _⟩ := p'; exact Heap.lt_size ho
    refine enum_begins1 (begins_tuple a its.toArray) p' fun h' he hit hsz hk => wpAny_pyIter_enum he ?_
    have I2 : Inv X pins σ H1 { s1 with heap := h' } := I1.kept (t' := s1.toks) hk
    refine ⟨s1.heap.objs.size + 1, [s1.heap.objs.size + 1, s1.heap.objs.size], _, _, H1, rfl, I2, turn_enumT a (s1.heap.objs.size + 1) s1.heap.objs.size, ⟨⟨.none, he⟩, ⟨_, hit, rfl, rfl⟩, Nat.succ_ne_self _, Nat.ne_of_lt hal, Nat.ne_of_lt (Nat.lt_succ_of_lt hal)⟩, fun b hb => ?_, q⟩
    have e' : b = s1.heap.objs.size + 1 ∨ b = s1.heap.objs.size := by simpa using hb
    have hle : s1.heap.objs.size ≤ b := by
      rcases e' with z | z
      · rw [z]; exact Nat.le_add_right _ _
      · rw [z]; exact Nat.le_refl _
    exact I1.fpOk hle (I1.hok.fresh hle)
/-! ### the mirror -/
def enumD (i : Nat) : List D → List D
  | [] => []
  | d :: ds => .tup [.int (i : Int), d] :: enumD (i + 1) ds
theorem enumD_get : ∀ {ds : List D} {i j : Nat} {d : D}, ds[j]? = some d → (enumD i ds)[j]? = some (.tup [.int ((i + j : Nat) : Int), d])
  | [], _, _, _, e => by simp at e
  | d0 :: ds, i, 0, d, e => by
    cases Option.some.inj e
    rfl
  | d0 :: ds, i, j + 1, d, e => by
    have := enumD_get (ds := ds) (i := i + 1) (j := j) (by simpa using e)
    unfold enumD
    rw [List.getElem?_cons_succ, this, show i + 1 + j = i + (j + 1) by omega]
theorem enumD_len : ∀ {ds : List D} {i : Nat}, (enumD i ds).length = ds.length
  | [], _ => rfl
  | _ :: ds, i => by unfold enumD; rw [List.length_cons, List.length_cons, enumD_len]
def gEnum (f : D → Option (List D)) (gs : EM (List Res)) : EM (List D) := gs.bind fun rs => match rs with
  | [.val d] => EM.lift ((f d).map (enumD 0))
  | _ => fun _ => none
section
variable {X : Cx} {H0 : HE} {W : WX} {e : Expr} {gs : EM (List Res)} {p pos tpos : Pos} {elts : List Expr} {kk : Nat}
theorem i_enumT (hg : Gl X "enumerate") (hm : X.mg "enumerate" = none) (ha : PA X [e] (tA X.K H0 W gs)) (hs : starEach [e] X.env = [(false, eval e X.env)] := by rfl) :
    PI X (.Tuple elts kk tpos) (.Call (.Name "enumerate" p) [e] [] pos) (tI X.K H0 W (gEnum tupItems gs)) := ⟨fun pins s σ H R I h => (pi_enumT hg hm ha hs).run pins s σ H R I (by
  obtain ⟨F, ρ, A, h⟩ := h
  refine ⟨F, ρ, A, h.bind fun vs rs F1 H1 ρ1 tr sb ra h1 => ?_⟩
  split at h1
  · rename_i d
    obtain ⟨l, el, h2⟩ := h1.lift
    obtain ⟨ds, e1, rfl⟩ := map_some' el
    obtain ⟨pr, _⟩ := ra
    cases pr with
    | cons h t =>
      cases t
      cases h with
      | @tup a xs ds0 sq rs =>
        cases e1
        refine ⟨a, xs, rfl, le_t h2.1.le sq, h2.ret (b := IteT X.K a) ⟨fun F' H' i l1 l2 hi => ?_, fun F' H' i x H2 l1 l2 y hi => ?_, fun F' H' i l1 l2 hi => ?_⟩⟩
        · rw [enumD_len] at hi
          obtain ⟨v, hv, _⟩ := rs.get (List.getElem?_eq_getElem hi)
          exact ⟨xs, v, le_t l2 (le_t l1 sq), hv⟩
        · obtain ⟨T, y, rfl, hT, rfl, q⟩ := y
          obtain ⟨d', hd, rd⟩ := rs.get' (q xs (le_t l2 (le_t l1 sq)))
          refine ⟨_, enumD_get hd, .inr ⟨T, _, _, rfl, hT, rfl, ?_, rfl⟩⟩
          rw [Nat.zero_add]
          exact .cons (.int _) (.cons (rd.mono l1) .nil)
        · rw [enumD_len] at hi
          exact ⟨xs, le_t l2 (le_t l1 sq), by rw [rs.length]; exact hi⟩
      | _ => cases e1
  · obtain ⟨_, _, _, e, _⟩ := h1; cases e)⟩
theorem i_enumL (hg : Gl X "enumerate") (hm : X.mg "enumerate" = none) (ha : PA X [e] (tA X.K H0 W gs)) (hs : starEach [e] X.env = [(false, eval e X.env)] := by rfl) :
    PI X (.Tuple elts kk tpos) (.Call (.Name "enumerate" p) [e] [] pos) (tI X.K H0 W (gEnum lstItems gs)) := ⟨fun pins s σ H R I h => (pi_enum hg hm ha hs).run pins s σ H R I (by
  obtain ⟨F, ρ, A, h⟩ := h
  refine ⟨F, ρ, A, h.bind fun vs rs F1 H1 ρ1 tr sb ra h1 => ?_⟩
  split at h1
  · rename_i d
    obtain ⟨l, el, h2⟩ := h1.lift
    obtain ⟨ds, e1, rfl⟩ := map_some' el
    obtain ⟨pr, _⟩ := ra
    cases pr with
    | cons h t =>
      cases t
      obtain ⟨a, xs, rfl, sq, rs⟩ := rep_l h e1
      refine ⟨a, xs, rfl, le_l h2.1.le sq, h2.ret (b := Ite X.K a) ⟨fun F' H' i l1 l2 hi => ?_, fun F' H' i x H2 l1 l2 y hi => ?_, fun F' H' i l1 l2 hi => ?_⟩⟩
      · rw [enumD_len] at hi
        obtain ⟨v, hv, _⟩ := rs.get (List.getElem?_eq_getElem hi)
        exact ⟨xs, v, le_l l2 (le_l l1 sq), hv⟩
      · obtain ⟨T, y, rfl, hT, rfl, q⟩ := y
        obtain ⟨d', hd, rd⟩ := rs.get' (q xs (le_l l2 (le_l l1 sq)))
        refine ⟨_, enumD_get hd, .inr ⟨T, _, _, rfl, hT, rfl, ?_, rfl⟩⟩
        rw [Nat.zero_add]
        exact .cons (.int _) (.cons (rd.mono l1) .nil)
      · rw [enumD_len] at hi
        exact ⟨xs, le_l l2 (le_l l1 sq), by rw [rs.length]; exact hi⟩
  · obtain ⟨_, _, _, e, _⟩ := h1; cases e)⟩
end
end M

/-! M14: list comprehensions. -/
namespace M
open PySem PySem.Spec PyProof.Rows L2

def wipeE (ρ : En) : List Nat → En
  | [] => ρ
  | v :: vs => (wipeE ρ vs).set v .un
theorem wipeE_len {ρ : En} : ∀ {vs : List Nat}, (wipeE ρ vs).length = ρ.length
  | [] => rfl
  | v :: vs => by unfold wipeE; rw [List.length_set, wipeE_len]
theorem wipeE_out {ρ : En} {i : Nat} : ∀ {vs : List Nat}, i ∉ vs → (wipeE ρ vs)[i]? = ρ[i]?
  | [], _ => rfl
  | v :: vs, h => by
    unfold wipeE
    rw [List.getElem?_set_ne (fun z => h (by rw [z]; exact List.mem_cons_self)), wipeE_out fun z => h (List.mem_cons_of_mem _ z)]
theorem wipeE_in {ρ : En} {i : Nat} : ∀ {vs : List Nat}, i ∈ vs → (wipeE ρ vs)[i]? = none ∨ (wipeE ρ vs)[i]? = some .un
  | [], h => by cases h
  | v :: vs, h => by
    unfold wipeE
    by_cases z : i = v
    · subst z
      by_cases l : i < (wipeE ρ vs).length
      · exact .inr (List.getElem?_set_self l)
      · exact .inl (List.getElem?_eq_none (by simpa using l))
    · rw [List.getElem?_set_ne (Ne.symm z)]
      rcases List.mem_cons.mp h with h | h
      · exact absurd h z
      · exact wipeE_in h
/-- the block's names are no parameters -/
def noPars (ρ : En) (vs : List Nat) : Bool := vs.all fun i => match ρ[i]? with
  | some (.par _) => false
  | _ => true
section
variable {K : PySem.W.Frag} {H0 : HE} {F H : Hp} {W : WX} {σ : L2.St} {ρ : En} {A : Nat → Addr} {vs : List Nat}
theorem wipeE_mo {i : Nat} {m : Mo} (h : moAt (wipeE ρ vs) i = some m) : moAt ρ i = some m ∧ i ∉ vs := by
  by_cases z : i ∈ vs
  · unfold moAt at h
    rcases wipeE_in (ρ := ρ) z with e | e <;> rw [e] at h <;> cases h
  · unfold moAt at h ⊢
    rw [wipeE_out z] at h
    exact ⟨h, z⟩
theorem ER.wipe {σ' : L2.St} (er : ER K H0 F H σ ρ A) (hl : σ'.length = σ.length) (h : ∀ i, i ∉ vs → σ'[i]? = σ[i]?) : ER K H0 F H σ' (wipeE ρ vs) A := by
  refine ⟨by rw [hl, er.len, wipeE_len], er.le, fun i s e => ?_, fun i j m m' e1 e2 => er.inj i j m m' (wipeE_mo e1).1 (wipeE_mo e2).1, er.dom, er.tabs⟩
  by_cases z : i ∈ vs
  · rcases wipeE_in (ρ := ρ) z with q | q
    · rw [q] at e; cases e
    · rw [q] at e; cases e; trivial
  · rw [wipeE_out z] at e
    have q := er.sl i s e
    have w := h i z
    cases s with
    | un => trivial
    | val d => obtain ⟨v, h1, h2⟩ := q; exact ⟨v, w.trans h1, h2⟩
    | exc C fs => obtain ⟨a, d, h1, h2⟩ := q; exact ⟨a, d, w.trans h1, h2⟩
    | own m => exact ⟨w.trans q.1, q.2⟩
    | par m => exact ⟨w.trans q.1, q.2⟩
theorem Sb.wipe (np : noPars ρ vs = true) : Sb ρ (wipeE ρ vs) := by
  refine ⟨fun i m h => ⟨m, (wipeE_mo h).1⟩, fun i m h => ⟨m, ?_⟩⟩
  rw [wipeE_out]
  · exact h
  · intro z
    have := List.all_eq_true.mp np i z
    rw [h] at this
    cases this
theorem wipe_wipe : wipe (wipe σ vs) vs = wipe σ vs := by
  apply List.ext_getElem?
  intro i
  by_cases z : i ∈ vs
  · have : ∀ τ : L2.St, i ∈ vs → τ.length = σ.length → (wipe τ vs)[i]? = if i < σ.length then some none else none := by
      intro τ hi hl
      by_cases l : i < τ.length
      · rw [if_pos (by omega)]
        cases q : (wipe τ vs)[i]? with
        | none => rw [List.getElem?_eq_none_iff, wipe_length] at q; omega
        | some o =>
          cases o with
          | none => rfl
          | some x => exact absurd hi (wipe_some q).2
      · rw [if_neg (by omega)]
        exact List.getElem?_eq_none (by rw [wipe_length]; omega)
    rw [this _ z (wipe_length _ _), this _ z rfl]
  · rw [wipe_out z]
theorem wipe_eq {σ2 : L2.St} (hl : σ2.length = σ.length) (h : ∀ i, i ∉ vs → σ2[i]? = σ[i]?) : wipe σ2 vs = wipe σ vs := by
  apply List.ext_getElem?
  intro i
  by_cases z : i ∈ vs
  · by_cases l : i < σ.length
    · have g : ∀ τ : L2.St, τ.length = σ.length → (wipe τ vs)[i]? = some none := fun τ hτ => by
        cases q : (wipe τ vs)[i]? with
        | none => rw [List.getElem?_eq_none_iff, wipe_length] at q; omega
        | some o =>
          cases o with
          | none => rfl
          | some x => exact absurd z (wipe_some q).2
      rw [g σ2 hl, g σ rfl]
    · rw [List.getElem?_eq_none (by rw [wipe_length]; omega), List.getElem?_eq_none (by rw [wipe_length]; omega)]
  · rw [wipe_out z, wipe_out z, h i z]
/-- what no name holds changes -/
theorem ER.touch {p : Addr} {o : HO} (er : ER K H0 F H σ ρ A) (fp : F p = none) (no : ¬ OwnA ρ A p) (h0 : H0 p = none) (hl : ∃ xs, H p = some (.lst xs)) : ER K H0 F (upd H p o) σ ρ A := by
  refine ⟨er.len, le_upd er.le fp, fun i s e => ?_, er.inj, fun a x e => ?_, tabs_upd er.tabs (.inr (.inl hl))⟩
  · have q := er.sl i s e
    have ne : ∀ {m}, moAt ρ i = some m → A i ≠ p := fun {m} h z => no ⟨i, m, h, z⟩
    cases s with
    | un => trivial
    | val d => exact q
    | exc C fs => exact q
    | own m => exact ⟨q.1, q.2.1, q.2.2.1.keep (upd_ne (ne (by unfold moAt; rw [e]; rfl))), q.2.2.2⟩
    | par m => exact ⟨q.1, q.2.1, q.2.2.keep (upd_ne (ne (by unfold moAt; rw [e]; rfl)))⟩
  · obtain ⟨y, h⟩ := er.dom a x e
    have : a ≠ p := fun z => by rw [z] at e; rw [h0] at e; cases e
    exact ⟨y, by rw [upd_ne this]; exact h⟩
end
def tgIn (t : Tg) (vs : List Nat) : Bool := t.slots.all fun i => vs.contains i
def compM (t : Tg) (vs : List Nat) (gc : EM Bool) (ge : EM Res) : List D → List D → EM (List D)
  | acc, [] => fun ρ => some (.ok acc (wipeE ρ vs))
  | acc, d :: ds => fun ρ => if noPars ρ vs = true then (match t.bind d (wipeE ρ vs) with
    | none => none
    | some ρ1 => (match gc ρ1 with
      | some (.ok true ρ2) => (match ge ρ2 with
        | some (.ok (.val y) ρ3) => if acc.length < sizeLine ∧ noPars ρ3 vs = true then compM t vs gc ge (acc ++ [y]) ds ρ3 else none
        | _ => none)
      | some (.ok false ρ2) => if noPars ρ2 vs = true then compM t vs gc ge acc ds ρ2 else none
      | _ => none)) else none
def gYes : EM Bool := EM.pure true
def gLc (gi : EM (List D)) (t : Tg) (vs : List Nat) (gc : EM Bool) (ge : EM Res) : EM Res := gi.bind fun ds => fun ρ => if tgIn t vs = true ∧ noPars ρ vs = true then (match compM t vs gc ge [] ds ρ with
  | some (.ok acc ρ') => some (.ok (.new (.l acc)) ρ')
  | _ => none) else none
section
variable {K : PySem.W.Frag} {H0 : HE} {W : WX} {Q : VK} {σ : L2.St} {H : Hp}
/-- the accumulator as it stands -/
def AccAt (K : PySem.W.Frag) (H0 : HE) (F H : Hp) (ρ : En) (A : Nat → Addr) (P : Addr) (acc : List D) : Prop := F P = none ∧ ¬ OwnA ρ A P ∧ H0 P = none ∧ ∃ xs, H P = some (.lst xs) ∧ Reps K F xs acc
theorem AccAt.step {F F' H H' : Hp} {ρ ρ' : En} {A : Nat → Addr} {P : Addr} {acc : List D} (h : AccAt K H0 F H ρ A P acc) (tr : Tr (OwnA ρ A) F H F' H') (sb : Sb ρ ρ') : AccAt K H0 F' H' ρ' A P acc := by
  obtain ⟨h1, h2, h3, xs, h4, h5⟩ := h
  obtain ⟨p, e, a1, a2, ⟨ys, b1, b2⟩, a4, _⟩ := RAt.new_step (K := K) (H0 := H0) (ok := fun _ => True) (v := .ref P) (m := .l acc) (ρ' := ρ') ⟨P, rfl, h1, h2, ⟨xs, h4, h5⟩, h3, trivial⟩ tr sb
  cases e
  exact ⟨a1, a2, a4, ys, b1, b2⟩
theorem wipeE_own {ρ : En} {A : Nat → Addr} {vs : List Nat} {a : Addr} (h : OwnA (wipeE ρ vs) A a) : OwnA ρ A a := by
  obtain ⟨i, m, h1, h2⟩ := h
  exact ⟨i, m, (wipeE_mo h1).1, h2⟩
theorem Tr.touch {S : Addr → Prop} {F H0 F' H' : Hp} {p : Addr} {o : HO} (tr : Tr S F H0 F' H') (hp : H0 p = none) : Tr S F H0 F' (upd H' p o) where
  ff := tr.ff
  keep := fun a x n nt e => by rw [upd_ne (ne_of_none e hp)]; exact tr.keep a x n nt e
  fresh := tr.fresh
  there := fun a x e => by
    obtain ⟨y, h⟩ := tr.there a x e
    exact ⟨y, by rw [upd_ne (ne_of_none e hp)]; exact h⟩
mutual
theorem bind_ok : ∀ {t : Tg} {d : D} {ρ ρ' : En}, t.bind d ρ = some ρ' → ρ'.length = ρ.length ∧ Sb ρ ρ'
  | .nm i, d, ρ, ρ', e => by
    unfold Tg.bind at e
    obtain ⟨hl, np, rfl⟩ := setV_some e
    refine ⟨List.length_set, fun j m h => ?_, fun j m h => ?_⟩
    · rw [moAt_set hl] at h
      split at h
      · cases h
      · exact ⟨m, h⟩
    · by_cases z : j = i
      · subst z; exact absurd h (np m)
      · exact ⟨m, by rw [List.getElem?_set_ne (Ne.symm z)]; exact h⟩
  | .tp ts, d, ρ, ρ', e => by
    cases d with
    | tup ds => unfold Tg.bind at e; exact binds_ok e
    | _ => unfold Tg.bind at e; cases e
theorem binds_ok : ∀ {ts : List Tg} {ds : List D} {ρ ρ' : En}, Tg.binds ts ds ρ = some ρ' → ρ'.length = ρ.length ∧ Sb ρ ρ'
  | [], ds, ρ, ρ', e => by
    cases ds with
    | nil => unfold Tg.binds at e; cases e; exact ⟨rfl, .refl⟩
    | cons d ds => unfold Tg.binds at e; cases e
  | t :: ts, ds, ρ, ρ', e => by
    cases ds with
    | nil => unfold Tg.binds at e; cases e
    | cons d ds =>
      unfold Tg.binds at e
      cases e1 : t.bind d ρ with
      | none => rw [e1] at e; cases e
      | some ρ1 =>
        rw [e1] at e
        obtain ⟨a1, a2⟩ := bind_ok e1
        obtain ⟨b1, b2⟩ := binds_ok (ts := ts) e
        exact ⟨b1.trans a1, a2.trans b2⟩
end
theorem lc_weak {gi : EM (List D)} {t : Tg} {vs : List Nat} {gc : EM Bool} {ge : EM Res} (h : tE K H0 W (gLc gi t vs gc ge) σ H Q) :
    tLc (tI K H0 W gi) (tGT K H0 t) (tT K H0 (fun _ _ _ _ => False) gc) (tE K H0 (fun _ _ _ _ => False) ge) vs σ H Q := by
  obtain ⟨F, ρ, A, h⟩ := h
  refine ⟨F, ρ, A, h.bind0 fun J ds F1 H1 ρ1 o tr sb er it e p kn => ?_⟩
  obtain ⟨⟨hin, np0⟩, e⟩ := ite_some' e
  intro P hP
  cases ec : compM t vs gc ge [] ds ρ1 with
  | none => rw [ec] at e; cases e
  | some oc =>
  rw [ec] at e
  cases oc with
  | ex _ _ _ => cases e
  | ok fin ρf =>
  cases e
  have hin' : ∀ j, j ∉ vs → j ∉ t.slots := fun j hj z => hj (by
    have := List.all_eq_true.mp hin j z
    simpa using this)
  have hP0 : H P = none := none_back tr.there hP
  have hP00 : H0 P = none := free_0 er hP
  have wl : (wipe σ vs).length = σ.length := wipe_length _ _
  -- the invariant
  refine ⟨fun i m H' => i ≤ ds.length ∧ m = ds.length - i ∧ ∃ F' ρ' acc, Le F1 F' ∧ Tr (OwnA ρ A) F H F' H' ∧ Sb ρ ρ' ∧ noPars ρ' vs = true ∧ ER K H0 F' H' (wipe σ vs) (wipeE ρ' vs) A ∧ AccAt K H0 F' H' (wipeE ρ' vs) A P acc ∧ compM t vs gc ge acc (ds.drop i) ρ' = some (.ok fin ρf), ?_, ?_⟩
  · refine ⟨_, Nat.zero_le _, rfl, F1, ρ1, [], Le.refl _, tr.touch hP0, sb, np0, (er.laid hP).wipe wl (fun j hj => wipe_out hj), ⟨free_F er.le hP, fun z => free_own er hP (wipeE_own z), hP00, [], upd_same, .nil⟩, ?_⟩
    rw [List.drop_zero]
    exact ec
  rintro i m H' ⟨hi, rfl, F', ρ', acc, l1, tr1, sb1, np1, er1, ac1, e1⟩
  by_cases hlt : i < ds.length
  · refine .inr ⟨it.go F' H' i l1 er1.le hlt, fun H2 => i + 1 ≤ ds.length ∧ ∃ F' ρ' acc, Le F1 F' ∧ Tr (OwnA ρ A) F H F' H2 ∧ Sb ρ ρ' ∧ noPars ρ' vs = true ∧ ER K H0 F' H2 (wipe σ vs) (wipeE ρ' vs) A ∧ AccAt K H0 F' H2 (wipeE ρ' vs) A P acc ∧ compM t vs gc ge acc (ds.drop (i + 1)) ρ' = some (.ok fin ρf), ?_, fun x H2 y => ?_⟩
    · rintro H2 ⟨hi2, q⟩
      exact ⟨ds.length - (i + 1), by omega, hi2, rfl, q⟩
    · obtain ⟨d, hd, yd⟩ := it.yl F' H' i x H2 l1 er1.le y hlt
      obtain ⟨F2, tr2, er2, rx⟩ := yld_in er1 yd
      have ac2 := ac1.step tr2 .refl
      have dd : ds.drop i = d :: ds.drop (i + 1) := by
        rw [List.drop_eq_getElem_cons hlt]
        have := List.getElem?_eq_getElem hlt
        rw [hd] at this
        rw [Option.some.inj this]
      rw [dd] at e1
      unfold compM at e1
      obtain ⟨_, e1⟩ := ite_some' e1
      cases eb : t.bind d (wipeE ρ' vs) with
      | none => rw [eb] at e1; cases e1
      | some ρ3 =>
        rw [eb] at e1
        dsimp only at e1
        refine ⟨F2, _, A, d, ρ3, er2, rx, eb, fun σ3 er3 s3 k3 => ?_⟩
        obtain ⟨bl, bs⟩ := bind_ok eb
        have hl3 : σ3.length = σ.length := by
          rw [er3.len, bl, ← er2.len, wl]
        have hs3 : ∀ j, j ∉ vs → σ3[j]? = σ[j]? := fun j hj => (k3 j (hin' j hj)).trans (wipe_out hj)
        refine ⟨wipe_eq hl3 hs3, ?_⟩
        have tr3 : Tr (OwnA ρ A) F H F2 H2 := tr1.trans tr2 fun a z => .inl (sb1.ownA (wipeE_own z))
        have l3 := l1.trans tr2.ff
        have sb3 : Sb ρ ρ3 := (sb1.trans (Sb.wipe np1)).trans bs
        have ac3 := ac2.step (Tr.refl (S := _) (F := F2) (H := H2)) bs
        have back : ∀ {F5 H5 : Hp} {ρ5 : En}, ER K H0 F5 H5 σ3 ρ5 A → ER K H0 F5 H5 (wipe σ vs) (wipeE ρ5 vs) A := fun {F5 H5 ρ5} er5 =>
          er5.wipe (by rw [wl, hl3]) fun j hj => (wipe_out hj).trans (hs3 j hj).symm
        cases eg : gc ρ3 with
        | none => rw [eg] at e1; cases e1
        | some og =>
        rw [eg] at e1
        cases og with
        | ex _ _ _ => cases e1
        | ok b ρ4 =>
        refine ⟨F2, ρ3, A, er3, fun _ z => z, _, eg, fun b' F4 H4 tr4 er4 sb4 rb => ?_⟩
        subst rb
        have tr34 : Tr (OwnA ρ A) F H F4 H4 := tr3.then sb3 tr4
        have sb34 := sb3.trans sb4
        have ac4 := ac3.step tr4 sb4
        cases b' with
        | false =>
          rw [if_neg Bool.false_ne_true]
          dsimp only at e1
          obtain ⟨np4, e1⟩ := ite_some' e1
          refine ⟨hlt, F4, ρ4, acc, l3.trans tr4.ff, tr34, sb34, np4, back er4, ac4.step .refl (Sb.wipe np4), e1⟩
        | true =>
          rw [if_pos rfl]
          dsimp only at e1
          cases ee : ge ρ4 with
          | none => rw [ee] at e1; cases e1
          | some oe =>
          rw [ee] at e1
          cases oe with
          | ex _ _ _ => cases e1
          | ok r ρ5 =>
          cases r with
          | new _ => cases e1
          | brw _ => cases e1
          | val d' =>
          dsimp only at e1
          obtain ⟨⟨hsz, np5⟩, e1⟩ := ite_some' e1
          refine ⟨F4, ρ4, A, er4, fun _ z => z, _, ee, fun y F5 H5 tr5 er5 sb5 ra => ?_⟩
          obtain ⟨a1, a2, a3, xs, a4, a5⟩ := (ac4.step tr5 sb5).step (Tr.refl (S := _) (F := F5) (H := H5)) (Sb.wipe np5)
          refine ⟨xs, a4, by rw [a5.length]; exact hsz, hlt, F5, ρ5, acc ++ [d'], (l3.trans tr4.ff).trans tr5.ff, (tr34.then sb34 tr5).touch hP0, sb34.trans sb5, np5, (back er5).touch a1 a2 a3 ⟨xs, a4⟩, ⟨a1, a2, a3, _, upd_same, a5.append (.cons ra .nil)⟩, e1⟩
  · have hd : ds.drop i = [] := List.drop_eq_nil_iff.mpr (by omega)
    rw [hd] at e1
    unfold compM at e1
    cases e1
    refine .inl ⟨it.st F' H' i l1 er1.le (by omega), ?_⟩
    obtain ⟨a1, a2, a3, xs, a4, a5⟩ := ac1
    have er9 : ER K H0 F' H' σ (wipeE ρ' vs) A := by
      have := er1.wipe (vs := vs) (σ' := σ) wl.symm (fun j hj => (wipe_out hj).symm)
      refine ⟨?_, er1.le, fun j s e => ?_, er1.inj, er1.dom, er1.tabs⟩
      · have := er1.len
        rw [wl] at this
        exact this
      · by_cases z : j ∈ vs
        · rcases wipeE_in (ρ := ρ') z with q | q
          · rw [q] at e; cases e
          · rw [q] at e; cases e; trivial
        · have q := er1.sl j s e
          have w : σ[j]? = (wipe σ vs)[j]? := (wipe_out z).symm
          cases s with
          | un => trivial
          | val d => obtain ⟨v, h1, h2⟩ := q; exact ⟨v, w.trans h1, h2⟩
          | exc C fs => obtain ⟨a, d, h1, h2⟩ := q; exact ⟨a, d, w.trans h1, h2⟩
          | own m => exact ⟨w.trans q.1, q.2⟩
          | par m => exact ⟨w.trans q.1, q.2⟩
    exact p (.ref P) F' H' tr1 er9 (sb1.trans (Sb.wipe np1)) ⟨P, rfl, a1, a2, ⟨xs, a4, a5⟩, a3, kn P (.inl hP0)⟩
theorem p_lc {X : Cx} {elt tg iter : Expr} {ifs : List Expr} {scope : Scope} (own : List (Str × Nat)) {vs : List Nat} {pos : Pos} {gi : EM (List D)} {t : Tg} {gc : EM Bool} {ge : EM Res} (hc : X.calm = true) (hN : X.N.Nodup) (ok : BlkOk X.N X.env.scope scope own) (hi : PI X tg iter (tI X.K H0 W gi))
    (hg : ∀ (s : Shared) (H : Hp) (C : Addr) (cl : List (Str × Addr)) (fp : List Addr), PG (X.blk s H scope (compEnvC scope cl C X.env) fp) tg (tGT X.K H0 t)) (ht : ∀ (s : Shared) (H : Hp) (C : Addr) (cl : List (Str × Addr)) (fp : List Addr), PTs (X.blk s H scope (compEnvC scope cl C X.env) fp) ifs (tT X.K H0 (fun _ _ _ _ => False) gc))
    (he : ∀ (s : Shared) (H : Hp) (C : Addr) (cl : List (Str × Addr)) (fp : List Addr), PE (X.blk s H scope (compEnvC scope cl C X.env) fp) elt (tE X.K H0 (fun _ _ _ _ => False) ge)) (hv : own.map (·.2) = vs := by rfl) (hs : ∀ x, foldedSetIterable iter X.env x = pure x := by intro _; rfl) :
    PE X (.ListComp elt [⟨tg, iter, ifs, 0⟩] scope pos) (tE X.K H0 W (gLc gi t vs gc ge)) := by
  subst hv
  exact (pe_lc hc hN hi ok hg ht he hs).weak fun _ _ _ h => lc_weak h
theorem ts_nil {X : Cx} : PTs X [] (tT X.K H0 W gYes) := ⟨fun pins s σ H Q I h => pts_nil.run pins s σ H Q I (by obtain ⟨F, ρ, A, h⟩ := h; exact h.ret rfl)⟩
theorem ts_one {X : Cx} {c : Expr} {g : EM Bool} (h : PT X c (tT X.K H0 W g)) : PTs X [c] (tT X.K H0 W g) := pts_one h
end
end M

/-! M15: built-in functions on data. -/
namespace M
open PySem PySem.Spec PyProof.Rows L2

theorem bad_lift {α β γ : Type} {K : PySem.W.Frag} {H0 : HE} {W : WX} {R : (Addr → Prop) → Hp → Hp → En → (Nat → Addr) → β → α → Prop} {ok : Addr → Prop} {F H : Hp} {ρ : En} {A : Nat → Addr} {σ : L2.St} {Q : β → Hp → Prop} {C : Prop} (h : WpAt K H0 W R ok F ρ A (fun _ => none) σ H Q) : C := by
  obtain ⟨_, _, _, e, _⟩ := h; cases e
section
variable {X : Cx} {H0 : HE} {W : WX} {x : Str} {pos : Pos}
/-- a built-in type as a value -/
theorem p_ty {n : String} (hg : Gl X x) (hm : X.mg x = none) (hv : bootBuiltins x = some (.type n)) (hn : x ≠ "__name__" := by decide) (hd : (x == ("__debug__" : Str)) = false := by decide) : PE X (.Name x pos) (tE X.K H0 W (gC (.ty n))) :=
  (pe_bltn (v := .ty n) hg hm hv rfl hn hd).weak fun σ H Q h => by obtain ⟨F, ρ, A, h⟩ := h; exact h.val (.ty n)
/-- a def or class of the text as a value -/
theorem p_adr {a : Addr} (hg : Gl X x) (hm : X.mg x = some (.ref a)) (hd : (x == ("__debug__" : Str)) = false := by decide) : PE X (.Name x pos) (tE X.K H0 W (gC (.adr a))) :=
  (pe_glob (v := .ref a) hg hm rfl hd).weak fun σ H Q h => by obtain ⟨F, ρ, A, h⟩ := h; exact h.val (.adr a)
theorem p_gint {i : Int} {u : Value} (hg : Gl X x) (hm : X.mg x = some u) (r : RelV (.int i) u) (hd : (x == ("__debug__" : Str)) = false := by decide) : PE X (.Name x pos) (tE X.K H0 W (gC (.int i))) :=
  (pe_glob (v := .int i) hg hm r hd).weak fun σ H Q h => by obtain ⟨F, ρ, A, h⟩ := h; exact h.val (.int i)
theorem p_gstr {i : Str} {u : Value} (hg : Gl X x) (hm : X.mg x = some u) (r : RelV (.str i) u) (hd : (x == ("__debug__" : Str)) = false := by decide) : PE X (.Name x pos) (tE X.K H0 W (gC (.str i))) :=
  (pe_glob (v := .str i) hg hm r hd).weak fun σ H Q h => by obtain ⟨F, ρ, A, h⟩ := h; exact h.val (.str i)
end

/-! ### isinstance(x, T) -/
def isB : D → String → Option Bool
  | .non, T => if ["int", "bool", "str", "tuple", "list", "dict"].contains T = true then some false else none
  | .bl _, T => if ["int", "bool", "str", "tuple", "list", "dict"].contains T = true then some (T == "bool" || T == "int") else none
  | .int _, T => if ["int", "bool", "str", "tuple", "list", "dict"].contains T = true then some (T == "int") else none
  | .str _, T => if ["int", "bool", "str", "tuple", "list", "dict"].contains T = true then some (T == "str") else none
  | .tup _, T => if ["int", "bool", "str", "tuple", "list", "dict"].contains T = true then some (T == "tuple") else none
  | .lst _, T => if ["int", "bool", "str", "tuple", "list", "dict"].contains T = true then some (T == "list") else none
  | .rol _, T => if ["int", "bool", "str", "tuple", "list", "dict"].contains T = true then some (T == "list") else none
  | .dct _, T => if ["int", "bool", "str", "tuple", "list", "dict"].contains T = true then some (T == "dict") else none
  | _, _ => none
def fIsi : List D → Option Res
  | [d, .ty T] => (isB d T).map fun b => .val (.bl b)
  | _ => none
def tyN : D → String
  | .non => "NoneType" | .bl _ => "bool" | .int _ => "int" | .str _ => "str" | .tup _ => "tuple" | .lst _ => "list" | .rol _ => "list" | .dct _ => "dict" | _ => ""
theorem tyX_top {K : PySem.W.Frag} {F H : Hp} {x : V} {d : D} {T : String} {b : Bool} (le : Le F H) (t : Top K F H x d) (e : isB d T = some b) : TyX K H x (.type (tyN d)) := by
  cases d with
  | non => cases top_non t; exact .base .non
  | bl b => cases top_bl t; exact .base (.bl b)
  | int i => cases top_int t; exact .base (.int i)
  | str s => cases top_str t; exact .base (.str s)
  | tup ds =>
    obtain ⟨a, xs, rfl, s1, r1⟩ := top_tup t
    rcases le_t le s1 with (q | ⟨o, q⟩) | ⟨o, its, n, q, c, _⟩
    · exact .base (.tup q)
    · exact .fTuple q
    · exact .kTuple q c
  | lst ds =>
    obtain ⟨a, xs, rfl, s1, r1⟩ := t
    exact .base (.lst s1)
  | rol ds =>
    obtain ⟨a, xs, rfl, s1, r1⟩ := top_rol t
    rcases le_l le s1 with (q | ⟨o, q⟩) | ⟨o, its, n, q, c, _⟩
    · exact .base (.lst q)
    · exact .base (.frz q)
    · exact .kList q c
  | dct ds =>
    obtain ⟨a, xs, rfl, q | ⟨o, q⟩, r1⟩ := t
    · exact .base (.dK q)
    · exact .fDict q
  | adr _ => cases e
  | ty _ => cases e
  | ins _ _ => cases e
theorem isB_kit {d : D} {T : String} {b : Bool} (e : isB d T = some b) : kitB (tyN d) T = some b := by
  have main : ∀ {N : String} {f : String → Bool}, (∀ T ∈ ["int", "bool", "str", "tuple", "list", "dict"], kitB N T = some (f T)) → (if ["int", "bool", "str", "tuple", "list", "dict"].contains T = true then some (f T) else none) = some b → kitB N T = some b := fun {N f} h e => by
    obtain ⟨c, e⟩ := ite_some' e
    cases e
    exact h T (by simpa using c)
  cases d with
  | non => exact main (N := "NoneType") (f := fun _ => false) (by decide +kernel) e
  | bl _ => exact main (N := "bool") (f := fun T => T == "bool" || T == "int") (by decide +kernel) e
  | int _ => exact main (N := "int") (f := fun T => T == "int") (by decide +kernel) e
  | str _ => exact main (N := "str") (f := fun T => T == "str") (by decide +kernel) e
  | tup _ => exact main (N := "tuple") (f := fun T => T == "tuple") (by decide +kernel) e
  | lst _ => exact main (N := "list") (f := fun T => T == "list") (by decide +kernel) e
  | rol _ => exact main (N := "list") (f := fun T => T == "list") (by decide +kernel) e
  | dct _ => exact main (N := "dict") (f := fun T => T == "dict") (by decide +kernel) e
  | adr _ => cases e
  | ty _ => cases e
  | ins _ _ => cases e
theorem top_ty {K : PySem.W.Frag} {F H : Hp} {x : V} {n : String} (h : Top K F H x (.ty n)) : x = .ty n := by cases h; rfl
theorem tops1 {K : PySem.W.Frag} {F H : Hp} {xs : List V} {d : D} (h : Tops K F H xs [d]) : ∃ x, xs = [x] ∧ Top K F H x d := by
  cases h with
  | cons a t => cases t; exact ⟨_, rfl, a⟩
theorem tops2 {K : PySem.W.Frag} {F H : Hp} {xs : List V} {d e : D} (h : Tops K F H xs [d, e]) : ∃ x y, xs = [x, y] ∧ Top K F H x d ∧ Top K F H y e := by
  cases h with
  | cons a t =>
    cases t with
    | cons b t => cases t; exact ⟨_, _, rfl, a, b⟩
theorem s_isi {K : PySem.W.Frag} : SndL K (rIsi K) fIsi := by
  intro H0 W ok F H ρ A σ xs ds res Q t e h
  unfold fIsi at e
  split at e
  · obtain ⟨b, e1, rfl⟩ := map_some' e
    obtain ⟨x, y, rfl, t1, t2⟩ := tops2 t
    cases top_ty t2
    exact ⟨_, _, _, _, b, rfl, .ty _, tyX_top h.1.le t1 e1, kit_ty (isB_kit e1), h.val (.bl b)⟩
  · cases e

/-! ### len, int, abs, sum, max, min, divmod, repr, list, tuple, all, any -/
def fLen : List D → Option Res
  | [.str z] => if z.length ≤ sizeLine then some (.val (.int z.length)) else none
  | [.tup ds] => some (.val (.int ds.length))
  | [.lst ds] => some (.val (.int ds.length))
  | [.rol ds] => some (.val (.int ds.length))
  | _ => none
theorem s_len {K : PySem.W.Frag} : SndL K (fun xs H Q => ∃ x n, xs = [x] ∧ LenV K x H n ∧ Q (.int n) H) fLen := by
  intro H0 W ok F H ρ A σ xs ds res Q t e h
  have le := h.1.le
  unfold fLen at e
  split at e
  · obtain ⟨c, e⟩ := ite_some' e
    cases e
    obtain ⟨x, rfl, t1⟩ := tops1 t
    cases top_str t1
    exact ⟨_, _, rfl, ⟨c, rfl⟩, h.val (.int _)⟩
  · cases e
    obtain ⟨x, rfl, t1⟩ := tops1 t
    obtain ⟨a, ys, rfl, s1, r1⟩ := top_tup t1
    exact ⟨_, ys.length, rfl, .inr ⟨ys, le_t le s1, rfl⟩, by rw [r1.length]; exact h.val (.int _)⟩
  · cases e
    obtain ⟨x, rfl, t1⟩ := tops1 t
    obtain ⟨a, ys, rfl, s1, r1⟩ := t1
    exact ⟨_, ys.length, rfl, .inl ⟨ys, SqL.of s1, rfl⟩, by rw [r1.length]; exact h.val (.int _)⟩
  · cases e
    obtain ⟨x, rfl, t1⟩ := tops1 t
    obtain ⟨a, ys, rfl, s1, r1⟩ := top_rol t1
    exact ⟨_, ys.length, rfl, .inl ⟨ys, le_l le s1, rfl⟩, by rw [r1.length]; exact h.val (.int _)⟩
  · cases e
def fInt : List D → Option Res
  | [.int i] => some (.val (.int i))
  | [.bl k] => some (.val (.int (if k then 1 else 0)))
  | _ => none
theorem s_int {K : PySem.W.Frag} : SndL K (fun xs H Q => (∃ i, xs = [.int i] ∧ Q (.int i) H) ∨ ∃ k, xs = [.bl k] ∧ Q (.int (if k then 1 else 0)) H) fInt := by
  intro H0 W ok F H ρ A σ xs ds res Q t e h
  unfold fInt at e
  split at e
  · cases e
    obtain ⟨x, rfl, t1⟩ := tops1 t
    cases top_int t1
    exact .inl ⟨_, rfl, h.val (.int _)⟩
  · cases e
    obtain ⟨x, rfl, t1⟩ := tops1 t
    cases top_bl t1
    exact .inr ⟨_, rfl, h.val (.int _)⟩
  · cases e
def fAbs : List D → Option Res
  | [.int i] => some (.val (.int (if i < 0 then -i else i)))
  | _ => none
theorem s_abs {K : PySem.W.Frag} : SndL K (fun xs H Q => ∃ i, xs = [.int i] ∧ Q (.int (if i < 0 then -i else i)) H) fAbs := by
  intro H0 W ok F H ρ A σ xs ds res Q t e h
  unfold fAbs at e
  split at e
  · cases e
    obtain ⟨x, rfl, t1⟩ := tops1 t
    cases top_int t1
    exact ⟨_, rfl, h.val (.int _)⟩
  · cases e
def intsD : List D → Option (List Int)
  | [] => some []
  | .int i :: ds => (intsD ds).map (i :: ·)
  | _ => none
theorem ints_rep {K : PySem.W.Frag} {F : Hp} : ∀ {xs : List V} {ds : List D} {ns : List Int}, Reps K F xs ds → intsD ds = some ns → xs = ns.map V.int
  | _, _, _, .nil, e => by cases e; rfl
  | _, d :: ds, ns, .cons h r, e => by
    cases d with
    | int i =>
      unfold intsD at e
      obtain ⟨ms, e1, rfl⟩ := map_some' e
      cases h
      rw [ints_rep r e1]
      rfl
    | _ => cases e
def blsD : List D → Option (List Bool)
  | [] => some []
  | .bl i :: ds => (blsD ds).map (i :: ·)
  | _ => none
theorem bls_rep {K : PySem.W.Frag} {F : Hp} : ∀ {xs : List V} {ds : List D} {ns : List Bool}, Reps K F xs ds → blsD ds = some ns → xs = ns.map V.bl
  | _, _, _, .nil, e => by cases e; rfl
  | _, d :: ds, ns, .cons h r, e => by
    cases d with
    | bl i =>
      unfold blsD at e
      obtain ⟨ms, e1, rfl⟩ := map_some' e
      cases h
      rw [bls_rep r e1]
      rfl
    | _ => cases e
def strsD : List D → Option (List Str)
  | [] => some []
  | .str i :: ds => (strsD ds).map (i :: ·)
  | _ => none
theorem strs_rep {K : PySem.W.Frag} {F : Hp} : ∀ {xs : List V} {ds : List D} {ns : List Str}, Reps K F xs ds → strsD ds = some ns → xs = ns.map V.str
  | _, _, _, .nil, e => by cases e; rfl
  | _, d :: ds, ns, .cons h r, e => by
    cases d with
    | str i =>
      unfold strsD at e
      obtain ⟨ms, e1, rfl⟩ := map_some' e
      cases h
      rw [strs_rep r e1]
      rfl
    | _ => cases e
def lstOf : D → Option (List D)
  | .lst ds => some ds
  | .rol ds => some ds
  | _ => none
theorem lst_top {K : PySem.W.Frag} {F H : Hp} {x : V} {d : D} {ds : List D} (le : Le F H) (t : Top K F H x d) (e : lstOf d = some ds) : ∃ a xs, x = .ref a ∧ SqL K H a xs ∧ Reps K F xs ds := by
  unfold lstOf at e
  split at e
  · cases e
    obtain ⟨a, ys, rfl, s1, r1⟩ := t
    exact ⟨a, ys, rfl, SqL.of s1, r1⟩
  · cases e
    obtain ⟨a, ys, rfl, s1, r1⟩ := top_rol t
    exact ⟨a, ys, rfl, le_l le s1, r1⟩
  · cases e
def fSum : List D → Option Res
  | [d] => ((lstOf d).bind intsD).map fun ns => .val (.int ns.sum)
  | _ => none
theorem bind_some' {α β : Type} {o : Option α} {f : α → Option β} {c : β} (e : o.bind f = some c) : ∃ a, o = some a ∧ f a = some c := by
  cases o with
  | none => cases e
  | some a => exact ⟨a, rfl, e⟩
theorem s_sum {K : PySem.W.Frag} : SndL K (rSum K) fSum := by
  intro H0 W ok F H ρ A σ xs ds res Q t e h
  unfold fSum at e
  split at e
  · obtain ⟨ns, e1, rfl⟩ := map_some' e
    obtain ⟨l, e2, e3⟩ := bind_some' e1
    obtain ⟨x, rfl, t1⟩ := tops1 t
    obtain ⟨a, ys, rfl, s1, r1⟩ := lst_top h.1.le t1 e2
    exact ⟨a, ns, rfl, by rw [← ints_rep r1 e3]; exact s1, h.val (.int _)⟩
  · cases e
def fAll : List D → Option Res
  | [d] => ((lstOf d).bind blsD).map fun ns => .val (.bl (ns.all id))
  | _ => none
theorem s_all {K : PySem.W.Frag} : SndL K (rAll K) fAll := by
  intro H0 W ok F H ρ A σ xs ds res Q t e h
  unfold fAll at e
  split at e
  · obtain ⟨ns, e1, rfl⟩ := map_some' e
    obtain ⟨l, e2, e3⟩ := bind_some' e1
    obtain ⟨x, rfl, t1⟩ := tops1 t
    obtain ⟨a, ys, rfl, s1, r1⟩ := lst_top h.1.le t1 e2
    exact ⟨a, ns, rfl, by rw [← bls_rep r1 e3]; exact s1, h.val (.bl _)⟩
  · cases e
def fAny : List D → Option Res
  | [d] => ((lstOf d).bind blsD).map fun ns => .val (.bl (ns.any id))
  | _ => none
theorem s_any {K : PySem.W.Frag} : SndL K (rAny K) fAny := by
  intro H0 W ok F H ρ A σ xs ds res Q t e h
  unfold fAny at e
  split at e
  · obtain ⟨ns, e1, rfl⟩ := map_some' e
    obtain ⟨l, e2, e3⟩ := bind_some' e1
    obtain ⟨x, rfl, t1⟩ := tops1 t
    obtain ⟨a, ys, rfl, s1, r1⟩ := lst_top h.1.le t1 e2
    exact ⟨a, ns, rfl, by rw [← bls_rep r1 e3]; exact s1, h.val (.bl _)⟩
  · cases e
def fMax2 : List D → Option Res
  | [.int i, .int j] => some (.val (.int (if j > i then j else i)))
  | _ => none
theorem s_max2 {K : PySem.W.Frag} : SndL K (fun xs H Q => ∃ i j, xs = [.int i, .int j] ∧ Q (.int (if j > i then j else i)) H) fMax2 := by
  intro H0 W ok F H ρ A σ xs ds res Q t e h
  unfold fMax2 at e
  split at e
  · cases e
    obtain ⟨x, y, rfl, t1, t2⟩ := tops2 t
    cases top_int t1; cases top_int t2
    exact ⟨_, _, rfl, h.val (.int _)⟩
  · cases e
def fMin2 : List D → Option Res
  | [.int i, .int j] => some (.val (.int (if j < i then j else i)))
  | _ => none
theorem s_min2 {K : PySem.W.Frag} : SndL K (fun xs H Q => ∃ i j, xs = [.int i, .int j] ∧ Q (.int (if j < i then j else i)) H) fMin2 := by
  intro H0 W ok F H ρ A σ xs ds res Q t e h
  unfold fMin2 at e
  split at e
  · cases e
    obtain ⟨x, y, rfl, t1, t2⟩ := tops2 t
    cases top_int t1; cases top_int t2
    exact ⟨_, _, rfl, h.val (.int _)⟩
  · cases e
def fDivmod : List D → Option Res
  | [.int i, .int j] => if 0 < j ∧ Builtin.divisionGoesByPylong i j = false then some (.val (.tup [.int (i / j), .int (i % j)])) else none
  | _ => none
theorem s_divmod {K : PySem.W.Frag} : SndL K (fun xs H Q => ∃ i j, xs = [.int i, .int j] ∧ CDivP i j ∧ ∀ p, H p = none → Q (.ref p) (upd H p (.tup [.int (i / j), .int (i % j)]))) fDivmod := by
  intro H0 W ok F H ρ A σ xs ds res Q t e h
  unfold fDivmod at e
  split at e
  · obtain ⟨c, e⟩ := ite_some' e
    cases e
    obtain ⟨x, y, rfl, t1, t2⟩ := tops2 t
    cases top_int t1; cases top_int t2
    exact ⟨_, _, rfl, c, fun p hp => h.tup (.cons (.int _) (.cons (.int _) .nil)) hp⟩
  · cases e
def fList : List D → Option Res
  | [.tup ds] => some (.new (.l ds))
  | [.lst ds] => some (.new (.l ds))
  | [.rol ds] => some (.new (.l ds))
  | _ => none
theorem s_list {K : PySem.W.Frag} : SndL K (fun xs H Q => ∃ p ys, xs = [.ref p] ∧ (SqL K H p ys ∨ SqT K H p ys) ∧ ∀ l, H l = none → Q (.ref l) (upd H l (.lst ys))) fList := by
  intro H0 W ok F H ρ A σ xs ds res Q t e h
  have le := h.1.le
  unfold fList at e
  split at e
  · cases e
    obtain ⟨x, rfl, t1⟩ := tops1 t
    obtain ⟨a, ys, rfl, s1, r1⟩ := top_tup t1
    exact ⟨a, ys, rfl, .inr (le_t le s1), fun p hp => h.lst r1 hp⟩
  · cases e
    obtain ⟨x, rfl, t1⟩ := tops1 t
    obtain ⟨a, ys, rfl, s1, r1⟩ := t1
    exact ⟨a, ys, rfl, .inl (SqL.of s1), fun p hp => h.lst r1 hp⟩
  · cases e
    obtain ⟨x, rfl, t1⟩ := tops1 t
    obtain ⟨a, ys, rfl, s1, r1⟩ := top_rol t1
    exact ⟨a, ys, rfl, .inl (le_l le s1), fun p hp => h.lst r1 hp⟩
  · cases e
def fRepr : List D → Option Res
  | [.int i] => if i.natAbs.log2 < 1920 then some (.val (.str (toString i))) else none
  | [.str z] => if (reprText z).length ≤ sizeLine then some (.val (.str (reprText z))) else none
  | [.bl b] => some (.val (.str (if b then "True" else "False")))
  | [.non] => some (.val (.str "None"))
  | _ => none
def rRepr : List V → Hp → VK → Prop := fun xs H Q => (∃ i, xs = [.int i] ∧ i.natAbs.log2 < 1920 ∧ Q (.str (toString i)) H) ∨ (∃ z, xs = [.str z] ∧ (reprText z).length ≤ sizeLine ∧ Q (.str (reprText z)) H) ∨ (∃ b, xs = [.bl b] ∧ Q (.str (if b then "True" else "False")) H) ∨ (xs = [.non] ∧ Q (.str "None") H)
theorem call_repr {X : Cx} : CallR X (.builtin "repr") rRepr := by
  intro pins s σ H xs us Q I r h
  rcases h with ⟨i, rfl, hz, q⟩ | ⟨z, rfl, hz, q⟩ | ⟨b, rfl, q⟩ | ⟨rfl, q⟩
  · obtain ⟨u, rfl, t, rfl⟩ := vals1 r
    exact PySem.P.repr_of_int hz ⟨.str _, H, I.tok _, ⟨_, rfl⟩, q⟩
  · obtain ⟨u, rfl, t, rfl⟩ := vals1 r
    exact PySem.P.repr_of_str ⟨.str _, H, I.tok _, ⟨_, rfl⟩, q⟩ hz
  · obtain ⟨u, rfl, r1⟩ := vals1 r
    cases r1
    exact PySem.P.repr_of_bool ⟨.str _, H, I.tok _, ⟨_, rfl⟩, q⟩
  · obtain ⟨u, rfl, r1⟩ := vals1 r
    cases r1
    exact PySem.P.repr_of_none ⟨.str _, H, I.tok _, ⟨_, rfl⟩, q⟩
theorem s_repr {K : PySem.W.Frag} : SndL K rRepr fRepr := by
  intro H0 W ok F H ρ A σ xs ds res Q t e h
  unfold fRepr at e
  split at e
  · obtain ⟨c, e⟩ := ite_some' e
    cases e
    obtain ⟨x, rfl, t1⟩ := tops1 t
    cases top_int t1
    exact .inl ⟨_, rfl, c, h.val (.str _)⟩
  · obtain ⟨c, e⟩ := ite_some' e
    cases e
    obtain ⟨x, rfl, t1⟩ := tops1 t
    cases top_str t1
    exact .inr (.inl ⟨_, rfl, c, h.val (.str _)⟩)
  · cases e
    obtain ⟨x, rfl, t1⟩ := tops1 t
    cases top_bl t1
    exact .inr (.inr (.inl ⟨_, rfl, h.val (.str _)⟩))
  · cases e
    obtain ⟨x, rfl, t1⟩ := tops1 t
    cases top_non t1
    exact .inr (.inr (.inr ⟨rfl, h.val (.str _)⟩))
  · cases e

/-! ### == and != -/
mutual
def pd : D → Option PyData
  | .non => some .none
  | .bl b => some (.bool b)
  | .int i => some (.int i)
  | .str s => some (.str s)
  | .tup ds => (pds ds).map .tuple
  | .lst ds => (pds ds).map .list
  | .rol ds => (pds ds).map .list
  | _ => none
def pds : List D → Option (List PyData)
  | [] => some []
  | d :: ds => (pd d).bind fun x => (pds ds).map (x :: ·)
end
mutual
theorem pd_rep {K : PySem.W.Frag} {F H : Hp} {v : V} (le : Le F H) : ∀ {d : D} {p : PyData}, Rep K F v d → pd d = some p → Dp K H v p
  | .non, p, h, e => by cases h; cases e; exact .non
  | .bl b, p, h, e => by cases h; cases e; exact .bl b
  | .int i, p, h, e => by cases h; cases e; exact .int i
  | .str s, p, h, e => by cases h; cases e; exact .str s
  | .tup ds, p, h, e => by
    unfold pd at e
    obtain ⟨ps, e1, rfl⟩ := map_some' e
    cases h with
    | tup s r => exact .tup (le_t le s) (pds_rep le r e1)
  | .lst ds, p, h, e => by
    unfold pd at e
    obtain ⟨ps, e1, rfl⟩ := map_some' e
    cases h with
    | lst s r => exact .lst (SqL.of (le.ls _ _ s)) (pds_rep le r e1)
  | .rol ds, p, h, e => by
    unfold pd at e
    obtain ⟨ps, e1, rfl⟩ := map_some' e
    cases h with
    | rol s r => exact .lst (le_l le s) (pds_rep le r e1)
  | .adr _, p, h, e => by cases e
  | .ty _, p, h, e => by cases e
  | .dct _, p, h, e => by cases e
  | .ins _ _, p, h, e => by cases e
theorem pds_rep {K : PySem.W.Frag} {F H : Hp} {vs : List V} (le : Le F H) : ∀ {ds : List D} {ps : List PyData}, Reps K F vs ds → pds ds = some ps → DpAll K H vs ps
  | [], ps, h, e => by cases h; cases e; exact .nil
  | d :: ds, ps, h, e => by
    unfold pds at e
    obtain ⟨x, e1, e2⟩ := bind_some' e
    obtain ⟨xs, e3, rfl⟩ := map_some' e2
    cases h with
    | cons a r => exact .cons (pd_rep le a e1) (pds_rep le r e3)
end
theorem pd_top {K : PySem.W.Frag} {F H : Hp} {v : V} {d : D} {p : PyData} (le : Le F H) (t : Top K F H v d) (e : pd d = some p) : Dp K H v p := by
  cases d with
  | lst ds =>
    obtain ⟨a, xs, rfl, s1, r1⟩ := t
    unfold pd at e
    obtain ⟨ps, e1, rfl⟩ := map_some' e
    exact .lst (SqL.of s1) (pds_rep le r1 e1)
  | dct ds => cases e
  | non => exact pd_rep le t e
  | bl _ => exact pd_rep le t e
  | int _ => exact pd_rep le t e
  | str _ => exact pd_rep le t e
  | tup _ => exact pd_rep le t e
  | rol _ => exact pd_rep le t e
  | adr _ => cases e
  | ty _ => cases e
  | ins _ _ => cases e
/-- scalars -/
def eqS : D → D → Option Bool
  | .non, .non => some true
  | .non, .int _ => some false | .non, .bl _ => some false | .non, .str _ => some false
  | .int _, .non => some false | .bl _, .non => some false | .str _, .non => some false
  | .int i, .int j => some (i == j)
  | .bl i, .bl j => some (i == j)
  | .str i, .str j => some (i == j)
  | .int _, .str _ => some false | .str _, .int _ => some false | .bl _, .str _ => some false | .str _, .bl _ => some false
  | _, _ => none
def eqM (d e : D) : Option Bool := match eqS d e with
  | some b => some b
  | none => (pd d).bind fun x => (pd e).bind fun y => if SeqAt.shaped x = true ∧ SeqAt.shaped y = true then some (PyData.eqv x y) else none
def fEq (d e : D) : Option Res := (eqM d e).map fun b => .val (.bl b)
def fNe (d e : D) : Option Res := (eqM d e).map fun b => .val (.bl (!b))
def rEqA (K : PySem.W.Frag) : R2 := fun x y H Q => rEq x y H Q ∨ rEqD K x y H Q
def rNeA (K : PySem.W.Frag) : R2 := fun x y H Q => rNe x y H Q ∨ rNeD K x y H Q
theorem o_eq {X : Cx} (hu : X.A.units + 64 < cLine) : OpR X (compareOp .Eq) (rEqA X.K) := (op_eq).or (op_eqD hu)
theorem o_ne {X : Cx} (hu : X.A.units + 64 < cLine) : OpR X (compareOp .NotEq) (rNeA X.K) := (op_ne).or (op_neD hu)
theorem eqS_ok {K : PySem.W.Frag} {F H : Hp} {x y : V} {d e : D} {b : Bool} (t1 : Top K F H x d) (t2 : Top K F H y e) (q : eqS d e = some b) : scal x y = true ∧ decide (x = y) = b := by
  unfold eqS at q
  split at q <;> first
    | (cases q; done)
    | (cases q
       first
         | (cases top_non t1; cases top_non t2; exact ⟨rfl, by simp⟩)
         | (cases top_non t1; cases top_int t2; exact ⟨rfl, by simp⟩)
         | (cases top_non t1; cases top_bl t2; exact ⟨rfl, by simp⟩)
         | (cases top_non t1; cases top_str t2; exact ⟨rfl, by simp⟩)
         | (cases top_int t1; cases top_non t2; exact ⟨rfl, by simp⟩)
         | (cases top_bl t1; cases top_non t2; exact ⟨rfl, by simp⟩)
         | (cases top_str t1; cases top_non t2; exact ⟨rfl, by simp⟩)
         | (cases top_int t1; cases top_int t2; exact ⟨rfl, dec_int⟩)
         | (cases top_bl t1; cases top_bl t2; exact ⟨rfl, dec_bl⟩)
         | (cases top_str t1; cases top_str t2; exact ⟨rfl, dec_str⟩)
         | (cases top_int t1; cases top_str t2; exact ⟨rfl, by simp⟩)
         | (cases top_str t1; cases top_int t2; exact ⟨rfl, by simp⟩)
         | (cases top_bl t1; cases top_str t2; exact ⟨rfl, by simp⟩)
         | (cases top_str t1; cases top_bl t2; exact ⟨rfl, by simp⟩))
theorem s_eq {K : PySem.W.Frag} : Snd2 K (rEqA K) fEq := by
  intro H0 W ok F H ρ A σ x y d1 d2 res Q t1 t2 e h
  obtain ⟨b, e1, rfl⟩ := map_some' e
  unfold eqM at e1
  split at e1
  · rename_i b' eb
    cases e1
    obtain ⟨a1, a2⟩ := eqS_ok t1 t2 eb
    exact .inl ⟨a1, by rw [a2]; exact h.val (.bl _)⟩
  · obtain ⟨p, e2, e3⟩ := bind_some' e1
    obtain ⟨q, e4, e5⟩ := bind_some' e3
    obtain ⟨c, e6⟩ := ite_some' e5
    cases e6
    exact .inr ⟨p, q, pd_top h.1.le t1 e2, pd_top h.1.le t2 e4, c.1, c.2, h.val (.bl _)⟩
theorem s_ne {K : PySem.W.Frag} : Snd2 K (rNeA K) fNe := by
  intro H0 W ok F H ρ A σ x y d1 d2 res Q t1 t2 e h
  obtain ⟨b, e1, rfl⟩ := map_some' e
  unfold eqM at e1
  split at e1
  · rename_i b' eb
    cases e1
    obtain ⟨a1, a2⟩ := eqS_ok t1 t2 eb
    exact .inl ⟨a1, by rw [a2]; exact h.val (.bl _)⟩
  · obtain ⟨p, e2, e3⟩ := bind_some' e1
    obtain ⟨q, e4, e5⟩ := bind_some' e3
    obtain ⟨c, e6⟩ := ite_some' e5
    cases e6
    exact .inr ⟨p, q, pd_top h.1.le t1 e2, pd_top h.1.le t2 e4, c.1, c.2, h.val (.bl _)⟩

/-! ### x in (a, ..) of scalars -/
def scalD : D → Bool
  | .non => true | .bl _ => true | .int _ => true | .str _ => true
  | _ => false
def eqF : D → D → Bool
  | .non, .non => true
  | .bl a, .bl b => a == b
  | .bl a, .int b => (if a then 1 else 0) == b
  | .int a, .bl b => a == (if b then 1 else 0)
  | .int a, .int b => a == b
  | .str a, .str b => a == b
  | _, _ => false
theorem rep_flat {K : PySem.W.Frag} {F : Hp} {x : V} {d : D} (r : Rep K F x d) (s : scalD d = true) : flatV x = true := by
  cases r <;> first | rfl | cases s
theorem reps_flat {K : PySem.W.Frag} {F : Hp} : ∀ {xs : List V} {ds : List D}, Reps K F xs ds → ds.all scalD = true → xs.all flatV = true
  | _, _, .nil, _ => rfl
  | _, _, .cons h r, s => by
    rw [List.all_cons, Bool.and_eq_true] at s ⊢
    exact ⟨rep_flat h s.1, reps_flat r s.2⟩
theorem rep_eqF {K : PySem.W.Frag} {F : Hp} {x y : V} {d e : D} (r : Rep K F x d) (r2 : Rep K F y e) (s : scalD d = true) (s2 : scalD e = true) : eqV x y = eqF d e := by
  cases r <;> first | (cases s; done) | (cases r2 <;> first | rfl | (cases s2; done))
theorem reps_any {K : PySem.W.Frag} {F : Hp} {x : V} {d : D} (r : Rep K F x d) (s : scalD d = true) : ∀ {xs : List V} {ds : List D}, Reps K F xs ds → ds.all scalD = true → inV x xs = ds.any fun y => eqF y d
  | _, _, .nil, _ => rfl
  | _, _, .cons h r2, q => by
    rw [List.all_cons, Bool.and_eq_true] at q
    unfold inV
    rw [List.any_cons, List.any_cons, rep_eqF h r q.1 s]
    have := reps_any r s r2 q.2
    unfold inV at this
    rw [this]
def seqOf : D → Option (List D)
  | .tup ds => some ds
  | .lst ds => some ds
  | .rol ds => some ds
  | _ => none
theorem seq_top {K : PySem.W.Frag} {F H : Hp} {x : V} {d : D} {ds : List D} (le : Le F H) (t : Top K F H x d) (e : seqOf d = some ds) : ∃ a xs, x = .ref a ∧ (SqL K H a xs ∨ SqT K H a xs) ∧ Reps K F xs ds := by
  unfold seqOf at e
  split at e
  · cases e
    obtain ⟨a, ys, rfl, s1, r1⟩ := top_tup t
    exact ⟨a, ys, rfl, .inr (le_t le s1), r1⟩
  · cases e
    obtain ⟨a, ys, rfl, s1, r1⟩ := t
    exact ⟨a, ys, rfl, .inl (SqL.of s1), r1⟩
  · cases e
    obtain ⟨a, ys, rfl, s1, r1⟩ := top_rol t
    exact ⟨a, ys, rfl, .inl (le_l le s1), r1⟩
  · cases e
theorem scal_rep {K : PySem.W.Frag} {F H : Hp} {x : V} {d : D} (t : Top K F H x d) (s : scalD d = true) : Rep K F x d := by
  cases d <;> first | exact t | cases s
def fIn (d e : D) : Option Res := (seqOf e).bind fun ds => if scalD d = true ∧ ds.all scalD = true then some (.val (.bl (ds.any fun y => eqF y d))) else none
theorem s_in {K : PySem.W.Frag} : Snd2 K (rIn K false) fIn := by
  intro H0 W ok F H ρ A σ x y d1 d2 res Q t1 t2 e h
  obtain ⟨ds, e1, e2⟩ := bind_some' e
  obtain ⟨c, e3⟩ := ite_some' e2
  cases e3
  obtain ⟨a, ys, rfl, s1, r1⟩ := seq_top h.1.le t2 e1
  have r0 := scal_rep t1 c.1
  refine ⟨a, ys, rfl, s1, rep_flat r0 c.1, reps_flat r1 c.2, ?_⟩
  rw [reps_any r0 c.1 r1 c.2]
  exact h.val (.bl _)

/-! ### chains -/
section
variable {X : Cx} {H0 : HE} {W : WX} {a b c : Expr} {pos : Pos} {ga gb gc : EM Res}
def blM : Res → EM Bool
  | .val (.bl k) => EM.pure k
  | _ => fun _ => none
/-- a op1 b op2 c, of scalars -/
def gChain (f f' : D → D → Option Res) (ga gb gc : EM Res) : EM Res := ga.bind fun r1 => gb.bind fun r2 => (op2 f r1 r2).bind fun r => (blM r).bind fun k => if k = true then gc.bind fun r3 => op2 f' r2 r3 else EM.pure (.val (.bl false))
theorem chain_weak {K : PySem.W.Frag} {r r' : R2} {f f' : D → D → Option Res} (hs : Snd2 K r f) (hs' : Snd2 K r' f') (σ : L2.St) (H : Hp) (Q : VK) (h : tE K H0 W (gChain f f' ga gb gc) σ H Q) : tChain r r' (tE K H0 W ga) (tE K H0 W gb) (tE K H0 W gc) σ H Q := by
  obtain ⟨F, ρ, A, h⟩ := h
  refine ⟨F, ρ, A, h.bind fun x r1 F1 H1 ρ1 tr1 sb1 ra h1 => ⟨F1, ρ1, A, h1.bind fun y r2 F2 H2 ρ2 tr2 sb2 rb h2 => ?_⟩⟩
  -- the first comparison
  have h3 : WpAt K H0 W (RAt K H0) (Okp ρ2 A H2) F2 ρ2 A (op2 f r1 r2) σ H2 (fun z H3 => ∃ k, z = .bl k ∧ (if k = true then tE K H0 W gc σ H3 fun w' H4 => r' y w' H4 Q else Q (.bl false) H3)) := by
    refine h2.bind fun z rz F3 H3 ρ3 tr3 sb3 rc h4 => ?_
    cases rz with
    | new m => obtain ⟨er, kn, o, e, p⟩ := h4; cases e
    | brw i => obtain ⟨er, kn, o, e, p⟩ := h4; cases e
    | val d =>
      cases d with
      | bl k =>
        cases rc
        refine ⟨k, rfl, ?_⟩
        obtain ⟨er, kn, o, e, p⟩ := h4
        cases k with
        | false =>
          rw [if_neg Bool.false_ne_true]
          have e' : EM.pure (Res.val (.bl false)) ρ3 = some o := e
          exact WpAt.val ⟨er, kn, o, e', p⟩ (.bl false)
        | true =>
          rw [if_pos rfl]
          have e' : (gc.bind fun r3 => op2 f' r2 r3) ρ3 = some o := e
          have h5 : WpAt K H0 W (RAt K H0) _ F3 ρ3 A (gc.bind fun r3 => op2 f' r2 r3) σ H3 Q := ⟨er, kn, o, e', p⟩
          refine ⟨F3, ρ3, A, h5.bind fun w r3 F4 H4 ρ4 tr4 sb4 rd h6 => ?_⟩
          obtain ⟨d1, d2, res, e1, e2, e3, h7⟩ := op2_at h6
          exact hs' H0 W _ F4 H4 ρ4 A σ y w d1 d2 res Q (rb.later h7.1 (tr3.then sb3 tr4) (sb3.trans sb4) e1) (rd.top h7.1 e2) e3 h7
      | _ => obtain ⟨er, kn, o, e, p⟩ := h4; cases e
  obtain ⟨d1, d2, res, e1, e2, e3, h4⟩ := op2_at h3
  exact hs H0 W _ F2 H2 ρ2 A σ x y d1 d2 res _ (ra.later h4.1 tr2 sb2 e1) (rb.top h4.1 e2) e3 h4
theorem p_chain {op op' : CmpOp} {r r' : R2} {f f' : D → D → Option Res} (ho : OpR X (compareOp op) r) (hs : Snd2 X.K r f) (ho' : OpR X (compareOp op') r') (hs' : Snd2 X.K r' f') (ha : PE X a (tE X.K H0 W ga)) (hb : PE X b (tE X.K H0 W gb)) (hc : PE X c (tE X.K H0 W gc))
    (hm : lastMarks [op, op'] [b, c] = false := by with_unfolding_all rfl) : PE X (.Compare a [op, op'] [b, c] pos) (tE X.K H0 W (gChain f f' ga gb gc)) := (pe_chain ho ho' ha hb hc hm).weak (chain_weak hs hs')
theorem p_tchain {op op' : CmpOp} {r r' : R2} {f f' : D → D → Option Res} (ho : OpR X (compareOp op) r) (hs : Snd2 X.K r f) (ho' : OpR X (compareOp op') r') (hs' : Snd2 X.K r' f') (ha : PE X a (tE X.K H0 W ga)) (hb : PE X b (tE X.K H0 W gb)) (hc : PE X c (tE X.K H0 W gc))
    (hm : lastMarks [op, op'] [b, c] = false := by with_unfolding_all rfl) : PT X (.Compare a [op, op'] [b, c] pos) (tT X.K H0 W (gBl (gChain f f' ga gb gc))) := (pt_chain ho ho' ha hb hc hm).weak fun σ H Q h => by
  obtain ⟨F, ρ, A, h⟩ := h
  refine chain_weak hs hs' σ H _ ⟨F, ρ, A, h.bind fun x r F1 H1 ρ1 tr sb ra h1 => ?_⟩
  exact bl_at ra h1
end
end M

/-! M16: methods, keywords, tuple[::-1], freezing in place. -/
namespace M
open PySem PySem.Spec PyProof.Rows L2

/-! ### o.name(..), o a text or a list -/
def tyD : String → D → Bool
  | "str", .str _ => true
  | "list", .lst _ => true
  | "list", .rol _ => true
  | _, _ => false
theorem tyD_ok {K : PySem.W.Frag} {F H : Hp} {x : V} {d : D} {T : String} (le : Le F H) (t : Top K F H x d) (e : tyD T d = true) : tyV K T x H := by
  unfold tyD at e
  split at e
  · cases top_str t; exact rfl
  · obtain ⟨a, ys, rfl, s1, r1⟩ := t; exact .inl ⟨rfl, ys, SqL.of s1⟩
  · obtain ⟨a, ys, rfl, s1, r1⟩ := top_rol t; exact .inl ⟨rfl, ys, le_l le s1⟩
  · cases e
def methM (f : D → List D → Option Res) (r : Res) (rs : List Res) : EM Res := fun ρ => match view ρ r, views ρ rs with
  | some d, some ds => (f d ds).map fun r => .ok r ρ
  | _, _ => none
def gMeth (T : String) (f : D → List D → Option Res) (g : EM Res) (gs : EM (List Res)) : EM Res := g.bind fun r => fun ρ => match view ρ r with
  | some d => if tyD T d = true then (gs.bind fun rs => methM f r rs) ρ else none
  | none => none
def SndM (K : PySem.W.Frag) (r : V → List V → Hp → VK → Prop) (f : D → List D → Option Res) : Prop :=
  ∀ (H0 : HE) (W : WX) (ok : Addr → Prop) (F H : Hp) (ρ : En) (A : Nat → Addr) (σ : L2.St) (x : V) (xs : List V) (d : D) (ds : List D) (res : Res) (Q : VK), Top K F H x d → Tops K F H xs ds → f d ds = some res → WpAt K H0 W (RAt K H0) ok F ρ A (EM.pure res) σ H Q → r x xs H Q
section
variable {X : Cx} {H0 : HE} {W : WX} {o e : Expr} {es : List Expr} {g : EM Res} {gs : EM (List Res)} {name : Str} {apos cpos : Pos} {T id : String}
theorem meth_weak {K : PySem.W.Frag} {r : V → List V → Hp → VK → Prop} {f : D → List D → Option Res} (hs : SndM K r f) (σ : L2.St) (H : Hp) (Q : VK) (h : tE K H0 W (gMeth T f g gs) σ H Q) : tBM K T r (tE K H0 W g) (tA K H0 W gs) σ H Q := by
  obtain ⟨F, ρ, A, h⟩ := h
  refine ⟨F, ρ, A, h.bind fun x rx F1 H1 ρ1 tr1 sb1 ra h1 => ?_⟩
  obtain ⟨er1, kn, o, e, p⟩ := h1
  cases ev : view ρ1 rx with
  | none => simp only [ev] at e; cases e
  | some d0 =>
    simp only [ev] at e
    obtain ⟨c, e⟩ := ite_some' e
    refine ⟨tyD_ok er1.le (ra.top er1 ev) c, ?_⟩
    have h2 : WpAt K H0 W (RAt K H0) _ F1 ρ1 A (gs.bind fun rs => methM f rx rs) σ H1 Q := ⟨er1, kn, o, e, p⟩
    refine ⟨F1, ρ1, A, h2.bind fun vs rs F2 H2 ρ2 tr2 sb2 rb h3 => ?_⟩
    obtain ⟨er2, kn2, o2, e2, p2⟩ := h3
    unfold methM at e2
    cases ev2 : view ρ2 rx with
    | none => rw [ev2] at e2; cases e2
    | some d =>
      cases ev3 : views ρ2 rs with
      | none => rw [ev2, ev3] at e2; cases e2
      | some ds =>
        rw [ev2, ev3] at e2
        obtain ⟨res, e4, rfl⟩ := map_some' e2
        exact hs H0 W _ F2 H2 ρ2 A σ x vs d ds res Q (ra.later er2 tr2 sb2 ev2) (rats_tops er2 rb.1 ev3) e4 ⟨er2, kn2, _, rfl, p2⟩
theorem p_meth {r : V → List V → Hp → VK → Prop} {f : D → List D → Option Res} (hs : SndM X.K r f) (pa : PlainAttrs T) (slot : PySem.Slot T name id) (hty : typeOf (.builtin id) = pure (.type "method_descriptor")) (hm : MtR X id r) (ho : PE X o (tE X.K H0 W g)) (ha : PA X (e :: es) (tA X.K H0 W gs))
    (hbase : attributeBase o name X.env (eval o X.env) = eval o X.env := by rfl)
    (hfew : ((backTo cpos (starEach (e :: es) X.env)).all (fun x => !x.1) && (backToKw cpos (keywordEach [] X.env)).all (fun x => x.1.isSome)
      && decide ((e :: es).length + ([] : List Keyword).length + (if ([] : List Keyword).isEmpty then 0 else 1) < 30)) = true := by rfl)
    (hline : (apos.endLine == cpos.line) = true := by rfl) (hs' : starEach (e :: es) X.env = (false, eval e X.env) :: starEach es X.env := by rfl) (hplain : (backTo cpos (starEach es X.env)).any (·.1) = false := by rfl) :
    PE X (.Call (.Attribute o name apos) (e :: es) [] cpos) (tE X.K H0 W (gMeth T f g gs)) := (pe_bm pa slot hty hm ho ha hbase hfew hline hs' hplain).weak (meth_weak hs)
end
/-- sep.join(texts) -/
def fJoin : D → List D → Option Res
  | .str a, [e] => ((seqOf e).bind strsD).bind fun ys => if (ys.map (·.length)).sum + ys.length * a.length ≤ 16777216 then some (.val (.str (Txt.join a ys))) else none
  | _, _ => none
def rJoin (K : PySem.W.Frag) : V → List V → Hp → VK → Prop := fun x xs H Q => ∃ a p, ∃ ys : List Str, x = .str a ∧ xs = [.ref p] ∧ (SqL K H p (ys.map V.str) ∨ SqT K H p (ys.map V.str)) ∧
    (ys.map (·.length)).sum + ys.length * a.length ≤ 16777216 ∧ Q (.str (Txt.join a ys)) H
theorem m_join {X : Cx} : MtR X "str.join" (rJoin X.K) := mt_join
theorem s_join {K : PySem.W.Frag} : SndM K (rJoin K) fJoin := by
  intro H0 W ok F H ρ A σ x xs d ds res Q t ts e h
  unfold fJoin at e
  split at e
  · obtain ⟨ys, e1, e2⟩ := bind_some' e
    obtain ⟨l, e3, e4⟩ := bind_some' e1
    obtain ⟨c, e5⟩ := ite_some' e2
    cases e5
    cases top_str t
    obtain ⟨y, rfl, t1⟩ := tops1 ts
    obtain ⟨p, zs, rfl, s1, r1⟩ := seq_top h.1.le t1 e3
    have := strs_rep r1 e4
    subst this
    exact ⟨_, p, ys, rfl, rfl, s1, c, h.val (.str _)⟩
  · cases e
/-- list.count, list.index, scalars -/
def rCntF (K : PySem.W.Frag) : V → List V → Hp → VK → Prop := fun x xs H Q => ∃ (p : Addr) (zs : List V) (k : V), x = .ref p ∧ xs = [k] ∧ SqL K H p zs ∧ flatV k = true ∧ zs.all flatV = true ∧ Q (.int (zs.countP fun z => eqV z k : Nat)) H
theorem cnt_eqU {x : V} : ∀ {xs : List V} {us : List Value}, Vals xs us → xs.all flatV = true → us.countP (eqU x) = xs.countP fun y => eqV y x
  | _, _, .nil, _ => rfl
  | y :: xs, u :: us, .cons r t, f => by
    rw [List.all_cons, Bool.and_eq_true] at f
    rw [List.countP_cons, List.countP_cons, eqU_of r f.1, cnt_eqU t f.2]
theorem m_count {X : Cx} : MtR X "list.count" (rCntF X.K) := by
  intro pins s σ H x xs v us Q I rx rxs h
  obtain ⟨p, zs, k, rfl, rfl, hs, fk, fz, q⟩ := h
  cases rx
  obtain ⟨u, rfl, ru⟩ := rxs.one
  obtain ⟨its, rv, ⟨⟨cls, dd, data, sl⟩, n, ho, hc, hdn, hd⟩, hlen⟩ := I.list hs
  simp only at hc hd
  subst hc hd
  refine call_meets PySem.F.slot_list_count ⟨_, ho, rfl⟩ PySem.F.entry_list_count (PySem.F.args_list_count_2 _ _)
    (SeqAt.list_countAt p its.toArray n dd sl u (eqU k)) ⟨ho, fun y hy => mem_eqAt ru fk rv fz y (by simpa using hy), ?_⟩
  refine ⟨.int (zs.countP fun z => eqV z k : Nat), H, I.tok _, ⟨s.toks, ?_⟩, q⟩
  show Value.int ((its.toArray.toList.countP (eqU k) : Nat) : Int) s.toks = _
  rw [← cnt_eqU rv fz]
def fCount (d : D) : List D → Option Res
  | [k] => (lstOf d).bind fun ds => if scalD k = true ∧ ds.all scalD = true then some (.val (.int (ds.countP fun z => eqF z k : Nat))) else none
  | _ => none
theorem reps_cnt {K : PySem.W.Frag} {F : Hp} {x : V} {d : D} (r : Rep K F x d) (s : scalD d = true) : ∀ {xs : List V} {ds : List D}, Reps K F xs ds → ds.all scalD = true → (xs.countP fun z => eqV z x) = ds.countP fun y => eqF y d
  | _, _, .nil, _ => rfl
  | _, _, .cons h r2, q => by
    rw [List.all_cons, Bool.and_eq_true] at q
    rw [List.countP_cons, List.countP_cons, rep_eqF h r q.1 s, reps_cnt r s r2 q.2]
theorem s_count {K : PySem.W.Frag} : SndM K (rCntF K) fCount := by
  intro H0 W ok F H ρ A σ x xs d ds res Q t ts e h
  unfold fCount at e
  split at e
  · obtain ⟨l, e1, e2⟩ := bind_some' e
    obtain ⟨c, e3⟩ := ite_some' e2
    cases e3
    obtain ⟨a, ys, rfl, s1, r1⟩ := lst_top h.1.le t e1
    obtain ⟨y, rfl, t1⟩ := tops1 ts
    have r0 := scal_rep t1 c.1
    refine ⟨a, ys, y, rfl, rfl, s1, rep_flat r0 c.1, reps_flat r1 c.2, ?_⟩
    rw [reps_cnt r0 c.1 r1 c.2]
    exact h.val (.int _)
  · cases e
def fIndex (d : D) : List D → Option Res
  | [k] => (lstOf d).bind fun ds => if scalD k = true ∧ ds.all scalD = true ∧ ds.findIdx (fun z => eqF z k) < ds.length then some (.val (.int (ds.findIdx (fun z => eqF z k) : Nat))) else none
  | _ => none
theorem s_index {K : PySem.W.Frag} : SndM K (rIndex K) fIndex := by
  intro H0 W ok F H ρ A σ x xs d ds res Q t ts e h
  unfold fIndex at e
  split at e
  · rename_i k
    obtain ⟨l, e1, e2⟩ := bind_some' e
    obtain ⟨⟨c1, c2, c3⟩, e3⟩ := ite_some' e2
    cases e3
    obtain ⟨a, ys, rfl, s1, r1⟩ := lst_top h.1.le t e1
    obtain ⟨y, rfl, t1⟩ := tops1 ts
    have r0 := scal_rep t1 c1
    have at_ : ∀ {i : Nat} {z : V} {w : D}, ys[i]? = some z → l[i]? = some w → eqV z y = eqF w k := fun {i z w} h1 h2 => by
      obtain ⟨z', g1, g2⟩ := r1.get h2
      rw [h1] at g1
      cases g1
      exact rep_eqF g2 r0 (List.all_eq_true.mp c2 w (List.mem_of_getElem? h2)) c1
    obtain ⟨z, hz, _⟩ := r1.get (List.getElem?_eq_getElem c3)
    refine ⟨a, ys, y, _, z, rfl, rfl, s1, rep_flat r0 c1, reps_flat r1 c2, hz, ?_, fun m z' hm hz' => ?_, h.val (.int _)⟩
    · rw [at_ hz (List.getElem?_eq_getElem c3)]
      exact List.findIdx_getElem (w := c3)
    · obtain ⟨w, hw, _⟩ := r1.get' hz'
      rw [at_ hz' hw]
      have hml : m < l.length := (List.getElem?_eq_some_iff.mp hw).1
      have := List.not_of_lt_findIdx hm
      rw [List.getElem?_eq_getElem hml] at hw
      cases hw
      simpa using this
  · cases e

/-! ### an own thing stays at its name, frozen -/
def gFz (i : Nat) : EM Res := fun ρ => match ρ[i]? with
  | some (.own m) => some (.ok (.val m.view) (ρ.set i (.val m.view)))
  | some (.val d) => some (.ok (.val d) ρ)
  | _ => none
section
variable {X : Cx} {H0 : HE} {W : WX} {pos : Pos}
theorem p_fz (i : Nat) {x : Str} (hN : X.N[i]? = some x := by rfl) (hv : Vis X.env.scope x := by first | exact Or.inl rfl | exact Or.inr (Or.inl rfl) | exact Or.inr (Or.inr rfl)) (hd : (x == ("__debug__" : Str)) = false := by decide)
    (hcd : (x == ("__classdict__" : Str)) = false := by decide) : PE X (.Name x pos) (tE X.K H0 W (gFz i)) := by
  refine (pe_var hN hv hd hcd).weak fun σ H Q h => ?_
  obtain ⟨F, ρ, A, er, kn, o, e, p⟩ := h
  unfold gFz at e
  cases q : ρ[i]? with
  | none => rw [q] at e; cases e
  | some s =>
    rw [q] at e
    have so := er.sl i s q
    cases s with
    | un => cases e
    | exc C fs => cases e
    | par m => cases e
    | val d =>
      cases e
      obtain ⟨v, h1, h2⟩ := so
      exact ⟨v, h1, p v F H .refl er .refl h2⟩
    | own m =>
      cases e
      obtain ⟨s1, s2, s3, s4⟩ := so
      have hi : i < ρ.length := (List.getElem?_eq_some_iff.mp q).1
      have mi : moAt ρ i = some m := by unfold moAt; rw [q]; rfl
      obtain ⟨ob, hob⟩ := s3.there
      have ff : Le F (upd F (A i) ob) := le_self s2
      have fh : Le (upd F (A i) ob) H := le_frz er.le hob
      have rp : Rep X.K (upd F (A i) ob) (.ref (A i)) m.view := by
        cases m with
        | l ds => obtain ⟨vs, h1, h2⟩ := s3; rw [hob] at h1; cases h1; exact Rep.lst upd_same (h2.mono ff)
        | d ds => obtain ⟨vs, h1, h2⟩ := s3; rw [hob] at h1; cases h1; exact Rep.dct (.inl upd_same) (h2.mono ff)
      refine ⟨_, s1, p _ (upd F (A i) ob) H ⟨ff, fun _ _ _ _ z => z, fun a x z => ?_, fun a x z => ⟨x, z⟩⟩ ⟨by simpa using er.len, fh, fun j s e => ?_, fun j k m1 m2 e1 e2 => ?_, er.dom, er.tabs⟩ ⟨fun j m1 e1 => ?_, fun j m1 e1 => ?_⟩ rp⟩
      · by_cases ap : a = A i
        · subst ap; exact .inr (.inr ⟨i, m, mi, rfl⟩)
        · rw [upd_ne ap] at z; exact .inl ⟨x, z⟩
      · by_cases z : j = i
        · subst z
          rw [List.getElem?_set_self hi] at e
          cases e
          exact ⟨_, s1, rp⟩
        · rw [List.getElem?_set_ne (Ne.symm z)] at e
          have q2 := er.sl j s e
          have ne : ∀ {m'}, moAt ρ j = some m' → A j ≠ A i := fun {m'} h ea => z (er.inj j i m' m h mi ea)
          cases s with
          | un => trivial
          | val d => obtain ⟨v, h1, h2⟩ := q2; exact ⟨v, h1, h2.mono ff⟩
          | exc C fs => obtain ⟨a, d, h1, h2, h3⟩ := q2; exact ⟨a, d, h1, h2, h3.mono ff⟩
          | own m' => exact ⟨q2.1, by rw [upd_ne (ne (by unfold moAt; rw [e]; rfl))]; exact q2.2.1, q2.2.2.1.mono ff, q2.2.2.2⟩
          | par m' => exact ⟨q2.1, by rw [upd_ne (ne (by unfold moAt; rw [e]; rfl))]; exact q2.2.1, q2.2.2.mono ff⟩
      · rw [moAt_set hi] at e1 e2
        split at e1
        · cases e1
        · split at e2
          · cases e2
          · exact er.inj j k m1 m2 e1 e2
      · rw [moAt_set hi] at e1
        split at e1
        · cases e1
        · exact ⟨_, e1⟩
      · by_cases z : j = i
        · subst z; rw [q] at e1; cases e1
        · exact ⟨m1, by rw [List.getElem?_set_ne (Ne.symm z)]; exact e1⟩
end

/-! ### keywords: f(a = e, ..) -/
section
variable {X : Cx} {H0 : HE} {W : WX} {e : Expr} {kws : List Keyword} {g : EM Res} {gs : EM (List Res)} {nm : Option Str} {kpos : Pos}
theorem k_nil : PK X [] (tA X.K H0 W gNil) := ⟨fun pos pins s σ H Q I h => pk_nil.run pos pins s σ H Q I (by obtain ⟨F, ρ, A, h⟩ := h; exact h.ret (b := []) ⟨.nil, List.nodup_nil⟩)⟩
theorem k_cons (he : PE X e (tE X.K H0 W g)) (hr : PK X kws (tA X.K H0 W gs)) : PK X (⟨nm, e, kpos⟩ :: kws) (tA X.K H0 W (gCons g gs)) :=
  ⟨fun pos pins s σ H Q I h => (pk_cons he hr).run pos pins s σ H Q I (by
    obtain ⟨F, ρ, A, h⟩ := h
    refine ⟨F, ρ, A, h.bind fun x r F1 H1 ρ1 tr1 sb1 ra h1 => ⟨F1, ρ1, A, h1.bind fun xs rs F2 H2 ρ2 tr2 sb2 rb h2 => ?_⟩⟩
    obtain ⟨er, kn, o, e, p⟩ := h2
    unfold consM at e
    obtain ⟨al, e⟩ := ite_some' e
    cases e
    refine p (x :: xs) F2 H2 .refl er .refl ⟨.cons (ra.go tr2 sb2 al) (mono_rats _ _ _ _ _ _ _ _ (fun q z => z.back tr1 sb1) rb).1, ?_⟩
    cases r with
    | val d => exact rb.2
    | brw i => exact rb.2
    | new m =>
      refine List.nodup_cons.mpr ⟨fun hx => ?_, rb.2⟩
      obtain ⟨q, e1, e2⟩ := newAt_ok rb.1 x hx
      obtain ⟨pp, e3, _, no, mo, _, _⟩ := ra
      obtain ⟨ob, hob⟩ := mo.there
      have : q = pp := V.ref.inj (e1.symm.trans e3)
      subst this
      rcases e2 with z | z
      · rw [hob] at z; cases z
      · exact no z)⟩
def allVal : List Res → Bool
  | [] => true
  | .val _ :: rs => allVal rs
  | _ => false
theorem allVal_new : ∀ {vs : List V} {rs : List Res}, allVal rs = true → newAt vs rs = []
  | [], [], _ => rfl
  | [], _ :: _, _ => by unfold newAt; rfl
  | v :: vs, [], _ => by unfold newAt; rfl
  | v :: vs, .val d :: rs, h => allVal_new (vs := vs) (rs := rs) h
  | v :: vs, .new _ :: rs, h => by cases h
  | v :: vs, .brw _ :: rs, h => by cases h
/-- how the keywords' values come to the parameters -/
structure Perm where
  f : {α : Type} → List α → List α
  pr : ∀ {α β : Type} (P : α → β → Prop) (xs : List α) (ys : List β), Paired P xs ys → Paired P (f xs) (f ys)
  av : ∀ rs, allVal rs = true → allVal (f rs) = true
def Perm.id : Perm := ⟨fun l => l, fun _ _ _ h => h, fun _ h => h⟩
def swapL {α : Type} : List α → List α
  | [a, b] => [b, a]
  | l => l
def Perm.swap : Perm where
  f := swapL
  pr := fun P xs ys h => by
    cases h with
    | nil => exact .nil
    | cons a t =>
      cases t with
      | nil => exact .cons a .nil
      | cons b t =>
        cases t with
        | nil => exact .cons b (.cons a .nil)
        | cons c t => exact .cons a (.cons b (.cons c t))
  av := fun rs h => by
    match rs, h with
    | [], h => exact h
    | [a], h => exact h
    | [.val a, .val b], h => rfl
    | a :: b :: c :: t, h => exact h
def gFnK (P : Perm) (n : Nat) (m : Mir) (gs : EM (List Res)) : EM Res := gs.bind fun rs => fun ρ => if allVal rs = true ∧ (P.f rs).length = n then callM m (P.f rs) ρ else none
/-- f(k = e, ..) -/
theorem p_callK {k : Nat} {f : Addr} {fd : FuncData} {ps ks : List Str} {x : Str} {p pos : Pos} {m : Mir} {n : Nat} (P : Perm) (F : FnOk X.prog X.w X.K X.mg X.base (L2.CX X.prog X.w) k f fd ps (spM X.K H0.T n m)) (hr : Room k X.A) (hg : Gl X x) (hm : X.mg x = some (.ref f)) (hk : PySem.W.keepIn X.K (.ref f) = true)
    (hb : ∀ (ws : List Value), ws.length = ks.length → bindArgs fd ⟨[], ks.zip ws⟩ = pure (ps.zip (P.f ws))) (tk : Takes X W) (hkw : PK X kws (tA X.K H0 W gs)) (hnp : ps.length = n) (hln : ∀ {α : Type} (l : List α), (P.f l).length = ps.length → l.length = ks.length)
    (hall : (backToKw pos (keywordEach kws X.env)).all (·.1.isSome) = true := by rfl) (hks : (backToKw pos (keywordEach kws X.env)).filterMap (·.1) = ks := by rfl)
    (hdb : (x == ("__debug__" : Str)) = false := by decide)
    (hpl : ((backTo pos (starEach [] X.env)).any (·.1) || (backToKw pos (keywordEach kws X.env)).any (·.1.isNone)) = false := by rfl) :
    PE X (.Call (.Name x p) [] kws pos) (tE X.K H0 W (gFnK P n m gs)) := by
  subst hnp
  refine ⟨fun pins s σ H Q I h => ?_⟩
  refine wpAny_Call_Name_kw (ld_glob I hg hm ?_ hdb)
  refine PySem.W.callWith_KW0 (h₀ := X.base) I.ok.mod.kin hk hall ?_ hpl
  obtain ⟨F1, ρ, A, h⟩ := h
  refine thn (hkw.run pos pins s σ H (fun vs H2 => (P.f vs).length = ps.length ∧ spM X.K H0.T ps.length m (P.f vs) H2 Q (WE W σ)) I ⟨F1, ρ, A, h.bind0 fun vs rs F2 H2 ρ2 o tr sb er ra e p kn => ?_⟩) fun ws s2 ⟨zs, H2, I2, rz, l1, q2⟩ => ⟨I2.kIn, ?_⟩
  · obtain ⟨⟨c1, c2⟩, e⟩ := ite_some' e
    have pr := P.pr _ _ _ ra.1
    refine ⟨(Paired.length pr).trans c2, call_sp tr sb er ⟨pr, ?_⟩ e p kn c2⟩
    rw [allVal_new (P.av _ c1)]
    exact List.nodup_nil
  · rw [hks]
    have r2 := P.pr _ _ _ rz
    have lw : ws.length = ks.length := (Paired.length rz).symm.trans (hln zs l1)
    have b : BindsTo s2 fd ⟨[], ks.zip ws⟩ (ps.zip (P.f ws)) := .of_eq (hb ws lw)
    refine wpAny_call (codeAny_mono (F.run X.A X.stack s2 H2 ⟨[], ks.zip ws⟩ (P.f ws) (P.f zs) Q (WE W σ) hr I2.env0 b r2 q2) fun r s' hq => ?_)
    cases r with
    | error e => exact passAt tk σ pins H2 s2 e s' I2 hq
    | ok fl =>
      cases fl with
      | ret u => exact I2.after hq
      | next => exact False.elim hq
      | brk => exact False.elim hq
      | cont => exact False.elim hq
end
end M

/-! M17: tuple[::-1]. -/
namespace M
open PySem PySem.Spec PyProof.Rows L2 HT

theorem rev_places (n : Nat) : Builtin.Slice.slicePlaces ((n : Int) - 1) (-1) (-1) = n := by
  unfold Builtin.Slice.slicePlaces
  rw [if_neg (by decide)]
  by_cases h : n = 0
  · subst h; rfl
  · rw [if_pos (by omega)]
    have : ((n : Int) - 1 - -1 - 1) / - -1 + 1 = n := by
      rw [show (- -1 : Int) = 1 from rfl, Int.ediv_one]
      omega
    rw [this]
    rfl
theorem fm_congr {α β : Type} {f g : α → Option β} : ∀ {l : List α}, (∀ x ∈ l, f x = g x) → l.filterMap f = l.filterMap g
  | [], _ => rfl
  | x :: l, h => by
    rw [List.filterMap_cons, List.filterMap_cons, h x List.mem_cons_self, fm_congr fun y hy => h y (List.mem_cons_of_mem _ hy)]
theorem rev_pick (xs : Array Value) : ((List.range xs.size).filterMap fun (k : Nat) => xs[(((xs.size : Int) - 1) + (k : Int) * -1).toNat]?).toArray = xs.toList.reverse.toArray := by
  have e : ((List.range xs.size).filterMap fun (k : Nat) => xs[(((xs.size : Int) - 1) + (k : Int) * -1).toNat]?) = ((List.range xs.size).map fun k => xs.size - 1 - k).filterMap (xs[·]?) := by
    rw [List.filterMap_map]
    refine fm_congr fun k hk => ?_
    have := List.mem_range.mp hk
    have e2 : (((xs.size : Int) - 1) + (k : Int) * -1).toNat = xs.size - 1 - k := by omega
    rw [e2]
    rfl
  rw [e, PySem.W.krv_range, List.filterMap_reverse, PySem.W.krv_all]
section
variable {prog : Program} {w : World} {A : Around} {E : Value → Shared → Prop} {s : Shared}
theorem getItem_tuple_rev {t sl : Addr} {items : Array Value} {vs : Value} {Q : Value → Shared → Prop} (ht : IsTup s.heap t items) (hs : s.heap.IsSliceOf sl .none .none vs) (ps : IsPart vs (some (-1)))
    (h : Q (.ref s.heap.objs.size) { s with heap := s.heap.push { cls := .type "tuple", data := .seq items.toList.reverse.toArray } }) (hsz : items.size ≤ sizeLine) : wpAny (model prog w) A (getItem (.ref t) (.ref sl)) Q E s := by
  have htake : sizeOk (.seq items.toList.reverse.toArray) := by
    show items.toList.reverse.toArray.size ≤ sizeLine
    rw [List.size_toArray, List.length_reverse, Array.length_toList]
    exact hsz
  obtain ⟨os, hos, hcs, hds⟩ := id hs
  have hTs : s.TypeIs (.ref sl) "slice" := ⟨os, hos, hcs⟩
  unfold getItem
  try with_reducible refine wpAny_holding ?_
  first | refine wpAny_bind (wpAny_pure ?_) | skip
  refine wpAny_bind (wpAny_sequenceKey ht.typeIs (by decide) ?_)
  refine wpAny_bind (wpAny_callSpecial?_slot (name := Str.ofString "__getitem__") ht.typeIs PyProof.Rows.slot_tuple_getitem
    (wpAny_call_entry PyProof.Rows.slot_tuple_getitem ht.typeIs entry_tuple_getitem ?_ (args_tuple_getitem _ _)))
  show wpAny _ _ (Builtin.Tuple.tupleItemsOf (.ref t) >>= _) _ _ s
  refine wpAny_bind (tupleItemsOf_ ht ?_)
  refine wpAny_bind (wpAny_typeOf hTs ?_)
  rw [if_pos (by decide)]
  have step : ∀ {A' : Around} {E' : Value → Shared → Prop} {Q' : Int × Int × Nat → Shared → Prop}, Q' ((items.size : Int) - 1, -1, items.size) s → wpAny (model prog w) A' (Builtin.Slice.sliceApplied (.ref sl) (pure (items.size : Int))) Q' E' s := fun {A' E' Q'} hq => by
    unfold Builtin.Slice.sliceApplied Builtin.Slice.sliceFields
    refine wpAny_bind (wpAny_bind (wpAny_field hos hds (x := .none) rfl (wpAny_bind (wpAny_field hos hds (x := .none) rfl (wpAny_bind (wpAny_field hos hds (x := vs) rfl (wpAny_pure ?_)))))))
    refine wpAny_bind (slicePart_ ps ?_)
    show wpAny _ _ (if ((-1 : Int) == 0) = true then _ else _) _ _ s
    rw [if_neg (by decide)]
    refine wpAny_bind (slicePart_none (wpAny_bind (slicePart_none (wpAny_bind (wpAny_pure ?_)))))
    show wpAny _ _ (pure ((items.size : Int) - 1, (-1 : Int), Builtin.Slice.slicePlaces ((items.size : Int) - 1) (-1) (-1))) _ _ s
    rw [rev_places]
    exact wpAny_pure hq
  refine wpAny_bind (step ?_)
  have hno : ¬ ((((items.size : Int) - 1) == 0 && (-1 : Int) == 1 && items.size == items.size) = true) := by simp
  show wpAny _ _ (if (((items.size : Int) - 1) == 0 && (-1 : Int) == 1 && items.size == items.size) = true then _ else _) _ _ s
  rw [if_neg hno, rev_pick]
  first
    | exact wpAny_bind (m := Builtin.Tuple.tupleExact _) (wpAny_newObj_type (wpAny_pure ⟨_, rfl, wpAny_pure h⟩) htake)
    | exact wpAny_bind (m := Builtin.Tuple.tupleExact _) (wpAny_newObj_type (wpAny_bind (wpAny_pure (wpAny_pure ⟨_, rfl, wpAny_pure h⟩))) htake)
    | exact wpAny_bind (wpAny_bind (m := Builtin.Tuple.tupleExact _) (wpAny_newObj_type (wpAny_pure (wpAny_pure ⟨_, rfl, wpAny_pure h⟩)) htake))
    | exact wpAny_bind (wpAny_bind (m := Builtin.Tuple.tupleExact _) (wpAny_newObj_type (wpAny_pure ⟨_, rfl, wpAny_pure h⟩) htake))
end
def tRevT (K : PySem.W.Frag) (te : TE) : TE := fun σ H Q => te σ H fun x H1 => ∃ a xs, x = .ref a ∧ SqT K H1 a xs ∧ ∀ p, H1 p = none → Q (.ref p) (upd H1 p (.tup xs.reverse))
section
variable {X : Cx} {H0 : HE} {W : WX}
theorem pe_revT {e : Expr} {te : TE} {k : Nat} {p1 p2 p3 pos : Pos} (he : PE X e te) : PE X (.Subscript e (.Slice none none (some (.UnaryOp .USub (.Constant (.int 1) k p1) p2)) p3) pos) (tRevT X.K te) := by
  refine ⟨fun pins s σ H Q I h => ?_⟩
  refine Subscript_ (thn (he.run pins s σ H _ I h) fun v s1 ⟨x, H1, I1, r1, q1⟩ => ?_)
  obtain ⟨a, xs, ex, hx, q⟩ := q1
  subst ex
  cases r1
  have hst : PO X (some (.UnaryOp .USub (.Constant (.int 1) k p1) p2)) (tPart (tUn (rU fun i => .int (-i)) (L2.tC (.int 1)))) := po_some (pe_un un_neg pe_int)
  refine wpAny_Slice (thn (po_none.run pins s1 σ H1 (fun o H2 => o = none ∧ H2 = H1) I1 ⟨rfl, rfl⟩) fun vl s2 ⟨l, H2, I2, pl, el, e2⟩ => ?_)
  subst el e2
  refine thn (po_none.run pins s2 σ H2 (fun o H3 => o = none ∧ H3 = H2) I2 ⟨rfl, rfl⟩) fun vu s3 ⟨u, H3, I3, pu, eu, e3⟩ => ?_
  subst eu e3
  refine thn (hst.run pins s3 σ H3 (fun o H4 => o = some (-1) ∧ H4 = H3) I3 ⟨1, rfl, -1, rfl, rfl, rfl⟩) fun vs s4 ⟨o, H4, I4, ps, eo, e4⟩ => ?_
  subst eo e4
  cases pl
  cases pu
  have I5 : Inv X pins σ H4 { s4 with heap := s4.heap.push { cls := .type "slice", data := .fields #[.none, .none, vs] } } := I4.kept (t' := s4.toks) fun b ob q => Heap.get?_push_of_some _ q
  obtain ⟨its, r, ht, hz⟩ := I5.tuple hx
  have hlen := r.length
  show wpAny (model X.prog X.w) X.A (subscriptTail e (.Slice none none (some (.UnaryOp .USub (.Constant (.int 1) k p1) p2)) p3) (.ref a) (.ref s4.heap.objs.size)) (EP X pins σ Q) X.xe { s4 with heap := s4.heap.push { cls := .type "slice", data := .fields #[.none, .none, vs] } }
  refine tail_any (ops := [.ref a, .ref s4.heap.objs.size]) ht.typeIs (PyProof.Rows.slot_tuple_getitem.lookup) ?_ (by with_unfolding_all rfl)
  refine getItem_tuple_rev ht (Heap.IsSliceOf.new _ .none .none vs) ps ?_ (by rw [List.size_toArray]; omega)
  refine ⟨.ref _, _, I5.laid (t' := s4.toks) (o := .tup xs.reverse) (fun b ob q => Heap.get?_push_of_some _ q) (Nat.le_refl _) ?_, rfl, q _ (I5.hok.fresh (Nat.le_refl _))⟩
  exact ⟨by rw [List.length_reverse]; exact hz, its.reverse, r.reverse, IsTup.new _ _⟩
def fRev : D → Option Res
  | .tup ds => some (.val (.tup ds.reverse))
  | _ => none
theorem p_revT {e : Expr} {g : EM Res} {k : Nat} {p1 p2 p3 pos : Pos} (he : PE X e (tE X.K H0 W g)) : PE X (.Subscript e (.Slice none none (some (.UnaryOp .USub (.Constant (.int 1) k p1) p2)) p3) pos) (tE X.K H0 W (gUn fRev g)) :=
  (pe_revT he).weak fun σ H Q h => by
    obtain ⟨F, ρ, A, h⟩ := h
    refine ⟨F, ρ, A, h.bind fun v r F1 H1 ρ1 tr sb ra h1 => ?_⟩
    obtain ⟨d, res, e1, e2, h2⟩ := op1_at h1
    unfold fRev at e2
    split at e2
    · cases e2
      obtain ⟨a, xs, rfl, s1, r1⟩ := top_tup (ra.top h2.1 e1)
      exact ⟨a, xs, rfl, le_t h2.1.le s1, fun p hp => h2.tup r1.reverse hp⟩
    · cases e2
end
end M

/-! M18: a lambda without parameters, handed to a def that calls it in a try. -/
namespace M
open PySem PySem.Spec PyProof.Rows L2

section
variable {X : Cx} {pins : List (Addr × Obj)} {σ : L2.St} {H : Hp} {s : Shared}
/-- a lambda is made: what stood stays, the tables still tell its name -/
theorem lam_new {T : List (Addr × Str)} {c P : Addr} {params : Arguments} {body : Expr} {scope : Scope} {pos : Pos} {E : Value → Shared → Prop} {Q : Value → Shared → Prop} (I : Inv X pins σ H s) (TB : LamX.TabB X.base X.mg c P) (hcode : X.env.code = .ref c)
    (hm : (P, X.env.qual ++ "<lambda>") ∈ T) (hu : ∀ p ∈ T, p.1 = P → p.2 = X.env.qual ++ "<lambda>") (hT : LamX.Tabs T H) (hdef : defaultsOf params X.env = ([], [])) (hfree : ∀ y ∈ scope.names, y.2 = .free → ∃ c, X.env.cells.lookup y.1 = some c)
    (h : ∀ (f c' : Addr) (pm ctv : Value) (H1 : Hp) (s' : Shared), Inv X pins σ H1 s' → LamX.ExtN H H1 → (∀ b o, H b = some o → ∃ y, H1 b = some y) → LamX.Tabs T H1 →
      s'.heap.get? f = some (PySem.W.kla_obj "<lambda>" (X.env.qual ++ "<lambda>") params body scope (cloFrom X.env.cells scope.names []) pm c' ctv) → H1 f = none → f ∉ frs X.stack → H1 c' = some (LamX.CodeO c' (X.env.qual ++ "<lambda>")) → Q (.ref f) s') :
    wpAny (model X.prog X.w) X.A (eval (.Lambda params body scope pos) X.env) Q E s := by
  obtain ⟨ps, hP, tri, among⟩ := hT _ hm
  have builtP : s.heap.BuiltinsAt X.mg P := TB.bm.keeps I.bk
  have objP : s.heap.get? P = some { cls := .none, data := .fields ps } := I.hok P _ hP
  have out : ∀ f, s.heap.objs.size ≤ f → f ∉ frs X.stack := fun f hf z => (List.mem_cons.mp (I.stkSub _ z)).elim
    (fun e => Nat.lt_irrefl _ (Nat.lt_of_lt_of_le (by rw [e]; exact I.lt) hf)) (I.nofs hf)
  refine PySem.W.kla_eval hdef ?_
  generalize hc : codeAmong pos ps.toList = found
  cases found with
  | some cv =>
    -- it stands in the table
    obtain ⟨c', rfl, hco⟩ := among pos cv hc
    refine PySem.W.kla_makeFunctionHit (mg := X.mg) (c := c) (P := P) (ps := ps) (closure_ok hfree) I.ok.glob (I.mod.glob.keeps I.bk) hcode (TB.code.keeps I.bk) objP tri hc builtP fun ctv h' tk hx hsz => ?_
    exact h _ c' ((X.mg "__name__").getD .none) ctv H _ (I.kept (t' := tk) fun b o e => Heap.get?_push_of_some _ (hx b o e)) (LamX.ExtN.refl H) (fun b o e => ⟨o, e⟩) hT (Heap.get?_push_size _ rfl) (I.hok.fresh hsz) (out _ hsz) hco
  | none =>
    -- a new code object, written behind the table
    refine PySem.W.kla_makeFunction (mg := X.mg) (c := c) (P := P) (ps := ps) (closure_ok hfree) I.ok.glob (I.mod.glob.keeps I.bk) hcode (TB.code.keeps I.bk) objP tri hc TB.gP builtP fun c' ctv h' tk hx hge hlt hrec htb => ?_
    obtain ⟨c2, oc, vs, t, e2, hoc, hd, hv⟩ := hrec
    cases e2
    have big : s.heap.objs.size ≤ h'.objs.size := Nat.le_trans hge (Nat.le_of_lt hlt)
    have fresh : H c' = none := I.hok.fresh hge
    generalize hmore : (#[rawInt pos.line, rawInt pos.col, .ref c'] : Array Value) = more at htb
    have listed : (ps ++ more).toList = ps.toList ++ [rawInt pos.line, rawInt pos.col, .ref c'] := by rw [← hmore]; simp
    have J := LamX.inv_table (t' := tk) (more := more) (h' := h'.push (PySem.W.kla_obj "<lambda>" (X.env.qual ++ "<lambda>") params body scope (cloFrom X.env.cells scope.names []) ((X.mg "__name__").getD .none) c' ctv)) I hP
      (fun b o hb e => Heap.get?_push_of_some _ (hx b o hb e)) (Heap.get?_push_of_some _ htb) hge ⟨oc, vs, t, Heap.get?_push_of_some _ hoc, hd, hv⟩
    have keep : LamX.ExtN H (upd (upd H P (.tbl (ps ++ more))) c' (LamX.CodeO c' (X.env.qual ++ "<lambda>"))) := fun b o e n => by
      have n1 : b ≠ P := fun z => by rw [z, hP] at e; exact n ps (Option.some.inj e).symm
      rw [upd_ne (ne_of_none e fresh), upd_ne n1]
      exact e
    have there : ∀ b o, H b = some o → ∃ y, upd (upd H P (.tbl (ps ++ more))) c' (LamX.CodeO c' (X.env.qual ++ "<lambda>")) b = some y := fun b o e => by
      by_cases hb : b = P
      · exact ⟨.tbl (ps ++ more), by rw [upd_ne (ne_of_none e fresh), hb, upd_same]⟩
      · exact ⟨o, by rw [upd_ne (ne_of_none e fresh), upd_ne hb]; exact e⟩
    have nf1 : h'.objs.size ≠ c' := Nat.ne_of_gt hlt
    have nf2 : h'.objs.size ≠ P := Nat.ne_of_gt (Nat.lt_of_lt_of_le (Heap.lt_size objP) big)
    refine h h'.objs.size c' ((X.mg "__name__").getD .none) ctv _ _ J keep there (fun p hp => ?_) (Heap.get?_push_size _ rfl) (by rw [upd_ne nf1, upd_ne nf2]; exact I.hok.fresh big) (out _ big) upd_same
    by_cases hb : p.1 = P
    · rw [hu p hp hb, hb]
      refine ⟨ps ++ more, by rw [upd_ne (ne_of_none hP fresh), upd_same], by rw [listed]; exact PySem.TriplesOk_snoc _ _ _ _ tri, fun p' cv hcv => ?_⟩
      rw [listed] at hcv
      rcases LamX.among_app _ tri hcv with z | z
      · obtain ⟨c0, e1, e2⟩ := among p' cv z
        exact ⟨c0, e1, keep _ _ e2 LamX.codeO_ne⟩
      · exact ⟨c', z, upd_same⟩
    · obtain ⟨qs, a1, a2, a3⟩ := hT p hp
      refine ⟨qs, by rw [upd_ne (ne_of_none a1 fresh), upd_ne hb]; exact a1, a2, fun p' cv hcv => ?_⟩
      obtain ⟨c0, e1, e2⟩ := a3 p' cv hcv
      exact ⟨c0, e1, keep _ _ e2 LamX.codeO_ne⟩
end

/-! ### the mirror -/
/-- the def that gets the lambda: try: return (told, a()) / except cs as e: suite. N its names; g the suite, from [un, exc C fs, ..] -/
def gHeard (N : Nat) (told : Str) (mt : Value → Option Bool) (g : EM Fl) (ge : EM Res) : EM Res := fun ρ => if noE ρ = true then (match ge ρ with
  | some (.ok (.val d) ρ') => some (.ok (.val (.tup [.str told, d])) ρ')
  | some (.ex C fs ρ') => (match mt C with
    | some true => (match g (.un :: .exc C fs :: List.replicate (N - 2) .un) with
      | some (.ok (.rt (.val d)) _) => some (.ok (.val d) ρ')
      | _ => none)
    | _ => none)
  | _ => none) else none
section
variable {X : Cx} {H0 : HE} {W : WX}
/-- the wish about exceptions, of names of the right number -/
theorem takes_len {W' : WX} (tk : Takes X W') : Takes X (fun cls d σ H => σ.length = X.N.length → W' cls d σ H) := fun u s' ⟨a, B, sI, pins, σ, H, cls, d, e, I, nb, up, sky, na, os, ag, w⟩ =>
  tk u s' ⟨a, B, sI, pins, σ, H, cls, d, e, I, nb, up, sky, na, os, ag, w I.len⟩
theorem p_heard {x a en told : Str} {g c P : Addr} {k : Nat} {pg : Arguments} {sg : Scope} {dV kV doc pm cdv ct oc : Value} {an od : Option Addr} {osl : Array (Option Value)} {Ng : List Str}
    {params : Arguments} {body : Expr} {scope : Scope} {p lpos pos q1 q2 q3 q4 q5 q6 q7 : Pos} {j j2 : Nat} {te : Expr} {cs : List Value} {b₀ : Stmt} {suite : List Stmt} {mt : Value → Option Bool} {gs : EM Fl} {ge : EM Res} {nN : Nat}
    (hg : Gl X x) (hm : X.mg x = some (.ref g)) (hk : PySem.W.keepIn X.K (.ref g) = true)
    (lk : X.K.lookup g = some ⟨oc, od, .func (PySem.W.fnOf x x pg [.Try [.Return (some (.Tuple [.Constant (.str told) j q1, .Call (.Name a q2) [] [] q3] j2 q4)) q5] [.ExceptHandler (some te) (some en) (b₀ :: suite) q6] [] [] q7] sg dV kV doc pm an cdv ct), osl⟩) (hcg : PySem.W.codeIn X.K cdv x = true)
    (hb : L2.Binds X.K (PySem.W.fnOf x x pg [.Try [.Return (some (.Tuple [.Constant (.str told) j q1, .Call (.Name a q2) [] [] q3] j2 q4)) q5] [.ExceptHandler (some te) (some en) (b₀ :: suite) q6] [] [] q7] sg dV kV doc pm an cdv ct) [a] []) (Sg : FnScope Ng [a] sg) (hN0 : Ng[0]? = some a) (hN1 : Ng[1]? = some en) (hva : Vis sg a) (hln : sg.names.lookup en = some .local) (h2 : 2 ≤ Ng.length) (hNl : Ng.length = nN)
    (TB : LamX.TabB X.base X.mg c P) (hcode : X.env.code = .ref c) (hmT : (P, X.env.qual ++ "<lambda>") ∈ H0.T) (hu : ∀ p ∈ H0.T, p.1 = P → p.2 = X.env.qual ++ "<lambda>") (hr : Room (k + 2) X.A) (L : LamX.LamS X.env.scope scope) (hdef : defaultsOf params X.env = ([], []))
    (hbind : ∀ (q : Str) (cl : List (Str × Addr)) (pm cv ctv : Value), bindArgs (PySem.W.kla_fn "<lambda>" q params body scope cl pm cv ctv) ⟨[], []⟩ = pure [])
    (hbody : ∀ (A : Around) (outer : List Env) (s : Shared) (H : Hp) (E : XK) (f c' : Addr), Room k (A.deeper (LamX.lamEnv X scope s.heap.objs.size f c')) → Takes (LamX.lamCx X A outer s H E scope f c') (fun cls d _ H' => E cls d H') → PE (LamX.lamCx X A outer s H E scope f c') body (tE X.K H0 (fun cls d _ H' => E cls d H') ge))
    (hcl : ∀ (s : Shared) (H : Hp), ClOk (cxOf C8.CX0 X.prog X.w X.K X.mg X.base Ng x sg g cdv X.A X.stack s H C8.E0) te cs) (hmt : ∀ cls b, mt cls = some b → PySem.W.exmAny X.K cls cs = some b)
    (hsu : ∀ (s : Shared) (H : Hp) (h0 : HE) (ae : Addr) (oe : Obj) (cls : Value) (d : Option Addr) (pn : List (Addr × Obj)), h0.T = H0.T → Room (k + 1) (X.A.deeper (envOfC x sg s.heap.objs.size g cdv)) → Zc cls d oe → (∃ vs, oe.data = .fields vs) → PSs ((cxOf C8.CX0 X.prog X.w X.K X.mg X.base Ng x sg g cdv X.A X.stack s H C8.E0).suite ae ((ae, oe) :: pn)) (b₀ :: suite) (tSt X.K (h0.sees ae cls d) (fun _ _ _ _ => False) gs))
    (hdb : (x == ("__debug__" : Str)) = false := by decide) (hd : (a == ("__debug__" : Str)) = false := by decide) (hcd : (a == ("__classdict__" : Str)) = false := by decide) :
    PE X (.Call (.Name x p) [.Lambda params body scope lpos] [] pos) (tE X.K H0 W (gHeard nN told mt gs ge)) := by
  subst hNl
  refine ⟨fun pins s σ H Q I h => ?_⟩
  obtain ⟨F, ρ, A, er, kn, o, e, post⟩ := h
  unfold gHeard at e
  obtain ⟨hno, e⟩ := ite_some' e
  refine wpAny_Call_Name_kw (ld_glob I hg hm ?_ hdb)
  refine PySem.W.callWith_K (h₀ := X.base) I.ok.mod.kin hk ?_ (by rfl) (by rfl)
  show wpAny _ _ (spliced ((false, eval (.Lambda params body scope lpos) X.env) :: backTo pos (starEach [] X.env))) _ _ s
  refine Calls.spliced_cons (lam_new I TB hcode hmT hu er.tabs hdef (L.has I.ok) fun f c' pm' ctv H1 s' I1 eN th T1 hf hfn hfr hco => ?_)
  refine Calls.spliced_nil ⟨I1.kIn, ?_⟩
  -- the state behind the making
  have er1 : ER X.K H0 F H1 σ ρ A := by
    refine ⟨er.len, ⟨fun b u n z => ?_, fun b u z => ?_, fun b xs z => eN _ _ (er.le.ls b xs z) (fun _ w => nomatch w), fun b xs z => eN _ _ (er.le.xd b xs z) (fun _ w => nomatch w)⟩, fun i sl q => ?_, er.inj, fun b u z => ?_, T1⟩
    · rcases er.le.rd b u n z with q | ⟨y, q⟩
      · exact .inl (eN _ _ q n)
      · exact .inr ⟨y, eN _ _ q (fun _ w => nomatch w)⟩
    · obtain ⟨y, hy⟩ := er.le.th b u z
      exact th b y hy
    · have so := er.sl i sl q
      have mk : ∀ {b : Addr} {m : Mo}, MoAt X.K F H b m → MoAt X.K F H1 b m := fun {b m} mo => by
        obtain ⟨ob, hob⟩ := mo.there
        exact mo.keep ((eN _ _ hob (mo.ntbl hob)).trans hob.symm)
      cases sl with
      | un => trivial
      | val d => exact so
      | exc C fs => exact so
      | own m => exact ⟨so.1, so.2.1, mk so.2.2.1, so.2.2.2⟩
      | par m => exact ⟨so.1, so.2.1, mk so.2.2⟩
    · obtain ⟨y, hy⟩ := er.dom b u z
      exact th b y hy
  have tr1 : Tr (OwnA ρ A) F H F H1 := ⟨Le.refl F, fun b u _ n z => eN _ _ z n, fun b u z => .inl ⟨u, z⟩, th⟩
  -- the def runs
  have rc : codeAny (model X.prog X.w) X.A (.call (.ref g) ⟨[.ref f], []⟩) (CR C8.CX0 X.stack X.prog X.w H1 s' Q C8.E0) s' := by
    refine LamX.run_ofS (N := Ng) (ps := [a]) (us := [.ref f]) (vs := [.ref f]) lk hcg Sg hr I1.env0 (hb s' [.ref f] I1.kIn rfl) (.cons rfl .nil) rfl fun hr' => ?_
    have act := fun (W : WX) (pn : List (Addr × Obj)) (xe : Value → Shared → Prop) (E : XK) (p1 p2 : Pos) (tk : Takes ((cxOf C8.CX0 X.prog X.w X.K X.mg X.base Ng x sg g cdv X.A X.stack s' H1 C8.E0).tr pn xe) W) (hW : ∀ cls d σ' H', E cls d H' → W cls d σ' H') =>
      LamX.pe_act (i := 0) (p1 := p1) (p2 := p2) (pn := pn) (xe := xe) (W := W) (E := E) I1 L hf hfn hfr (hbind _ _ _ _ _) tk hW hr' (fun A outer s H hr2 => hbody A outer s H E f c' hr2 (takes_of rfl rfl rfl rfl)) hN0 hva hd hcd
    -- its wish about the body's exceptions
    let D0 : Ends := { nx := fun _ H' => Q .non H', rt := Q }
    let ts : Addr → Value → Option Addr → TS := fun ae cls d => tSt X.K ((⟨H1, fun _ _ _ => False, H0.T⟩ : HE).sees ae cls d) (fun _ _ _ _ => False) gs
    let Ech : XK := fun cls d H' => ∀ σ' : L2.St, σ'.length = Ng.length → wCl X.K (fun _ _ _ _ => False) D0 [⟨cs, some 1, ts⟩] cls d σ' H'
    refine ⟨fun D σZ HZ => σZ[0]? = some (some (.ref f)) ∧ HZ c' = some (LamX.CodeO c' (X.env.qual ++ "<lambda>")) ∧ D.rt = Q ∧ D.nx = D0.nx ∧ D.bk = D0.bk ∧ D.ct = D0.ct ∧ tE X.K H0 (fun cls d _ H' => Ech cls d H') ge σ HZ (fun v H' => ∀ pp, H' pp = none → Q (.ref pp) (upd H' pp (.tup [.str told, v]))), ?_, ?_⟩
    · refine pss_one ((ps_try_cl (l := [⟨cs, some 1, ts⟩]) (Wout := fun _ _ _ _ => False)
        (tb := fun W D σZ HZ => ∃ Ec : XK, (∀ cls d σ' H', Ec cls d H' → σ'.length = Ng.length → W cls d σ' H') ∧ σZ[0]? = some (some (.ref f)) ∧ HZ c' = some (LamX.CodeO c' (X.env.qual ++ "<lambda>")) ∧ tE X.K H0 (fun cls d _ H' => Ec cls d H') ge σ HZ (fun v H' => ∀ pp, H' pp = none → D.rt (.ref pp) (upd H' pp (.tup [.str told, v]))))
        rfl rfl Sg.nd LamX.takes0 (fun W pn xe tk _ => ?_) ?_).weak ?_)
      · refine ⟨fun pinsZ sZ σZ HZ D IZ hq => ?_⟩
        obtain ⟨Ec, hW, z0, zc, zt⟩ := hq
        have hp := act (fun cls d σ' H' => σ'.length = Ng.length → W cls d σ' H') pn xe Ec q2 q3 (takes_len tk) (fun cls d σ' H' hE hl => hW cls d σ' H' hE hl)
        refine (pss_one (ps_ret (pos := q5) (pe_tup (pa_cons pe_str (pa_cons hp pa_nil))))).run pinsZ sZ σZ HZ D IZ ?_
        obtain ⟨F2, ρ2, A2, er2, kn2, o2, e2, po2⟩ := zt
        refine ⟨z0, zc, F2, ρ2, A2, er2, kn2, o2, e2, ?_⟩
        cases o2 with
        | ok r ρ3 => exact fun v F' H' tr' er' sb' ra' => ⟨by rw [sizeLine_eq]; simp, fun pp hpp => po2 v F' H' tr' er' sb' ra' pp hpp⟩
        | ex C fs ρ3 => exact po2
      · refine .as (hcl s' H1) hN1 hln (fun ae oe cls d pn hz hfv => hsu s' H1 ⟨H1, fun _ _ _ => False, H0.T⟩ ae oe cls d pn rfl hr' hz hfv) .nil
      · rintro D σZ HZ ⟨z0, zc, hD, hnx, hbk, hct, zt⟩
        obtain ⟨dnx, drt, dbk, dct⟩ := D
        dsimp only at hD hnx hbk hct
        subst hD hnx hbk hct
        exact ⟨Ech, fun cls d σ' H' hE hl => hE σ' hl, z0, zc, zt⟩
    · refine ⟨rfl, hco, rfl, rfl, rfl, rfl, F, ρ, A, er1, fun _ z => z, ?_⟩
      cases eg : ge ρ with
      | none => rw [eg] at e; cases e
      | some og =>
        rw [eg] at e
        refine ⟨og, rfl, ?_⟩
        have tt : ∀ {F' H' : Hp}, Tr (OwnA ρ A) F H1 F' H' → Tr (OwnA ρ A) F H F' H' := fun t => tr1.trans t fun _ z => .inl z
        cases og with
        | ok r ρ' =>
          cases r with
          | new m => cases e
          | brw i => cases e
          | val d =>
            cases e
            intro v F' H' tr' er' sb' ra' pp hpp
            exact post (.ref pp) (upd F' pp (.tup [.str told, v])) _ ((tt tr').then sb' (Tr.laidF er'.le hpp)) (er'.laidF hpp) sb' (Rep.tup (.inl (.inl upd_same)) (.cons (.str told) (.cons (Rep.mono (le_self (free_F er'.le hpp)) ra') .nil)))
        | ex C fs ρ' =>
          dsimp only at e
          cases em : mt C with
          | none => rw [em] at e; cases e
          | some b =>
            rw [em] at e
            cases b with
            | false => cases e
            | true =>
              dsimp only at e
              cases es : gs (.un :: .exc C fs :: List.replicate (Ng.length - 2) .un) with
              | none => rw [es] at e; cases e
              | some os =>
                rw [es] at e
                cases os with
                | ex _ _ _ => cases e
                | ok fl ρs =>
                  cases fl with
                  | nx => cases e
                  | bk => cases e
                  | ct => cases e
                  | rt rs =>
                    cases rs with
                    | new _ => cases e
                    | brw _ => cases e
                    | val d =>
                      cases e
                      intro dx F' H' tr' er' sb' xa σ' hl
                      refine ⟨true, hmt C true em, fun _ ae hae => ?_, fun z => by cases z⟩
                      -- the suite, from its own names
                      have hl1 : 1 < σ'.length := by omega
                      have erZ : ER X.K ((⟨H1, fun _ _ _ => False, H0.T⟩ : HE).sees ae C dx) F' H' (σ'.set 1 (some (.ref ae))) (.un :: .exc C fs :: List.replicate (Ng.length - 2) .un) (fun _ => 0) := by
                        have gx : ∀ i s, (Slot.un :: Slot.exc C fs :: List.replicate (Ng.length - 2) Slot.un)[i]? = some s → s = .un ∨ (i = 1 ∧ s = .exc C fs) := fun i s q => by
                          match i, q with
                          | 0, q => exact .inl (Option.some.inj q).symm
                          | 1, q => exact .inr ⟨rfl, (Option.some.inj q).symm⟩
                          | i + 2, q =>
                            have q' : (List.replicate (Ng.length - 2) Slot.un)[i]? = some s := q
                            rw [List.getElem?_replicate] at q'
                            split at q'
                            · exact .inl (Option.some.inj q').symm
                            · cases q'
                        have nm : ∀ i m, moAt (Slot.un :: Slot.exc C fs :: List.replicate (Ng.length - 2) Slot.un) i ≠ some m := fun i m q => by
                          unfold moAt at q
                          cases w : (Slot.un :: Slot.exc C fs :: List.replicate (Ng.length - 2) Slot.un)[i]? with
                          | none => rw [w] at q; cases q
                          | some s =>
                            rw [w] at q
                            rcases gx i s w with rfl | ⟨_, rfl⟩ <;> cases q
                        refine ⟨?_, er'.le, fun i s q => ?_, fun i j m m' q => absurd q (nm i m), fun b u z => tr'.there b u z, er'.tabs⟩
                        · rw [List.length_set, hl, List.length_cons, List.length_cons, List.length_replicate]
                          omega
                        · rcases gx i s q with rfl | ⟨rfl, rfl⟩
                          · trivial
                          · exact ⟨ae, dx, List.getElem?_set_self hl1, ⟨rfl, rfl, rfl⟩, xa⟩
                      refine ⟨F', _, _, erZ, _, es, ?_⟩
                      intro v σ2 F2 H2 A2 tr2 er2 s2 ra2
                      have noS : ∀ b, ¬ OwnA (Slot.un :: Slot.exc C fs :: List.replicate (Ng.length - 2) Slot.un) (fun _ => 0) b := fun b ⟨i, m, q, _⟩ => by
                        unfold moAt at q
                        match i, q with
                        | 0, q => cases q
                        | 1, q => cases q
                        | i + 2, q =>
                          have q' : ((List.replicate (Ng.length - 2) Slot.un)[i]?).bind Slot.mo? = some m := q
                          rw [List.getElem?_replicate] at q'
                          split at q' <;> cases q'
                      have tr3 : Tr (fun _ => False) F' H' F2 H2 := tr2.mono fun b z => noS b z
                      obtain ⟨er3, _⟩ := ER.change (ρ' := ρ') er' tr3 er2.le er2.tabs rfl fun i => .inl ⟨rfl, fun _ _ z => z⟩
                      exact post v F2 H2 ((tt tr').trans tr3 fun _ z => z.elim) er3 sb' (show Rep X.K F2 v d from ra2)
  refine wpAny_call (codeAny_mono rc fun r s2 hq => ?_)
  cases r with
  | error e => exact (show False from hq).elim
  | ok fl =>
    cases fl with
    | ret u => exact I1.after hq
    | next => exact False.elim hq
    | brk => exact False.elim hq
    | cont => exact False.elim hq
end
end M

/-! M19: a op1 b op2 c op3 d. -/
namespace M
open PySem PySem.Spec PyProof.Rows L2

def tChain3 (r r' r'' : R2) (ta tb tc td : TE) : TE := fun σ H Q => ta σ H fun x H1 => tb σ H1 fun y H2 => r x y H2 fun z H3 => ∃ k, z = .bl k ∧
  (if k = true then tc σ H3 fun w H4 => r' y w H4 fun z' H5 => ∃ k', z' = .bl k' ∧ (if k' = true then td σ H5 fun v H6 => r'' w v H6 Q else Q (.bl false) H5) else Q (.bl false) H3)
section
variable {X : Cx} {H0 : HE} {W : WX} {a b c d : Expr} {ta tb tc td : TE} {pos : Pos} {ga gb gc gd : EM Res}
theorem pt_chain3 {op op' op'' : CmpOp} {r r' r'' : R2} (ho : OpR X (compareOp op) r) (ho' : OpR X (compareOp op') r') (ho'' : OpR X (compareOp op'') r'') (ha : PE X a ta) (hb : PE X b tb) (hc : PE X c tc) (hd : PE X d td)
    (hm : lastMarks [op, op', op''] [b, c, d] = false := by with_unfolding_all rfl) : PT X (.Compare a [op, op', op''] [b, c, d] pos) (tTest (tChain3 r r' r'' ta tb tc td)) := by
  refine ⟨fun pins s σ H Q I h => ?_⟩
  refine isTrue_chain (thn (ha.run pins s σ H _ I h) fun v s1 ⟨x, H1, I1, r1, q1⟩ => test_link (thn (hb.run pins s1 σ H1 _ I1 q1) fun u s2 ⟨y, H2, I2, r2, q2⟩ =>
    thn (ho pins s2 σ H2 x y v u _ I2 r1 r2 q2) fun d s3 ⟨z, H3, I3, r3, k, e, q3⟩ => ?_)) hm
  subst e
  cases r3
  refine wpAny_truthy_bool ?_
  cases k with
  | false =>
    obtain ⟨k', e', q'⟩ := q3
    cases e'
    exact ite_ff ⟨H3, I3, q'⟩
  | true =>
    refine ite_tt (test_link (thn (hc.run pins s3 σ H3 _ I3 q3) fun w' s4 ⟨z', H4, I4, r4, q4⟩ => thn (ho' pins s4 σ H4 y z' u w' _ I4 r2 r4 q4) fun d' s5 ⟨z2, H5, I5, r5, k2, e2, q5⟩ => ?_))
    subst e2
    cases r5
    refine wpAny_truthy_bool ?_
    cases k2 with
    | false =>
      obtain ⟨k', e', q'⟩ := q5
      cases e'
      exact ite_ff ⟨H5, I5, q'⟩
    | true =>
      refine ite_tt (test_last (thn (hd.run pins s5 σ H5 _ I5 q5) fun w2 s6 ⟨z3, H6, I6, r6, q6⟩ => thn (ho'' pins s6 σ H6 z' z3 w' w2 _ I6 r4 r6 q6) fun d2 s7 ⟨z4, H7, I7, r7, k3, e3, q7⟩ => ?_))
      subst e3
      cases r7
      exact wpAny_truthy_bool ⟨H7, I7, q7⟩
def gChain3 (f f' f'' : D → D → Option Res) (ga gb gc gd : EM Res) : EM Res := ga.bind fun r1 => gb.bind fun r2 => (op2 f r1 r2).bind fun r => (blM r).bind fun k => if k = true then
  (gc.bind fun r3 => (op2 f' r2 r3).bind fun r => (blM r).bind fun k => if k = true then gd.bind fun r4 => op2 f'' r3 r4 else EM.pure (.val (.bl false))) else EM.pure (.val (.bl false))
/-- the step behind a comparison -/
theorem link_at {K : PySem.W.Frag} {F H : Hp} {ρ : En} {A : Nat → Addr} {σ : L2.St} {ok : Addr → Prop} {Q : VK} {r : Res} {v : V} {okr : Addr → Prop} {g : EM Res} (ra : RAt K H0 okr F H ρ A v r)
    (h : WpAt K H0 W (RAt K H0) ok F ρ A ((blM r).bind fun k => if k = true then g else EM.pure (.val (.bl false))) σ H Q) : ∃ k, v = .bl k ∧ (if k = true then WpAt K H0 W (RAt K H0) ok F ρ A g σ H Q else Q (.bl false) H) := by
  obtain ⟨er, kn, o, e, p⟩ := h
  cases r with
  | new m => cases e
  | brw i => cases e
  | val d =>
    cases d with
    | bl k =>
      cases ra
      refine ⟨k, rfl, ?_⟩
      cases k with
      | false =>
        rw [if_neg Bool.false_ne_true]
        have e' : EM.pure (Res.val (.bl false)) ρ = some o := e
        exact WpAt.val ⟨er, kn, o, e', p⟩ (.bl false)
      | true =>
        rw [if_pos rfl]
        have e' : g ρ = some o := e
        exact ⟨er, kn, o, e', p⟩
    | _ => cases e
theorem chain3_weak {K : PySem.W.Frag} {r r' r'' : R2} {f f' f'' : D → D → Option Res} (hs : Snd2 K r f) (hs' : Snd2 K r' f') (hs'' : Snd2 K r'' f'') (σ : L2.St) (H : Hp) (Q : VK) (h : tE K H0 W (gChain3 f f' f'' ga gb gc gd) σ H Q) : tChain3 r r' r'' (tE K H0 W ga) (tE K H0 W gb) (tE K H0 W gc) (tE K H0 W gd) σ H Q := by
  obtain ⟨F, ρ, A, h⟩ := h
  refine ⟨F, ρ, A, h.bind fun x r1 F1 H1 ρ1 tr1 sb1 ra h1 => ⟨F1, ρ1, A, h1.bind fun y r2 F2 H2 ρ2 tr2 sb2 rb h2 => ?_⟩⟩
  have h3 : WpAt K H0 W (RAt K H0) (Okp ρ2 A H2) F2 ρ2 A (op2 f r1 r2) σ H2 (fun z H3 => ∃ k, z = .bl k ∧ (if k = true then tE K H0 W gc σ H3 fun w H4 => r' y w H4 fun z' H5 => ∃ k', z' = .bl k' ∧ (if k' = true then tE K H0 W gd σ H5 fun v H6 => r'' w v H6 Q else Q (.bl false) H5) else Q (.bl false) H3)) := by
    refine h2.bind fun z rz F3 H3 ρ3 tr3 sb3 rc h4 => ?_
    obtain ⟨k, rfl, h5⟩ := link_at rc h4
    refine ⟨k, rfl, ?_⟩
    cases k with
    | false => rw [if_neg Bool.false_ne_true] at h5 ⊢; exact h5
    | true =>
      rw [if_pos rfl] at h5 ⊢
      refine ⟨F3, ρ3, A, h5.bind fun w r3 F4 H4 ρ4 tr4 sb4 rd h6 => ?_⟩
      have h7 : WpAt K H0 W (RAt K H0) (Okp ρ4 A H4) F4 ρ4 A (op2 f' r2 r3) σ H4 (fun z' H5 => ∃ k', z' = .bl k' ∧ (if k' = true then tE K H0 W gd σ H5 fun v H6 => r'' w v H6 Q else Q (.bl false) H5)) := by
        refine h6.bind fun z rz F5 H5 ρ5 tr5 sb5 re h8 => ?_
        obtain ⟨k, rfl, h9⟩ := link_at re h8
        refine ⟨k, rfl, ?_⟩
        cases k with
        | false => rw [if_neg Bool.false_ne_true] at h9 ⊢; exact h9
        | true =>
          rw [if_pos rfl] at h9 ⊢
          refine ⟨F5, ρ5, A, h9.bind fun v r4 F6 H6 ρ6 tr6 sb6 rf h10 => ?_⟩
          obtain ⟨d1, d2, res, e1, e2, e3, h11⟩ := op2_at h10
          exact hs'' H0 W _ F6 H6 ρ6 A σ w v d1 d2 res Q (rd.later h11.1 (tr5.then sb5 tr6) (sb5.trans sb6) e1) (rf.top h11.1 e2) e3 h11
      obtain ⟨d1, d2, res, e1, e2, e3, h8⟩ := op2_at h7
      exact hs' H0 W _ F4 H4 ρ4 A σ y w d1 d2 res _ (rb.later h8.1 (tr3.then sb3 tr4) (sb3.trans sb4) e1) (rd.top h8.1 e2) e3 h8
  obtain ⟨d1, d2, res, e1, e2, e3, h4⟩ := op2_at h3
  exact hs H0 W _ F2 H2 ρ2 A σ x y d1 d2 res _ (ra.later h4.1 tr2 sb2 e1) (rb.top h4.1 e2) e3 h4
theorem p_tchain3 {op op' op'' : CmpOp} {r r' r'' : R2} {f f' f'' : D → D → Option Res} (ho : OpR X (compareOp op) r) (hs : Snd2 X.K r f) (ho' : OpR X (compareOp op') r') (hs' : Snd2 X.K r' f') (ho'' : OpR X (compareOp op'') r'') (hs'' : Snd2 X.K r'' f'')
    (ha : PE X a (tE X.K H0 W ga)) (hb : PE X b (tE X.K H0 W gb)) (hc : PE X c (tE X.K H0 W gc)) (hd : PE X d (tE X.K H0 W gd))
    (hm : lastMarks [op, op', op''] [b, c, d] = false := by with_unfolding_all rfl) : PT X (.Compare a [op, op', op''] [b, c, d] pos) (tT X.K H0 W (gBl (gChain3 f f' f'' ga gb gc gd))) := (pt_chain3 ho ho' ho'' ha hb hc hd hm).weak fun σ H Q h => by
  obtain ⟨F, ρ, A, h⟩ := h
  exact chain3_weak hs hs' hs'' σ H _ ⟨F, ρ, A, h.bind fun x r F1 H1 ρ1 tr sb ra h1 => bl_at ra h1⟩
end
end M

/-! M20: what the head tells: own exception classes, the law's end. -/
namespace M
open PySem PySem.Spec PyProof.Rows L2

def clsB (K : PySem.W.Frag) (C : Addr) : Bool := match K.lookup C with
  | some ⟨.type "type", _, .cls cd, sl⟩ => (match cd.mro, sl.toList with
    | .ref C' :: bm, [_, _, _, _, some (.builtin n), _] => C' == C && n == "ValueError.__new__" && !cd.hasDel && cd.hasDict && PySem.HandSPX.refsVE bm
    | _, _ => false)
  | _ => false
theorem clsB_ok {K : PySem.W.Frag} {C : Addr} (h : clsB K C = true) : ∃ nm q N bs bm sn sub ab col dd k0 k1 k2 k3 k5, K.lookup C = some (excClassObj nm q C N bs bm true sn sub ab col dd k0 k1 k2 k3 k5 "ValueError.__new__") ∧ PySem.HandSPX.refsVE bm = true := by
  unfold clsB at h
  split at h
  · rename_i dd cd sl ho
    split at h
    · rename_i C' bm k0 k1 k2 k3 n k5 hm hs
      simp only [Bool.and_eq_true, beq_iff_eq, Bool.not_eq_true'] at h
      obtain ⟨⟨⟨⟨rfl, rfl⟩, hdel⟩, hd⟩, ht⟩ := h
      obtain ⟨nm, bs, mro, ns, qn, hdd, sn, sub, ab, col, del⟩ := cd
      dsimp only at hm hdel hd
      subst hm hdel hd
      have hsl : sl = #[k0, k1, k2, k3, some (.builtin "ValueError.__new__"), k5] := by
        obtain ⟨l⟩ := sl
        simp only at hs
        rw [hs]
      subst hsl
      exact ⟨nm, qn, ns, bs, bm, sn, sub, ab, col, dd, k0, k1, k2, k3, k5, ho, ht⟩
    · cases h
  · cases h
def oexB (K : PySem.W.Frag) (C : Addr) : Bool := clsB K C && (decide (PySem.W.findIn K (.ref C) "__setattr__" = some (some (.builtin "object.__setattr__"))) && (decide (PySem.W.subIn K (.ref C) (.type "BaseException") = some true) && (decide (PySem.W.typeIn K (.ref C) = some (.type "type")) && PySem.W.keepIn K (.ref C))))
theorem oexB_ok {K : PySem.W.Frag} {C : Addr} (h : oexB K C = true) : OexC K C := by
  obtain ⟨h1, h⟩ := Bool.and_eq_true_iff.mp h
  obtain ⟨h2, h⟩ := Bool.and_eq_true_iff.mp h
  obtain ⟨h3, h⟩ := Bool.and_eq_true_iff.mp h
  obtain ⟨h4, h5⟩ := Bool.and_eq_true_iff.mp h
  exact ⟨clsB_ok h1, of_decide_eq_true h2, of_decide_eq_true h3, of_decide_eq_true h4, h5⟩
def excB (K : PySem.W.Frag) (D : Addr) : Bool := decide (PySem.W.findIn K (.ref D) "__getattribute__" = some (some (.builtin "BaseException.__getattribute__"))) && (decide (PySem.W.findIn K (.ref D) "__getattr__" = some none) && (decide (PySem.W.subIn K (.ref D) (.type "BaseException") = some true) && (PySem.W.hasDictIn K D &&
  (decide (PySem.W.findIn K (.ref D) "__class__" = some (some (.builtin "object.__class__"))) && (decide (PySem.W.specialIn K (.builtin "object.__class__") "__get__" = some (some (.builtin "getset_descriptor.__get__"))) && (decide (PySem.W.takesIn K (.builtin "object.__class__") = some true) && decide (PySem.W.mroIn K D (.type "object") = some true)))))))
theorem excB_ok {K : PySem.W.Frag} {D : Addr} (h : excB K D = true) : L2.ExcC K D := by
  obtain ⟨h1, h⟩ := Bool.and_eq_true_iff.mp h
  obtain ⟨h2, h⟩ := Bool.and_eq_true_iff.mp h
  obtain ⟨h3, h⟩ := Bool.and_eq_true_iff.mp h
  obtain ⟨h4, h⟩ := Bool.and_eq_true_iff.mp h
  obtain ⟨h5, h⟩ := Bool.and_eq_true_iff.mp h
  obtain ⟨h6, h⟩ := Bool.and_eq_true_iff.mp h
  obtain ⟨h7, h8⟩ := Bool.and_eq_true_iff.mp h
  exact ⟨of_decide_eq_true h1, of_decide_eq_true h2, of_decide_eq_true h3, h4, of_decide_eq_true h5, of_decide_eq_true h6, of_decide_eq_true h7, of_decide_eq_true h8⟩
/-- a table over classes -/
def tabM (l : List (Addr × Bool)) : Value → Option Bool
  | .ref a => (l.find? fun p => p.1 == a).map (·.2)
  | _ => none
theorem tabM_ok {l : List (Addr × Bool)} {P : Addr → Bool → Prop} (h : ∀ p ∈ l, P p.1 p.2) {C : Value} {b : Bool} (e : tabM l C = some b) : ∃ a, C = .ref a ∧ P a b := by
  cases C with
  | ref a =>
    obtain ⟨p, e1, rfl⟩ := map_some' (show (l.find? fun p => p.1 == a).map (·.2) = some b from e)
    have e2 : p.1 = a := by
      have := List.find?_some e1
      simpa using this
    refine ⟨p.1, by rw [e2], h p (List.mem_of_find?_eq_some e1)⟩
  | _ => cases e
def isR (l : List Addr) : Value → Bool
  | .ref a => l.contains a
  | _ => false
theorem isR_ok {l : List Addr} {P : Addr → Prop} (h : ∀ a ∈ l, P a) {C : Value} (e : isR l C = true) : ∃ a, C = .ref a ∧ P a := by
  cases C with
  | ref a => exact ⟨a, rfl, h a (by simpa [isR] using e)⟩
  | _ => cases e
/-- an own exception's __init__ that stores its parameters: one, two -/
theorem init1 {P : Program} {w : World} {K : PySem.W.Frag} {mg : Str → Option Value} {base : Heap} {qual self a f : Str} {params : Arguments} {scope : Scope} {fI : Addr} {fd : FuncData} {p1 p2 p3 p4 : Pos} {CX : CXT}
    (Fd : FunD K "__init__" qual params [.Assign [.Attribute (.Name self p1) f p2] (.Name a p3) p4] scope [] [] fI fd) (S : FnScope [self, a] [self, a] scope) (hs : ∀ env, swapsWith (.Name a p3) (some (.Attribute (.Name self p1) f p2)) p4.line env = pure false) (d1 : (self == ("__debug__" : Str)) = false) (d2 : (self == ("__classdict__" : Str)) = false) (d3 : (a == ("__debug__" : Str)) = false) (d4 : (a == ("__classdict__" : Str)) = false) :
    FnOk P w K mg base CX 1 fI fd [self, a] (spInit K [f]) := by
  refine Fd.ok S (fun vs H Q E h => ?_) fun cdv A outer s H vs Q E hr h => ?_
  · obtain ⟨b, C, xs, rfl, hl, _⟩ := h
    match xs, hl with
    | [x], _ => rfl
  · have v0 : Vis scope self := by
      rcases S.par self (by simp) with z | z
      · exact .inl z
      · exact .inr (.inl z)
    have v1 : Vis scope a := by
      rcases S.par a (by simp) with z | z
      · exact .inl z
      · exact .inr (.inl z)
    obtain ⟨b, C, xs, rfl, hl, T, hno, hb, hq⟩ := h
    match xs, hl with
    | [x], _ =>
      refine ⟨_, pss_one (ps_ost (pe_var (i := 0) rfl v0 d1 d2) (pe_var (i := 1) rfl v1 d3 d4) (hs _)), ?_⟩
      exact ⟨x, rfl, .ref b, rfl, b, C, rfl, T, hno f (by simp), .inl ⟨hb, fun dx h1 h2 => hq dx h1 h2⟩⟩
/-- the maker's code object -/
theorem code_of {K : PySem.W.Frag} {p : He.Defn} {cdv : Value} (h : CodeAt K (He.fAd K p) cdv) : cdv = .ref (He.codeOf K p) := by
  obtain ⟨oc, od, osl, fd, lk, rfl, q, hq⟩ := h
  obtain ⟨c, e⟩ := He.codeIn_ref hq
  rw [e, He.codeOf_eq lk e]
/-- the law's promise -/
theorem law_sp {K : PySem.W.Frag} {T : List (Addr × Str)} {m : Mir} {H : Hp} {a : Addr} {ns : List Int} (hT : ∀ p ∈ T, H p.1 = some (.tbl #[])) (hs : SqL K H a (ns.map V.int)) (h : ∃ as', m [.val (.rol (ns.map D.int))] = some (.ok (.val (.bl true)) as')) :
    spM K T 1 m [.ref a] H (fun v _ => v = .bl true) (fun _ _ _ => False) := by
  obtain ⟨as', h⟩ := h
  have rs : ∀ l : List Int, Reps K H (l.map V.int) (l.map D.int) := fun l => by
    induction l with
    | nil => exact .nil
    | cons x l ih => exact .cons (.int x) ih
  refine ⟨rfl, H, [.val (.rol (ns.map D.int))], ⟨Le.refl H, .cons (.rol hs (rs ns)) .nil, List.nodup_nil, fun p hp => LamX.TabS.nil (hT p hp)⟩, _, h, ?_⟩
  intro v F' H' _ _ _ _ r
  cases (show Rep K F' v (.bl true) from r)
  rfl
end M

namespace My
open PySem PySem.Spec PyProof.Rows L2 M
def topS (i : Nat) : Stmt := PySem.Challenge.pw_shapekeep_k77_whole_patches_on_any_texts.main.body.getD i (.Pass ⟨0, 0, 0, 0⟩)
/-- the addresses that the mirrors lean on -/
structure Ads where
  (ShapeError InvalidText InvalidPatches StateError SizeError : Addr)
def ads (K : PySem.W.Frag) : Ads := ⟨He.ga K "ShapeError", He.ga K "InvalidText", He.ga K "InvalidPatches", He.ga K "StateError", He.ga K "SizeError"⟩
def TT (K : PySem.W.Frag) : List (Addr × Str) := [((He.cT K ("_law_round", none)).2, "_law_round" ++ ".<locals>." ++ "<lambda>")]
/-- what the head tells of K -/
structure Fx (K : PySem.W.Frag) (mg : Str → Option Value) (base : Heap) : Prop where
  F_is_whole : ∃ fd, FunD K "is_whole" "is_whole" (defArgs (topS 1)) (defBody (topS 1)) (defScope (topS 1)) [] [] (He.fAd K ("is_whole", none)) fd
  F_InvalidText_init : ∃ fd, FunD K "__init__" "InvalidText.__init__" (defArgs (inClass (topS 4) 0)) (defBody (inClass (topS 4) 0)) (defScope (inClass (topS 4) 0)) [] [] (He.fAd K ("InvalidText", some "__init__")) fd
  F_InvalidPatches_init : ∃ fd, FunD K "__init__" "InvalidPatches.__init__" (defArgs (inClass (topS 5) 0)) (defBody (inClass (topS 5) 0)) (defScope (inClass (topS 5) 0)) [] [] (He.fAd K ("InvalidPatches", some "__init__")) fd
  F_is_patch : ∃ fd, FunD K "is_patch" "is_patch" (defArgs (topS 9)) (defBody (topS 9)) (defScope (topS 9)) [] [] (He.fAd K ("is_patch", none)) fd
  F_patched : ∃ fd, FunD K "patched" "patched" (defArgs (topS 10)) (defBody (topS 10)) (defScope (topS 10)) [] [] (He.fAd K ("patched", none)) fd
  F__law_well : ∃ fd, FunD K "_law_well" "_law_well" (defArgs (topS 12)) (defBody (topS 12)) (defScope (topS 12)) [] [] (He.fAd K ("_law_well", none)) fd
  F__law_take : ∃ fd, FunD K "_law_take" "_law_take" (defArgs (topS 13)) (defBody (topS 13)) (defScope (topS 13)) [] [] (He.fAd K ("_law_take", none)) fd
  F__law_pick : ∃ fd, FunD K "_law_pick" "_law_pick" (defArgs (topS 14)) (defBody (topS 14)) (defScope (topS 14)) [] [] (He.fAd K ("_law_pick", none)) fd
  F__law_plain : ∃ fd, FunD K "_law_plain" "_law_plain" (defArgs (topS 15)) (defBody (topS 15)) (defScope (topS 15)) [] [] (He.fAd K ("_law_plain", none)) fd
  F__law_same : ∃ fd, FunD K "_law_same" "_law_same" (defArgs (topS 16)) (defBody (topS 16)) (defScope (topS 16)) [] [] (He.fAd K ("_law_same", none)) fd
  F__law_patched : ∃ fd, FunD K "_law_patched" "_law_patched" (defArgs (topS 17)) (defBody (topS 17)) (defScope (topS 17)) [] [] (He.fAd K ("_law_patched", none)) fd
  F__law_heard : ∃ fd, FunD K "_law_heard" "_law_heard" (defArgs (topS 18)) (defBody (topS 18)) (defScope (topS 18)) [] [] (He.fAd K ("_law_heard", none)) fd
  F__law_is_number : ∃ fd, FunD K "_law_is_number" "_law_is_number" (defArgs (topS 19)) (defBody (topS 19)) (defScope (topS 19)) [] [] (He.fAd K ("_law_is_number", none)) fd
  F__law_wrong : ∃ fd, FunD K "_law_wrong" "_law_wrong" (defArgs (topS 20)) (defBody (topS 20)) (defScope (topS 20)) [] [] (He.fAd K ("_law_wrong", none)) fd
  F__law_some : ∃ fd, FunD K "_law_some" "_law_some" (defArgs (topS 21)) (defBody (topS 21)) (defScope (topS 21)) [] [] (He.fAd K ("_law_some", none)) fd
  F__law_bent : ∃ fd, FunD K "_law_bent" "_law_bent" (defArgs (topS 22)) (defBody (topS 22)) (defScope (topS 22)) [] [] (He.fAd K ("_law_bent", none)) fd
  F__law_round : ∃ fd, FunD K "_law_round" "_law_round" (defArgs (topS 23)) (defBody (topS 23)) (defScope (topS 23)) [] [] (He.fAd K ("_law_round", none)) fd
  F_law : ∃ fd, FunD K "law" "law" (defArgs (topS 24)) (defBody (topS 24)) (defScope (topS 24)) [] [] (He.fAd K ("law", none)) fd
  g_is_whole : mg "is_whole" = some (.ref (He.fAd K ("is_whole", none)))
  g_is_patch : mg "is_patch" = some (.ref (He.fAd K ("is_patch", none)))
  g_patched : mg "patched" = some (.ref (He.fAd K ("patched", none)))
  g__law_well : mg "_law_well" = some (.ref (He.fAd K ("_law_well", none)))
  g__law_take : mg "_law_take" = some (.ref (He.fAd K ("_law_take", none)))
  g__law_pick : mg "_law_pick" = some (.ref (He.fAd K ("_law_pick", none)))
  g__law_plain : mg "_law_plain" = some (.ref (He.fAd K ("_law_plain", none)))
  g__law_same : mg "_law_same" = some (.ref (He.fAd K ("_law_same", none)))
  g__law_patched : mg "_law_patched" = some (.ref (He.fAd K ("_law_patched", none)))
  g__law_heard : mg "_law_heard" = some (.ref (He.fAd K ("_law_heard", none)))
  g__law_is_number : mg "_law_is_number" = some (.ref (He.fAd K ("_law_is_number", none)))
  g__law_wrong : mg "_law_wrong" = some (.ref (He.fAd K ("_law_wrong", none)))
  g__law_some : mg "_law_some" = some (.ref (He.fAd K ("_law_some", none)))
  g__law_bent : mg "_law_bent" = some (.ref (He.fAd K ("_law_bent", none)))
  g__law_round : mg "_law_round" = some (.ref (He.fAd K ("_law_round", none)))
  g_law : mg "law" = some (.ref (He.fAd K ("law", none)))
  g_ShapeError : mg "ShapeError" = some (.ref (He.ga K "ShapeError"))
  g_InvalidText : mg "InvalidText" = some (.ref (He.ga K "InvalidText"))
  g_InvalidPatches : mg "InvalidPatches" = some (.ref (He.ga K "InvalidPatches"))
  g_StateError : mg "StateError" = some (.ref (He.ga K "StateError"))
  g_SizeError : mg "SizeError" = some (.ref (He.ga K "SizeError"))
  n_abs : mg "abs" = none
  n_all : mg "all" = none
  n_bool : mg "bool" = none
  n_dict : mg "dict" = none
  n_divmod : mg "divmod" = none
  n_enumerate : mg "enumerate" = none
  n_int : mg "int" = none
  n_isinstance : mg "isinstance" = none
  n_len : mg "len" = none
  n_list : mg "list" = none
  n_max : mg "max" = none
  n_range : mg "range" = none
  n_repr : mg "repr" = none
  n_str : mg "str" = none
  n_sum : mg "sum" = none
  n_tuple : mg "tuple" = none
  x_InvalidText : OexC K (He.ga K "InvalidText")
  i_InvalidText : PySem.W.findIn K (.ref (He.ga K "InvalidText")) "__init__" = some (some (.ref (He.fAd K ("InvalidText", some "__init__"))))
  t_InvalidText : PySem.W.typeIn K (.ref (He.fAd K ("InvalidText", some "__init__"))) = some (.type "function")
  no_InvalidText : ∀ f ∈ (["written"] : List Str), PySem.W.findIn K (.ref (He.ga K "InvalidText")) f = some none
  xf_InvalidText : XfC K (He.ga K "InvalidText")
  xe_InvalidText : L2.ExcC K (He.ga K "InvalidText")
  x_InvalidPatches : OexC K (He.ga K "InvalidPatches")
  i_InvalidPatches : PySem.W.findIn K (.ref (He.ga K "InvalidPatches")) "__init__" = some (some (.ref (He.fAd K ("InvalidPatches", some "__init__"))))
  t_InvalidPatches : PySem.W.typeIn K (.ref (He.fAd K ("InvalidPatches", some "__init__"))) = some (.type "function")
  no_InvalidPatches : ∀ f ∈ (["index"] : List Str), PySem.W.findIn K (.ref (He.ga K "InvalidPatches")) f = some none
  xf_InvalidPatches : XfC K (He.ga K "InvalidPatches")
  xe_InvalidPatches : L2.ExcC K (He.ga K "InvalidPatches")
  k_InvalidText_InvalidPatches : PySem.W.kitOne K (.ref (He.ga K "InvalidText")) (.ref (He.ga K "InvalidPatches")) = some false
  k_InvalidPatches_InvalidPatches : PySem.W.kitOne K (.ref (He.ga K "InvalidPatches")) (.ref (He.ga K "InvalidPatches")) = some true
  k_InvalidText_InvalidText : PySem.W.kitOne K (.ref (He.ga K "InvalidText")) (.ref (He.ga K "InvalidText")) = some true
  k_InvalidPatches_InvalidText : PySem.W.kitOne K (.ref (He.ga K "InvalidPatches")) (.ref (He.ga K "InvalidText")) = some false
  m__law_heard_InvalidText : PySem.W.exmAny K (.ref (He.ga K "InvalidText")) [.ref (He.ga K "ShapeError"), .ref (He.ga K "StateError"), .ref (He.ga K "SizeError")] = some true
  m__law_heard_InvalidPatches : PySem.W.exmAny K (.ref (He.ga K "InvalidPatches")) [.ref (He.ga K "ShapeError"), .ref (He.ga K "StateError"), .ref (He.ga K "SizeError")] = some true
  d_InvalidText_InvalidPatches : He.ga K "InvalidText" ≠ He.ga K "InvalidPatches"
  tb__law_round : LamX.TabB base mg (He.cT K ("_law_round", none)).1 (He.cT K ("_law_round", none)).2
def P_index (c : Ads) : Value → Bool := isR [c.InvalidPatches]
def P_written (c : Ads) : Value → Bool := isR [c.InvalidText]
def I_InvalidPatches (c : Ads) : Value → Option Bool := tabM [(c.InvalidText, false), (c.InvalidPatches, true)]
def I_InvalidText (c : Ads) : Value → Option Bool := tabM [(c.InvalidText, true), (c.InvalidPatches, false)]
def mt__law_heard (c : Ads) : Value → Option Bool := tabM [(c.InvalidText, true), (c.InvalidPatches, true)]
section
variable {P : Program} {w : World} {K : PySem.W.Frag} {mg : Str → Option Value} {base : Heap}
theorem P_index_ok (fx : Fx K mg base) (C : Value) (e : P_index (ads K) C = true) : ∃ c, C = .ref c ∧ XfC K c ∧ PySem.W.findIn K (.ref c) "index" = some none := isR_ok (P := fun a => XfC K a ∧ PySem.W.findIn K (.ref a) "index" = some none) (by
  intro a ha
  simp only [List.mem_cons, List.not_mem_nil, or_false] at ha
  rcases ha with rfl
  · exact ⟨fx.xf_InvalidPatches, fx.no_InvalidPatches "index" (by simp)⟩
  ) e
theorem P_written_ok (fx : Fx K mg base) (C : Value) (e : P_written (ads K) C = true) : ∃ c, C = .ref c ∧ XfC K c ∧ PySem.W.findIn K (.ref c) "written" = some none := isR_ok (P := fun a => XfC K a ∧ PySem.W.findIn K (.ref a) "written" = some none) (by
  intro a ha
  simp only [List.mem_cons, List.not_mem_nil, or_false] at ha
  rcases ha with rfl
  · exact ⟨fx.xf_InvalidText, fx.no_InvalidText "written" (by simp)⟩
  ) e
theorem I_InvalidPatches_ok (fx : Fx K mg base) (C : Value) (b : Bool) (e : I_InvalidPatches (ads K) C = some b) : ∃ c, C = .ref c ∧ L2.ExcC K c ∧ PySem.W.kitOne K (.ref c) (.ref (He.ga K "InvalidPatches")) = some b := tabM_ok (P := fun a b => L2.ExcC K a ∧ PySem.W.kitOne K (.ref a) (.ref (He.ga K "InvalidPatches")) = some b) (by
  intro p hp
  simp only [List.mem_cons, List.not_mem_nil, or_false] at hp
  rcases hp with rfl | rfl
  · exact ⟨fx.xe_InvalidText, fx.k_InvalidText_InvalidPatches⟩
  · exact ⟨fx.xe_InvalidPatches, fx.k_InvalidPatches_InvalidPatches⟩
  ) e
theorem I_InvalidText_ok (fx : Fx K mg base) (C : Value) (b : Bool) (e : I_InvalidText (ads K) C = some b) : ∃ c, C = .ref c ∧ L2.ExcC K c ∧ PySem.W.kitOne K (.ref c) (.ref (He.ga K "InvalidText")) = some b := tabM_ok (P := fun a b => L2.ExcC K a ∧ PySem.W.kitOne K (.ref a) (.ref (He.ga K "InvalidText")) = some b) (by
  intro p hp
  simp only [List.mem_cons, List.not_mem_nil, or_false] at hp
  rcases hp with rfl | rfl
  · exact ⟨fx.xe_InvalidText, fx.k_InvalidText_InvalidText⟩
  · exact ⟨fx.xe_InvalidPatches, fx.k_InvalidPatches_InvalidText⟩
  ) e
theorem mt__law_heard_ok (fx : Fx K mg base) (C : Value) (b : Bool) (e : mt__law_heard (ads K) C = some b) : PySem.W.exmAny K C [.ref (He.ga K "ShapeError"), .ref (He.ga K "StateError"), .ref (He.ga K "SizeError")] = some b := by
  obtain ⟨a, rfl, h⟩ := tabM_ok (P := fun a b => PySem.W.exmAny K (.ref a) [.ref (He.ga K "ShapeError"), .ref (He.ga K "StateError"), .ref (He.ga K "SizeError")] = some b) (by
    intro p hp
    simp only [List.mem_cons, List.not_mem_nil, or_false] at hp
    rcases hp with rfl | rfl
    · exact fx.m__law_heard_InvalidText
    · exact fx.m__law_heard_InvalidPatches
    ) e
  exact h
theorem sc_is_whole : FnScope ["thing"] ["thing"] (defScope (topS 1)) := ⟨rfl, rfl, rfl, by decide +kernel, rfl, by decide +kernel, by decide +kernel⟩
theorem B_is_whole {fd : FuncData} (F : FunD K "is_whole" "is_whole" (defArgs (topS 1)) (defBody (topS 1)) (defScope (topS 1)) [] [] (He.fAd K ("is_whole", none)) fd) : L2.Binds K fd ["thing"] [] := FunD.bindsN F fun _ _ _ _ _ _ us hl => match us, hl with | [_], _ => rfl
theorem sc_InvalidText_init : FnScope ["self", "written"] ["self", "written"] (defScope (inClass (topS 4) 0)) := ⟨rfl, rfl, rfl, by decide +kernel, rfl, by decide +kernel, by decide +kernel⟩
theorem B_InvalidText_init {fd : FuncData} (F : FunD K "__init__" "InvalidText.__init__" (defArgs (inClass (topS 4) 0)) (defBody (inClass (topS 4) 0)) (defScope (inClass (topS 4) 0)) [] [] (He.fAd K ("InvalidText", some "__init__")) fd) : L2.Binds K fd ["self", "written"] [] := FunD.bindsN F fun _ _ _ _ _ _ us hl => match us, hl with | [_, _], _ => rfl
theorem sc_InvalidPatches_init : FnScope ["self", "index"] ["self", "index"] (defScope (inClass (topS 5) 0)) := ⟨rfl, rfl, rfl, by decide +kernel, rfl, by decide +kernel, by decide +kernel⟩
theorem B_InvalidPatches_init {fd : FuncData} (F : FunD K "__init__" "InvalidPatches.__init__" (defArgs (inClass (topS 5) 0)) (defBody (inClass (topS 5) 0)) (defScope (inClass (topS 5) 0)) [] [] (He.fAd K ("InvalidPatches", some "__init__")) fd) : L2.Binds K fd ["self", "index"] [] := FunD.bindsN F fun _ _ _ _ _ _ us hl => match us, hl with | [_, _], _ => rfl
theorem sc_is_patch : FnScope ["thing", "least", "most", "start", "end", "new"] ["thing", "least", "most"] (defScope (topS 9)) := ⟨rfl, rfl, rfl, by decide +kernel, rfl, by decide +kernel, by decide +kernel⟩
theorem B_is_patch {fd : FuncData} (F : FunD K "is_patch" "is_patch" (defArgs (topS 9)) (defBody (topS 9)) (defScope (topS 9)) [] [] (He.fAd K ("is_patch", none)) fd) : L2.Binds K fd ["thing", "least", "most"] [] := FunD.bindsN F fun _ _ _ _ _ _ us hl => match us, hl with | [_, _, _], _ => rfl
theorem sc_patched : FnScope ["text", "patches", "found", "done", "index", "patch"] ["text", "patches"] (defScope (topS 10)) := ⟨rfl, rfl, rfl, by decide +kernel, rfl, by decide +kernel, by decide +kernel⟩
theorem B_patched {fd : FuncData} (F : FunD K "patched" "patched" (defArgs (topS 10)) (defBody (topS 10)) (defScope (topS 10)) [] [] (He.fAd K ("patched", none)) fd) : L2.Binds K fd ["text", "patches"] [] := FunD.bindsN F fun _ _ _ _ _ _ us hl => match us, hl with | [_, _], _ => rfl
theorem K_patched {fd : FuncData} (F : FunD K "patched" "patched" (defArgs (topS 10)) (defBody (topS 10)) (defScope (topS 10)) [] [] (He.fAd K ("patched", none)) fd) (ws : List Value) (hl : ws.length = (["patches", "text"] : List Str).length) : bindArgs fd ⟨[], (["patches", "text"] : List Str).zip ws⟩ = pure ((["text", "patches"] : List Str).zip (Perm.f (Perm.swap) ws)) := by
  obtain ⟨oc, od, dV, kV, doc, pm, an, cdv, ct, osl, rfl, lk, hcd, hD, hK⟩ := F.ex
  rcases hD with ⟨_, rfl⟩ | ⟨e, _⟩
  · match ws, hl with | [_, _], _ => rfl
  · exact absurd rfl e
theorem K_patched_len {α : Type} (l : List α) (h : (Perm.f (Perm.swap) l).length = (["text", "patches"] : List Str).length) : l.length = (["patches", "text"] : List Str).length := by
  match l, h with
  | [], h => cases h
  | [_], h => first | rfl | cases h
  | [_, _], h => first | rfl | cases h
  | [_, _, _], h => first | rfl | cases h
  | _ :: _ :: _ :: _ :: _, h => cases h
theorem sc__law_well : FnScope ["script", "turn", "own", "stir", "cell"] ["script", "turn"] (defScope (topS 12)) := ⟨rfl, rfl, rfl, by decide +kernel, rfl, by decide +kernel, by decide +kernel⟩
theorem B__law_well {fd : FuncData} (F : FunD K "_law_well" "_law_well" (defArgs (topS 12)) (defBody (topS 12)) (defScope (topS 12)) [] [] (He.fAd K ("_law_well", none)) fd) : L2.Binds K fd ["script", "turn"] [] := FunD.bindsN F fun _ _ _ _ _ _ us hl => match us, hl with | [_, _], _ => rfl
theorem sc__law_take : FnScope ["well", "many", "figure", "by"] ["well", "many"] (defScope (topS 13)) := ⟨rfl, rfl, rfl, by decide +kernel, rfl, by decide +kernel, by decide +kernel⟩
theorem B__law_take {fd : FuncData} (F : FunD K "_law_take" "_law_take" (defArgs (topS 13)) (defBody (topS 13)) (defScope (topS 13)) [] [] (He.fAd K ("_law_take", none)) fd) : L2.Binds K fd ["well", "many"] [] := FunD.bindsN F fun _ _ _ _ _ _ us hl => match us, hl with | [_, _], _ => rfl
theorem sc__law_pick : FnScope ["well", "some"] ["well", "some"] (defScope (topS 14)) := ⟨rfl, rfl, rfl, by decide +kernel, rfl, by decide +kernel, by decide +kernel⟩
theorem B__law_pick {fd : FuncData} (F : FunD K "_law_pick" "_law_pick" (defArgs (topS 14)) (defBody (topS 14)) (defScope (topS 14)) [] [] (He.fAd K ("_law_pick", none)) fd) : L2.Binds K fd ["well", "some"] [] := FunD.bindsN F fun _ _ _ _ _ _ us hl => match us, hl with | [_, _], _ => rfl
theorem sc__law_plain : FnScope ["value", "name", "each"] ["value"] (defScope (topS 15)) := ⟨rfl, rfl, rfl, by decide +kernel, rfl, by decide +kernel, by decide +kernel⟩
theorem B__law_plain {fd : FuncData} (F : FunD K "_law_plain" "_law_plain" (defArgs (topS 15)) (defBody (topS 15)) (defScope (topS 15)) [] [] (He.fAd K ("_law_plain", none)) fd) : L2.Binds K fd ["value"] [] := FunD.bindsN F fun _ _ _ _ _ _ us hl => match us, hl with | [_], _ => rfl
theorem sc__law_same : FnScope ["told", "due"] ["told", "due"] (defScope (topS 16)) := ⟨rfl, rfl, rfl, by decide +kernel, rfl, by decide +kernel, by decide +kernel⟩
theorem B__law_same {fd : FuncData} (F : FunD K "_law_same" "_law_same" (defArgs (topS 16)) (defBody (topS 16)) (defScope (topS 16)) [] [] (He.fAd K ("_law_same", none)) fd) : L2.Binds K fd ["told", "due"] [] := FunD.bindsN F fun _ _ _ _ _ _ us hl => match us, hl with | [_, _], _ => rfl
theorem sc__law_patched : FnScope ["text", "patches", "found", "at", "start", "end", "new"] ["text", "patches"] (defScope (topS 17)) := ⟨rfl, rfl, rfl, by decide +kernel, rfl, by decide +kernel, by decide +kernel⟩
theorem B__law_patched {fd : FuncData} (F : FunD K "_law_patched" "_law_patched" (defArgs (topS 17)) (defBody (topS 17)) (defScope (topS 17)) [] [] (He.fAd K ("_law_patched", none)) fd) : L2.Binds K fd ["text", "patches"] [] := FunD.bindsN F fun _ _ _ _ _ _ us hl => match us, hl with | [_, _], _ => rfl
theorem sc__law_heard : FnScope ["call", "e", "kinds", "word"] ["call"] (defScope (topS 18)) := ⟨rfl, rfl, rfl, by decide +kernel, rfl, by decide +kernel, by decide +kernel⟩
theorem B__law_heard {fd : FuncData} (F : FunD K "_law_heard" "_law_heard" (defArgs (topS 18)) (defBody (topS 18)) (defScope (topS 18)) [] [] (He.fAd K ("_law_heard", none)) fd) : L2.Binds K fd ["call"] [] := FunD.bindsN F fun _ _ _ _ _ _ us hl => match us, hl with | [_], _ => rfl
theorem sc__law_is_number : FnScope ["value", "low", "high"] ["value", "low", "high"] (defScope (topS 19)) := ⟨rfl, rfl, rfl, by decide +kernel, rfl, by decide +kernel, by decide +kernel⟩
theorem B__law_is_number {fd : FuncData} (F : FunD K "_law_is_number" "_law_is_number" (defArgs (topS 19)) (defBody (topS 19)) (defScope (topS 19)) [] [] (He.fAd K ("_law_is_number", none)) fd) : L2.Binds K fd ["value", "low", "high"] [] := FunD.bindsN F fun _ _ _ _ _ _ us hl => match us, hl with | [_, _, _], _ => rfl
theorem sc__law_wrong : FnScope ["text", "patches", "last", "at", "own"] ["text", "patches"] (defScope (topS 20)) := ⟨rfl, rfl, rfl, by decide +kernel, rfl, by decide +kernel, by decide +kernel⟩
theorem B__law_wrong {fd : FuncData} (F : FunD K "_law_wrong" "_law_wrong" (defArgs (topS 20)) (defBody (topS 20)) (defScope (topS 20)) [] [] (He.fAd K ("_law_wrong", none)) fd) : L2.Binds K fd ["text", "patches"] [] := FunD.bindsN F fun _ _ _ _ _ _ us hl => match us, hl with | [_, _], _ => rfl
theorem sc__law_some : FnScope ["well", "text", "found", "at", "turn", "start", "end", "new"] ["well", "text"] (defScope (topS 21)) := ⟨rfl, rfl, rfl, by decide +kernel, rfl, by decide +kernel, by decide +kernel⟩
theorem B__law_some {fd : FuncData} (F : FunD K "_law_some" "_law_some" (defArgs (topS 21)) (defBody (topS 21)) (defScope (topS 21)) [] [] (He.fAd K ("_law_some", none)) fd) : L2.Binds K fd ["well", "text"] [] := FunD.bindsN F fun _ _ _ _ _ _ us hl => match us, hl with | [_, _], _ => rfl
theorem sc__law_bent : FnScope ["well", "text", "patches", "k", "own", "some", "bad"] ["well", "text", "patches"] (defScope (topS 22)) := ⟨rfl, rfl, rfl, by decide +kernel, rfl, by decide +kernel, by decide +kernel⟩
theorem B__law_bent {fd : FuncData} (F : FunD K "_law_bent" "_law_bent" (defArgs (topS 22)) (defBody (topS 22)) (defScope (topS 22)) [] [] (He.fAd K ("_law_bent", none)) fd) : L2.Binds K fd ["well", "text", "patches"] [] := FunD.bindsN F fun _ _ _ _ _ _ us hl => match us, hl with | [_, _, _], _ => rfl
theorem sc__law_round : FnScope ["well", "turn", "text", "k", "patches", "due", "lap", "bent", "wrong", "had", "odd"] ["well"] (defScope (topS 23)) := ⟨rfl, rfl, rfl, by decide +kernel, rfl, by decide +kernel, by decide +kernel⟩
theorem B__law_round {fd : FuncData} (F : FunD K "_law_round" "_law_round" (defArgs (topS 23)) (defBody (topS 23)) (defScope (topS 23)) [] [] (He.fAd K ("_law_round", none)) fd) : L2.Binds K fd ["well"] [] := FunD.bindsN F fun _ _ _ _ _ _ us hl => match us, hl with | [_], _ => rfl
theorem sc_law : FnScope ["script", "turn"] ["script"] (defScope (topS 24)) := ⟨rfl, rfl, rfl, by decide +kernel, rfl, by decide +kernel, by decide +kernel⟩
theorem B_law {fd : FuncData} (F : FunD K "law" "law" (defArgs (topS 24)) (defBody (topS 24)) (defScope (topS 24)) [] [] (He.fAd K ("law", none)) fd) : L2.Binds K fd ["script"] [] := FunD.bindsN F fun _ _ _ _ _ _ us hl => match us, hl with | [_], _ => rfl
def b_is_whole (c : Ads) : EM Fl := (gRet (gAndV (gCall fIsi (gCons (gVar 0) (gCons (gC (.ty "int")) gNil))) (gNotV (gCall fIsi (gCons (gVar 0) (gCons (gC (.ty "bool")) gNil))))))
def m_is_whole (c : Ads) : Mir := runM 1 (b_is_whole c)
theorem ok_is_whole (fx : Fx K mg base) (fd : FuncData) (F : FunD K "is_whole" "is_whole" (defArgs (topS 1)) (defBody (topS 1)) (defScope (topS 1)) [] [] (He.fAd K ("is_whole", none)) fd) : FnOk P w K mg base (L2.CX P w) 1 (He.fAd K ("is_whole", none)) fd ["thing"] (spM K (TT K) 1 (m_is_whole (ads K))) := by
  exact fn_ok F sc_is_whole (fun _ _ => rfl) fun cdv A outer s H E hcode hr tk po =>
    (b_one (c_ret (p_and (p_callB s_isi call_isi rfl fx.n_isinstance Boot.«isinstance» (a_cons (p_var 0) (a_cons (p_ty rfl (fx.n_int) Boot.«int») a_nil))) (p_and1 (p_not (p_callB s_isi call_isi rfl fx.n_isinstance Boot.«isinstance» (a_cons (p_var 0) (a_cons (p_ty rfl (fx.n_bool) Boot.«bool») a_nil))))))))
theorem ok_InvalidText_init {CX : CXT} (fd : FuncData) (F : FunD K "__init__" "InvalidText.__init__" (defArgs (inClass (topS 4) 0)) (defBody (inClass (topS 4) 0)) (defScope (inClass (topS 4) 0)) [] [] (He.fAd K ("InvalidText", some "__init__")) fd) : FnOk P w K mg base CX 1 (He.fAd K ("InvalidText", some "__init__")) fd ["self", "written"] (spInit K ["written"]) := init1 F sc_InvalidText_init (by intro _; rfl) (by decide) (by decide) (by decide) (by decide)
theorem ok_InvalidPatches_init {CX : CXT} (fd : FuncData) (F : FunD K "__init__" "InvalidPatches.__init__" (defArgs (inClass (topS 5) 0)) (defBody (inClass (topS 5) 0)) (defScope (inClass (topS 5) 0)) [] [] (He.fAd K ("InvalidPatches", some "__init__")) fd) : FnOk P w K mg base CX 1 (He.fAd K ("InvalidPatches", some "__init__")) fd ["self", "index"] (spInit K ["index"]) := init1 F sc_InvalidPatches_init (by intro _; rfl) (by decide) (by decide) (by decide) (by decide)
def b_is_patch (c : Ads) : EM Fl := (gSeq (gIfS (gOr (gNot (gTru (gCall fIsi (gCons (gVar 0) (gCons (gC (.ty "tuple")) gNil))))) (gOr (gBl (gOp fNe (gCall fLen (gCons (gVar 0) gNil)) (gC (.int 3)))) (gNot (gTru (gCall fIsi (gCons (gOp fIx (gVar 0) (gC (.int 2))) (gCons (gC (.ty "str")) gNil)))))))
    (gRet (gC (.bl false)))
    gPass)
    (gSeq (gAsg (Tg.bind (.tp [(.nm 3), (.nm 4), (.nm 5)])) (gFz 0))
    (gSeq (gIfS (gOr (gNot (gTru (gFn 1 (m_is_whole c) (gCons (gFz 3) gNil)))) (gOr (gNot (gTru (gFn 1 (m_is_whole c) (gCons (gFz 4) gNil)))) (gNot (gBl (gChain3 fLe fLe fLe (gVar 1) (gVar 3) (gVar 4) (gVar 2))))))
    (gRet (gC (.bl false)))
    gPass)
    (gRet (gOrV (gOp fLt (gVar 3) (gVar 4)) (gOp fNe (gVar 5) (gC (.str ""))))))))
def m_is_patch (c : Ads) : Mir := runM 6 (b_is_patch c)
theorem ok_is_patch (fx : Fx K mg base) (fd : FuncData) (F : FunD K "is_patch" "is_patch" (defArgs (topS 9)) (defBody (topS 9)) (defScope (topS 9)) [] [] (He.fAd K ("is_patch", none)) fd) : FnOk P w K mg base (L2.CX P w) 2 (He.fAd K ("is_patch", none)) fd ["thing", "least", "most"] (spM K (TT K) 3 (m_is_patch (ads K))) := by
  obtain ⟨fd_is_whole, F_is_whole⟩ := fx.F_is_whole
  have G_is_whole := (ok_is_whole (P := P) (w := w) fx fd_is_whole F_is_whole).mono (k := 1) (by omega)
  exact fn_ok F sc_is_patch (fun _ _ => rfl) fun cdv A outer s H E hcode hr tk po =>
    (b_cons (c_if (PW.pt (w_or (t_not (p_tru (p_callB s_isi call_isi rfl fx.n_isinstance Boot.«isinstance» (a_cons (p_var 0) (a_cons (p_ty rfl (fx.n_tuple) Boot.«tuple») a_nil))))) (w_or (p_tcmp (o_ne hr.units) s_ne (p_callB s_len call_len rfl fx.n_len Boot.«len» (a_cons (p_var 0) a_nil)) p_int (nomark _)) (w_or1 (t_not (p_tru (p_callB s_isi call_isi rfl fx.n_isinstance Boot.«isinstance» (a_cons (p_ix (Nat.lt_of_le_of_lt (Nat.add_le_add_left (by decide) _) hr.units) (p_var 0) p_int) (a_cons (p_ty rfl (fx.n_str) Boot.«str») a_nil)))))))))
    (b_one (c_ret p_bl))
    b_nil)
    (b_cons (c_asg (p_fz 0) (gd_of (g_tp rfl (gs_cons (g_nm 3 sc_is_patch.nd) (gs_cons (g_nm 4 sc_is_patch.nd) (gs_cons (g_nm 5 sc_is_patch.nd) gs_nil))))))
    (b_cons (c_if (PW.pt (w_or (t_not (p_tru (p_call G_is_whole hr rfl fx.g_is_whole F_is_whole.kp (B_is_whole F_is_whole) tk (a_cons (p_fz 3) a_nil)))) (w_or (t_not (p_tru (p_call G_is_whole hr rfl fx.g_is_whole F_is_whole.kp (B_is_whole F_is_whole) tk (a_cons (p_fz 4) a_nil)))) (w_or1 (t_not (p_tchain3 op_le s_ii op_le s_ii op_le s_ii (p_var 1) (p_var 3) (p_var 4) (p_var 2)))))))
    (b_one (c_ret p_bl))
    b_nil)
    (b_one (c_ret (p_or (p_cmp o_lt s_lt (p_var 3) (p_var 4) (nomark _)) (p_or1 (p_cmp (o_ne hr.units) s_ne (p_var 5) p_str (nomark _)))))))))
def b_patched (c : Ads) : EM Fl := (gSeq (gIfS (gNot (gTru (gCall fIsi (gCons (gVar 0) (gCons (gC (.ty "str")) gNil)))))
    (gRaise (.ref c.InvalidText) ["written"] (gCons (gFz 0) gNil))
    gPass)
    (gSeq (gIfS (gNot (gTru (gCall fIsi (gCons (gVar 1) (gCons (gC (.ty "tuple")) gNil)))))
    (gRaise (.ref c.InvalidPatches) ["index"] (gCons (gC .non) gNil))
    gPass)
    (gSeq (gPar 2 3 (gCons (gLst gNil) (gCons (gC (.int 0)) gNil)))
    (gSeq (gFor (gEnum tupItems (gCons (gFz 1) gNil)) (.tp [(.nm 4), (.nm 5)])
    (gSeq (gIfS (gNot (gTru (gFn 3 (m_is_patch c) (gCons (gFz 5) (gCons (gFz 3) (gCons (gCall fLen (gCons (gVar 0) gNil)) gNil))))))
    (gRaise (.ref c.InvalidPatches) ["index"] (gCons (gFz 4) gNil))
    gPass)
    (gSeq (gDrop (gRcv 2 (gApp 2 (gFrz (gOp fAdd (gSl (gVar 0) (gPt (gVar 3)) (gPt (gOp fIx (gVar 5) (gC (.int 0))))) (gOp fIx (gVar 5) (gC (.int 2))))))))
    (gSet 3 (gOp fIx (gVar 5) (gC (.int 1)))))))
    (gRet (gOp fAdd (gMeth "str" fJoin (gC (.str "")) (gCons (gVar 2) gNil)) (gSl (gVar 0) (gPt (gVar 3)) gNoP)))))))
def m_patched (c : Ads) : Mir := runM 6 (b_patched c)
theorem ok_patched (fx : Fx K mg base) (fd : FuncData) (F : FunD K "patched" "patched" (defArgs (topS 10)) (defBody (topS 10)) (defScope (topS 10)) [] [] (He.fAd K ("patched", none)) fd) : FnOk P w K mg base (L2.CX P w) 3 (He.fAd K ("patched", none)) fd ["text", "patches"] (spM K (TT K) 2 (m_patched (ads K))) := by
  obtain ⟨fd_InvalidText_init, F_InvalidText_init⟩ := fx.F_InvalidText_init
  have G_InvalidText_init := (ok_InvalidText_init (P := P) (w := w) (K := K) (mg := mg) (base := base) (CX := L2.CX P w) fd_InvalidText_init F_InvalidText_init).mono (k := 1) (by omega)
  obtain ⟨fd_InvalidPatches_init, F_InvalidPatches_init⟩ := fx.F_InvalidPatches_init
  have G_InvalidPatches_init := (ok_InvalidPatches_init (P := P) (w := w) (K := K) (mg := mg) (base := base) (CX := L2.CX P w) fd_InvalidPatches_init F_InvalidPatches_init).mono (k := 1) (by omega)
  obtain ⟨fd_is_patch, F_is_patch⟩ := fx.F_is_patch
  have G_is_patch := (ok_is_patch (P := P) (w := w) fx fd_is_patch F_is_patch).mono (k := 2) (by omega)
  exact fn_ok F sc_patched (fun _ _ => rfl) fun cdv A outer s H E hcode hr tk po =>
    (b_cons (c_if (t_not (p_tru (p_callB s_isi call_isi rfl fx.n_isinstance Boot.«isinstance» (a_cons (p_var 0) (a_cons (p_ty rfl (fx.n_str) Boot.«str») a_nil)))))
    (b_one (c_raise fx.x_InvalidText fx.i_InvalidText fx.t_InvalidText fx.no_InvalidText G_InvalidText_init hr (B_InvalidText_init F_InvalidText_init) rfl fx.g_InvalidText rfl tk (a_cons (p_fz 0) a_nil)))
    b_nil)
    (b_cons (c_if (t_not (p_tru (p_callB s_isi call_isi rfl fx.n_isinstance Boot.«isinstance» (a_cons (p_var 1) (a_cons (p_ty rfl (fx.n_tuple) Boot.«tuple») a_nil)))))
    (b_one (c_raise fx.x_InvalidPatches fx.i_InvalidPatches fx.t_InvalidPatches fx.no_InvalidPatches G_InvalidPatches_init hr (B_InvalidPatches_init F_InvalidPatches_init) rfl fx.g_InvalidPatches rfl tk (a_cons p_non a_nil)))
    b_nil)
    (b_cons (c_par 2 3 rfl sc_patched.nd (a_cons (p_lst a_nil) (a_cons p_int a_nil)) (by rfl))
    (b_cons (c_for po rfl (i_enumT rfl fx.n_enumerate (a_cons (p_fz 1) a_nil)) (g_tp rfl (gs_cons (g_nm 4 sc_patched.nd) (gs_cons (g_nm 5 sc_patched.nd) gs_nil)))
    (b_cons (c_if (t_not (p_tru (p_call G_is_patch hr rfl fx.g_is_patch F_is_patch.kp (B_is_patch F_is_patch) tk (a_cons (p_fz 5) (a_cons (p_fz 3) (a_cons (p_callB s_len call_len rfl fx.n_len Boot.«len» (a_cons (p_var 0) a_nil)) a_nil))))))
    (b_one (c_raise fx.x_InvalidPatches fx.i_InvalidPatches fx.t_InvalidPatches fx.no_InvalidPatches G_InvalidPatches_init hr (B_InvalidPatches_init F_InvalidPatches_init) rfl fx.g_InvalidPatches rfl tk (a_cons (p_fz 4) a_nil)))
    b_nil)
    (b_cons (c_expr (p_append 2 (p_frz (p_op o_add s_add (p_sl (p_var 0) (o_some (p_var 3)) (o_some (p_ix (Nat.lt_of_le_of_lt (Nat.add_le_add_left (by decide) _) hr.units) (p_var 5) p_int))) (p_ix (Nat.lt_of_le_of_lt (Nat.add_le_add_left (by decide) _) hr.units) (p_var 5) p_int)))))
    (b_one (c_set 3 sc_patched.nd (p_ix (Nat.lt_of_le_of_lt (Nat.add_le_add_left (by decide) _) hr.units) (p_var 5) p_int))))))
    (b_one (c_ret (p_op o_add s_add (p_meth s_join PySem.F.plainAttrs_str PySem.F.slot_str_join PySem.F.type_str_join m_join p_str (a_cons (p_var 2) a_nil)) (p_sl (p_var 0) (o_some (p_var 3)) o_none))))))))
def b__law_well (c : Ads) : EM Fl := (gSeq (gSet 2 (gIf (gBl (gOp fLt (gVar 1) (gCall fLen (gCons (gVar 0) gNil)))) (gCall fInt (gCons (gOp fIx (gVar 0) (gVar 1)) gNil)) (gOp fAdd (gOp fAdd (gOp fMul (gC (.int 5119)) (gVar 1)) (gOp fMod (gCall fInt (gCons (gCall fSum (gCons (gSl (gVar 0) gNoP (gPt (gC (.int 4)))) gNil)) gNil)) (gC (.int 999979)))) (gC (.int 23)))))
    (gSeq (gSet 3 (gOp fAdd (gC (.int 28530)) (gOp fMul (gC (.int 1511)) (gVar 1))))
    (gSeq (gFor (gItems lstItems (gFrz (gOp fAdd (gSl (gVar 0) gNoP (gPt (gC (.int 7)))) (gLst (gCons (gFz 2) gNil))))) (.nm 4)
    (gSet 3 (gOp fMod (gCall fInt (gCons (gOp fAdd (gOp fAdd (gOp fMul (gVar 3) (gC (.int 39373))) (gOp fMod (gCall fInt (gCons (gVar 4) gNil)) (gC (.int 2147483399)))) (gC (.int 83))) gNil)) (gC (.int 2147483563)))))
    (gRet (gLst (gCons (gIf (gOr (gBl (gOp fLt (gVar 2) (gC (.int 0)))) (gBl (gOp fGe (gVar 2) (gOp fPow (gC (.int 10)) (gC (.int 16)))))) (gFrz (gOp fMod (gCall fInt (gCons (gCall fAbs (gCons (gVar 2) gNil)) gNil)) (gOp fPow (gC (.int 10)) (gC (.int 58))))) (gC (.int 0))) (gCons (gFz 3) (gCons (gC (.int 0)) gNil))))))))
def m__law_well (c : Ads) : Mir := runM 5 (b__law_well c)
theorem ok__law_well (fx : Fx K mg base) (fd : FuncData) (F : FunD K "_law_well" "_law_well" (defArgs (topS 12)) (defBody (topS 12)) (defScope (topS 12)) [] [] (He.fAd K ("_law_well", none)) fd) : FnOk P w K mg base (L2.CX P w) 1 (He.fAd K ("_law_well", none)) fd ["script", "turn"] (spM K (TT K) 2 (m__law_well (ads K))) := by
  exact fn_ok F sc__law_well (fun _ _ => rfl) fun cdv A outer s H E hcode hr tk po =>
    (b_cons (c_set 2 sc__law_well.nd (p_if (p_tcmp o_lt s_lt (p_var 1) (p_callB s_len call_len rfl fx.n_len Boot.«len» (a_cons (p_var 0) a_nil)) (nomark _)) (p_callTy s_int call_int1 rfl fx.n_int Boot.«int» (a_cons (p_ix (Nat.lt_of_le_of_lt (Nat.add_le_add_left (by decide) _) hr.units) (p_var 0) (p_var 1)) a_nil)) (p_op o_add s_add (p_op o_add s_add (p_op o_mul s_mul p_int (p_var 1)) (p_op op_mod s_mod (p_callTy s_int call_int1 rfl fx.n_int Boot.«int» (a_cons (p_callB s_sum (cr_sum rfl) rfl fx.n_sum Boot.«sum» (a_cons (p_sl (p_var 0) o_none (o_some p_int)) a_nil)) a_nil)) p_int)) p_int)))
    (b_cons (c_set 3 sc__law_well.nd (p_op o_add s_add p_int (p_op o_mul s_mul p_int (p_var 1))))
    (b_cons (c_for po rfl (i_lst (p_frz (p_op o_add s_add (p_sl (p_var 0) o_none (o_some p_int)) (p_lst (a_cons (p_fz 2) a_nil))))) (g_nm 4 sc__law_well.nd)
    (b_one (c_set 3 sc__law_well.nd (p_op op_mod s_mod (p_callTy s_int call_int1 rfl fx.n_int Boot.«int» (a_cons (p_op o_add s_add (p_op o_add s_add (p_op o_mul s_mul (p_var 3) p_int) (p_op op_mod s_mod (p_callTy s_int call_int1 rfl fx.n_int Boot.«int» (a_cons (p_var 4) a_nil)) p_int)) p_int) a_nil)) p_int))))
    (b_one (c_ret (p_lst (a_cons (p_if (PW.pt (w_or (p_tcmp o_lt s_lt (p_var 2) p_int (nomark _)) (w_or1 (p_tcmp op_ge s_ii (p_var 2) (p_op op_pow s_pow p_int p_int) (nomark _))))) (p_frz (p_op op_mod s_mod (p_callTy s_int call_int1 rfl fx.n_int Boot.«int» (a_cons (p_callB s_abs call_abs rfl fx.n_abs Boot.«abs» (a_cons (p_var 2) a_nil)) a_nil)) (p_op op_pow s_pow p_int p_int))) p_int) (a_cons (p_fz 3) (a_cons p_int a_nil)))))))))
def b__law_take (c : Ads) : EM Fl := (gSeq (gIfS (gBl (gOp fGt (gOp fIx (gVar 0) (gC (.int 0))) (gC (.int 0))))
    (gSeq (gAsg (gdTup 2 (gdCons (gdSub 0 (gC (.int 0))) (gdCons (Tg.bind (.nm 2)) gdNil))) (gCall fDivmod (gCons (gOp fIx (gVar 0) (gC (.int 0))) (gCons (gVar 1) gNil))))
    (gRet (gVar 2)))
    gPass)
    (gSeq (gAsg (gdSub 0 (gC (.int 2))) (gFrz (gOp fAdd (gOp fIx (gVar 0) (gC (.int 2))) (gC (.int 1)))))
    (gSeq (gSet 3 (gOp fAdd (gOp fMod (gCall fInt (gCons (gOp fIx (gVar 0) (gC (.int 1))) gNil)) (gC (.int 30011))) (gC (.int 41011))))
    (gSeq (gAsg (gdSub 0 (gC (.int 1))) (gFrz (gOp fMod (gCall fInt (gCons (gOp fAdd (gOp fAdd (gOp fMul (gOp fIx (gVar 0) (gC (.int 1))) (gVar 3)) (gOp fMul (gC (.int 60101)) (gOp fIx (gVar 0) (gC (.int 2))))) (gC (.int 29))) gNil)) (gC (.int 2147483399)))))
    (gRet (gOp fMod (gCall fInt (gCons (gOp fFdiv (gOp fIx (gVar 0) (gC (.int 1))) (gC (.int 89))) gNil)) (gVar 1)))))))
def m__law_take (c : Ads) : Mir := runM 4 (b__law_take c)
theorem ok__law_take (fx : Fx K mg base) (fd : FuncData) (F : FunD K "_law_take" "_law_take" (defArgs (topS 13)) (defBody (topS 13)) (defScope (topS 13)) [] [] (He.fAd K ("_law_take", none)) fd) : FnOk P w K mg base (L2.CX P w) 1 (He.fAd K ("_law_take", none)) fd ["well", "many"] (spM K (TT K) 2 (m__law_take (ads K))) := by
  exact fn_ok F sc__law_take (fun _ _ => rfl) fun cdv A outer s H E hcode hr tk po =>
    (b_cons (c_if (p_tcmp op_gt s_ii (p_ix (Nat.lt_of_le_of_lt (Nat.add_le_add_left (by decide) _) hr.units) (p_var 0) p_int) p_int (nomark _))
    (b_cons (c_asg (p_callB s_divmod call_divmodW rfl fx.n_divmod Boot.«divmod» (a_cons (p_ix (Nat.lt_of_le_of_lt (Nat.add_le_add_left (by decide) _) hr.units) (p_var 0) p_int) (a_cons (p_var 1) a_nil))) (gd_tup 2 rfl (gds_cons (gd_sub 0 (Nat.lt_of_le_of_lt (Nat.add_le_add_left (by decide) _) hr.units) p_int) (gds_cons (gd_of (g_nm 2 sc__law_take.nd)) gds_nil))))
    (b_one (c_ret (p_var 2))))
    b_nil)
    (b_cons (c_asg (p_frz (p_op o_add s_add (p_ix (Nat.lt_of_le_of_lt (Nat.add_le_add_left (by decide) _) hr.units) (p_var 0) p_int) p_int)) (gd_sub 0 (Nat.lt_of_le_of_lt (Nat.add_le_add_left (by decide) _) hr.units) p_int))
    (b_cons (c_set 3 sc__law_take.nd (p_op o_add s_add (p_op op_mod s_mod (p_callTy s_int call_int1 rfl fx.n_int Boot.«int» (a_cons (p_ix (Nat.lt_of_le_of_lt (Nat.add_le_add_left (by decide) _) hr.units) (p_var 0) p_int) a_nil)) p_int) p_int))
    (b_cons (c_asg (p_frz (p_op op_mod s_mod (p_callTy s_int call_int1 rfl fx.n_int Boot.«int» (a_cons (p_op o_add s_add (p_op o_add s_add (p_op o_mul s_mul (p_ix (Nat.lt_of_le_of_lt (Nat.add_le_add_left (by decide) _) hr.units) (p_var 0) p_int) (p_var 3)) (p_op o_mul s_mul p_int (p_ix (Nat.lt_of_le_of_lt (Nat.add_le_add_left (by decide) _) hr.units) (p_var 0) p_int))) p_int) a_nil)) p_int)) (gd_sub 0 (Nat.lt_of_le_of_lt (Nat.add_le_add_left (by decide) _) hr.units) p_int))
    (b_one (c_ret (p_op op_mod s_mod (p_callTy s_int call_int1 rfl fx.n_int Boot.«int» (a_cons (p_op op_fdivW s_fdiv (p_ix (Nat.lt_of_le_of_lt (Nat.add_le_add_left (by decide) _) hr.units) (p_var 0) p_int) p_int) a_nil)) (p_var 1))))))))
def b__law_pick (c : Ads) : EM Fl := (gRet (gOp fIx (gVar 1) (gFn 2 (m__law_take c) (gCons (gVar 0) (gCons (gCall fLen (gCons (gVar 1) gNil)) gNil)))))
def m__law_pick (c : Ads) : Mir := runM 2 (b__law_pick c)
theorem ok__law_pick (fx : Fx K mg base) (fd : FuncData) (F : FunD K "_law_pick" "_law_pick" (defArgs (topS 14)) (defBody (topS 14)) (defScope (topS 14)) [] [] (He.fAd K ("_law_pick", none)) fd) : FnOk P w K mg base (L2.CX P w) 2 (He.fAd K ("_law_pick", none)) fd ["well", "some"] (spM K (TT K) 2 (m__law_pick (ads K))) := by
  obtain ⟨fd__law_take, F__law_take⟩ := fx.F__law_take
  have G__law_take := (ok__law_take (P := P) (w := w) fx fd__law_take F__law_take).mono (k := 1) (by omega)
  exact fn_ok F sc__law_pick (fun _ _ => rfl) fun cdv A outer s H E hcode hr tk po =>
    (b_one (c_ret (p_ix (Nat.lt_of_le_of_lt (Nat.add_le_add_left (by decide) _) hr.units) (p_var 1) (p_call G__law_take hr rfl fx.g__law_take F__law_take.kp (B__law_take F__law_take) tk (a_cons (p_var 0) (a_cons (p_callB s_len call_len rfl fx.n_len Boot.«len» (a_cons (p_var 1) a_nil)) a_nil))))))
def m__law_plain (c : Ads) : Nat → Mir
  | 0 => fun _ => none
  | n + 1 => runM 3 ((gSeq (gIfS (gTru (gCall fIsi (gCons (gVar 0) (gCons (gC (.ty "dict")) gNil))))
    gNever
    gPass)
    (gSeq (gIfS (gTru (gCall fIsi (gCons (gVar 0) (gCons (gC (.ty "tuple")) gNil))))
    (gRet (gOp fAdd (gOp fAdd (gC (.str "(")) (gMeth "str" fJoin (gC (.str ",")) (gCons (gLc (gItems tupItems (gFz 0)) (.nm 2) [2] gYes (gFrz (gFn 1 (m__law_plain c n) (gCons (gFz 2) gNil)))) gNil))) (gC (.str ")"))))
    gPass)
    (gSeq (gIfS (gTru (gCall fIsi (gCons (gVar 0) (gCons (gC (.ty "list")) gNil))))
    (gRet (gOp fAdd (gOp fAdd (gC (.str "[")) (gMeth "str" fJoin (gC (.str ",")) (gCons (gLc (gItems lstItems (gFz 0)) (.nm 2) [2] gYes (gFrz (gFn 1 (m__law_plain c n) (gCons (gFz 2) gNil)))) gNil))) (gC (.str "]"))))
    gPass)
    (gRet (gCall fRepr (gCons (gVar 0) gNil)))))))
theorem ok__law_plain (fx : Fx K mg base) (n : Nat) (fd : FuncData) (F : FunD K "_law_plain" "_law_plain" (defArgs (topS 15)) (defBody (topS 15)) (defScope (topS 15)) [] [] (He.fAd K ("_law_plain", none)) fd) : FnOk P w K mg base (L2.CX P w) (1 + n) (He.fAd K ("_law_plain", none)) fd ["value"] (spM K (TT K) 1 (m__law_plain (ads K) n)) := by
  induction n with
  | zero => exact ⟨fun vs H Q E h => h.1, fun A outer s H args us vs Q E hr he hb hv h => by obtain ⟨_, _, _, _, _, e, _⟩ := h; cases e⟩
  | succ n ih =>
    have G__law_plain := ih
    have F__law_plain := F
    exact fn_ok F sc__law_plain (fun _ _ => rfl) fun cdv A outer s H E hcode hr tk po =>
      (b_cons (c_if (p_tru (p_callB s_isi call_isi rfl fx.n_isinstance Boot.«isinstance» (a_cons (p_var 0) (a_cons (p_ty rfl (fx.n_dict) Boot.«dict») a_nil))))
    b_never
    b_nil)
    (b_cons (c_if (p_tru (p_callB s_isi call_isi rfl fx.n_isinstance Boot.«isinstance» (a_cons (p_var 0) (a_cons (p_ty rfl (fx.n_tuple) Boot.«tuple») a_nil))))
    (b_one (c_ret (p_op o_add s_add (p_op o_add s_add p_str (p_meth s_join PySem.F.plainAttrs_str PySem.F.slot_str_join PySem.F.type_str_join m_join p_str (a_cons (p_lc [("each", 2)] rfl sc__law_plain.nd (blkOk_by (by rfl)) (i_tup (p_fz 0)) (fun _ _ _ _ _ => (g_nm 2 sc__law_plain.nd)) (fun _ _ _ _ _ => ts_nil) (fun _ _ _ _ _ => (p_frz (p_call G__law_plain hr rfl fx.g__law_plain F__law_plain.kp (B__law_plain F__law_plain) LamX.takes0 (a_cons (p_fz 2) a_nil))))) a_nil))) p_str)))
    b_nil)
    (b_cons (c_if (p_tru (p_callB s_isi call_isi rfl fx.n_isinstance Boot.«isinstance» (a_cons (p_var 0) (a_cons (p_ty rfl (fx.n_list) Boot.«list») a_nil))))
    (b_one (c_ret (p_op o_add s_add (p_op o_add s_add p_str (p_meth s_join PySem.F.plainAttrs_str PySem.F.slot_str_join PySem.F.type_str_join m_join p_str (a_cons (p_lc [("each", 2)] rfl sc__law_plain.nd (blkOk_by (by rfl)) (i_lst (p_fz 0)) (fun _ _ _ _ _ => (g_nm 2 sc__law_plain.nd)) (fun _ _ _ _ _ => ts_nil) (fun _ _ _ _ _ => (p_frz (p_call G__law_plain hr rfl fx.g__law_plain F__law_plain.kp (B__law_plain F__law_plain) LamX.takes0 (a_cons (p_fz 2) a_nil))))) a_nil))) p_str)))
    b_nil)
    (b_one (c_ret (p_callB s_repr call_repr rfl fx.n_repr Boot.«repr» (a_cons (p_var 0) a_nil)))))))
def b__law_same (c : Ads) : EM Fl := (gRet (gOp fEq (gFn 1 (m__law_plain c 8) (gCons (gFz 0) gNil)) (gFn 1 (m__law_plain c 8) (gCons (gFz 1) gNil))))
def m__law_same (c : Ads) : Mir := runM 2 (b__law_same c)
theorem ok__law_same (fx : Fx K mg base) (fd : FuncData) (F : FunD K "_law_same" "_law_same" (defArgs (topS 16)) (defBody (topS 16)) (defScope (topS 16)) [] [] (He.fAd K ("_law_same", none)) fd) : FnOk P w K mg base (L2.CX P w) 10 (He.fAd K ("_law_same", none)) fd ["told", "due"] (spM K (TT K) 2 (m__law_same (ads K))) := by
  obtain ⟨fd__law_plain, F__law_plain⟩ := fx.F__law_plain
  have G__law_plain := (ok__law_plain (P := P) (w := w) fx 8 fd__law_plain F__law_plain).mono (k := 9) (by omega)
  exact fn_ok F sc__law_same (fun _ _ => rfl) fun cdv A outer s H E hcode hr tk po =>
    (b_one (c_ret (p_cmp (o_eq hr.units) s_eq (p_call G__law_plain hr rfl fx.g__law_plain F__law_plain.kp (B__law_plain F__law_plain) tk (a_cons (p_fz 0) a_nil)) (p_call G__law_plain hr rfl fx.g__law_plain F__law_plain.kp (B__law_plain F__law_plain) tk (a_cons (p_fz 1) a_nil)) (nomark _))))
def b__law_patched (c : Ads) : EM Fl := (gSeq (gAsg (Tg.bind (.tp [(.nm 2), (.nm 3)])) (gTup (gCons (gC (.str "")) (gCons (gC (.int 0)) gNil))))
    (gSeq (gFor (gItems tupItems (gFz 1)) (.tp [(.nm 4), (.nm 5), (.nm 6)])
    (gPar 2 3 (gCons (gOp fAdd (gOp fAdd (gVar 2) (gSl (gVar 0) (gPt (gVar 3)) (gPt (gVar 4)))) (gVar 6)) (gCons (gVar 5) gNil))))
    (gRet (gOp fAdd (gVar 2) (gSl (gVar 0) (gPt (gVar 3)) gNoP)))))
def m__law_patched (c : Ads) : Mir := runM 7 (b__law_patched c)
theorem ok__law_patched (fx : Fx K mg base) (fd : FuncData) (F : FunD K "_law_patched" "_law_patched" (defArgs (topS 17)) (defBody (topS 17)) (defScope (topS 17)) [] [] (He.fAd K ("_law_patched", none)) fd) : FnOk P w K mg base (L2.CX P w) 1 (He.fAd K ("_law_patched", none)) fd ["text", "patches"] (spM K (TT K) 2 (m__law_patched (ads K))) := by
  exact fn_ok F sc__law_patched (fun _ _ => rfl) fun cdv A outer s H E hcode hr tk po =>
    (b_cons (c_asg (p_tup (a_cons p_str (a_cons p_int a_nil))) (gd_of (g_tp rfl (gs_cons (g_nm 2 sc__law_patched.nd) (gs_cons (g_nm 3 sc__law_patched.nd) gs_nil)))))
    (b_cons (c_for po rfl (i_tup (p_fz 1)) (g_tp rfl (gs_cons (g_nm 4 sc__law_patched.nd) (gs_cons (g_nm 5 sc__law_patched.nd) (gs_cons (g_nm 6 sc__law_patched.nd) gs_nil))))
    (b_one (c_par 2 3 rfl sc__law_patched.nd (a_cons (p_op o_add s_add (p_op o_add s_add (p_var 2) (p_sl (p_var 0) (o_some (p_var 3)) (o_some (p_var 4)))) (p_var 6)) (a_cons (p_var 5) a_nil)) (by rfl))))
    (b_one (c_ret (p_op o_add s_add (p_var 2) (p_sl (p_var 0) (o_some (p_var 3)) o_none))))))
def su__law_heard (c : Ads) : EM Fl := (gSeq (gSet 2 (gLst (gCons (gIsX (I_InvalidText c) 1) (gCons (gIsX (I_InvalidPatches c) 1) gNil))))
    (gSeq (gIfS (gBl (gOp fNe (gMeth "list" fCount (gVar 2) (gCons (gC (.bl true)) gNil)) (gC (.int 1))))
    (gRet (gTup (gCons (gC (.str "odd")) (gCons (gC .non) gNil))))
    gPass)
    (gSeq (gSet 3 (gOp fIx (gLst (gCons (gC (.str "text")) (gCons (gC (.str "patches")) gNil))) (gMeth "list" fIndex (gVar 2) (gCons (gC (.bl true)) gNil))))
    (gSeq (gIfS (gBl (gOp fIn (gVar 3) (gTup (gCons (gC (.str "text")) gNil))))
    (gRet (gTup (gCons (gFz 3) (gCons (gXf (P_written c) 1 "written") gNil))))
    gPass)
    (gSeq (gIfS (gBl (gOp fIn (gVar 3) (gTup (gCons (gC (.str "patches")) gNil))))
    (gRet (gTup (gCons (gFz 3) (gCons (gXf (P_index c) 1 "index") gNil))))
    gPass)
    (gRet (gTup (gCons (gFz 3) (gCons (gC .non) gNil)))))))))
def b__law_is_number (c : Ads) : EM Fl := (gRet (gAndV (gCall fIsi (gCons (gVar 0) (gCons (gC (.ty "int")) gNil))) (gAndV (gNotV (gCall fIsi (gCons (gVar 0) (gCons (gC (.ty "bool")) gNil)))) (gChain fLe fLe (gVar 1) (gVar 0) (gVar 2)))))
def m__law_is_number (c : Ads) : Mir := runM 3 (b__law_is_number c)
theorem ok__law_is_number (fx : Fx K mg base) (fd : FuncData) (F : FunD K "_law_is_number" "_law_is_number" (defArgs (topS 19)) (defBody (topS 19)) (defScope (topS 19)) [] [] (He.fAd K ("_law_is_number", none)) fd) : FnOk P w K mg base (L2.CX P w) 1 (He.fAd K ("_law_is_number", none)) fd ["value", "low", "high"] (spM K (TT K) 3 (m__law_is_number (ads K))) := by
  exact fn_ok F sc__law_is_number (fun _ _ => rfl) fun cdv A outer s H E hcode hr tk po =>
    (b_one (c_ret (p_and (p_callB s_isi call_isi rfl fx.n_isinstance Boot.«isinstance» (a_cons (p_var 0) (a_cons (p_ty rfl (fx.n_int) Boot.«int») a_nil))) (p_and (p_not (p_callB s_isi call_isi rfl fx.n_isinstance Boot.«isinstance» (a_cons (p_var 0) (a_cons (p_ty rfl (fx.n_bool) Boot.«bool») a_nil)))) (p_and1 (p_chain op_le s_ii op_le s_ii (p_var 1) (p_var 0) (p_var 2)))))))
def b__law_wrong (c : Ads) : EM Fl := (gSeq (gIfS (gNot (gTru (gCall fIsi (gCons (gVar 1) (gCons (gC (.ty "tuple")) gNil)))))
    (gRet (gLst (gCons (gC .non) gNil)))
    gPass)
    (gSeq (gSet 2 (gC (.int 0)))
    (gSeq (gFor (gEnum tupItems (gCons (gFz 1) gNil)) (.tp [(.nm 3), (.nm 4)])
    (gSeq (gIfS (gOr (gNot (gTru (gCall fIsi (gCons (gVar 4) (gCons (gC (.ty "tuple")) gNil))))) (gOr (gBl (gOp fNe (gCall fLen (gCons (gVar 4) gNil)) (gC (.int 3)))) (gNot (gTru (gCall fIsi (gCons (gOp fIx (gVar 4) (gC (.int 2))) (gCons (gC (.ty "str")) gNil)))))))
    (gRet (gLst (gCons (gFz 3) gNil)))
    gPass)
    (gSeq (gIfS (gOr (gNot (gTru (gFn 3 (m__law_is_number c) (gCons (gOp fIx (gVar 4) (gC (.int 0))) (gCons (gFz 2) (gCons (gCall fLen (gCons (gVar 0) gNil)) gNil)))))) (gOr (gNot (gTru (gFn 3 (m__law_is_number c) (gCons (gOp fIx (gVar 4) (gC (.int 1))) (gCons (gOp fIx (gVar 4) (gC (.int 0))) (gCons (gCall fLen (gCons (gVar 0) gNil)) gNil)))))) (gAnd (gBl (gOp fEq (gOp fIx (gVar 4) (gC (.int 0))) (gOp fIx (gVar 4) (gC (.int 1))))) (gBl (gOp fEq (gOp fIx (gVar 4) (gC (.int 2))) (gC (.str "")))))))
    (gRet (gLst (gCons (gFz 3) gNil)))
    gPass)
    (gSet 2 (gOp fIx (gVar 4) (gC (.int 1)))))))
    (gRet (gLst gNil)))))
def m__law_wrong (c : Ads) : Mir := runM 5 (b__law_wrong c)
theorem ok__law_wrong (fx : Fx K mg base) (fd : FuncData) (F : FunD K "_law_wrong" "_law_wrong" (defArgs (topS 20)) (defBody (topS 20)) (defScope (topS 20)) [] [] (He.fAd K ("_law_wrong", none)) fd) : FnOk P w K mg base (L2.CX P w) 2 (He.fAd K ("_law_wrong", none)) fd ["text", "patches"] (spM K (TT K) 2 (m__law_wrong (ads K))) := by
  obtain ⟨fd__law_is_number, F__law_is_number⟩ := fx.F__law_is_number
  have G__law_is_number := (ok__law_is_number (P := P) (w := w) fx fd__law_is_number F__law_is_number).mono (k := 1) (by omega)
  exact fn_ok F sc__law_wrong (fun _ _ => rfl) fun cdv A outer s H E hcode hr tk po =>
    (b_cons (c_if (t_not (p_tru (p_callB s_isi call_isi rfl fx.n_isinstance Boot.«isinstance» (a_cons (p_var 1) (a_cons (p_ty rfl (fx.n_tuple) Boot.«tuple») a_nil)))))
    (b_one (c_ret (p_lst (a_cons p_non a_nil))))
    b_nil)
    (b_cons (c_set 2 sc__law_wrong.nd p_int)
    (b_cons (c_for po rfl (i_enumT rfl fx.n_enumerate (a_cons (p_fz 1) a_nil)) (g_tp rfl (gs_cons (g_nm 3 sc__law_wrong.nd) (gs_cons (g_nm 4 sc__law_wrong.nd) gs_nil)))
    (b_cons (c_if (PW.pt (w_or (t_not (p_tru (p_callB s_isi call_isi rfl fx.n_isinstance Boot.«isinstance» (a_cons (p_var 4) (a_cons (p_ty rfl (fx.n_tuple) Boot.«tuple») a_nil))))) (w_or (p_tcmp (o_ne hr.units) s_ne (p_callB s_len call_len rfl fx.n_len Boot.«len» (a_cons (p_var 4) a_nil)) p_int (nomark _)) (w_or1 (t_not (p_tru (p_callB s_isi call_isi rfl fx.n_isinstance Boot.«isinstance» (a_cons (p_ix (Nat.lt_of_le_of_lt (Nat.add_le_add_left (by decide) _) hr.units) (p_var 4) p_int) (a_cons (p_ty rfl (fx.n_str) Boot.«str») a_nil)))))))))
    (b_one (c_ret (p_lst (a_cons (p_fz 3) a_nil))))
    b_nil)
    (b_cons (c_if (PW.pt (w_or (t_not (p_tru (p_call G__law_is_number hr rfl fx.g__law_is_number F__law_is_number.kp (B__law_is_number F__law_is_number) tk (a_cons (p_ix (Nat.lt_of_le_of_lt (Nat.add_le_add_left (by decide) _) hr.units) (p_var 4) p_int) (a_cons (p_fz 2) (a_cons (p_callB s_len call_len rfl fx.n_len Boot.«len» (a_cons (p_var 0) a_nil)) a_nil)))))) (w_or (t_not (p_tru (p_call G__law_is_number hr rfl fx.g__law_is_number F__law_is_number.kp (B__law_is_number F__law_is_number) tk (a_cons (p_ix (Nat.lt_of_le_of_lt (Nat.add_le_add_left (by decide) _) hr.units) (p_var 4) p_int) (a_cons (p_ix (Nat.lt_of_le_of_lt (Nat.add_le_add_left (by decide) _) hr.units) (p_var 4) p_int) (a_cons (p_callB s_len call_len rfl fx.n_len Boot.«len» (a_cons (p_var 0) a_nil)) a_nil)))))) (w_or1 (PW.pt (w_and (p_tcmp (o_eq hr.units) s_eq (p_ix (Nat.lt_of_le_of_lt (Nat.add_le_add_left (by decide) _) hr.units) (p_var 4) p_int) (p_ix (Nat.lt_of_le_of_lt (Nat.add_le_add_left (by decide) _) hr.units) (p_var 4) p_int) (nomark _)) (w_and1 (p_tcmp (o_eq hr.units) s_eq (p_ix (Nat.lt_of_le_of_lt (Nat.add_le_add_left (by decide) _) hr.units) (p_var 4) p_int) p_str (nomark _)))))))))
    (b_one (c_ret (p_lst (a_cons (p_fz 3) a_nil))))
    b_nil)
    (b_one (c_set 2 sc__law_wrong.nd (p_ix (Nat.lt_of_le_of_lt (Nat.add_le_add_left (by decide) _) hr.units) (p_var 4) p_int))))))
    (b_one (c_ret (p_lst a_nil))))))
def b__law_some (c : Ads) : EM Fl := (gSeq (gAsg (Tg.bind (.tp [(.nm 2), (.nm 3)])) (gTup (gCons (gTup gNil) (gCons (gC (.int 0)) gNil))))
    (gSeq (gFor (gRange1 (gCons (gFn 2 (m__law_take c) (gCons (gVar 0) (gCons (gC (.int 7)) gNil))) gNil)) (.nm 4)
    (gSeq (gSet 5 (gOp fAdd (gVar 3) (gFn 2 (m__law_pick c) (gCons (gVar 0) (gCons (gFrz (gLst (gCons (gC (.int 0)) (gCons (gC (.int 0)) (gCons (gC (.int 1)) (gCons (gC (.int 2)) (gCons (gC (.int 5)) gNil))))))) gNil)))))
    (gSeq (gSet 6 (gOp fAdd (gVar 5) (gFn 2 (m__law_pick c) (gCons (gVar 0) (gCons (gFrz (gLst (gCons (gC (.int 0)) (gCons (gC (.int 0)) (gCons (gC (.int 1)) (gCons (gC (.int 3)) gNil)))))) gNil)))))
    (gIfS (gBl (gOp fLe (gVar 6) (gCall fLen (gCons (gVar 1) gNil))))
    (gSeq (gSet 7 (gFn 2 (m__law_pick c) (gCons (gVar 0) (gCons (gFrz (gLst (gCons (gC (.str "x")) (gCons (gC (.str "<b>")) (gCons (gC (.str "")) (gCons (gC (.str "yy")) (gCons (gC (.str "\n")) gNil))))))) gNil))))
    (gPar 2 3 (gCons (gOp fAdd (gVar 2) (gTup (gCons (gTup (gCons (gFz 5) (gCons (gFz 6) (gCons (gIf (gBl (gOp fLt (gVar 5) (gVar 6))) (gFz 7) (gFrz (gOp fAdd (gVar 7) (gC (.str "z"))))) gNil)))) gNil))) (gCons (gVar 6) gNil))))
    gPass))))
    (gRet (gVar 2))))
def m__law_some (c : Ads) : Mir := runM 8 (b__law_some c)
theorem ok__law_some (fx : Fx K mg base) (fd : FuncData) (F : FunD K "_law_some" "_law_some" (defArgs (topS 21)) (defBody (topS 21)) (defScope (topS 21)) [] [] (He.fAd K ("_law_some", none)) fd) : FnOk P w K mg base (L2.CX P w) 3 (He.fAd K ("_law_some", none)) fd ["well", "text"] (spM K (TT K) 2 (m__law_some (ads K))) := by
  obtain ⟨fd__law_take, F__law_take⟩ := fx.F__law_take
  have G__law_take := (ok__law_take (P := P) (w := w) fx fd__law_take F__law_take).mono (k := 2) (by omega)
  obtain ⟨fd__law_pick, F__law_pick⟩ := fx.F__law_pick
  have G__law_pick := (ok__law_pick (P := P) (w := w) fx fd__law_pick F__law_pick).mono (k := 2) (by omega)
  exact fn_ok F sc__law_some (fun _ _ => rfl) fun cdv A outer s H E hcode hr tk po =>
    (b_cons (c_asg (p_tup (a_cons (p_tup a_nil) (a_cons p_int a_nil))) (gd_of (g_tp rfl (gs_cons (g_nm 2 sc__law_some.nd) (gs_cons (g_nm 3 sc__law_some.nd) gs_nil)))))
    (b_cons (c_for po rfl (i_range1 rfl fx.n_range (a_cons (p_call G__law_take hr rfl fx.g__law_take F__law_take.kp (B__law_take F__law_take) tk (a_cons (p_var 0) (a_cons p_int a_nil))) a_nil)) (g_nm 4 sc__law_some.nd)
    (b_cons (c_set 5 sc__law_some.nd (p_op o_add s_add (p_var 3) (p_call G__law_pick hr rfl fx.g__law_pick F__law_pick.kp (B__law_pick F__law_pick) tk (a_cons (p_var 0) (a_cons (p_frz (p_lst (a_cons p_int (a_cons p_int (a_cons p_int (a_cons p_int (a_cons p_int a_nil))))))) a_nil)))))
    (b_cons (c_set 6 sc__law_some.nd (p_op o_add s_add (p_var 5) (p_call G__law_pick hr rfl fx.g__law_pick F__law_pick.kp (B__law_pick F__law_pick) tk (a_cons (p_var 0) (a_cons (p_frz (p_lst (a_cons p_int (a_cons p_int (a_cons p_int (a_cons p_int a_nil)))))) a_nil)))))
    (b_one (c_if (p_tcmp op_le s_ii (p_var 6) (p_callB s_len call_len rfl fx.n_len Boot.«len» (a_cons (p_var 1) a_nil)) (nomark _))
    (b_cons (c_set 7 sc__law_some.nd (p_call G__law_pick hr rfl fx.g__law_pick F__law_pick.kp (B__law_pick F__law_pick) tk (a_cons (p_var 0) (a_cons (p_frz (p_lst (a_cons p_str (a_cons p_str (a_cons p_str (a_cons p_str (a_cons p_str a_nil))))))) a_nil))))
    (b_one (c_par 2 3 rfl sc__law_some.nd (a_cons (p_op o_add s_add (p_var 2) (p_tup (a_cons (p_tup (a_cons (p_fz 5) (a_cons (p_fz 6) (a_cons (p_if (p_tcmp o_lt s_lt (p_var 5) (p_var 6) (nomark _)) (p_fz 7) (p_frz (p_op o_add s_add (p_var 7) p_str))) a_nil)))) a_nil))) (a_cons (p_var 6) a_nil)) (by rfl))))
    b_nil)))))
    (b_one (c_ret (p_var 2)))))
def b__law_bent (c : Ads) : EM Fl := (gSeq (gSet 3 (gFn 2 (m__law_take c) (gCons (gVar 0) (gCons (gCall fMax2 (gCons (gC (.int 1)) (gCons (gCall fLen (gCons (gVar 2) gNil)) gNil))) gNil))))
    (gSeq (gSet 4 (gIf (gBl (gOp fNe (gVar 2) (gTup gNil))) (gOp fIx (gVar 2) (gVar 3)) (gTup (gCons (gC (.int 0)) (gCons (gC (.int 0)) (gCons (gC (.str "a")) gNil))))))
    (gSeq (gSet 5 (gLst (gCons (gC .non) (gCons (gFrz (gCall fList (gCons (gVar 4) gNil))) (gCons (gFrz (gSl (gVar 4) gNoP (gPt (gC (.int 2))))) (gCons (gFrz (gOp fAdd (gVar 4) (gTup (gCons (gC (.str "")) gNil)))) (gCons (gTup (gCons (gOp fIx (gVar 4) (gC (.int 1))) (gCons (gOp fIx (gVar 4) (gC (.int 0))) (gCons (gOp fIx (gVar 4) (gC (.int 2))) gNil)))) (gCons (gTup (gCons (gOp fIx (gVar 4) (gC (.int 0))) (gCons (gOp fIx (gVar 4) (gC (.int 0))) (gCons (gC (.str "")) gNil)))) (gCons (gTup (gCons (gFrz (gOp fSub (gOp fIx (gVar 4) (gC (.int 0))) (gC (.int 1)))) (gCons (gOp fIx (gVar 4) (gC (.int 1))) (gCons (gOp fIx (gVar 4) (gC (.int 2))) gNil)))) gNil)))))))))
    (gSeq (gSet 6 (gFn 2 (m__law_pick c) (gCons (gVar 0) (gCons (gFrz (gOp fAdd (gVar 5) (gLst (gCons (gTup (gCons (gOp fIx (gVar 4) (gC (.int 0))) (gCons (gFrz (gOp fAdd (gCall fLen (gCons (gVar 1) gNil)) (gC (.int 1)))) (gCons (gC (.str "a")) gNil)))) (gCons (gTup (gCons (gC (.bl true)) (gCons (gOp fIx (gVar 4) (gC (.int 1))) (gCons (gC (.str "a")) gNil)))) (gCons (gTup (gCons (gOp fIx (gVar 4) (gC (.int 0))) (gCons (gOp fIx (gVar 4) (gC (.int 1))) (gCons (gC (.int 5)) gNil)))) (gCons (gTup (gCons (gC (.str "0")) (gCons (gOp fIx (gVar 4) (gC (.int 1))) (gCons (gC (.str "a")) gNil)))) (gCons (gFz 4) gNil)))))))) gNil))))
    (gSeq (gSet 5 (gOp fAdd (gOp fMul (gLst (gCons (gFrz (gOp fAdd (gOp fAdd (gSl (gVar 2) gNoP (gPt (gVar 3))) (gTup (gCons (gFz 6) gNil))) (gSl (gVar 2) (gPt (gOp fAdd (gVar 3) (gC (.int 1)))) gNoP))) gNil)) (gC (.int 3))) (gLst (gCons (gFrz (gOp fAdd (gOp fAdd (gSl (gVar 2) gNoP (gPt (gVar 3))) (gTup (gCons (gFz 6) gNil))) (gSl (gVar 2) (gPt (gVar 3)) gNoP))) (gCons (gUn fRev (gVar 2)) (gCons (gFrz (gOp fAdd (gVar 2) (gSl (gVar 2) (gPt (gUn fNeg (gC (.int 1)))) gNoP))) (gCons (gFrz (gCall fList (gCons (gVar 2) gNil))) (gCons (gC .non) (gCons (gTup (gCons (gFz 4) (gCons (gFz 4) gNil))) gNil)))))))))
    (gRet (gFn 2 (m__law_pick c) (gCons (gVar 0) (gCons (gFz 5) gNil)))))))))
def m__law_bent (c : Ads) : Mir := runM 7 (b__law_bent c)
theorem ok__law_bent (fx : Fx K mg base) (fd : FuncData) (F : FunD K "_law_bent" "_law_bent" (defArgs (topS 22)) (defBody (topS 22)) (defScope (topS 22)) [] [] (He.fAd K ("_law_bent", none)) fd) : FnOk P w K mg base (L2.CX P w) 3 (He.fAd K ("_law_bent", none)) fd ["well", "text", "patches"] (spM K (TT K) 3 (m__law_bent (ads K))) := by
  obtain ⟨fd__law_take, F__law_take⟩ := fx.F__law_take
  have G__law_take := (ok__law_take (P := P) (w := w) fx fd__law_take F__law_take).mono (k := 2) (by omega)
  obtain ⟨fd__law_pick, F__law_pick⟩ := fx.F__law_pick
  have G__law_pick := (ok__law_pick (P := P) (w := w) fx fd__law_pick F__law_pick).mono (k := 2) (by omega)
  exact fn_ok F sc__law_bent (fun _ _ => rfl) fun cdv A outer s H E hcode hr tk po =>
    (b_cons (c_set 3 sc__law_bent.nd (p_call G__law_take hr rfl fx.g__law_take F__law_take.kp (B__law_take F__law_take) tk (a_cons (p_var 0) (a_cons (p_callB s_max2 (call_max2 rfl) rfl fx.n_max Boot.«max» (a_cons p_int (a_cons (p_callB s_len call_len rfl fx.n_len Boot.«len» (a_cons (p_var 2) a_nil)) a_nil))) a_nil))))
    (b_cons (c_set 4 sc__law_bent.nd (p_if (p_tcmp (o_ne hr.units) s_ne (p_var 2) (p_tup a_nil) (nomark _)) (p_ix (Nat.lt_of_le_of_lt (Nat.add_le_add_left (by decide) _) hr.units) (p_var 2) (p_var 3)) (p_tup (a_cons p_int (a_cons p_int (a_cons p_str a_nil))))))
    (b_cons (c_set 5 sc__law_bent.nd (p_lst (a_cons p_non (a_cons (p_frz (p_callTy s_list call_list_of rfl fx.n_list Boot.«list» (a_cons (p_var 4) a_nil))) (a_cons (p_frz (p_sl (p_var 4) o_none (o_some p_int))) (a_cons (p_frz (p_op o_add s_add (p_var 4) (p_tup (a_cons p_str a_nil)))) (a_cons (p_tup (a_cons (p_ix (Nat.lt_of_le_of_lt (Nat.add_le_add_left (by decide) _) hr.units) (p_var 4) p_int) (a_cons (p_ix (Nat.lt_of_le_of_lt (Nat.add_le_add_left (by decide) _) hr.units) (p_var 4) p_int) (a_cons (p_ix (Nat.lt_of_le_of_lt (Nat.add_le_add_left (by decide) _) hr.units) (p_var 4) p_int) a_nil)))) (a_cons (p_tup (a_cons (p_ix (Nat.lt_of_le_of_lt (Nat.add_le_add_left (by decide) _) hr.units) (p_var 4) p_int) (a_cons (p_ix (Nat.lt_of_le_of_lt (Nat.add_le_add_left (by decide) _) hr.units) (p_var 4) p_int) (a_cons p_str a_nil)))) (a_cons (p_tup (a_cons (p_frz (p_op op_sub s_sub (p_ix (Nat.lt_of_le_of_lt (Nat.add_le_add_left (by decide) _) hr.units) (p_var 4) p_int) p_int)) (a_cons (p_ix (Nat.lt_of_le_of_lt (Nat.add_le_add_left (by decide) _) hr.units) (p_var 4) p_int) (a_cons (p_ix (Nat.lt_of_le_of_lt (Nat.add_le_add_left (by decide) _) hr.units) (p_var 4) p_int) a_nil)))) a_nil)))))))))
    (b_cons (c_set 6 sc__law_bent.nd (p_call G__law_pick hr rfl fx.g__law_pick F__law_pick.kp (B__law_pick F__law_pick) tk (a_cons (p_var 0) (a_cons (p_frz (p_op o_add s_add (p_var 5) (p_lst (a_cons (p_tup (a_cons (p_ix (Nat.lt_of_le_of_lt (Nat.add_le_add_left (by decide) _) hr.units) (p_var 4) p_int) (a_cons (p_frz (p_op o_add s_add (p_callB s_len call_len rfl fx.n_len Boot.«len» (a_cons (p_var 1) a_nil)) p_int)) (a_cons p_str a_nil)))) (a_cons (p_tup (a_cons p_bl (a_cons (p_ix (Nat.lt_of_le_of_lt (Nat.add_le_add_left (by decide) _) hr.units) (p_var 4) p_int) (a_cons p_str a_nil)))) (a_cons (p_tup (a_cons (p_ix (Nat.lt_of_le_of_lt (Nat.add_le_add_left (by decide) _) hr.units) (p_var 4) p_int) (a_cons (p_ix (Nat.lt_of_le_of_lt (Nat.add_le_add_left (by decide) _) hr.units) (p_var 4) p_int) (a_cons p_int a_nil)))) (a_cons (p_tup (a_cons p_str (a_cons (p_ix (Nat.lt_of_le_of_lt (Nat.add_le_add_left (by decide) _) hr.units) (p_var 4) p_int) (a_cons p_str a_nil)))) (a_cons (p_fz 4) a_nil)))))))) a_nil))))
    (b_cons (c_set 5 sc__law_bent.nd (p_op o_add s_add (p_op o_mul s_mul (p_lst (a_cons (p_frz (p_op o_add s_add (p_op o_add s_add (p_sl (p_var 2) o_none (o_some (p_var 3))) (p_tup (a_cons (p_fz 6) a_nil))) (p_sl (p_var 2) (o_some (p_op o_add s_add (p_var 3) p_int)) o_none))) a_nil)) p_int) (p_lst (a_cons (p_frz (p_op o_add s_add (p_op o_add s_add (p_sl (p_var 2) o_none (o_some (p_var 3))) (p_tup (a_cons (p_fz 6) a_nil))) (p_sl (p_var 2) (o_some (p_var 3)) o_none))) (a_cons (p_revT (p_var 2)) (a_cons (p_frz (p_op o_add s_add (p_var 2) (p_sl (p_var 2) (o_some (p_un un_neg s_neg p_int)) o_none))) (a_cons (p_frz (p_callTy s_list call_list_of rfl fx.n_list Boot.«list» (a_cons (p_var 2) a_nil))) (a_cons p_non (a_cons (p_tup (a_cons (p_fz 4) (a_cons (p_fz 4) a_nil))) a_nil)))))))))
    (b_one (c_ret (p_call G__law_pick hr rfl fx.g__law_pick F__law_pick.kp (B__law_pick F__law_pick) tk (a_cons (p_var 0) (a_cons (p_fz 5) a_nil))))))))))
def b__law_round (c : Ads) : EM Fl := (gSeq (gFor (gRange1 (gCons (gC (.int 16)) gNil)) (.nm 1)
    (gSeq (gSet 2 (gMeth "str" fJoin (gC (.str "")) (gCons (gLc (gRange1 (gCons (gFn 2 (m__law_take c) (gCons (gVar 0) (gCons (gC (.int 12)) gNil))) gNil)) (.nm 3) [3] gYes (gFrz (gFn 2 (m__law_pick c) (gCons (gVar 0) (gCons (gFrz (gLst (gCons (gC (.str "a")) (gCons (gC (.str "b")) (gCons (gC (.str "<p>")) (gCons (gC (.str "c d")) (gCons (gC (.str "\n")) (gCons (gC (.str "")) (gCons (gC (.str "&amp;")) gNil))))))))) gNil))))) gNil)))
    (gSeq (gSet 4 (gFn 2 (m__law_some c) (gCons (gVar 0) (gCons (gFz 2) gNil))))
    (gSeq (gSet 5 (gFn 2 (m__law_patched c) (gCons (gFz 2) (gCons (gFz 4) gNil))))
    (gSeq (gIfS (gOr (gNot (gTru (gFn 2 (m__law_same c) (gCons (gTup (gCons (gFrz (gFn 2 (m_patched c) (gCons (gFz 2) (gCons (gFz 4) gNil)))) (gCons (gFrz (gFnK .swap 2 (m_patched c) (gCons (gFz 4) (gCons (gFz 2) gNil)))) (gCons (gFrz (gFn 2 (m_patched c) (gCons (gFz 2) (gCons (gTup gNil) gNil)))) gNil)))) (gCons (gTup (gCons (gFz 5) (gCons (gFz 5) (gCons (gFz 2) gNil)))) gNil))))) (gBl (gOp fNe (gFn 2 (m__law_wrong c) (gCons (gFz 2) (gCons (gFz 4) gNil))) (gLst gNil))))
    (gRet (gC (.bl false)))
    gPass)
    (gSeq (gFor (gRange1 (gCons (gC (.int 4)) gNil)) (.nm 6)
    (gSeq (gSet 7 (gFn 3 (m__law_bent c) (gCons (gVar 0) (gCons (gFz 2) (gCons (gFz 4) gNil)))))
    (gSeq (gSet 8 (gFn 2 (m__law_wrong c) (gCons (gFz 2) (gCons (gFz 7) gNil))))
    (gSeq (gSet 9 (gLst (gCons (gFrz (gHeard 4 "told" (mt__law_heard c) (su__law_heard c) (gFrz (gFn 2 (m_patched c) (gCons (gFz 2) (gCons (gFz 7) gNil)))))) (gCons (gC (.int 0)) gNil))))
    (gSeq (gAsg (gdSub 9 (gC (.int 1))) (gFrz (gHeard 4 "told" (mt__law_heard c) (su__law_heard c) (gFrz (gFnK .swap 2 (m_patched c) (gCons (gFz 7) (gCons (gFz 2) gNil)))))))
    (gIfS (gNot (gTru (gFn 2 (m__law_same c) (gCons (gFz 9) (gCons (gFrz (gOp fMul (gLst (gCons (gIf (gBl (gOp fNe (gVar 8) (gLst gNil))) (gTup (gCons (gC (.str "patches")) (gCons (gOp fIx (gVar 8) (gC (.int 0))) gNil))) (gTup (gCons (gC (.str "told")) (gCons (gFrz (gFn 2 (m__law_patched c) (gCons (gFz 2) (gCons (gFz 7) gNil)))) gNil)))) gNil)) (gC (.int 2)))) gNil)))))
    (gRet (gC (.bl false)))
    gPass))))))
    (gSeq (gSet 10 (gFn 2 (m__law_pick c) (gCons (gVar 0) (gCons (gFrz (gLst (gCons (gC .non) (gCons (gC (.int 5)) (gCons (gTup (gCons (gC (.str "a")) gNil)) (gCons (gFrz (gLst (gCons (gC (.str "a")) gNil))) (gCons (gC (.bl true)) gNil))))))) gNil))))
    (gIfS (gNot (gTru (gFn 2 (m__law_same c) (gCons (gFrz (gHeard 4 "told" (mt__law_heard c) (su__law_heard c) (gFrz (gFn 2 (m_patched c) (gCons (gFz 10) (gCons (gC .non) gNil)))))) (gCons (gTup (gCons (gC (.str "text")) (gCons (gFz 10) gNil))) gNil)))))
    (gRet (gC (.bl false)))
    gPass))))))))
    (gRet (gC (.bl true))))
def m__law_round (c : Ads) : Mir := runM 11 (b__law_round c)
theorem ok__law_round (fx : Fx K mg base) (fd : FuncData) (F : FunD K "_law_round" "_law_round" (defArgs (topS 23)) (defBody (topS 23)) (defScope (topS 23)) [] [] (He.fAd K ("_law_round", none)) fd) : FnOk P w K mg base (L2.CX P w) 13 (He.fAd K ("_law_round", none)) fd ["well"] (spM K (TT K) 1 (m__law_round (ads K))) := by
  obtain ⟨fd__law_some, F__law_some⟩ := fx.F__law_some
  have G__law_some := (ok__law_some (P := P) (w := w) fx fd__law_some F__law_some).mono (k := 10) (by omega)
  obtain ⟨fd__law_patched, F__law_patched⟩ := fx.F__law_patched
  have G__law_patched := (ok__law_patched (P := P) (w := w) fx fd__law_patched F__law_patched).mono (k := 10) (by omega)
  obtain ⟨fd__law_pick, F__law_pick⟩ := fx.F__law_pick
  have G__law_pick := (ok__law_pick (P := P) (w := w) fx fd__law_pick F__law_pick).mono (k := 10) (by omega)
  obtain ⟨fd__law_bent, F__law_bent⟩ := fx.F__law_bent
  have G__law_bent := (ok__law_bent (P := P) (w := w) fx fd__law_bent F__law_bent).mono (k := 10) (by omega)
  obtain ⟨fd__law_wrong, F__law_wrong⟩ := fx.F__law_wrong
  have G__law_wrong := (ok__law_wrong (P := P) (w := w) fx fd__law_wrong F__law_wrong).mono (k := 10) (by omega)
  obtain ⟨fd__law_heard, F__law_heard⟩ := fx.F__law_heard
  have FH := F__law_heard
  obtain ⟨oc, od, dV, kV, doc, pm, an, cdvH, ct, osl, rfl, lkH, hcdH, _, _⟩ := F__law_heard.ex
  obtain ⟨fd__law_same, F__law_same⟩ := fx.F__law_same
  have G__law_same := (ok__law_same (P := P) (w := w) fx fd__law_same F__law_same).mono (k := 10) (by omega)
  obtain ⟨fd_patched, F_patched⟩ := fx.F_patched
  have G_patched := (ok_patched (P := P) (w := w) fx fd_patched F_patched).mono (k := 10) (by omega)
  obtain ⟨fd__law_take, F__law_take⟩ := fx.F__law_take
  have G__law_take := (ok__law_take (P := P) (w := w) fx fd__law_take F__law_take).mono (k := 10) (by omega)
  exact fn_ok F sc__law_round (fun _ _ => rfl) fun cdv A outer s H E hcode hr tk po =>
    (b_cons (c_for po rfl (i_range1 rfl fx.n_range (a_cons p_int a_nil)) (g_nm 1 sc__law_round.nd)
    (b_cons (c_set 2 sc__law_round.nd (p_meth s_join PySem.F.plainAttrs_str PySem.F.slot_str_join PySem.F.type_str_join m_join p_str (a_cons (p_lc [("k", 3)] rfl sc__law_round.nd (blkOk_by (by rfl)) (i_range1 rfl fx.n_range (a_cons (p_call G__law_take (hr.mono (by omega)) rfl fx.g__law_take F__law_take.kp (B__law_take F__law_take) tk (a_cons (p_var 0) (a_cons p_int a_nil))) a_nil)) (fun _ _ _ _ _ => (g_nm 3 sc__law_round.nd)) (fun _ _ _ _ _ => ts_nil) (fun _ _ _ _ _ => (p_frz (p_call G__law_pick (hr.mono (by omega)) rfl fx.g__law_pick F__law_pick.kp (B__law_pick F__law_pick) LamX.takes0 (a_cons (p_var 0) (a_cons (p_frz (p_lst (a_cons p_str (a_cons p_str (a_cons p_str (a_cons p_str (a_cons p_str (a_cons p_str (a_cons p_str a_nil))))))))) a_nil)))))) a_nil)))
    (b_cons (c_set 4 sc__law_round.nd (p_call G__law_some (hr.mono (by omega)) rfl fx.g__law_some F__law_some.kp (B__law_some F__law_some) tk (a_cons (p_var 0) (a_cons (p_fz 2) a_nil))))
    (b_cons (c_set 5 sc__law_round.nd (p_call G__law_patched (hr.mono (by omega)) rfl fx.g__law_patched F__law_patched.kp (B__law_patched F__law_patched) tk (a_cons (p_fz 2) (a_cons (p_fz 4) a_nil))))
    (b_cons (c_if (PW.pt (w_or (t_not (p_tru (p_call G__law_same (hr.mono (by omega)) rfl fx.g__law_same F__law_same.kp (B__law_same F__law_same) tk (a_cons (p_tup (a_cons (p_frz (p_call G_patched (hr.mono (by omega)) rfl fx.g_patched F_patched.kp (B_patched F_patched) tk (a_cons (p_fz 2) (a_cons (p_fz 4) a_nil)))) (a_cons (p_frz (p_callK .swap G_patched (hr.mono (by omega)) rfl fx.g_patched F_patched.kp (K_patched F_patched) tk (k_cons (p_fz 4) (k_cons (p_fz 2) k_nil)) rfl (K_patched_len))) (a_cons (p_frz (p_call G_patched (hr.mono (by omega)) rfl fx.g_patched F_patched.kp (B_patched F_patched) tk (a_cons (p_fz 2) (a_cons (p_tup a_nil) a_nil)))) a_nil)))) (a_cons (p_tup (a_cons (p_fz 5) (a_cons (p_fz 5) (a_cons (p_fz 2) a_nil)))) a_nil))))) (w_or1 (p_tcmp (o_ne hr.units) s_ne (p_call G__law_wrong (hr.mono (by omega)) rfl fx.g__law_wrong F__law_wrong.kp (B__law_wrong F__law_wrong) tk (a_cons (p_fz 2) (a_cons (p_fz 4) a_nil))) (p_lst a_nil) (nomark _)))))
    (b_one (c_ret p_bl))
    b_nil)
    (b_cons (c_for po rfl (i_range1 rfl fx.n_range (a_cons p_int a_nil)) (g_nm 6 sc__law_round.nd)
    (b_cons (c_set 7 sc__law_round.nd (p_call G__law_bent (hr.mono (by omega)) rfl fx.g__law_bent F__law_bent.kp (B__law_bent F__law_bent) tk (a_cons (p_var 0) (a_cons (p_fz 2) (a_cons (p_fz 4) a_nil)))))
    (b_cons (c_set 8 sc__law_round.nd (p_call G__law_wrong (hr.mono (by omega)) rfl fx.g__law_wrong F__law_wrong.kp (B__law_wrong F__law_wrong) tk (a_cons (p_fz 2) (a_cons (p_fz 7) a_nil))))
    (b_cons (c_set 9 sc__law_round.nd (p_lst (a_cons (p_frz (p_heard (x := "_law_heard") (k := 10) (H0 := ⟨H, fun _ _ _ => False, TT K⟩) rfl fx.g__law_heard FH.kp lkH hcdH (B__law_heard FH) sc__law_heard rfl rfl (Or.inl rfl) rfl (by decide) rfl fx.tb__law_round (code_of hcode) (by exact List.mem_singleton.mpr rfl) (by intro p hp _; rw [List.mem_singleton.mp hp]; rfl) hr (LamX.lamS_by (by rfl)) rfl (fun _ _ _ _ _ => rfl) (fun _ _ _ _ _ _ _ hr tk => (p_frz (p_call G_patched (hr.mono (by omega)) rfl fx.g_patched F_patched.kp (B_patched F_patched) tk (a_cons (p_fz 2) (a_cons (p_fz 7) a_nil))))) (fun _ _ => cl_tup3 ⟨rfl, by decide, .inl fx.g_ShapeError⟩ ⟨rfl, by decide, .inl fx.g_StateError⟩ ⟨rfl, by decide, .inl fx.g_SizeError⟩) (mt__law_heard_ok fx) (fun _ _ h0 _ _ _ _ _ _ hr hz hfv => (b_cons (c_set 2 sc__law_heard.nd (p_lst (a_cons (p_isx (I_InvalidText (ads K)) 1 hz hfv (I_InvalidText_ok fx) rfl fx.n_isinstance rfl fx.g_InvalidText (C0 := .ref (ads K).InvalidText) rfl (fun u h => h)) (a_cons (p_isx (I_InvalidPatches (ads K)) 1 hz hfv (I_InvalidPatches_ok fx) rfl fx.n_isinstance rfl fx.g_InvalidPatches (C0 := .ref (ads K).InvalidPatches) rfl (fun u h => h)) a_nil))))
    (b_cons (c_if (p_tcmp (o_ne hr.units) s_ne (p_meth s_count PySem.F.plainAttrs_list PySem.F.slot_list_count PySem.F.type_list_count m_count (p_var 2) (a_cons p_bl a_nil)) p_int (nomark _))
    (b_one (c_ret (p_tup (a_cons p_str (a_cons p_non a_nil)))))
    b_nil)
    (b_cons (c_set 3 sc__law_heard.nd (p_ix (Nat.lt_of_le_of_lt (Nat.add_le_add_left (by decide) _) hr.units) (p_lst (a_cons p_str (a_cons p_str a_nil))) (p_meth s_index PySem.F.plainAttrs_list PySem.F.slot_list_index PySem.F.type_list_index mt_index (p_var 2) (a_cons p_bl a_nil))))
    (b_cons (c_if (p_tcmp op_in_seq s_in (p_var 3) (p_tup (a_cons p_str a_nil)) (by rfl))
    (b_one (c_ret (p_tup (a_cons (p_fz 3) (a_cons (p_xf (P_written (ads K)) 1 hz hfv (P_written_ok fx)) a_nil)))))
    b_nil)
    (b_cons (c_if (p_tcmp op_in_seq s_in (p_var 3) (p_tup (a_cons p_str a_nil)) (by rfl))
    (b_one (c_ret (p_tup (a_cons (p_fz 3) (a_cons (p_xf (P_index (ads K)) 1 hz hfv (P_index_ok fx)) a_nil)))))
    b_nil)
    (b_one (c_ret (p_tup (a_cons (p_fz 3) (a_cons p_non a_nil))))))))))))) (a_cons p_int a_nil))))
    (b_cons (c_asg (p_frz (p_heard (x := "_law_heard") (k := 10) (H0 := ⟨H, fun _ _ _ => False, TT K⟩) rfl fx.g__law_heard FH.kp lkH hcdH (B__law_heard FH) sc__law_heard rfl rfl (Or.inl rfl) rfl (by decide) rfl fx.tb__law_round (code_of hcode) (by exact List.mem_singleton.mpr rfl) (by intro p hp _; rw [List.mem_singleton.mp hp]; rfl) hr (LamX.lamS_by (by rfl)) rfl (fun _ _ _ _ _ => rfl) (fun _ _ _ _ _ _ _ hr tk => (p_frz (p_callK .swap G_patched (hr.mono (by omega)) rfl fx.g_patched F_patched.kp (K_patched F_patched) tk (k_cons (p_fz 7) (k_cons (p_fz 2) k_nil)) rfl (K_patched_len)))) (fun _ _ => cl_tup3 ⟨rfl, by decide, .inl fx.g_ShapeError⟩ ⟨rfl, by decide, .inl fx.g_StateError⟩ ⟨rfl, by decide, .inl fx.g_SizeError⟩) (mt__law_heard_ok fx) (fun _ _ h0 _ _ _ _ _ _ hr hz hfv => (b_cons (c_set 2 sc__law_heard.nd (p_lst (a_cons (p_isx (I_InvalidText (ads K)) 1 hz hfv (I_InvalidText_ok fx) rfl fx.n_isinstance rfl fx.g_InvalidText (C0 := .ref (ads K).InvalidText) rfl (fun u h => h)) (a_cons (p_isx (I_InvalidPatches (ads K)) 1 hz hfv (I_InvalidPatches_ok fx) rfl fx.n_isinstance rfl fx.g_InvalidPatches (C0 := .ref (ads K).InvalidPatches) rfl (fun u h => h)) a_nil))))
    (b_cons (c_if (p_tcmp (o_ne hr.units) s_ne (p_meth s_count PySem.F.plainAttrs_list PySem.F.slot_list_count PySem.F.type_list_count m_count (p_var 2) (a_cons p_bl a_nil)) p_int (nomark _))
    (b_one (c_ret (p_tup (a_cons p_str (a_cons p_non a_nil)))))
    b_nil)
    (b_cons (c_set 3 sc__law_heard.nd (p_ix (Nat.lt_of_le_of_lt (Nat.add_le_add_left (by decide) _) hr.units) (p_lst (a_cons p_str (a_cons p_str a_nil))) (p_meth s_index PySem.F.plainAttrs_list PySem.F.slot_list_index PySem.F.type_list_index mt_index (p_var 2) (a_cons p_bl a_nil))))
    (b_cons (c_if (p_tcmp op_in_seq s_in (p_var 3) (p_tup (a_cons p_str a_nil)) (by rfl))
    (b_one (c_ret (p_tup (a_cons (p_fz 3) (a_cons (p_xf (P_written (ads K)) 1 hz hfv (P_written_ok fx)) a_nil)))))
    b_nil)
    (b_cons (c_if (p_tcmp op_in_seq s_in (p_var 3) (p_tup (a_cons p_str a_nil)) (by rfl))
    (b_one (c_ret (p_tup (a_cons (p_fz 3) (a_cons (p_xf (P_index (ads K)) 1 hz hfv (P_index_ok fx)) a_nil)))))
    b_nil)
    (b_one (c_ret (p_tup (a_cons (p_fz 3) (a_cons p_non a_nil))))))))))))) (gd_sub 9 (Nat.lt_of_le_of_lt (Nat.add_le_add_left (by decide) _) hr.units) p_int))
    (b_one (c_if (t_not (p_tru (p_call G__law_same (hr.mono (by omega)) rfl fx.g__law_same F__law_same.kp (B__law_same F__law_same) tk (a_cons (p_fz 9) (a_cons (p_frz (p_op o_mul s_mul (p_lst (a_cons (p_if (p_tcmp (o_ne hr.units) s_ne (p_var 8) (p_lst a_nil) (nomark _)) (p_tup (a_cons p_str (a_cons (p_ix (Nat.lt_of_le_of_lt (Nat.add_le_add_left (by decide) _) hr.units) (p_var 8) p_int) a_nil))) (p_tup (a_cons p_str (a_cons (p_frz (p_call G__law_patched (hr.mono (by omega)) rfl fx.g__law_patched F__law_patched.kp (B__law_patched F__law_patched) tk (a_cons (p_fz 2) (a_cons (p_fz 7) a_nil)))) a_nil)))) a_nil)) p_int)) a_nil)))))
    (b_one (c_ret p_bl))
    b_nil)))))))
    (b_cons (c_set 10 sc__law_round.nd (p_call G__law_pick (hr.mono (by omega)) rfl fx.g__law_pick F__law_pick.kp (B__law_pick F__law_pick) tk (a_cons (p_var 0) (a_cons (p_frz (p_lst (a_cons p_non (a_cons p_int (a_cons (p_tup (a_cons p_str a_nil)) (a_cons (p_frz (p_lst (a_cons p_str a_nil))) (a_cons p_bl a_nil))))))) a_nil))))
    (b_one (c_if (t_not (p_tru (p_call G__law_same (hr.mono (by omega)) rfl fx.g__law_same F__law_same.kp (B__law_same F__law_same) tk (a_cons (p_frz (p_heard (x := "_law_heard") (k := 10) (H0 := ⟨H, fun _ _ _ => False, TT K⟩) rfl fx.g__law_heard FH.kp lkH hcdH (B__law_heard FH) sc__law_heard rfl rfl (Or.inl rfl) rfl (by decide) rfl fx.tb__law_round (code_of hcode) (by exact List.mem_singleton.mpr rfl) (by intro p hp _; rw [List.mem_singleton.mp hp]; rfl) hr (LamX.lamS_by (by rfl)) rfl (fun _ _ _ _ _ => rfl) (fun _ _ _ _ _ _ _ hr tk => (p_frz (p_call G_patched (hr.mono (by omega)) rfl fx.g_patched F_patched.kp (B_patched F_patched) tk (a_cons (p_fz 10) (a_cons p_non a_nil))))) (fun _ _ => cl_tup3 ⟨rfl, by decide, .inl fx.g_ShapeError⟩ ⟨rfl, by decide, .inl fx.g_StateError⟩ ⟨rfl, by decide, .inl fx.g_SizeError⟩) (mt__law_heard_ok fx) (fun _ _ h0 _ _ _ _ _ _ hr hz hfv => (b_cons (c_set 2 sc__law_heard.nd (p_lst (a_cons (p_isx (I_InvalidText (ads K)) 1 hz hfv (I_InvalidText_ok fx) rfl fx.n_isinstance rfl fx.g_InvalidText (C0 := .ref (ads K).InvalidText) rfl (fun u h => h)) (a_cons (p_isx (I_InvalidPatches (ads K)) 1 hz hfv (I_InvalidPatches_ok fx) rfl fx.n_isinstance rfl fx.g_InvalidPatches (C0 := .ref (ads K).InvalidPatches) rfl (fun u h => h)) a_nil))))
    (b_cons (c_if (p_tcmp (o_ne hr.units) s_ne (p_meth s_count PySem.F.plainAttrs_list PySem.F.slot_list_count PySem.F.type_list_count m_count (p_var 2) (a_cons p_bl a_nil)) p_int (nomark _))
    (b_one (c_ret (p_tup (a_cons p_str (a_cons p_non a_nil)))))
    b_nil)
    (b_cons (c_set 3 sc__law_heard.nd (p_ix (Nat.lt_of_le_of_lt (Nat.add_le_add_left (by decide) _) hr.units) (p_lst (a_cons p_str (a_cons p_str a_nil))) (p_meth s_index PySem.F.plainAttrs_list PySem.F.slot_list_index PySem.F.type_list_index mt_index (p_var 2) (a_cons p_bl a_nil))))
    (b_cons (c_if (p_tcmp op_in_seq s_in (p_var 3) (p_tup (a_cons p_str a_nil)) (by rfl))
    (b_one (c_ret (p_tup (a_cons (p_fz 3) (a_cons (p_xf (P_written (ads K)) 1 hz hfv (P_written_ok fx)) a_nil)))))
    b_nil)
    (b_cons (c_if (p_tcmp op_in_seq s_in (p_var 3) (p_tup (a_cons p_str a_nil)) (by rfl))
    (b_one (c_ret (p_tup (a_cons (p_fz 3) (a_cons (p_xf (P_index (ads K)) 1 hz hfv (P_index_ok fx)) a_nil)))))
    b_nil)
    (b_one (c_ret (p_tup (a_cons (p_fz 3) (a_cons p_non a_nil))))))))))))) (a_cons (p_tup (a_cons p_str (a_cons (p_fz 10) a_nil))) a_nil)))))
    (b_one (c_ret p_bl))
    b_nil)))))))))
    (b_one (c_ret p_bl)))
def b_law (c : Ads) : EM Fl := (gRet (gCall fAll (gCons (gLc (gItems tupItems (gTup (gCons (gC (.int 0)) (gCons (gC (.int 1)) gNil)))) (.nm 1) [1] gYes (gFrz (gFn 1 (m__law_round c) (gCons (gFn 2 (m__law_well c) (gCons (gFz 0) (gCons (gFz 1) gNil))) gNil)))) gNil)))
def m_law (c : Ads) : Mir := runM 2 (b_law c)
theorem ok_law (fx : Fx K mg base) (fd : FuncData) (F : FunD K "law" "law" (defArgs (topS 24)) (defBody (topS 24)) (defScope (topS 24)) [] [] (He.fAd K ("law", none)) fd) : FnOk P w K mg base (L2.CX P w) 14 (He.fAd K ("law", none)) fd ["script"] (spM K (TT K) 1 (m_law (ads K))) := by
  obtain ⟨fd__law_round, F__law_round⟩ := fx.F__law_round
  have G__law_round := (ok__law_round (P := P) (w := w) fx fd__law_round F__law_round).mono (k := 13) (by omega)
  obtain ⟨fd__law_well, F__law_well⟩ := fx.F__law_well
  have G__law_well := (ok__law_well (P := P) (w := w) fx fd__law_well F__law_well).mono (k := 13) (by omega)
  exact fn_ok F sc_law (fun _ _ => rfl) fun cdv A outer s H E hcode hr tk po =>
    (b_one (c_ret (p_callB s_all (cr_all rfl) rfl fx.n_all Boot.«all» (a_cons (p_lc [("turn", 1)] rfl sc_law.nd (blkOk_by (by rfl)) (i_tup (p_tup (a_cons p_int (a_cons p_int a_nil)))) (fun _ _ _ _ _ => (g_nm 1 sc_law.nd)) (fun _ _ _ _ _ => ts_nil) (fun _ _ _ _ _ => (p_frz (p_call G__law_round hr rfl fx.g__law_round F__law_round.kp (B__law_round F__law_round) LamX.takes0 (a_cons (p_call G__law_well hr rfl fx.g__law_well F__law_well.kp (B__law_well F__law_well) LamX.takes0 (a_cons (p_fz 0) (a_cons (p_fz 1) a_nil))) a_nil))))) a_nil))))
end
end My

/-! Q1: plain tools for the mirrors: bounds of texts, invariants of loops and comprehensions. -/
namespace M
open PySem PySem.Spec PyProof.Rows L2

/-! ### short texts -/
def SB (n : Nat) (x : Str) : Prop := x.length ≤ n ∧ ∀ c ∈ x.cps.toList, c < 16 ^ 8
theorem SB.mono {n m : Nat} {x : Str} (h : SB n x) (l : n ≤ m) : SB m x := ⟨Nat.le_trans h.1 l, h.2⟩
theorem SB.add {n m : Nat} {x y : Str} (h : SB n x) (g : SB m y) : SB (n + m) (x ++ y) := by
  refine ⟨by rw [Str.length_append]; exact Nat.add_le_add h.1 g.1, fun c hc => ?_⟩
  rw [Str.cps_append, Array.toList_append, List.mem_append] at hc
  exact hc.elim (h.2 c) (g.2 c)
theorem SB.cut {n : Nat} {x : Str} (h : SB n x) (lo hi : Option Int) : SB n (cutS x lo hi) := by
  unfold cutS
  refine ⟨?_, fun c hc => h.2 c (List.mem_of_mem_drop (List.mem_of_mem_take (by simpa using hc)))⟩
  have : x.cps.toList.length ≤ n := h.1
  show (List.toArray _).size ≤ n
  rw [List.size_toArray, List.length_take, List.length_drop]
  omega
theorem SB.repr {n : Nat} {x : Str} (h : SB n x) : (reprText x).length ≤ 10 * n + 2 :=
  Nat.le_trans (StrLaws.reprText_len x h.2) (by have := h.1; omega)
theorem SB.join {n : Nat} {sep : Str} {k : Nat} (hs : SB k sep) : ∀ {l : List Str}, (∀ x ∈ l, SB n x) → SB (l.length * (n + k)) (Str.join sep l)
  | [], _ => ⟨Nat.zero_le _, fun c hc => by cases hc⟩
  | [x], h => (h x List.mem_cons_self).mono (by simp)
  | x :: y :: r, h => by
    have := ((h x List.mem_cons_self).add hs).add (SB.join hs (l := y :: r) fun z hz => h z (List.mem_cons_of_mem _ hz))
    exact this.mono (by simp [Nat.add_mul]; omega)
theorem Str.join_len {sep : Str} {n k : Nat} (hs : sep.length ≤ k) : ∀ {l : List Str}, (∀ x ∈ l, x.length ≤ n) → (Str.join sep l).length ≤ l.length * (n + k)
  | [], _ => Nat.zero_le _
  | [x], h => Nat.le_trans (h x List.mem_cons_self) (by simp)
  | x :: y :: r, h => by
    have h1 := h x List.mem_cons_self
    have h2 := Str.join_len hs (l := y :: r) fun z hz => h z (List.mem_cons_of_mem _ hz)
    show (x ++ sep ++ Str.join sep (y :: r)).length ≤ _
    rw [Str.length_append, Str.length_append]
    simp [Nat.add_mul] at h2 ⊢
    omega
theorem sum_le {n : Nat} : ∀ {l : List Str}, (∀ x ∈ l, x.length ≤ n) → (l.map (·.length)).sum ≤ l.length * n
  | [], _ => Nat.zero_le _
  | x :: l, h => by
    have h1 := h x List.mem_cons_self
    have h2 := sum_le (l := l) fun z hz => h z (List.mem_cons_of_mem _ hz)
    simp [Nat.add_mul] at h2 ⊢
    omega

/-! ### picks -/
theorem atI_in {α : Type} {xs : List α} {v : Int} (h0 : 0 ≤ v) (h : v < xs.length) : ∃ x, atI xs v = some x ∧ x ∈ xs := by
  have hj : v.toNat < xs.length := by omega
  refine ⟨xs[v.toNat], ?_, List.getElem_mem hj⟩
  have e : (v.toNat : Int) = v := by omega
  have := atI_nat (xs := xs) (j := v.toNat) (v := xs[v.toNat]) (by simp [hj])
  rwa [e] at this

/-! ### loops -/
/-- a loop that never leaves -/
theorem loopF_inv {t : Tg} {body : EM Fl} (I : Nat → En → Prop) : ∀ (ds : List D) (k : Nat) (ρ : En),
    (∀ j ρ d, d ∈ ds → j < k + ds.length → I j ρ → ∃ ρ1 ρ2, t.bind d ρ = some ρ1 ∧ (body ρ1 = some (.ok .nx ρ2) ∨ body ρ1 = some (.ok .ct ρ2)) ∧ I (j + 1) ρ2) → I k ρ →
    ∃ ρ', loopF t body ds ρ = some (.ok .nx ρ') ∧ I (k + ds.length) ρ'
  | [], k, ρ, _, h => ⟨ρ, rfl, h⟩
  | d :: ds, k, ρ, st, h => by
    obtain ⟨ρ1, ρ2, e1, e2, h2⟩ := st k ρ d List.mem_cons_self (by simp) h
    obtain ⟨ρ', e3, h3⟩ := loopF_inv I ds (k + 1) ρ2 (fun j ρ d hd hj hI => st j ρ d (List.mem_cons_of_mem _ hd) (by rw [List.length_cons]; omega) hI) h2
    refine ⟨ρ', ?_, by rw [List.length_cons, Nat.add_comm ds.length 1, ← Nat.add_assoc]; exact h3⟩
    unfold loopF
    rw [e1]
    dsimp only
    rcases e2 with e2 | e2 <;> rw [e2] <;> exact e3
/-- a comprehension that keeps all -/
theorem compM_inv {t : Tg} {vs : List Nat} {ge : EM Res} (I : List D → En → Prop) : ∀ (ds acc : List D) (ρ : En),
    (∀ a ρ d, d ∈ ds → a.length < acc.length + ds.length → I a ρ → ∃ ρ1 y ρ2, t.bind d (wipeE ρ vs) = some ρ1 ∧ ge ρ1 = some (.ok (.val y) ρ2) ∧ I (a ++ [y]) ρ2) →
    (∀ acc ρ, I acc ρ → noPars ρ vs = true) → acc.length + ds.length ≤ sizeLine → I acc ρ →
    ∃ acc' ρ', compM t vs gYes ge acc ds ρ = some (.ok acc' (wipeE ρ' vs)) ∧ I acc' ρ' ∧ acc'.length = acc.length + ds.length
  | [], acc, ρ, _, _, _, h => ⟨acc, ρ, rfl, h, rfl⟩
  | d :: ds, acc, ρ, st, np, hl, h => by
    obtain ⟨ρ1, y, ρ2, e1, e2, h2⟩ := st acc ρ d List.mem_cons_self (by rw [List.length_cons]; omega) h
    rw [List.length_cons] at hl
    obtain ⟨acc', ρ', e3, h3, h4⟩ := compM_inv I ds (acc ++ [y]) ρ2 (fun a ρ d hd ha hI => st a ρ d (List.mem_cons_of_mem _ hd) (by rw [List.length_append] at ha; rw [List.length_cons]; simp at ha; omega) hI) np (by rw [List.length_append]; simp; omega) h2
    refine ⟨acc', ρ', ?_, h3, by rw [h4, List.length_append]; simp; omega⟩
    unfold compM
    rw [if_pos (np _ _ h), e1]
    dsimp only
    unfold gYes EM.pure
    dsimp only
    rw [e2]
    dsimp only
    rw [if_pos ⟨by omega, np _ _ h2⟩]
    exact e3
end M

namespace My
open PySem PySem.Spec PyProof.Rows L2 M
/-- the well: its first number, its state, the count of what was drawn from the state -/
def WOk (n : Nat) (m : Mo) : Prop := ∃ a b k : Int, m = .l [.int a, .int b, .int k] ∧ 0 ≤ a ∧ a < 10 ^ 58 ∧ 0 ≤ b ∧ b < 2 ^ 31 ∧ 0 ≤ k ∧ k ≤ n
theorem log_lt {i : Int} {b : Nat} (h0 : 0 ≤ i) (h : i < 2 ^ b) (hb : 0 < b) : i.natAbs.log2 < b := by
  have : i.natAbs < 2 ^ b := by
    have e : ((2 ^ b : Nat) : Int) = (2 : Int) ^ b := by simp
    omega
  exact PySem.Flt.log2_lt_of hb this
theorem nopy {i j : Int} (h0 : 0 ≤ j) (h : j < 2 ^ 40) : Builtin.divisionGoesByPylong i j = false := by
  have hl := log_lt h0 h (by decide)
  unfold Builtin.divisionGoesByPylong
  dsimp only
  have : ¬ ((if (j == 0) = true then 0 else j.natAbs.log2 / 30 + 1) > 300) := by
    split
    · decide
    · omega
  by_cases hj : j = 0
  · simp [hj]
  · simp [hj]; intro hh; omega
theorem take_ok (c : Ads) {n : Nat} {m : Mo} {many : Int} (h : WOk n m) (hn : n ≤ 100000) (h1 : 1 ≤ many) (h2 : many ≤ 1000) :
    ∃ (v : Int) (m' : Mo), m__law_take c [.par m, .val (.int many)] = some (.ok (.val (.int v)) [.par m', .val (.int many)]) ∧ 0 ≤ v ∧ v < many ∧ WOk (n + 1) m' := by
  obtain ⟨a, b, k, rfl, ha, ha2, hb, hb2, hk, hk2⟩ := h
  by_cases h : 0 < a
  · have hp : Builtin.divisionGoesByPylong a many = false := nopy (by omega) (by omega)
    have hm : 0 < many := by omega
    refine ⟨a % many, .l [.int (a / many), .int b, .int k], ?_, Int.emod_nonneg _ (by omega), Int.emod_lt_of_pos _ hm, a / many, b, k, rfl, Int.ediv_nonneg ha (by omega), ?_, hb, hb2, hk, by omega⟩
    · unfold m__law_take b__law_take runM
      simp [gSeq, gIfS, gBl, gOp, gVar, gC, EM.bind, EM.pure, EM.lift, op2, op1, gUn, view, moAt, Slot.mo?, Mo.view, fIx, fII, gAsg, gCall, M.gCons, M.gNil, consM, opL, views, aliveR, gdTup, gdCons, gdSub, gdNil, Tg.bind, Tg.binds, setV, putMo, gRet, gPass, M.gSet, setM, storeR, gFz, gFrz, M.gLst, M.gTup, valsR, gSl, slM, gPt, gNoP, fSl, gAnd, gOr, gNot, gTru, truM, tru, gAndV, gOrV, gNotV, stays, gIf, gDrop, gRcv, isL, gApp, gMeth, methM, tyD, gFn, callM, argsOf, argOf, brws, nodupN, putBack, Ret.res, gFnK, allVal, Perm.swap, Perm.id, swapL, gChain, gChain3, blM, gRaise, fAdd, fSub, fLt, fInt, fLen, fDivmod, fMod, fFdiv, fMax2, fIsi, isB, gPar, fEq, fNe, eqM, eqS, keyD, gItems, itemsM, tupItems, lstItems, gFor, gEnum, gRange1, sizeLine, noE, atI, ixN, h, hm, hp]
    · have := Int.ediv_le_self many ha
      omega
  · have e : a = 0 := by omega
    subst e
    have hm : 0 < many := by omega
    have l1 : b.natAbs.log2 + (b % 30011 + 41011).natAbs.log2 < 1000000 := by
      have x1 := log_lt (b := 31) hb (by omega) (by decide)
      have x2 := log_lt (i := b % 30011 + 41011) (b := 31) (by omega) (by omega) (by decide)
      omega
    have l2 : Nat.log2 60101 + (k + 1).natAbs.log2 < 1000000 := by
      have x1 := log_lt (i := k + 1) (b := 31) (by omega) (by omega) (by decide)
      have : Nat.log2 60101 = 15 := by decide
      omega
    have hb' : 0 ≤ (b * (b % 30011 + 41011) + 60101 * (k + 1) + 29) % 2147483399 := Int.emod_nonneg _ (by decide)
    have hb3 : (b * (b % 30011 + 41011) + 60101 * (k + 1) + 29) % 2147483399 < 2147483399 := Int.emod_lt_of_pos _ (by decide)
    refine ⟨(b * (b % 30011 + 41011) + 60101 * (k + 1) + 29) % 2147483399 / 89 % many, .l [.int 0, .int ((b * (b % 30011 + 41011) + 60101 * (k + 1) + 29) % 2147483399), .int (k + 1)], ?_, Int.emod_nonneg _ (by omega), Int.emod_lt_of_pos _ hm, 0, _, k + 1, rfl, by decide, by decide, hb', by omega, by omega, by omega⟩
    have l3 : Nat.log2 89 < 9000 := by decide
    unfold m__law_take b__law_take runM
    simp [gSeq, gIfS, gBl, gOp, gVar, gC, EM.bind, EM.pure, EM.lift, op2, op1, gUn, view, moAt, Slot.mo?, Mo.view, fIx, fII, gAsg, gCall, M.gCons, M.gNil, consM, opL, views, aliveR, gdTup, gdCons, gdSub, gdNil, Tg.bind, Tg.binds, setV, putMo, gRet, gPass, M.gSet, setM, storeR, gFz, gFrz, M.gLst, M.gTup, valsR, gSl, slM, gPt, gNoP, fSl, gAnd, gOr, gNot, gTru, truM, tru, gAndV, gOrV, gNotV, stays, gIf, gDrop, gRcv, isL, gApp, gMeth, methM, tyD, gFn, callM, argsOf, argOf, brws, nodupN, putBack, Ret.res, gFnK, allVal, Perm.swap, Perm.id, swapL, gChain, gChain3, blM, gRaise, fAdd, fSub, fLt, fInt, fLen, fDivmod, fMod, fFdiv, fMax2, fIsi, isB, gPar, fEq, fNe, eqM, eqS, keyD, gItems, itemsM, tupItems, lstItems, gFor, gEnum, gRange1, sizeLine, noE, atI, ixN, fMul, h, hm, l1, l2, l3]

theorem WOk.mono {n k : Nat} {m : Mo} (h : WOk n m) (l : n ≤ k) : WOk k m := by
  obtain ⟨a, b, q, e, h1, h2, h3, h4, h5, h6⟩ := h
  exact ⟨a, b, q, e, h1, h2, h3, h4, h5, by omega⟩
theorem pick_ok (c : Ads) {n : Nat} {m : Mo} {ds : List D} (h : WOk n m) (hn : n ≤ 100000) (h1 : ds ≠ []) (h2 : ds.length ≤ 1000) :
    ∃ (d : D) (m' : Mo), m__law_pick c [.par m, .val (.lst ds)] = some (.ok (.val d) [.par m', .val (.lst ds)]) ∧ d ∈ ds ∧ WOk (n + 1) m' := by
  have hp : 0 < ds.length := List.length_pos_iff.mpr h1
  obtain ⟨v, m', e, v0, v1, w⟩ := take_ok c (many := ds.length) h hn (by omega) (by omega)
  obtain ⟨x, e2, hx⟩ := atI_in v0 v1
  refine ⟨x, m', ?_, hx, w⟩
  unfold m__law_pick b__law_pick runM
  simp [gSeq, gIfS, gBl, gOp, gVar, gC, EM.bind, EM.pure, EM.lift, op2, op1, gUn, view, moAt, Slot.mo?, Mo.view, fIx, fII, gAsg, gCall, M.gCons, M.gNil, consM, opL, views, aliveR, gdTup, gdCons, gdSub, gdNil, Tg.bind, Tg.binds, setV, putMo, gRet, gPass, M.gSet, setM, storeR, gFz, gFrz, M.gLst, M.gTup, valsR, gSl, slM, gPt, gNoP, fSl, gAnd, gOr, gNot, gTru, truM, tru, gAndV, gOrV, gNotV, stays, gIf, gDrop, gRcv, isL, gApp, gMeth, methM, tyD, gFn, callM, argsOf, argOf, brws, nodupN, putBack, Ret.res, gFnK, allVal, Perm.swap, Perm.id, swapL, gChain, gChain3, blM, gRaise, fAdd, fSub, fLt, fInt, fLen, fDivmod, fMod, fFdiv, fMax2, fIsi, isB, gPar, fEq, fNe, eqM, eqS, keyD, gItems, itemsM, tupItems, lstItems, gFor, gEnum, gRange1, sizeLine, noE, e, e2]
end My

namespace My
open PySem PySem.Spec PyProof.Rows L2 M
def plain1 : D → Bool
  | .adr _ => false | .ty _ => false | .ins _ _ => false | _ => true
def plain2 : D → Bool
  | .tup ds => ds.all plain1
  | d => plain1 d
def whole : D → Bool
  | .int _ => true
  | _ => false
theorem is_whole_ok (c : Ads) {d : D} (h : plain1 d = true) : m_is_whole c [.val d] = some (.ok (.val (.bl (whole d))) [.val d]) := by
  unfold m_is_whole b_is_whole runM
  cases d <;> first | (cases h; done) | simp [gSeq, gIfS, gBl, gOp, gVar, gC, EM.bind, EM.pure, EM.lift, op2, op1, gUn, view, moAt, Slot.mo?, Mo.view, fIx, fII, gAsg, gCall, M.gCons, M.gNil, consM, opL, views, aliveR, gdTup, gdCons, gdSub, gdNil, Tg.bind, Tg.binds, setV, putMo, gRet, gPass, M.gSet, setM, storeR, gFz, gFrz, M.gLst, M.gTup, valsR, gSl, slM, gPt, gNoP, fSl, gAnd, gOr, gNot, gTru, truM, tru, gAndV, gOrV, gNotV, stays, gIf, gDrop, gRcv, isL, gApp, gMeth, methM, tyD, gFn, callM, argsOf, argOf, brws, nodupN, putBack, Ret.res, gFnK, allVal, Perm.swap, Perm.id, swapL, gChain, gChain3, blM, gRaise, fAdd, fSub, fLt, fInt, fLen, fDivmod, fMod, fFdiv, fMax2, fIsi, isB, gPar, fEq, fNe, eqM, eqS, keyD, gItems, itemsM, tupItems, lstItems, gFor, gEnum, gRange1, sizeLine, noE, atI, ixN, whole]
def numB : D → Int → Int → Bool
  | .int i, l, m => decide (l ≤ i) && decide (i ≤ m)
  | _, _, _ => false
theorem is_number_ok (c : Ads) {d : D} {l m : Int} (h : plain1 d = true) : m__law_is_number c [.val d, .val (.int l), .val (.int m)] = some (.ok (.val (.bl (numB d l m))) [.val d, .val (.int l), .val (.int m)]) := by
  unfold m__law_is_number b__law_is_number runM
  cases d with
  | int i =>
    by_cases h1 : l ≤ i <;> by_cases h2 : i ≤ m <;> simp [gSeq, gIfS, gBl, gOp, gVar, gC, EM.bind, EM.pure, EM.lift, op2, op1, gUn, view, moAt, Slot.mo?, Mo.view, fIx, fII, gAsg, gCall, M.gCons, M.gNil, consM, opL, views, aliveR, gdTup, gdCons, gdSub, gdNil, Tg.bind, Tg.binds, setV, putMo, gRet, gPass, M.gSet, setM, storeR, gFz, gFrz, M.gLst, M.gTup, valsR, gSl, slM, gPt, gNoP, fSl, gAnd, gOr, gNot, gTru, truM, tru, gAndV, gOrV, gNotV, stays, gIf, gDrop, gRcv, isL, gApp, gMeth, methM, tyD, gFn, callM, argsOf, argOf, brws, nodupN, putBack, Ret.res, gFnK, allVal, Perm.swap, Perm.id, swapL, gChain, gChain3, blM, gRaise, fAdd, fSub, fLt, fInt, fLen, fDivmod, fMod, fFdiv, fMax2, fIsi, isB, gPar, fEq, fNe, eqM, eqS, keyD, gItems, itemsM, tupItems, lstItems, gFor, gEnum, gRange1, sizeLine, noE, atI, ixN, numB, h1, h2]
  | _ => first | (cases h; done) | simp [gSeq, gIfS, gBl, gOp, gVar, gC, EM.bind, EM.pure, EM.lift, op2, op1, gUn, view, moAt, Slot.mo?, Mo.view, fIx, fII, gAsg, gCall, M.gCons, M.gNil, consM, opL, views, aliveR, gdTup, gdCons, gdSub, gdNil, Tg.bind, Tg.binds, setV, putMo, gRet, gPass, M.gSet, setM, storeR, gFz, gFrz, M.gLst, M.gTup, valsR, gSl, slM, gPt, gNoP, fSl, gAnd, gOr, gNot, gTru, truM, tru, gAndV, gOrV, gNotV, stays, gIf, gDrop, gRcv, isL, gApp, gMeth, methM, tyD, gFn, callM, argsOf, argOf, brws, nodupN, putBack, Ret.res, gFnK, allVal, Perm.swap, Perm.id, swapL, gChain, gChain3, blM, gRaise, fAdd, fSub, fLt, fInt, fLen, fDivmod, fMod, fFdiv, fMax2, fIsi, isB, gPar, fEq, fNe, eqM, eqS, keyD, gItems, itemsM, tupItems, lstItems, gFor, gEnum, gRange1, sizeLine, noE, atI, ixN, numB]
/-- a good patch -/
def okItem (l m : Int) : D → Option (Int × Int × Str)
  | .tup [.int s, .int e, .str n] => if l ≤ s ∧ s ≤ e ∧ e ≤ m ∧ (s < e ∨ n ≠ ("" : Str)) then some (s, e, n) else none
  | _ => none
theorem is_patch_ok (c : Ads) {d : D} {l m : Int} (h : plain2 d = true) : m_is_patch c [.val d, .val (.int l), .val (.int m)] = some (.ok (.val (.bl (okItem l m d).isSome)) [.val d, .val (.int l), .val (.int m)]) := by
  unfold m_is_patch b_is_patch runM
  cases d with
  | tup ds =>
    match ds, h with
    | [], h => simp [gSeq, gIfS, gBl, gOp, gVar, gC, EM.bind, EM.pure, EM.lift, op2, op1, gUn, view, moAt, Slot.mo?, Mo.view, fIx, fII, gAsg, gCall, M.gCons, M.gNil, consM, opL, views, aliveR, gdTup, gdCons, gdSub, gdNil, Tg.bind, Tg.binds, setV, putMo, gRet, gPass, M.gSet, setM, storeR, gFz, gFrz, M.gLst, M.gTup, valsR, gSl, slM, gPt, gNoP, fSl, gAnd, gOr, gNot, gTru, truM, tru, gAndV, gOrV, gNotV, stays, gIf, gDrop, gRcv, isL, gApp, gMeth, methM, tyD, gFn, callM, argsOf, argOf, brws, nodupN, putBack, Ret.res, gFnK, allVal, Perm.swap, Perm.id, swapL, gChain, gChain3, blM, gRaise, fAdd, fSub, fLt, fInt, fLen, fDivmod, fMod, fFdiv, fMax2, fIsi, isB, gPar, fEq, fNe, eqM, eqS, keyD, gItems, itemsM, tupItems, lstItems, gFor, gEnum, gRange1, sizeLine, noE, atI, ixN, okItem]
    | [_], h => simp [gSeq, gIfS, gBl, gOp, gVar, gC, EM.bind, EM.pure, EM.lift, op2, op1, gUn, view, moAt, Slot.mo?, Mo.view, fIx, fII, gAsg, gCall, M.gCons, M.gNil, consM, opL, views, aliveR, gdTup, gdCons, gdSub, gdNil, Tg.bind, Tg.binds, setV, putMo, gRet, gPass, M.gSet, setM, storeR, gFz, gFrz, M.gLst, M.gTup, valsR, gSl, slM, gPt, gNoP, fSl, gAnd, gOr, gNot, gTru, truM, tru, gAndV, gOrV, gNotV, stays, gIf, gDrop, gRcv, isL, gApp, gMeth, methM, tyD, gFn, callM, argsOf, argOf, brws, nodupN, putBack, Ret.res, gFnK, allVal, Perm.swap, Perm.id, swapL, gChain, gChain3, blM, gRaise, fAdd, fSub, fLt, fInt, fLen, fDivmod, fMod, fFdiv, fMax2, fIsi, isB, gPar, fEq, fNe, eqM, eqS, keyD, gItems, itemsM, tupItems, lstItems, gFor, gEnum, gRange1, sizeLine, noE, atI, ixN, okItem]
    | [_, _], h => simp [gSeq, gIfS, gBl, gOp, gVar, gC, EM.bind, EM.pure, EM.lift, op2, op1, gUn, view, moAt, Slot.mo?, Mo.view, fIx, fII, gAsg, gCall, M.gCons, M.gNil, consM, opL, views, aliveR, gdTup, gdCons, gdSub, gdNil, Tg.bind, Tg.binds, setV, putMo, gRet, gPass, M.gSet, setM, storeR, gFz, gFrz, M.gLst, M.gTup, valsR, gSl, slM, gPt, gNoP, fSl, gAnd, gOr, gNot, gTru, truM, tru, gAndV, gOrV, gNotV, stays, gIf, gDrop, gRcv, isL, gApp, gMeth, methM, tyD, gFn, callM, argsOf, argOf, brws, nodupN, putBack, Ret.res, gFnK, allVal, Perm.swap, Perm.id, swapL, gChain, gChain3, blM, gRaise, fAdd, fSub, fLt, fInt, fLen, fDivmod, fMod, fFdiv, fMax2, fIsi, isB, gPar, fEq, fNe, eqM, eqS, keyD, gItems, itemsM, tupItems, lstItems, gFor, gEnum, gRange1, sizeLine, noE, atI, ixN, okItem]
    | _ :: _ :: _ :: _ :: r, h =>
      have : ¬ ((r.length : Int) + 1 + 1 + 1 + 1 = 3) := by omega
      simp [gSeq, gIfS, gBl, gOp, gVar, gC, EM.bind, EM.pure, EM.lift, op2, op1, gUn, view, moAt, Slot.mo?, Mo.view, fIx, fII, gAsg, gCall, M.gCons, M.gNil, consM, opL, views, aliveR, gdTup, gdCons, gdSub, gdNil, Tg.bind, Tg.binds, setV, putMo, gRet, gPass, M.gSet, setM, storeR, gFz, gFrz, M.gLst, M.gTup, valsR, gSl, slM, gPt, gNoP, fSl, gAnd, gOr, gNot, gTru, truM, tru, gAndV, gOrV, gNotV, stays, gIf, gDrop, gRcv, isL, gApp, gMeth, methM, tyD, gFn, callM, argsOf, argOf, brws, nodupN, putBack, Ret.res, gFnK, allVal, Perm.swap, Perm.id, swapL, gChain, gChain3, blM, gRaise, fAdd, fSub, fLt, fInt, fLen, fDivmod, fMod, fFdiv, fMax2, fIsi, isB, gPar, fEq, fNe, eqM, eqS, keyD, gItems, itemsM, tupItems, lstItems, gFor, gEnum, gRange1, sizeLine, noE, atI, ixN, okItem, this]
    | [x, y, z], h =>
      simp [plain2] at h
      obtain ⟨h1, h2, h3⟩ := h
      cases z with
      | str n =>
        cases x with
        | int s =>
          cases y with
          | int e =>
            have e1 := is_whole_ok c (d := .int s) rfl
            have e2 := is_whole_ok c (d := .int e) rfl
            by_cases a1 : l ≤ s <;> by_cases a2 : s ≤ e <;> by_cases a3 : e ≤ m <;> by_cases a4 : s < e <;> by_cases a5 : n = ("" : Str) <;> simp [gSeq, gIfS, gBl, gOp, gVar, gC, EM.bind, EM.pure, EM.lift, op2, op1, gUn, view, moAt, Slot.mo?, Mo.view, fIx, fII, gAsg, gCall, M.gCons, M.gNil, consM, opL, views, aliveR, gdTup, gdCons, gdSub, gdNil, Tg.bind, Tg.binds, setV, putMo, gRet, gPass, M.gSet, setM, storeR, gFz, gFrz, M.gLst, M.gTup, valsR, gSl, slM, gPt, gNoP, fSl, gAnd, gOr, gNot, gTru, truM, tru, gAndV, gOrV, gNotV, stays, gIf, gDrop, gRcv, isL, gApp, gMeth, methM, tyD, gFn, callM, argsOf, argOf, brws, nodupN, putBack, Ret.res, gFnK, allVal, Perm.swap, Perm.id, swapL, gChain, gChain3, blM, gRaise, fAdd, fSub, fLt, fInt, fLen, fDivmod, fMod, fFdiv, fMax2, fIsi, isB, gPar, fEq, fNe, eqM, eqS, keyD, gItems, itemsM, tupItems, lstItems, gFor, gEnum, gRange1, sizeLine, noE, atI, ixN, okItem, e1, e2, whole, a1, a2, a3, a4, a5]
          | _ => first | (cases h2; done) | simp [gSeq, gIfS, gBl, gOp, gVar, gC, EM.bind, EM.pure, EM.lift, op2, op1, gUn, view, moAt, Slot.mo?, Mo.view, fIx, fII, gAsg, gCall, M.gCons, M.gNil, consM, opL, views, aliveR, gdTup, gdCons, gdSub, gdNil, Tg.bind, Tg.binds, setV, putMo, gRet, gPass, M.gSet, setM, storeR, gFz, gFrz, M.gLst, M.gTup, valsR, gSl, slM, gPt, gNoP, fSl, gAnd, gOr, gNot, gTru, truM, tru, gAndV, gOrV, gNotV, stays, gIf, gDrop, gRcv, isL, gApp, gMeth, methM, tyD, gFn, callM, argsOf, argOf, brws, nodupN, putBack, Ret.res, gFnK, allVal, Perm.swap, Perm.id, swapL, gChain, gChain3, blM, gRaise, fAdd, fSub, fLt, fInt, fLen, fDivmod, fMod, fFdiv, fMax2, fIsi, isB, gPar, fEq, fNe, eqM, eqS, keyD, gItems, itemsM, tupItems, lstItems, gFor, gEnum, gRange1, sizeLine, noE, atI, ixN, okItem, is_whole_ok c h1, is_whole_ok c h2, whole]
        | _ => first | (cases h1; done) | simp [gSeq, gIfS, gBl, gOp, gVar, gC, EM.bind, EM.pure, EM.lift, op2, op1, gUn, view, moAt, Slot.mo?, Mo.view, fIx, fII, gAsg, gCall, M.gCons, M.gNil, consM, opL, views, aliveR, gdTup, gdCons, gdSub, gdNil, Tg.bind, Tg.binds, setV, putMo, gRet, gPass, M.gSet, setM, storeR, gFz, gFrz, M.gLst, M.gTup, valsR, gSl, slM, gPt, gNoP, fSl, gAnd, gOr, gNot, gTru, truM, tru, gAndV, gOrV, gNotV, stays, gIf, gDrop, gRcv, isL, gApp, gMeth, methM, tyD, gFn, callM, argsOf, argOf, brws, nodupN, putBack, Ret.res, gFnK, allVal, Perm.swap, Perm.id, swapL, gChain, gChain3, blM, gRaise, fAdd, fSub, fLt, fInt, fLen, fDivmod, fMod, fFdiv, fMax2, fIsi, isB, gPar, fEq, fNe, eqM, eqS, keyD, gItems, itemsM, tupItems, lstItems, gFor, gEnum, gRange1, sizeLine, noE, atI, ixN, okItem, is_whole_ok c h1, is_whole_ok c h2, whole]
      | _ => first | (cases h3; done) | simp [gSeq, gIfS, gBl, gOp, gVar, gC, EM.bind, EM.pure, EM.lift, op2, op1, gUn, view, moAt, Slot.mo?, Mo.view, fIx, fII, gAsg, gCall, M.gCons, M.gNil, consM, opL, views, aliveR, gdTup, gdCons, gdSub, gdNil, Tg.bind, Tg.binds, setV, putMo, gRet, gPass, M.gSet, setM, storeR, gFz, gFrz, M.gLst, M.gTup, valsR, gSl, slM, gPt, gNoP, fSl, gAnd, gOr, gNot, gTru, truM, tru, gAndV, gOrV, gNotV, stays, gIf, gDrop, gRcv, isL, gApp, gMeth, methM, tyD, gFn, callM, argsOf, argOf, brws, nodupN, putBack, Ret.res, gFnK, allVal, Perm.swap, Perm.id, swapL, gChain, gChain3, blM, gRaise, fAdd, fSub, fLt, fInt, fLen, fDivmod, fMod, fFdiv, fMax2, fIsi, isB, gPar, fEq, fNe, eqM, eqS, keyD, gItems, itemsM, tupItems, lstItems, gFor, gEnum, gRange1, sizeLine, noE, atI, ixN, okItem]
  | _ => first | (cases h; done) | simp [gSeq, gIfS, gBl, gOp, gVar, gC, EM.bind, EM.pure, EM.lift, op2, op1, gUn, view, moAt, Slot.mo?, Mo.view, fIx, fII, gAsg, gCall, M.gCons, M.gNil, consM, opL, views, aliveR, gdTup, gdCons, gdSub, gdNil, Tg.bind, Tg.binds, setV, putMo, gRet, gPass, M.gSet, setM, storeR, gFz, gFrz, M.gLst, M.gTup, valsR, gSl, slM, gPt, gNoP, fSl, gAnd, gOr, gNot, gTru, truM, tru, gAndV, gOrV, gNotV, stays, gIf, gDrop, gRcv, isL, gApp, gMeth, methM, tyD, gFn, callM, argsOf, argOf, brws, nodupN, putBack, Ret.res, gFnK, allVal, Perm.swap, Perm.id, swapL, gChain, gChain3, blM, gRaise, fAdd, fSub, fLt, fInt, fLen, fDivmod, fMod, fFdiv, fMax2, fIsi, isB, gPar, fEq, fNe, eqM, eqS, keyD, gItems, itemsM, tupItems, lstItems, gFor, gEnum, gRange1, sizeLine, noE, atI, ixN, okItem]
end My

namespace My
open PySem PySem.Spec PyProof.Rows L2 M
abbrev Ptc := Int × Int × Str
def scan (m : Int) : Nat → Int → List D → Sum Int (List Ptc)
  | _, _, [] => .inr []
  | i, l, d :: ds => match okItem l m d with
    | none => .inl (i : Int)
    | some t => match scan m (i + 1) t.2.1 ds with
      | .inl k => .inl k
      | .inr ts => .inr (t :: ts)
theorem okItem_some {l m : Int} {d : D} {t : Ptc} (h : okItem l m d = some t) : d = .tup [.int t.1, .int t.2.1, .str t.2.2] ∧ l ≤ t.1 ∧ t.1 ≤ t.2.1 ∧ t.2.1 ≤ m ∧ (t.1 < t.2.1 ∨ t.2.2 ≠ ("" : Str)) := by
  unfold okItem at h
  split at h
  · split at h
    · cases h; next c => exact ⟨rfl, c⟩
    · cases h
  · cases h
def wrBody (c : Ads) : EM Fl := (gSeq (gIfS (gOr (gNot (gTru (gCall fIsi (gCons (gVar 4) (gCons (gC (.ty "tuple")) gNil))))) (gOr (gBl (gOp fNe (gCall fLen (gCons (gVar 4) gNil)) (gC (.int 3)))) (gNot (gTru (gCall fIsi (gCons (gOp fIx (gVar 4) (gC (.int 2))) (gCons (gC (.ty "str")) gNil)))))))
    (gRet (gLst (gCons (gFz 3) gNil)))
    gPass)
    (gSeq (gIfS (gOr (gNot (gTru (gFn 3 (m__law_is_number c) (gCons (gOp fIx (gVar 4) (gC (.int 0))) (gCons (gFz 2) (gCons (gCall fLen (gCons (gVar 0) gNil)) gNil)))))) (gOr (gNot (gTru (gFn 3 (m__law_is_number c) (gCons (gOp fIx (gVar 4) (gC (.int 1))) (gCons (gOp fIx (gVar 4) (gC (.int 0))) (gCons (gCall fLen (gCons (gVar 0) gNil)) gNil)))))) (gAnd (gBl (gOp fEq (gOp fIx (gVar 4) (gC (.int 0))) (gOp fIx (gVar 4) (gC (.int 1))))) (gBl (gOp fEq (gOp fIx (gVar 4) (gC (.int 2))) (gC (.str "")))))))
    (gRet (gLst (gCons (gFz 3) gNil)))
    gPass)
    (gSet 2 (gOp fIx (gVar 4) (gC (.int 1))))))
theorem wr_body (c : Ads) {d : D} {text : Str} {p a4 : D} {l : Int} {i : Nat} (h : plain2 d = true) (ht : text.length ≤ 16777216) :
    wrBody c [.val (.str text), .val p, .val (.int l), .val (.int i), .val d] = match okItem l text.length d with
      | none => some (.ok (.rt (.new (.l [.int i]))) [.val (.str text), .val p, .val (.int l), .val (.int i), .val d])
      | some t => some (.ok .nx [.val (.str text), .val p, .val (.int t.2.1), .val (.int i), .val d]) := by
  unfold wrBody
  cases d with
  | tup ds =>
    match ds, h with
    | [], h => simp [gSeq, gIfS, gBl, gOp, gVar, gC, EM.bind, EM.pure, EM.lift, op2, op1, gUn, view, moAt, Slot.mo?, Mo.view, fIx, fII, gAsg, gCall, M.gCons, M.gNil, consM, opL, views, aliveR, gdTup, gdCons, gdSub, gdNil, Tg.bind, Tg.binds, setV, putMo, gRet, gPass, M.gSet, setM, storeR, gFz, gFrz, M.gLst, M.gTup, valsR, gSl, slM, gPt, gNoP, fSl, gAnd, gOr, gNot, gTru, truM, tru, gAndV, gOrV, gNotV, stays, gIf, gDrop, gRcv, isL, gApp, gMeth, methM, tyD, gFn, callM, argsOf, argOf, brws, nodupN, putBack, Ret.res, gFnK, allVal, Perm.swap, Perm.id, swapL, gChain, gChain3, blM, gRaise, fAdd, fSub, fLt, fInt, fLen, fDivmod, fMod, fFdiv, fMax2, fIsi, isB, gPar, fEq, fNe, eqM, eqS, keyD, gItems, itemsM, tupItems, lstItems, gFor, gEnum, gRange1, sizeLine, noE, atI, ixN, okItem, ht]
    | [_], h => simp [gSeq, gIfS, gBl, gOp, gVar, gC, EM.bind, EM.pure, EM.lift, op2, op1, gUn, view, moAt, Slot.mo?, Mo.view, fIx, fII, gAsg, gCall, M.gCons, M.gNil, consM, opL, views, aliveR, gdTup, gdCons, gdSub, gdNil, Tg.bind, Tg.binds, setV, putMo, gRet, gPass, M.gSet, setM, storeR, gFz, gFrz, M.gLst, M.gTup, valsR, gSl, slM, gPt, gNoP, fSl, gAnd, gOr, gNot, gTru, truM, tru, gAndV, gOrV, gNotV, stays, gIf, gDrop, gRcv, isL, gApp, gMeth, methM, tyD, gFn, callM, argsOf, argOf, brws, nodupN, putBack, Ret.res, gFnK, allVal, Perm.swap, Perm.id, swapL, gChain, gChain3, blM, gRaise, fAdd, fSub, fLt, fInt, fLen, fDivmod, fMod, fFdiv, fMax2, fIsi, isB, gPar, fEq, fNe, eqM, eqS, keyD, gItems, itemsM, tupItems, lstItems, gFor, gEnum, gRange1, sizeLine, noE, atI, ixN, okItem, ht]
    | [_, _], h => simp [gSeq, gIfS, gBl, gOp, gVar, gC, EM.bind, EM.pure, EM.lift, op2, op1, gUn, view, moAt, Slot.mo?, Mo.view, fIx, fII, gAsg, gCall, M.gCons, M.gNil, consM, opL, views, aliveR, gdTup, gdCons, gdSub, gdNil, Tg.bind, Tg.binds, setV, putMo, gRet, gPass, M.gSet, setM, storeR, gFz, gFrz, M.gLst, M.gTup, valsR, gSl, slM, gPt, gNoP, fSl, gAnd, gOr, gNot, gTru, truM, tru, gAndV, gOrV, gNotV, stays, gIf, gDrop, gRcv, isL, gApp, gMeth, methM, tyD, gFn, callM, argsOf, argOf, brws, nodupN, putBack, Ret.res, gFnK, allVal, Perm.swap, Perm.id, swapL, gChain, gChain3, blM, gRaise, fAdd, fSub, fLt, fInt, fLen, fDivmod, fMod, fFdiv, fMax2, fIsi, isB, gPar, fEq, fNe, eqM, eqS, keyD, gItems, itemsM, tupItems, lstItems, gFor, gEnum, gRange1, sizeLine, noE, atI, ixN, okItem, ht]
    | _ :: _ :: _ :: _ :: r, h =>
      have : ¬ ((r.length : Int) + 1 + 1 + 1 + 1 = 3) := by omega
      simp [gSeq, gIfS, gBl, gOp, gVar, gC, EM.bind, EM.pure, EM.lift, op2, op1, gUn, view, moAt, Slot.mo?, Mo.view, fIx, fII, gAsg, gCall, M.gCons, M.gNil, consM, opL, views, aliveR, gdTup, gdCons, gdSub, gdNil, Tg.bind, Tg.binds, setV, putMo, gRet, gPass, M.gSet, setM, storeR, gFz, gFrz, M.gLst, M.gTup, valsR, gSl, slM, gPt, gNoP, fSl, gAnd, gOr, gNot, gTru, truM, tru, gAndV, gOrV, gNotV, stays, gIf, gDrop, gRcv, isL, gApp, gMeth, methM, tyD, gFn, callM, argsOf, argOf, brws, nodupN, putBack, Ret.res, gFnK, allVal, Perm.swap, Perm.id, swapL, gChain, gChain3, blM, gRaise, fAdd, fSub, fLt, fInt, fLen, fDivmod, fMod, fFdiv, fMax2, fIsi, isB, gPar, fEq, fNe, eqM, eqS, keyD, gItems, itemsM, tupItems, lstItems, gFor, gEnum, gRange1, sizeLine, noE, atI, ixN, okItem, this, ht]
    | [x, y, z], h =>
      simp [plain2] at h
      obtain ⟨h1, h2, h3⟩ := h
      cases z with
      | str n =>
        have e1 := is_number_ok c (l := l) (m := text.length) h1
        cases x with
        | int s =>
          have e2 := is_number_ok c (l := s) (m := text.length) h2
          cases y with
          | int e =>
            by_cases a1 : l ≤ s
            · by_cases a2 : s ≤ e
              · by_cases a3 : e ≤ text.length
                · have a0 : s ≤ text.length := by omega
                  by_cases a4 : s = e
                  · subst a4
                    by_cases a5 : n = ("" : Str) <;> simp [gSeq, gIfS, gBl, gOp, gVar, gC, EM.bind, EM.pure, EM.lift, op2, op1, gUn, view, moAt, Slot.mo?, Mo.view, fIx, fII, gAsg, gCall, M.gCons, M.gNil, consM, opL, views, aliveR, gdTup, gdCons, gdSub, gdNil, Tg.bind, Tg.binds, setV, putMo, gRet, gPass, M.gSet, setM, storeR, gFz, gFrz, M.gLst, M.gTup, valsR, gSl, slM, gPt, gNoP, fSl, gAnd, gOr, gNot, gTru, truM, tru, gAndV, gOrV, gNotV, stays, gIf, gDrop, gRcv, isL, gApp, gMeth, methM, tyD, gFn, callM, argsOf, argOf, brws, nodupN, putBack, Ret.res, gFnK, allVal, Perm.swap, Perm.id, swapL, gChain, gChain3, blM, gRaise, fAdd, fSub, fLt, fInt, fLen, fDivmod, fMod, fFdiv, fMax2, fIsi, isB, gPar, fEq, fNe, eqM, eqS, keyD, gItems, itemsM, tupItems, lstItems, gFor, gEnum, gRange1, sizeLine, noE, atI, ixN, okItem, e1, e2, numB, ht, a0, a1, a2, a3, a5]
                  · have a6 : s < e := by omega
                    simp [gSeq, gIfS, gBl, gOp, gVar, gC, EM.bind, EM.pure, EM.lift, op2, op1, gUn, view, moAt, Slot.mo?, Mo.view, fIx, fII, gAsg, gCall, M.gCons, M.gNil, consM, opL, views, aliveR, gdTup, gdCons, gdSub, gdNil, Tg.bind, Tg.binds, setV, putMo, gRet, gPass, M.gSet, setM, storeR, gFz, gFrz, M.gLst, M.gTup, valsR, gSl, slM, gPt, gNoP, fSl, gAnd, gOr, gNot, gTru, truM, tru, gAndV, gOrV, gNotV, stays, gIf, gDrop, gRcv, isL, gApp, gMeth, methM, tyD, gFn, callM, argsOf, argOf, brws, nodupN, putBack, Ret.res, gFnK, allVal, Perm.swap, Perm.id, swapL, gChain, gChain3, blM, gRaise, fAdd, fSub, fLt, fInt, fLen, fDivmod, fMod, fFdiv, fMax2, fIsi, isB, gPar, fEq, fNe, eqM, eqS, keyD, gItems, itemsM, tupItems, lstItems, gFor, gEnum, gRange1, sizeLine, noE, atI, ixN, okItem, e1, e2, numB, ht, a0, a1, a2, a3, a4, a6]
                · by_cases a0 : s ≤ text.length <;> simp [gSeq, gIfS, gBl, gOp, gVar, gC, EM.bind, EM.pure, EM.lift, op2, op1, gUn, view, moAt, Slot.mo?, Mo.view, fIx, fII, gAsg, gCall, M.gCons, M.gNil, consM, opL, views, aliveR, gdTup, gdCons, gdSub, gdNil, Tg.bind, Tg.binds, setV, putMo, gRet, gPass, M.gSet, setM, storeR, gFz, gFrz, M.gLst, M.gTup, valsR, gSl, slM, gPt, gNoP, fSl, gAnd, gOr, gNot, gTru, truM, tru, gAndV, gOrV, gNotV, stays, gIf, gDrop, gRcv, isL, gApp, gMeth, methM, tyD, gFn, callM, argsOf, argOf, brws, nodupN, putBack, Ret.res, gFnK, allVal, Perm.swap, Perm.id, swapL, gChain, gChain3, blM, gRaise, fAdd, fSub, fLt, fInt, fLen, fDivmod, fMod, fFdiv, fMax2, fIsi, isB, gPar, fEq, fNe, eqM, eqS, keyD, gItems, itemsM, tupItems, lstItems, gFor, gEnum, gRange1, sizeLine, noE, atI, ixN, okItem, e1, e2, numB, ht, a0, a1, a2, a3]
              · by_cases a0 : s ≤ text.length <;> simp [gSeq, gIfS, gBl, gOp, gVar, gC, EM.bind, EM.pure, EM.lift, op2, op1, gUn, view, moAt, Slot.mo?, Mo.view, fIx, fII, gAsg, gCall, M.gCons, M.gNil, consM, opL, views, aliveR, gdTup, gdCons, gdSub, gdNil, Tg.bind, Tg.binds, setV, putMo, gRet, gPass, M.gSet, setM, storeR, gFz, gFrz, M.gLst, M.gTup, valsR, gSl, slM, gPt, gNoP, fSl, gAnd, gOr, gNot, gTru, truM, tru, gAndV, gOrV, gNotV, stays, gIf, gDrop, gRcv, isL, gApp, gMeth, methM, tyD, gFn, callM, argsOf, argOf, brws, nodupN, putBack, Ret.res, gFnK, allVal, Perm.swap, Perm.id, swapL, gChain, gChain3, blM, gRaise, fAdd, fSub, fLt, fInt, fLen, fDivmod, fMod, fFdiv, fMax2, fIsi, isB, gPar, fEq, fNe, eqM, eqS, keyD, gItems, itemsM, tupItems, lstItems, gFor, gEnum, gRange1, sizeLine, noE, atI, ixN, okItem, e1, e2, numB, ht, a0, a1, a2]
            · simp [gSeq, gIfS, gBl, gOp, gVar, gC, EM.bind, EM.pure, EM.lift, op2, op1, gUn, view, moAt, Slot.mo?, Mo.view, fIx, fII, gAsg, gCall, M.gCons, M.gNil, consM, opL, views, aliveR, gdTup, gdCons, gdSub, gdNil, Tg.bind, Tg.binds, setV, putMo, gRet, gPass, M.gSet, setM, storeR, gFz, gFrz, M.gLst, M.gTup, valsR, gSl, slM, gPt, gNoP, fSl, gAnd, gOr, gNot, gTru, truM, tru, gAndV, gOrV, gNotV, stays, gIf, gDrop, gRcv, isL, gApp, gMeth, methM, tyD, gFn, callM, argsOf, argOf, brws, nodupN, putBack, Ret.res, gFnK, allVal, Perm.swap, Perm.id, swapL, gChain, gChain3, blM, gRaise, fAdd, fSub, fLt, fInt, fLen, fDivmod, fMod, fFdiv, fMax2, fIsi, isB, gPar, fEq, fNe, eqM, eqS, keyD, gItems, itemsM, tupItems, lstItems, gFor, gEnum, gRange1, sizeLine, noE, atI, ixN, okItem, e1, e2, numB, ht, a1]
          | _ =>
            first
            | (cases h2; done)
            | (by_cases a1 : l ≤ s <;> by_cases a0 : s ≤ text.length <;> simp [gSeq, gIfS, gBl, gOp, gVar, gC, EM.bind, EM.pure, EM.lift, op2, op1, gUn, view, moAt, Slot.mo?, Mo.view, fIx, fII, gAsg, gCall, M.gCons, M.gNil, consM, opL, views, aliveR, gdTup, gdCons, gdSub, gdNil, Tg.bind, Tg.binds, setV, putMo, gRet, gPass, M.gSet, setM, storeR, gFz, gFrz, M.gLst, M.gTup, valsR, gSl, slM, gPt, gNoP, fSl, gAnd, gOr, gNot, gTru, truM, tru, gAndV, gOrV, gNotV, stays, gIf, gDrop, gRcv, isL, gApp, gMeth, methM, tyD, gFn, callM, argsOf, argOf, brws, nodupN, putBack, Ret.res, gFnK, allVal, Perm.swap, Perm.id, swapL, gChain, gChain3, blM, gRaise, fAdd, fSub, fLt, fInt, fLen, fDivmod, fMod, fFdiv, fMax2, fIsi, isB, gPar, fEq, fNe, eqM, eqS, keyD, gItems, itemsM, tupItems, lstItems, gFor, gEnum, gRange1, sizeLine, noE, atI, ixN, okItem, e1, e2, numB, ht, a0, a1])
        | _ => first | (cases h1; done) | simp [gSeq, gIfS, gBl, gOp, gVar, gC, EM.bind, EM.pure, EM.lift, op2, op1, gUn, view, moAt, Slot.mo?, Mo.view, fIx, fII, gAsg, gCall, M.gCons, M.gNil, consM, opL, views, aliveR, gdTup, gdCons, gdSub, gdNil, Tg.bind, Tg.binds, setV, putMo, gRet, gPass, M.gSet, setM, storeR, gFz, gFrz, M.gLst, M.gTup, valsR, gSl, slM, gPt, gNoP, fSl, gAnd, gOr, gNot, gTru, truM, tru, gAndV, gOrV, gNotV, stays, gIf, gDrop, gRcv, isL, gApp, gMeth, methM, tyD, gFn, callM, argsOf, argOf, brws, nodupN, putBack, Ret.res, gFnK, allVal, Perm.swap, Perm.id, swapL, gChain, gChain3, blM, gRaise, fAdd, fSub, fLt, fInt, fLen, fDivmod, fMod, fFdiv, fMax2, fIsi, isB, gPar, fEq, fNe, eqM, eqS, keyD, gItems, itemsM, tupItems, lstItems, gFor, gEnum, gRange1, sizeLine, noE, atI, ixN, okItem, e1, numB, ht]
      | _ => first | (cases h3; done) | simp [gSeq, gIfS, gBl, gOp, gVar, gC, EM.bind, EM.pure, EM.lift, op2, op1, gUn, view, moAt, Slot.mo?, Mo.view, fIx, fII, gAsg, gCall, M.gCons, M.gNil, consM, opL, views, aliveR, gdTup, gdCons, gdSub, gdNil, Tg.bind, Tg.binds, setV, putMo, gRet, gPass, M.gSet, setM, storeR, gFz, gFrz, M.gLst, M.gTup, valsR, gSl, slM, gPt, gNoP, fSl, gAnd, gOr, gNot, gTru, truM, tru, gAndV, gOrV, gNotV, stays, gIf, gDrop, gRcv, isL, gApp, gMeth, methM, tyD, gFn, callM, argsOf, argOf, brws, nodupN, putBack, Ret.res, gFnK, allVal, Perm.swap, Perm.id, swapL, gChain, gChain3, blM, gRaise, fAdd, fSub, fLt, fInt, fLen, fDivmod, fMod, fFdiv, fMax2, fIsi, isB, gPar, fEq, fNe, eqM, eqS, keyD, gItems, itemsM, tupItems, lstItems, gFor, gEnum, gRange1, sizeLine, noE, atI, ixN, okItem, ht]
  | _ => first | (cases h; done) | simp [gSeq, gIfS, gBl, gOp, gVar, gC, EM.bind, EM.pure, EM.lift, op2, op1, gUn, view, moAt, Slot.mo?, Mo.view, fIx, fII, gAsg, gCall, M.gCons, M.gNil, consM, opL, views, aliveR, gdTup, gdCons, gdSub, gdNil, Tg.bind, Tg.binds, setV, putMo, gRet, gPass, M.gSet, setM, storeR, gFz, gFrz, M.gLst, M.gTup, valsR, gSl, slM, gPt, gNoP, fSl, gAnd, gOr, gNot, gTru, truM, tru, gAndV, gOrV, gNotV, stays, gIf, gDrop, gRcv, isL, gApp, gMeth, methM, tyD, gFn, callM, argsOf, argOf, brws, nodupN, putBack, Ret.res, gFnK, allVal, Perm.swap, Perm.id, swapL, gChain, gChain3, blM, gRaise, fAdd, fSub, fLt, fInt, fLen, fDivmod, fMod, fFdiv, fMax2, fIsi, isB, gPar, fEq, fNe, eqM, eqS, keyD, gItems, itemsM, tupItems, lstItems, gFor, gEnum, gRange1, sizeLine, noE, atI, ixN, okItem, ht]
/-- the slots that a loop's names hold -/
def Vn (s : Slot) : Prop := s = .un ∨ ∃ d, s = .val d
theorem enum_bind {ρ : En} {i : Nat} {d : D} {s0 s1 s2 : Slot} {s3 s4 : Slot} (h3 : Vn s3) (h4 : Vn s4) : Tg.bind (.tp [.nm 3, .nm 4]) (.tup [.int i, d]) [s0, s1, s2, s3, s4] = some [s0, s1, s2, .val (.int i), .val d] := by
  rcases h3 with rfl | ⟨_, rfl⟩ <;> rcases h4 with rfl | ⟨_, rfl⟩ <;> simp [gSeq, gIfS, gBl, gOp, gVar, gC, EM.bind, EM.pure, EM.lift, op2, op1, gUn, view, moAt, Slot.mo?, Mo.view, fIx, fII, gAsg, gCall, M.gCons, M.gNil, consM, opL, views, aliveR, gdTup, gdCons, gdSub, gdNil, Tg.bind, Tg.binds, setV, putMo, gRet, gPass, M.gSet, setM, storeR, gFz, gFrz, M.gLst, M.gTup, valsR, gSl, slM, gPt, gNoP, fSl, gAnd, gOr, gNot, gTru, truM, tru, gAndV, gOrV, gNotV, stays, gIf, gDrop, gRcv, isL, gApp, gMeth, methM, tyD, gFn, callM, argsOf, argOf, brws, nodupN, putBack, Ret.res, gFnK, allVal, Perm.swap, Perm.id, swapL, gChain, gChain3, blM, gRaise, fAdd, fSub, fLt, fInt, fLen, fDivmod, fMod, fFdiv, fMax2, fIsi, isB, gPar, fEq, fNe, eqM, eqS, keyD, gItems, itemsM, tupItems, lstItems, gFor, gEnum, gRange1, sizeLine, noE, atI, ixN]
theorem wr_loop (c : Ads) {text : Str} {p : D} (ht : text.length ≤ 16777216) : ∀ (ds : List D) (i : Nat) (l : Int) (s3 s4 : Slot), Vn s3 → Vn s4 → (∀ d ∈ ds, plain2 d = true) →
    ∃ s2' s3' s4', loopF (.tp [.nm 3, .nm 4]) (wrBody c) (enumD i ds) [.val (.str text), .val p, .val (.int l), s3, s4] = match scan text.length i l ds with
      | .inl k => some (.ok (.rt (.new (.l [.int k]))) [.val (.str text), .val p, s2', s3', s4'])
      | .inr _ => some (.ok .nx [.val (.str text), .val p, s2', s3', s4'])
  | [], i, l, s3, s4, _, _, _ => ⟨_, _, _, rfl⟩
  | d :: ds, i, l, s3, s4, h3, h4, h => by
    have hb := wr_body c (d := d) (text := text) (p := p) (a4 := p) (l := l) (i := i) (h d List.mem_cons_self) ht
    unfold enumD loopF scan
    rw [enum_bind (ρ := []) h3 h4]
    dsimp only
    rw [hb]
    cases e : okItem l text.length d with
    | none => exact ⟨_, _, _, rfl⟩
    | some t =>
      obtain ⟨q2, q3, q4, e2⟩ := wr_loop c ht ds (i + 1) t.2.1 (.val (.int i)) (.val d) (.inr ⟨_, rfl⟩) (.inr ⟨_, rfl⟩) fun d hd => h d (List.mem_cons_of_mem _ hd)
      refine ⟨q2, q3, q4, ?_⟩
      dsimp only
      rw [e2]
      cases scan text.length (i + 1) t.2.1 ds <;> rfl
def scanP (text : Str) : D → Sum D (List Ptc)
  | .tup ds => match scan text.length 0 0 ds with
    | .inl k => .inl (.int k)
    | .inr ts => .inr ts
  | _ => .inl .non
def plain3 : D → Bool
  | .tup ds => ds.all plain2
  | d => plain1 d
def wrongD (text : Str) (p : D) : List D := match scanP text p with
  | .inl k => [k]
  | .inr _ => []
theorem wrong_ok (c : Ads) {text : Str} {p : D} (ht : text.length ≤ 16777216) (hp : plain3 p = true) : m__law_wrong c [.val (.str text), .val p] = some (.ok (.new (.l (wrongD text p))) [.val (.str text), .val p]) := by
  have hl : b__law_wrong c = gSeq (gIfS (gNot (gTru (gCall fIsi (M.gCons (gVar 1) (M.gCons (gC (.ty "tuple")) M.gNil)))))
    (gRet (M.gLst (M.gCons (gC .non) M.gNil))) gPass) (gSeq (M.gSet 2 (gC (.int 0))) (gSeq (gFor (gEnum tupItems (M.gCons (gFz 1) M.gNil)) (.tp [(.nm 3), (.nm 4)]) (wrBody c)) (gRet (M.gLst M.gNil)))) := rfl
  unfold m__law_wrong runM
  rw [hl]
  cases p with
  | tup ds =>
    have hq : ∀ d ∈ ds, plain2 d = true := by simpa [plain3] using hp
    obtain ⟨q2, q3, q4, e⟩ := wr_loop c (p := .tup ds) ht ds 0 0 .un .un (.inl rfl) (.inl rfl) hq
    cases k : scan text.length 0 0 ds with
    | inl k' =>
      rw [k] at e
      simp [gSeq, gIfS, gBl, gOp, gVar, gC, EM.bind, EM.pure, EM.lift, op2, op1, gUn, view, moAt, Slot.mo?, Mo.view, fIx, fII, gAsg, gCall, M.gCons, M.gNil, consM, opL, views, aliveR, gdTup, gdCons, gdSub, gdNil, Tg.bind, Tg.binds, setV, putMo, gRet, gPass, M.gSet, setM, storeR, gFz, gFrz, M.gLst, M.gTup, valsR, gSl, slM, gPt, gNoP, fSl, gAnd, gOr, gNot, gTru, truM, tru, gAndV, gOrV, gNotV, stays, gIf, gDrop, gRcv, isL, gApp, gMeth, methM, tyD, gFn, callM, argsOf, argOf, brws, nodupN, putBack, Ret.res, gFnK, allVal, Perm.swap, Perm.id, swapL, gChain, gChain3, blM, gRaise, fAdd, fSub, fLt, fInt, fLen, fDivmod, fMod, fFdiv, fMax2, fIsi, isB, gPar, fEq, fNe, eqM, eqS, keyD, gItems, itemsM, tupItems, lstItems, gFor, gEnum, gRange1, sizeLine, noE, atI, ixN, e, wrongD, scanP, k]
    | inr ts =>
      rw [k] at e
      simp [gSeq, gIfS, gBl, gOp, gVar, gC, EM.bind, EM.pure, EM.lift, op2, op1, gUn, view, moAt, Slot.mo?, Mo.view, fIx, fII, gAsg, gCall, M.gCons, M.gNil, consM, opL, views, aliveR, gdTup, gdCons, gdSub, gdNil, Tg.bind, Tg.binds, setV, putMo, gRet, gPass, M.gSet, setM, storeR, gFz, gFrz, M.gLst, M.gTup, valsR, gSl, slM, gPt, gNoP, fSl, gAnd, gOr, gNot, gTru, truM, tru, gAndV, gOrV, gNotV, stays, gIf, gDrop, gRcv, isL, gApp, gMeth, methM, tyD, gFn, callM, argsOf, argOf, brws, nodupN, putBack, Ret.res, gFnK, allVal, Perm.swap, Perm.id, swapL, gChain, gChain3, blM, gRaise, fAdd, fSub, fLt, fInt, fLen, fDivmod, fMod, fFdiv, fMax2, fIsi, isB, gPar, fEq, fNe, eqM, eqS, keyD, gItems, itemsM, tupItems, lstItems, gFor, gEnum, gRange1, sizeLine, noE, atI, ixN, e, wrongD, scanP, k]
  | _ => first | (cases hp; done) | simp [gSeq, gIfS, gBl, gOp, gVar, gC, EM.bind, EM.pure, EM.lift, op2, op1, gUn, view, moAt, Slot.mo?, Mo.view, fIx, fII, gAsg, gCall, M.gCons, M.gNil, consM, opL, views, aliveR, gdTup, gdCons, gdSub, gdNil, Tg.bind, Tg.binds, setV, putMo, gRet, gPass, M.gSet, setM, storeR, gFz, gFrz, M.gLst, M.gTup, valsR, gSl, slM, gPt, gNoP, fSl, gAnd, gOr, gNot, gTru, truM, tru, gAndV, gOrV, gNotV, stays, gIf, gDrop, gRcv, isL, gApp, gMeth, methM, tyD, gFn, callM, argsOf, argOf, brws, nodupN, putBack, Ret.res, gFnK, allVal, Perm.swap, Perm.id, swapL, gChain, gChain3, blM, gRaise, fAdd, fSub, fLt, fInt, fLen, fDivmod, fMod, fFdiv, fMax2, fIsi, isB, gPar, fEq, fNe, eqM, eqS, keyD, gItems, itemsM, tupItems, lstItems, gFor, gEnum, gRange1, sizeLine, noE, atI, ixN, wrongD, scanP]
end My

namespace My
open PySem PySem.Spec PyProof.Rows L2 M
def ptc (t : Ptc) : D := .tup [.int t.1, .int t.2.1, .str t.2.2]
theorem scan_inr {m : Int} : ∀ {ds : List D} {i : Nat} {l : Int} {ts : List Ptc}, scan m i l ds = .inr ts → ds = ts.map ptc
  | [], i, l, ts, h => by cases h; rfl
  | d :: ds, i, l, ts, h => by
    unfold scan at h
    cases e : okItem l m d with
    | none => rw [e] at h; cases h
    | some t =>
      rw [e] at h
      dsimp only at h
      cases e2 : scan m (i + 1) t.2.1 ds with
      | inl k => rw [e2] at h; cases h
      | inr us =>
        rw [e2] at h
        cases h
        rw [(okItem_some e).1, scan_inr e2]
        rfl
def appl (text : Str) : Str → Int → List Ptc → Str
  | f, l, [] => f ++ cutS text (some l) none
  | f, l, t :: ts => appl text (f ++ cutS text (some l) (some t.1) ++ t.2.2) t.2.1 ts
def pieces (text : Str) : Int → List Ptc → List Str
  | _, [] => []
  | l, t :: ts => (cutS text (some l) (some t.1) ++ t.2.2) :: pieces text t.2.1 ts
def lastE : Int → List Ptc → Int
  | l, [] => l
  | _, t :: ts => lastE t.2.1 ts
theorem empty_add (x : Str) : ("" : Str) ++ x = x := Str.ext' (by rw [Str.cps_append]; exact Array.empty_append)
theorem join_cons (x : Str) : ∀ l : List Str, Str.join ("" : Str) (x :: l) = x ++ Str.join ("" : Str) l
  | [] => Str.ext' (by rw [Str.cps_append]; exact Array.append_empty.symm)
  | y :: l => by
    show x ++ ("" : Str) ++ Str.join ("" : Str) (y :: l) = _
    rw [Str.append_assoc, empty_add]
theorem appl_join (text : Str) : ∀ (ts : List Ptc) (f : Str) (l : Int), appl text f l ts = f ++ (Str.join ("" : Str) (pieces text l ts) ++ cutS text (some (lastE l ts)) none)
  | [], f, l => by
    show f ++ _ = f ++ (("" : Str) ++ _)
    rw [empty_add]; rfl
  | t :: ts, f, l => by
    unfold appl pieces lastE
    rw [appl_join text ts, join_cons]
    simp only [Str.append_assoc]
def SmT (ts : List Ptc) : Prop := ts.length ≤ 20 ∧ ∀ t ∈ ts, SB 10 t.2.2
theorem pieces_sb {text : Str} (ht : SB 64 text) : ∀ {ts : List Ptc} {l : Int}, (∀ t ∈ ts, SB 10 t.2.2) → ∀ x ∈ pieces text l ts, SB 74 x
  | [], l, h, x, hx => by cases hx
  | t :: ts, l, h, x, hx => by
    unfold pieces at hx
    rcases List.mem_cons.mp hx with rfl | hx
    · exact (ht.cut _ _).add (h t List.mem_cons_self)
    · exact pieces_sb ht (fun t ht => h t (List.mem_cons_of_mem _ ht)) x hx
theorem pieces_len {text : Str} : ∀ {ts : List Ptc} {l : Int}, (pieces text l ts).length = ts.length
  | [], _ => rfl
  | t :: ts, _ => by unfold pieces; simp [pieces_len]
theorem appl_sb {text : Str} (ht : SB 64 text) {ts : List Ptc} (h : SmT ts) : SB 2000 (appl text ("" : Str) 0 ts) := by
  rw [appl_join, empty_add]
  have h1 := SB.join (sep := ("" : Str)) (k := 0) ⟨by decide, fun c hc => by cases hc⟩ (pieces_sb ht (l := 0) h.2)
  rw [pieces_len] at h1
  exact (h1.add (ht.cut _ _)).mono (by have := h.1; omega)
/-! ### the law's own patcher -/
def lpBody (c : Ads) : EM Fl := (gPar 2 3 (gCons (gOp fAdd (gOp fAdd (gVar 2) (gSl (gVar 0) (gPt (gVar 3)) (gPt (gVar 4)))) (gVar 6)) (gCons (gVar 5) gNil)))
theorem ptc_bind {s0 s1 s2 s3 s4 s5 s6 : Slot} {t : Ptc} (h4 : Vn s4) (h5 : Vn s5) (h6 : Vn s6) : Tg.bind (.tp [.nm 4, .nm 5, .nm 6]) (ptc t) [s0, s1, s2, s3, s4, s5, s6] = some [s0, s1, s2, s3, .val (.int t.1), .val (.int t.2.1), .val (.str t.2.2)] := by
  rcases h4 with rfl | ⟨_, rfl⟩ <;> rcases h5 with rfl | ⟨_, rfl⟩ <;> rcases h6 with rfl | ⟨_, rfl⟩ <;> simp [gSeq, gIfS, gBl, gOp, gVar, gC, EM.bind, EM.pure, EM.lift, op2, op1, gUn, view, moAt, Slot.mo?, Mo.view, fIx, fII, gAsg, gCall, M.gCons, M.gNil, consM, opL, views, aliveR, gdTup, gdCons, gdSub, gdNil, Tg.bind, Tg.binds, setV, putMo, gRet, gPass, M.gSet, setM, storeR, gFz, gFrz, M.gLst, M.gTup, valsR, gSl, slM, gPt, gNoP, fSl, gAnd, gOr, gNot, gTru, truM, tru, gAndV, gOrV, gNotV, stays, gIf, gDrop, gRcv, isL, gApp, gMeth, methM, tyD, gFn, callM, argsOf, argOf, brws, nodupN, putBack, Ret.res, gFnK, allVal, Perm.swap, Perm.id, swapL, gChain, gChain3, blM, gRaise, fAdd, fSub, fLt, fInt, fLen, fDivmod, fMod, fFdiv, fMax2, fIsi, isB, gPar, fEq, fNe, eqM, eqS, keyD, gItems, itemsM, tupItems, lstItems, gFor, gEnum, gRange1, sizeLine, noE, atI, ixN, ptc]
theorem lp_loop (c : Ads) {text : Str} {p : D} (ht : SB 64 text) : ∀ (ts : List Ptc) (f : Str) (l : Int) (s4 s5 s6 : Slot), Vn s4 → Vn s5 → Vn s6 → (∀ t ∈ ts, SB 10 t.2.2) → f.length + ts.length * 74 ≤ 1000000 →
    ∃ f' l' s4' s5' s6', loopF (.tp [.nm 4, .nm 5, .nm 6]) (lpBody c) (ts.map ptc) [.val (.str text), .val p, .val (.str f), .val (.int l), s4, s5, s6] = some (.ok .nx [.val (.str text), .val p, .val (.str f'), .val (.int l'), s4', s5', s6']) ∧
      f' ++ cutS text (some l') none = appl text f l ts ∧ f'.length ≤ 1000000
  | [], f, l, s4, s5, s6, _, _, _, _, hf => ⟨_, _, _, _, _, rfl, rfl, by simpa using hf⟩
  | t :: ts, f, l, s4, s5, s6, h4, h5, h6, h, hf => by
    have h1 := (ht.cut (some l) (some t.1)).1
    have h2 := (h t List.mem_cons_self).1
    have h0 := ht.1
    rw [List.length_cons] at hf
    have hl : (f ++ cutS text (some l) (some t.1) ++ t.2.2).length + ts.length * 74 ≤ 1000000 := by
      rw [Str.length_append, Str.length_append]; omega
    obtain ⟨f', l', q4, q5, q6, e, e2, e3⟩ := lp_loop c (p := p) ht ts (f ++ cutS text (some l) (some t.1) ++ t.2.2) t.2.1 (.val (.int t.1)) (.val (.int t.2.1)) (.val (.str t.2.2)) (.inr ⟨_, rfl⟩) (.inr ⟨_, rfl⟩) (.inr ⟨_, rfl⟩) (fun t ht => h t (List.mem_cons_of_mem _ ht)) hl
    refine ⟨f', l', q4, q5, q6, ?_, e2, e3⟩
    rw [List.map_cons]
    unfold loopF
    rw [ptc_bind h4 h5 h6]
    dsimp only
    have hb : lpBody c [.val (.str text), .val p, .val (.str f), .val (.int l), .val (.int t.1), .val (.int t.2.1), .val (.str t.2.2)] = some (.ok .nx [.val (.str text), .val p, .val (.str (f ++ cutS text (some l) (some t.1) ++ t.2.2)), .val (.int t.2.1), .val (.int t.1), .val (.int t.2.1), .val (.str t.2.2)]) := by
      have g0 : text.length ≤ 16777216 := by omega
      have g1 : f.length + (cutS text (some l) (some t.1)).length ≤ 16777216 := by omega
      have g2 : (f ++ cutS text (some l) (some t.1)).length + t.2.2.length ≤ 16777216 := by rw [Str.length_append]; omega
      unfold lpBody
      simp [gSeq, gIfS, gBl, gOp, gVar, gC, EM.bind, EM.pure, EM.lift, op2, op1, gUn, view, moAt, Slot.mo?, Mo.view, fIx, fII, gAsg, gCall, M.gCons, M.gNil, consM, opL, views, aliveR, gdTup, gdCons, gdSub, gdNil, Tg.bind, Tg.binds, setV, putMo, gRet, gPass, M.gSet, setM, storeR, gFz, gFrz, M.gLst, M.gTup, valsR, gSl, slM, gPt, gNoP, fSl, gAnd, gOr, gNot, gTru, truM, tru, gAndV, gOrV, gNotV, stays, gIf, gDrop, gRcv, isL, gApp, gMeth, methM, tyD, gFn, callM, argsOf, argOf, brws, nodupN, putBack, Ret.res, gFnK, allVal, Perm.swap, Perm.id, swapL, gChain, gChain3, blM, gRaise, fAdd, fSub, fLt, fInt, fLen, fDivmod, fMod, fFdiv, fMax2, fIsi, isB, gPar, fEq, fNe, eqM, eqS, keyD, gItems, itemsM, tupItems, lstItems, gFor, gEnum, gRange1, sizeLine, noE, atI, ixN, g0, g1, g2]
    rw [hb]
    exact e
theorem lp_ok (c : Ads) {text : Str} {ts : List Ptc} (ht : SB 64 text) (h : SmT ts) : m__law_patched c [.val (.str text), .val (.tup (ts.map ptc))] = some (.ok (.val (.str (appl text ("" : Str) 0 ts))) [.val (.str text), .val (.tup (ts.map ptc))]) := by
  obtain ⟨f', l', q4, q5, q6, e, e2, e3⟩ := lp_loop c (p := .tup (ts.map ptc)) ht ts ("" : Str) 0 .un .un .un (.inl rfl) (.inl rfl) (.inl rfl) h.2 (by have := h.1; have : ("" : Str).length = 0 := rfl; omega)
  have g0 : text.length ≤ 16777216 := by have := ht.1; omega
  have g1 : f'.length + (cutS text (some l') none).length ≤ 16777216 := by have := (ht.cut (some l') none).1; omega
  have hl : b__law_patched c = gSeq (gAsg (Tg.bind (.tp [(.nm 2), (.nm 3)])) (M.gTup (M.gCons (gC (.str "")) (M.gCons (gC (.int 0)) M.gNil))))
    (gSeq (gFor (gItems tupItems (gFz 1)) (.tp [(.nm 4), (.nm 5), (.nm 6)]) (lpBody c)) (gRet (gOp fAdd (gVar 2) (gSl (gVar 0) (gPt (gVar 3)) gNoP)))) := rfl
  unfold m__law_patched runM
  rw [hl]
  simp [gSeq, gIfS, gBl, gOp, gVar, gC, EM.bind, EM.pure, EM.lift, op2, op1, gUn, view, moAt, Slot.mo?, Mo.view, fIx, fII, gAsg, gCall, M.gCons, M.gNil, consM, opL, views, aliveR, gdTup, gdCons, gdSub, gdNil, Tg.bind, Tg.binds, setV, putMo, gRet, gPass, M.gSet, setM, storeR, gFz, gFrz, M.gLst, M.gTup, valsR, gSl, slM, gPt, gNoP, fSl, gAnd, gOr, gNot, gTru, truM, tru, gAndV, gOrV, gNotV, stays, gIf, gDrop, gRcv, isL, gApp, gMeth, methM, tyD, gFn, callM, argsOf, argOf, brws, nodupN, putBack, Ret.res, gFnK, allVal, Perm.swap, Perm.id, swapL, gChain, gChain3, blM, gRaise, fAdd, fSub, fLt, fInt, fLen, fDivmod, fMod, fFdiv, fMax2, fIsi, isB, gPar, fEq, fNe, eqM, eqS, keyD, gItems, itemsM, tupItems, lstItems, gFor, gEnum, gRange1, sizeLine, noE, atI, ixN, e, g0, g1, e2]
/-! ### the package's -/
def paBody (c : Ads) : EM Fl := (gSeq (gIfS (gNot (gTru (gFn 3 (m_is_patch c) (gCons (gFz 5) (gCons (gFz 3) (gCons (gCall fLen (gCons (gVar 0) gNil)) gNil))))))
    (gRaise (.ref c.InvalidPatches) ["index"] (gCons (gFz 4) gNil))
    gPass)
    (gSeq (gDrop (gRcv 2 (gApp 2 (gFrz (gOp fAdd (gSl (gVar 0) (gPt (gVar 3)) (gPt (gOp fIx (gVar 5) (gC (.int 0))))) (gOp fIx (gVar 5) (gC (.int 2))))))))
    (gSet 3 (gOp fIx (gVar 5) (gC (.int 1))))))
theorem enum_bind6 {i : Nat} {d : D} {s0 s1 s2 s3 : Slot} {s4 s5 : Slot} (h3 : Vn s4) (h4 : Vn s5) : Tg.bind (.tp [.nm 4, .nm 5]) (.tup [.int i, d]) [s0, s1, s2, s3, s4, s5] = some [s0, s1, s2, s3, .val (.int i), .val d] := by
  rcases h3 with rfl | ⟨_, rfl⟩ <;> rcases h4 with rfl | ⟨_, rfl⟩ <;> simp [gSeq, gIfS, gBl, gOp, gVar, gC, EM.bind, EM.pure, EM.lift, op2, op1, gUn, view, moAt, Slot.mo?, Mo.view, fIx, fII, gAsg, gCall, M.gCons, M.gNil, consM, opL, views, aliveR, gdTup, gdCons, gdSub, gdNil, Tg.bind, Tg.binds, setV, putMo, gRet, gPass, M.gSet, setM, storeR, gFz, gFrz, M.gLst, M.gTup, valsR, gSl, slM, gPt, gNoP, fSl, gAnd, gOr, gNot, gTru, truM, tru, gAndV, gOrV, gNotV, stays, gIf, gDrop, gRcv, isL, gApp, gMeth, methM, tyD, gFn, callM, argsOf, argOf, brws, nodupN, putBack, Ret.res, gFnK, allVal, Perm.swap, Perm.id, swapL, gChain, gChain3, blM, gRaise, fAdd, fSub, fLt, fInt, fLen, fDivmod, fMod, fFdiv, fMax2, fIsi, isB, gPar, fEq, fNe, eqM, eqS, keyD, gItems, itemsM, tupItems, lstItems, gFor, gEnum, gRange1, sizeLine, noE, atI, ixN]
theorem pa_loop (c : Ads) {text : Str} {p : D} (ht : SB 64 text) : ∀ (ds : List D) (i : Nat) (fs : List D) (l : Int) (s4 s5 : Slot), Vn s4 → Vn s5 → (∀ d ∈ ds, plain2 d = true) → (∀ d ∈ ds, ∀ t, d = ptc t → SB 10 t.2.2) → fs.length + ds.length ≤ 1000 →
    ∃ s2' s3' s4' s5', loopF (.tp [.nm 4, .nm 5]) (paBody c) (enumD i ds) [.val (.str text), .val p, .own (.l fs), .val (.int l), s4, s5] = match scan text.length i l ds with
      | .inl k => some (.ex (.ref c.InvalidPatches) [("index", .int k)] [.val (.str text), .val p, s2', s3', s4', s5'])
      | .inr ts => some (.ok .nx [.val (.str text), .val p, .own (.l (fs ++ (pieces text l ts).map D.str)), .val (.int (lastE l ts)), s4', s5'])
  | [], i, fs, l, s4, s5, _, _, _, _, _ => ⟨.un, .un, s4, s5, by unfold enumD loopF scan pieces lastE; simp [EM.pure]⟩
  | d :: ds, i, fs, l, s4, s5, h4, h5, h, hs, hn => by
    have hi := is_patch_ok c (l := l) (m := text.length) (h d List.mem_cons_self)
    have g0 : text.length ≤ 16777216 := by have := ht.1; omega
    rw [List.length_cons] at hn
    unfold enumD loopF scan
    rw [enum_bind6 h4 h5]
    dsimp only
    cases e : okItem l text.length d with
    | none =>
      have hb : paBody c [.val (.str text), .val p, .own (.l fs), .val (.int l), .val (.int i), .val d] = some (.ex (.ref c.InvalidPatches) [("index", .int i)] [.val (.str text), .val p, .own (.l fs), .val (.int l), .val (.int i), .val d]) := by
        unfold paBody
        simp [gSeq, gIfS, gBl, gOp, gVar, gC, EM.bind, EM.pure, EM.lift, op2, op1, gUn, view, moAt, Slot.mo?, Mo.view, fIx, fII, gAsg, gCall, M.gCons, M.gNil, consM, opL, views, aliveR, gdTup, gdCons, gdSub, gdNil, Tg.bind, Tg.binds, setV, putMo, gRet, gPass, M.gSet, setM, storeR, gFz, gFrz, M.gLst, M.gTup, valsR, gSl, slM, gPt, gNoP, fSl, gAnd, gOr, gNot, gTru, truM, tru, gAndV, gOrV, gNotV, stays, gIf, gDrop, gRcv, isL, gApp, gMeth, methM, tyD, gFn, callM, argsOf, argOf, brws, nodupN, putBack, Ret.res, gFnK, allVal, Perm.swap, Perm.id, swapL, gChain, gChain3, blM, gRaise, fAdd, fSub, fLt, fInt, fLen, fDivmod, fMod, fFdiv, fMax2, fIsi, isB, gPar, fEq, fNe, eqM, eqS, keyD, gItems, itemsM, tupItems, lstItems, gFor, gEnum, gRange1, sizeLine, noE, atI, ixN, hi, e, g0]
      rw [hb]
      exact ⟨_, _, _, _, rfl⟩
    | some t =>
      have ed := (okItem_some e).1
      have h1 := (ht.cut (some l) (some t.1)).1
      have h2 := (hs d List.mem_cons_self t ed).1
      have g1 : (cutS text (some l) (some t.1)).length + t.2.2.length ≤ 16777216 := by omega
      have g2 : fs.length < 16777216 := by omega
      have hb : paBody c [.val (.str text), .val p, .own (.l fs), .val (.int l), .val (.int i), .val d] = some (.ok .nx [.val (.str text), .val p, .own (.l (fs ++ [.str (cutS text (some l) (some t.1) ++ t.2.2)])), .val (.int t.2.1), .val (.int i), .val d]) := by
        subst ed
        unfold paBody
        simp [gSeq, gIfS, gBl, gOp, gVar, gC, EM.bind, EM.pure, EM.lift, op2, op1, gUn, view, moAt, Slot.mo?, Mo.view, fIx, fII, gAsg, gCall, M.gCons, M.gNil, consM, opL, views, aliveR, gdTup, gdCons, gdSub, gdNil, Tg.bind, Tg.binds, setV, putMo, gRet, gPass, M.gSet, setM, storeR, gFz, gFrz, M.gLst, M.gTup, valsR, gSl, slM, gPt, gNoP, fSl, gAnd, gOr, gNot, gTru, truM, tru, gAndV, gOrV, gNotV, stays, gIf, gDrop, gRcv, isL, gApp, gMeth, methM, tyD, gFn, callM, argsOf, argOf, brws, nodupN, putBack, Ret.res, gFnK, allVal, Perm.swap, Perm.id, swapL, gChain, gChain3, blM, gRaise, fAdd, fSub, fLt, fInt, fLen, fDivmod, fMod, fFdiv, fMax2, fIsi, isB, gPar, fEq, fNe, eqM, eqS, keyD, gItems, itemsM, tupItems, lstItems, gFor, gEnum, gRange1, sizeLine, noE, atI, ixN, hi, e, g0, g1, g2]
      rw [hb]
      dsimp only
      obtain ⟨q2, q3, q4, q5, e2⟩ := pa_loop c (p := p) ht ds (i + 1) (fs ++ [.str (cutS text (some l) (some t.1) ++ t.2.2)]) t.2.1 (.val (.int i)) (.val d) (.inr ⟨_, rfl⟩) (.inr ⟨_, rfl⟩) (fun d hd => h d (List.mem_cons_of_mem _ hd)) (fun d hd => hs d (List.mem_cons_of_mem _ hd)) (by rw [List.length_append]; simp; omega)
      refine ⟨q2, q3, q4, q5, ?_⟩
      rw [e2]
      cases scan text.length (i + 1) t.2.1 ds with
      | inl k => rfl
      | inr ts => simp [pieces, lastE]
theorem strsD_map : ∀ l : List Str, strsD (l.map D.str) = some l
  | [] => rfl
  | x :: l => by show (strsD (l.map D.str)).map (x :: ·) = _; rw [strsD_map l]; rfl
def SmP (p : D) : Prop := ∀ ds, p = .tup ds → ds.length ≤ 20 ∧ ∀ d ∈ ds, ∀ t, d = ptc t → SB 10 t.2.2
theorem SmP.ts {text : Str} {p : D} {ts : List Ptc} (h : SmP p) (e : scanP text p = .inr ts) : p = .tup (ts.map ptc) ∧ SmT ts := by
  unfold scanP at e
  split at e
  · rename_i ds
    cases k : scan text.length 0 0 ds with
    | inl i => rw [k] at e; cases e
    | inr us =>
      rw [k] at e
      cases e
      have := scan_inr k
      subst this
      refine ⟨rfl, by have := (h _ rfl).1; simpa using this, fun t ht => (h _ rfl).2 (ptc t) (List.mem_map_of_mem ht) t rfl⟩
  · cases e
theorem pa_ok (c : Ads) {text : Str} {p : D} (ht : SB 64 text) (hp : plain3 p = true) (hs : SmP p) : m_patched c [.val (.str text), .val p] = match scanP text p with
    | .inl k => some (.ex (.ref c.InvalidPatches) [("index", k)] [.val (.str text), .val p])
    | .inr ts => some (.ok (.val (.str (appl text ("" : Str) 0 ts))) [.val (.str text), .val p]) := by
  have g0 : text.length ≤ 16777216 := by have := ht.1; omega
  have hl : b_patched c = gSeq (gIfS (gNot (gTru (gCall fIsi (M.gCons (gVar 0) (M.gCons (gC (.ty "str")) M.gNil)))))
    (gRaise (.ref c.InvalidText) ["written"] (M.gCons (gFz 0) M.gNil)) gPass)
    (gSeq (gIfS (gNot (gTru (gCall fIsi (M.gCons (gVar 1) (M.gCons (gC (.ty "tuple")) M.gNil)))))
    (gRaise (.ref c.InvalidPatches) ["index"] (M.gCons (gC .non) M.gNil)) gPass)
    (gSeq (gPar 2 3 (M.gCons (M.gLst M.gNil) (M.gCons (gC (.int 0)) M.gNil)))
    (gSeq (gFor (gEnum tupItems (M.gCons (gFz 1) M.gNil)) (.tp [(.nm 4), (.nm 5)]) (paBody c))
    (gRet (gOp fAdd (gMeth "str" fJoin (gC (.str "")) (M.gCons (gVar 2) M.gNil)) (gSl (gVar 0) (gPt (gVar 3)) gNoP)))))) := rfl
  unfold m_patched runM
  rw [hl]
  cases p with
  | tup ds =>
    have hq : ∀ d ∈ ds, plain2 d = true := by simpa [plain3] using hp
    have hs' := hs ds rfl
    obtain ⟨q2, q3, q4, q5, e⟩ := pa_loop c (p := .tup ds) ht ds 0 [] 0 .un .un (.inl rfl) (.inl rfl) hq hs'.2 (by have := hs'.1; simp; omega)
    cases k : scan text.length 0 0 ds with
    | inl k' =>
      rw [k] at e
      simp [gSeq, gIfS, gBl, gOp, gVar, gC, EM.bind, EM.pure, EM.lift, op2, op1, gUn, view, moAt, Slot.mo?, Mo.view, fIx, fII, gAsg, gCall, M.gCons, M.gNil, consM, opL, views, aliveR, gdTup, gdCons, gdSub, gdNil, Tg.bind, Tg.binds, setV, putMo, gRet, gPass, M.gSet, setM, storeR, gFz, gFrz, M.gLst, M.gTup, valsR, gSl, slM, gPt, gNoP, fSl, gAnd, gOr, gNot, gTru, truM, tru, gAndV, gOrV, gNotV, stays, gIf, gDrop, gRcv, isL, gApp, gMeth, methM, tyD, gFn, callM, argsOf, argOf, brws, nodupN, putBack, Ret.res, gFnK, allVal, Perm.swap, Perm.id, swapL, gChain, gChain3, blM, gRaise, fAdd, fSub, fLt, fInt, fLen, fDivmod, fMod, fFdiv, fMax2, fIsi, isB, gPar, fEq, fNe, eqM, eqS, keyD, gItems, itemsM, tupItems, lstItems, gFor, gEnum, gRange1, sizeLine, noE, atI, ixN, e, scanP, k]
    | inr ts =>
      rw [k] at e
      have sm := (hs.ts (text := text) (ts := ts) (by unfold scanP; dsimp only; rw [k])).2
      have e2 := appl_join text ts ("" : Str) 0
      rw [empty_add] at e2
      have ps := pieces_sb ht (l := 0) sm.2
      have pl : (pieces text 0 ts).length ≤ 20 := by rw [pieces_len]; exact sm.1
      have g1 : ((pieces text 0 ts).map (·.length)).sum ≤ 16777216 := Nat.le_trans (sum_le fun x hx => (ps x hx).1) (by omega)
      have hz : ("" : Str).length = 0 := rfl
      have g2 : (Str.join ("" : Str) (pieces text 0 ts)).length + (cutS text (some (lastE 0 ts)) none).length ≤ 16777216 := by
        have h1 := Str.join_len (sep := ("" : Str)) (k := 0) (Nat.le_refl _) (fun x hx => (ps x hx).1)
        have h2 := (ht.cut (some (lastE 0 ts)) none).1
        omega
      simp [gSeq, gIfS, gBl, gOp, gVar, gC, EM.bind, EM.pure, EM.lift, op2, op1, gUn, view, moAt, Slot.mo?, Mo.view, fIx, fII, gAsg, gCall, M.gCons, M.gNil, consM, opL, views, aliveR, gdTup, gdCons, gdSub, gdNil, Tg.bind, Tg.binds, setV, putMo, gRet, gPass, M.gSet, setM, storeR, gFz, gFrz, M.gLst, M.gTup, valsR, gSl, slM, gPt, gNoP, fSl, gAnd, gOr, gNot, gTru, truM, tru, gAndV, gOrV, gNotV, stays, gIf, gDrop, gRcv, isL, gApp, gMeth, methM, tyD, gFn, callM, argsOf, argOf, brws, nodupN, putBack, Ret.res, gFnK, allVal, Perm.swap, Perm.id, swapL, gChain, gChain3, blM, gRaise, fAdd, fSub, fLt, fInt, fLen, fDivmod, fMod, fFdiv, fMax2, fIsi, isB, gPar, fEq, fNe, eqM, eqS, keyD, gItems, itemsM, tupItems, lstItems, gFor, gEnum, gRange1, sizeLine, noE, atI, ixN, e, scanP, k, fJoin, seqOf, strsD_map, TL.join_eq, hz, g0, g1, g2, e2]
  | _ => first | (cases hp; done) | simp [gSeq, gIfS, gBl, gOp, gVar, gC, EM.bind, EM.pure, EM.lift, op2, op1, gUn, view, moAt, Slot.mo?, Mo.view, fIx, fII, gAsg, gCall, M.gCons, M.gNil, consM, opL, views, aliveR, gdTup, gdCons, gdSub, gdNil, Tg.bind, Tg.binds, setV, putMo, gRet, gPass, M.gSet, setM, storeR, gFz, gFrz, M.gLst, M.gTup, valsR, gSl, slM, gPt, gNoP, fSl, gAnd, gOr, gNot, gTru, truM, tru, gAndV, gOrV, gNotV, stays, gIf, gDrop, gRcv, isL, gApp, gMeth, methM, tyD, gFn, callM, argsOf, argOf, brws, nodupN, putBack, Ret.res, gFnK, allVal, Perm.swap, Perm.id, swapL, gChain, gChain3, blM, gRaise, fAdd, fSub, fLt, fInt, fLen, fDivmod, fMod, fFdiv, fMax2, fIsi, isB, gPar, fEq, fNe, eqM, eqS, keyD, gItems, itemsM, tupItems, lstItems, gFor, gEnum, gRange1, sizeLine, noE, atI, ixN, scanP]
theorem pa_bad (c : Ads) {d p : D} (h : plain1 d = true) (hs : ∀ x, d ≠ .str x) : m_patched c [.val d, .val p] = some (.ex (.ref c.InvalidText) [("written", d)] [.val d, .val p]) := by
  unfold m_patched b_patched runM
  cases d with
  | str x => exact absurd rfl (hs x)
  | _ => first | (cases h; done) | simp [gSeq, gIfS, gBl, gOp, gVar, gC, EM.bind, EM.pure, EM.lift, op2, op1, gUn, view, moAt, Slot.mo?, Mo.view, fIx, fII, gAsg, gCall, M.gCons, M.gNil, consM, opL, views, aliveR, gdTup, gdCons, gdSub, gdNil, Tg.bind, Tg.binds, setV, putMo, gRet, gPass, M.gSet, setM, storeR, gFz, gFrz, M.gLst, M.gTup, valsR, gSl, slM, gPt, gNoP, fSl, gAnd, gOr, gNot, gTru, truM, tru, gAndV, gOrV, gNotV, stays, gIf, gDrop, gRcv, isL, gApp, gMeth, methM, tyD, gFn, callM, argsOf, argOf, brws, nodupN, putBack, Ret.res, gFnK, allVal, Perm.swap, Perm.id, swapL, gChain, gChain3, blM, gRaise, fAdd, fSub, fLt, fInt, fLen, fDivmod, fMod, fFdiv, fMax2, fIsi, isB, gPar, fEq, fNe, eqM, eqS, keyD, gItems, itemsM, tupItems, lstItems, gFor, gEnum, gRange1, sizeLine, noE, atI, ixN]
end My

namespace My
open PySem PySem.Spec PyProof.Rows L2 M
def Sc (d : D) : Prop := d = .non ∨ (∃ b, d = .bl b) ∨ (∃ i, d = .int i ∧ i.natAbs.log2 < 1920) ∨ ∃ x, d = .str x ∧ SB 2000 x
def DB : Nat → D → Prop
  | 0, d => Sc d
  | k + 1, d => Sc d ∨ ∃ ds, (d = .tup ds ∨ d = .lst ds ∨ d = .rol ds) ∧ ds.length ≤ 4 ∧ ∀ x ∈ ds, DB k x
def LB : Nat → Nat
  | 0 => 20002
  | k + 1 => 4 * (LB k + 1) + 2
def elM (c : Ads) (n : Nat) : EM Res := (gFrz (gFn 1 (m__law_plain c n) (gCons (gFz 2) gNil)))
theorem lb_le (k : Nat) : 20002 ≤ LB k := by
  induction k with
  | zero => exact Nat.le_refl _
  | succ k ih => unfold LB; omega
theorem plain_sc (c : Ads) {n : Nat} {d : D} (h : Sc d) : ∃ z, m__law_plain c (n + 1) [.val d] = some (.ok (.val (.str z)) [.val d]) ∧ z.length ≤ 20002 := by
  unfold m__law_plain runM
  rcases h with rfl | ⟨b, rfl⟩ | ⟨i, rfl, hi⟩ | ⟨x, rfl, hx⟩
  · exact ⟨"None", by simp [gSeq, gIfS, gBl, gOp, gVar, gC, EM.bind, EM.pure, EM.lift, op2, op1, gUn, view, moAt, Slot.mo?, Mo.view, fIx, fII, gAsg, gCall, M.gCons, M.gNil, consM, opL, views, aliveR, gdTup, gdCons, gdSub, gdNil, Tg.bind, Tg.binds, setV, putMo, gRet, gPass, M.gSet, setM, storeR, gFz, gFrz, M.gLst, M.gTup, valsR, gSl, slM, gPt, gNoP, fSl, gAnd, gOr, gNot, gTru, truM, tru, gAndV, gOrV, gNotV, stays, gIf, gDrop, gRcv, isL, gApp, gMeth, methM, tyD, gFn, callM, argsOf, argOf, brws, nodupN, putBack, Ret.res, gFnK, allVal, Perm.swap, Perm.id, swapL, gChain, gChain3, blM, gRaise, fAdd, fSub, fLt, fInt, fLen, fDivmod, fMod, fFdiv, fMax2, fIsi, isB, gPar, fEq, fNe, eqM, eqS, keyD, gItems, itemsM, tupItems, lstItems, gFor, gEnum, gRange1, sizeLine, noE, atI, ixN, fRepr], by decide⟩
  · exact ⟨if b then "True" else "False", by simp [gSeq, gIfS, gBl, gOp, gVar, gC, EM.bind, EM.pure, EM.lift, op2, op1, gUn, view, moAt, Slot.mo?, Mo.view, fIx, fII, gAsg, gCall, M.gCons, M.gNil, consM, opL, views, aliveR, gdTup, gdCons, gdSub, gdNil, Tg.bind, Tg.binds, setV, putMo, gRet, gPass, M.gSet, setM, storeR, gFz, gFrz, M.gLst, M.gTup, valsR, gSl, slM, gPt, gNoP, fSl, gAnd, gOr, gNot, gTru, truM, tru, gAndV, gOrV, gNotV, stays, gIf, gDrop, gRcv, isL, gApp, gMeth, methM, tyD, gFn, callM, argsOf, argOf, brws, nodupN, putBack, Ret.res, gFnK, allVal, Perm.swap, Perm.id, swapL, gChain, gChain3, blM, gRaise, fAdd, fSub, fLt, fInt, fLen, fDivmod, fMod, fFdiv, fMax2, fIsi, isB, gPar, fEq, fNe, eqM, eqS, keyD, gItems, itemsM, tupItems, lstItems, gFor, gEnum, gRange1, sizeLine, noE, atI, ixN, fRepr], by cases b <;> decide⟩
  · exact ⟨toString i, by simp [gSeq, gIfS, gBl, gOp, gVar, gC, EM.bind, EM.pure, EM.lift, op2, op1, gUn, view, moAt, Slot.mo?, Mo.view, fIx, fII, gAsg, gCall, M.gCons, M.gNil, consM, opL, views, aliveR, gdTup, gdCons, gdSub, gdNil, Tg.bind, Tg.binds, setV, putMo, gRet, gPass, M.gSet, setM, storeR, gFz, gFrz, M.gLst, M.gTup, valsR, gSl, slM, gPt, gNoP, fSl, gAnd, gOr, gNot, gTru, truM, tru, gAndV, gOrV, gNotV, stays, gIf, gDrop, gRcv, isL, gApp, gMeth, methM, tyD, gFn, callM, argsOf, argOf, brws, nodupN, putBack, Ret.res, gFnK, allVal, Perm.swap, Perm.id, swapL, gChain, gChain3, blM, gRaise, fAdd, fSub, fLt, fInt, fLen, fDivmod, fMod, fFdiv, fMax2, fIsi, isB, gPar, fEq, fNe, eqM, eqS, keyD, gItems, itemsM, tupItems, lstItems, gFor, gEnum, gRange1, sizeLine, noE, atI, ixN, fRepr, hi], Nat.le_trans (int_text_len_1921 hi) (by decide)⟩
  · have h1 := hx.repr
    have h2 : (reprText x).length ≤ 16777216 := by omega
    exact ⟨reprText x, by simp [gSeq, gIfS, gBl, gOp, gVar, gC, EM.bind, EM.pure, EM.lift, op2, op1, gUn, view, moAt, Slot.mo?, Mo.view, fIx, fII, gAsg, gCall, M.gCons, M.gNil, consM, opL, views, aliveR, gdTup, gdCons, gdSub, gdNil, Tg.bind, Tg.binds, setV, putMo, gRet, gPass, M.gSet, setM, storeR, gFz, gFrz, M.gLst, M.gTup, valsR, gSl, slM, gPt, gNoP, fSl, gAnd, gOr, gNot, gTru, truM, tru, gAndV, gOrV, gNotV, stays, gIf, gDrop, gRcv, isL, gApp, gMeth, methM, tyD, gFn, callM, argsOf, argOf, brws, nodupN, putBack, Ret.res, gFnK, allVal, Perm.swap, Perm.id, swapL, gChain, gChain3, blM, gRaise, fAdd, fSub, fLt, fInt, fLen, fDivmod, fMod, fFdiv, fMax2, fIsi, isB, gPar, fEq, fNe, eqM, eqS, keyD, gItems, itemsM, tupItems, lstItems, gFor, gEnum, gRange1, sizeLine, noE, atI, ixN, fRepr, h2], h1⟩
theorem comp_pl (c : Ads) {n k : Nat} {d : D} (ih : ∀ x, DB k x → ∃ z, m__law_plain c n [.val x] = some (.ok (.val (.str z)) [.val x]) ∧ z.length ≤ LB k) {ds : List D} (hn : ds.length ≤ 4) (hd : ∀ x ∈ ds, DB k x) :
    ∃ zs : List Str, compM (.nm 2) [2] gYes (elM c n) [] ds [.val d, .un, .un] = some (.ok (zs.map D.str) [.val d, .un, .un]) ∧ zs.length = ds.length ∧ ∀ z ∈ zs, z.length ≤ LB k := by
  obtain ⟨acc, ρ', e, ⟨s2, rfl, h2, zs, rfl, hz⟩, hl⟩ := compM_inv (t := .nm 2) (vs := [2]) (ge := elM c n) (fun acc ρ => ∃ s2, ρ = [.val d, .un, s2] ∧ Vn s2 ∧ ∃ zs : List Str, acc = zs.map D.str ∧ ∀ z ∈ zs, z.length ≤ LB k) ds [] [.val d, .un, .un] (by
    rintro acc ρ x hx _ ⟨s2, rfl, h2, zs, rfl, hz⟩
    obtain ⟨z, e, l⟩ := ih x (hd x hx)
    refine ⟨[.val d, .un, .val x], .str z, [.val d, .un, .val x], by simp [wipeE, gSeq, gIfS, gBl, gOp, gVar, gC, EM.bind, EM.pure, EM.lift, op2, op1, gUn, view, moAt, Slot.mo?, Mo.view, fIx, fII, gAsg, gCall, M.gCons, M.gNil, consM, opL, views, aliveR, gdTup, gdCons, gdSub, gdNil, Tg.bind, Tg.binds, setV, putMo, gRet, gPass, M.gSet, setM, storeR, gFz, gFrz, M.gLst, M.gTup, valsR, gSl, slM, gPt, gNoP, fSl, gAnd, gOr, gNot, gTru, truM, tru, gAndV, gOrV, gNotV, stays, gIf, gDrop, gRcv, isL, gApp, gMeth, methM, tyD, gFn, callM, argsOf, argOf, brws, nodupN, putBack, Ret.res, gFnK, allVal, Perm.swap, Perm.id, swapL, gChain, gChain3, blM, gRaise, fAdd, fSub, fLt, fInt, fLen, fDivmod, fMod, fFdiv, fMax2, fIsi, isB, gPar, fEq, fNe, eqM, eqS, keyD, gItems, itemsM, tupItems, lstItems, gFor, gEnum, gRange1, sizeLine, noE, atI, ixN], ?_, .val x, rfl, .inr ⟨_, rfl⟩, zs ++ [z], by simp, ?_⟩
    · unfold elM
      simp [gSeq, gIfS, gBl, gOp, gVar, gC, EM.bind, EM.pure, EM.lift, op2, op1, gUn, view, moAt, Slot.mo?, Mo.view, fIx, fII, gAsg, gCall, M.gCons, M.gNil, consM, opL, views, aliveR, gdTup, gdCons, gdSub, gdNil, Tg.bind, Tg.binds, setV, putMo, gRet, gPass, M.gSet, setM, storeR, gFz, gFrz, M.gLst, M.gTup, valsR, gSl, slM, gPt, gNoP, fSl, gAnd, gOr, gNot, gTru, truM, tru, gAndV, gOrV, gNotV, stays, gIf, gDrop, gRcv, isL, gApp, gMeth, methM, tyD, gFn, callM, argsOf, argOf, brws, nodupN, putBack, Ret.res, gFnK, allVal, Perm.swap, Perm.id, swapL, gChain, gChain3, blM, gRaise, fAdd, fSub, fLt, fInt, fLen, fDivmod, fMod, fFdiv, fMax2, fIsi, isB, gPar, fEq, fNe, eqM, eqS, keyD, gItems, itemsM, tupItems, lstItems, gFor, gEnum, gRange1, sizeLine, noE, atI, ixN, e]
    · intro y hy
      rcases List.mem_append.mp hy with hy | hy
      · exact hz y hy
      · rw [List.mem_singleton.mp hy]; exact l) (by
    rintro acc ρ ⟨s2, rfl, h2, _⟩
    rcases h2 with rfl | ⟨_, rfl⟩ <;> simp [noPars]) (by simp [sizeLine]; omega) ⟨_, rfl, .inl rfl, [], rfl, fun z hz => by cases hz⟩
  refine ⟨zs, ?_, by simpa using hl, hz⟩
  rw [e]
  simp [wipeE]
theorem join_bound {zs : List Str} {B : Nat} (h : ∀ z ∈ zs, z.length ≤ B) (hn : zs.length ≤ 4) : (zs.map (·.length)).sum + zs.length * (("," : Str).length) ≤ 4 * (B + 1) ∧ (Str.join ("," : Str) zs).length ≤ 4 * (B + 1) := by
  have h1 := sum_le h
  have h2 := Str.join_len (sep := ("," : Str)) (k := 1) (by decide) h
  have h3 : ("," : Str).length = 1 := by decide
  have h4 : zs.length * B ≤ 4 * B := Nat.mul_le_mul_right _ hn
  have h5 : zs.length * (B + 1) ≤ 4 * (B + 1) := Nat.mul_le_mul_right _ hn
  rw [h3]
  omega
theorem plain_db (c : Ads) : ∀ (k n : Nat) (d : D), DB k d → k < n → LB k ≤ 16777216 → ∃ z, m__law_plain c n [.val d] = some (.ok (.val (.str z)) [.val d]) ∧ z.length ≤ LB k
  | _, 0, _, _, h, _ => by omega
  | 0, n + 1, d, h, _, _ => plain_sc c h
  | k + 1, n + 1, d, h, hk, hL => by
    have hlb : LB (k + 1) = 4 * (LB k + 1) + 2 := rfl
    rcases h with h | ⟨ds, h, hn, hd⟩
    · obtain ⟨z, e, l⟩ := plain_sc c (n := n) h
      exact ⟨z, e, Nat.le_trans l (lb_le _)⟩
    · obtain ⟨zs, e, hl, hz⟩ := comp_pl c (n := n) (k := k) (d := d) (fun x hx => plain_db c k n x hx (by omega) (by omega)) hn hd
      obtain ⟨j1, j2⟩ := join_bound hz (by omega)
      have j3 : (zs.map (·.length)).sum + zs.length * (("," : Str).length) ≤ 16777216 := by omega
      have o1 : ("(" : Str).length = 1 := by decide
      have o2 : (")" : Str).length = 1 := by decide
      have o3 : ("[" : Str).length = 1 := by decide
      have o4 : ("]" : Str).length = 1 := by decide
      have j4 : ("(" : Str).length + (Str.join ("," : Str) zs).length ≤ 16777216 := by omega
      have j5 : (("(" : Str) ++ Str.join ("," : Str) zs).length + (")" : Str).length ≤ 16777216 := by rw [Str.length_append]; omega
      have j6 : ("[" : Str).length + (Str.join ("," : Str) zs).length ≤ 16777216 := by omega
      have j7 : (("[" : Str) ++ Str.join ("," : Str) zs).length + ("]" : Str).length ≤ 16777216 := by rw [Str.length_append]; omega
      unfold elM at e
      unfold m__law_plain runM
      rcases h with rfl | rfl | rfl
      · refine ⟨("(" : Str) ++ Str.join ("," : Str) zs ++ (")" : Str), ?_, by rw [Str.length_append, Str.length_append]; omega⟩
        simp [gSeq, gIfS, gBl, gOp, gVar, gC, EM.bind, EM.pure, EM.lift, op2, op1, gUn, view, moAt, Slot.mo?, Mo.view, fIx, fII, gAsg, gCall, M.gCons, M.gNil, consM, opL, views, aliveR, gdTup, gdCons, gdSub, gdNil, Tg.bind, Tg.binds, setV, putMo, gRet, gPass, M.gSet, setM, storeR, gFz, gFrz, M.gLst, M.gTup, valsR, gSl, slM, gPt, gNoP, fSl, gAnd, gOr, gNot, gTru, truM, tru, gAndV, gOrV, gNotV, stays, gIf, gDrop, gRcv, isL, gApp, gMeth, methM, tyD, gFn, callM, argsOf, argOf, brws, nodupN, putBack, Ret.res, gFnK, allVal, Perm.swap, Perm.id, swapL, gChain, gChain3, blM, gRaise, fAdd, fSub, fLt, fInt, fLen, fDivmod, fMod, fFdiv, fMax2, fIsi, isB, gPar, fEq, fNe, eqM, eqS, keyD, gItems, itemsM, tupItems, lstItems, gFor, gEnum, gRange1, sizeLine, noE, atI, ixN] at e
        simp [gSeq, gIfS, gBl, gOp, gVar, gC, EM.bind, EM.pure, EM.lift, op2, op1, gUn, view, moAt, Slot.mo?, Mo.view, fIx, fII, gAsg, gCall, M.gCons, M.gNil, consM, opL, views, aliveR, gdTup, gdCons, gdSub, gdNil, Tg.bind, Tg.binds, setV, putMo, gRet, gPass, M.gSet, setM, storeR, gFz, gFrz, M.gLst, M.gTup, valsR, gSl, slM, gPt, gNoP, fSl, gAnd, gOr, gNot, gTru, truM, tru, gAndV, gOrV, gNotV, stays, gIf, gDrop, gRcv, isL, gApp, gMeth, methM, tyD, gFn, callM, argsOf, argOf, brws, nodupN, putBack, Ret.res, gFnK, allVal, Perm.swap, Perm.id, swapL, gChain, gChain3, blM, gRaise, fAdd, fSub, fLt, fInt, fLen, fDivmod, fMod, fFdiv, fMax2, fIsi, isB, gPar, fEq, fNe, eqM, eqS, keyD, gItems, itemsM, tupItems, lstItems, gFor, gEnum, gRange1, sizeLine, noE, atI, ixN, gLc, tgIn, Tg.slots, noPars, e, fJoin, seqOf, strsD_map, TL.join_eq, j3, j4, j5]
      · refine ⟨("[" : Str) ++ Str.join ("," : Str) zs ++ ("]" : Str), ?_, by rw [Str.length_append, Str.length_append]; omega⟩
        simp [gSeq, gIfS, gBl, gOp, gVar, gC, EM.bind, EM.pure, EM.lift, op2, op1, gUn, view, moAt, Slot.mo?, Mo.view, fIx, fII, gAsg, gCall, M.gCons, M.gNil, consM, opL, views, aliveR, gdTup, gdCons, gdSub, gdNil, Tg.bind, Tg.binds, setV, putMo, gRet, gPass, M.gSet, setM, storeR, gFz, gFrz, M.gLst, M.gTup, valsR, gSl, slM, gPt, gNoP, fSl, gAnd, gOr, gNot, gTru, truM, tru, gAndV, gOrV, gNotV, stays, gIf, gDrop, gRcv, isL, gApp, gMeth, methM, tyD, gFn, callM, argsOf, argOf, brws, nodupN, putBack, Ret.res, gFnK, allVal, Perm.swap, Perm.id, swapL, gChain, gChain3, blM, gRaise, fAdd, fSub, fLt, fInt, fLen, fDivmod, fMod, fFdiv, fMax2, fIsi, isB, gPar, fEq, fNe, eqM, eqS, keyD, gItems, itemsM, tupItems, lstItems, gFor, gEnum, gRange1, sizeLine, noE, atI, ixN] at e
        simp [gSeq, gIfS, gBl, gOp, gVar, gC, EM.bind, EM.pure, EM.lift, op2, op1, gUn, view, moAt, Slot.mo?, Mo.view, fIx, fII, gAsg, gCall, M.gCons, M.gNil, consM, opL, views, aliveR, gdTup, gdCons, gdSub, gdNil, Tg.bind, Tg.binds, setV, putMo, gRet, gPass, M.gSet, setM, storeR, gFz, gFrz, M.gLst, M.gTup, valsR, gSl, slM, gPt, gNoP, fSl, gAnd, gOr, gNot, gTru, truM, tru, gAndV, gOrV, gNotV, stays, gIf, gDrop, gRcv, isL, gApp, gMeth, methM, tyD, gFn, callM, argsOf, argOf, brws, nodupN, putBack, Ret.res, gFnK, allVal, Perm.swap, Perm.id, swapL, gChain, gChain3, blM, gRaise, fAdd, fSub, fLt, fInt, fLen, fDivmod, fMod, fFdiv, fMax2, fIsi, isB, gPar, fEq, fNe, eqM, eqS, keyD, gItems, itemsM, tupItems, lstItems, gFor, gEnum, gRange1, sizeLine, noE, atI, ixN, gLc, tgIn, Tg.slots, noPars, e, fJoin, seqOf, strsD_map, TL.join_eq, j3, j6, j7]
      · refine ⟨("[" : Str) ++ Str.join ("," : Str) zs ++ ("]" : Str), ?_, by rw [Str.length_append, Str.length_append]; omega⟩
        simp [gSeq, gIfS, gBl, gOp, gVar, gC, EM.bind, EM.pure, EM.lift, op2, op1, gUn, view, moAt, Slot.mo?, Mo.view, fIx, fII, gAsg, gCall, M.gCons, M.gNil, consM, opL, views, aliveR, gdTup, gdCons, gdSub, gdNil, Tg.bind, Tg.binds, setV, putMo, gRet, gPass, M.gSet, setM, storeR, gFz, gFrz, M.gLst, M.gTup, valsR, gSl, slM, gPt, gNoP, fSl, gAnd, gOr, gNot, gTru, truM, tru, gAndV, gOrV, gNotV, stays, gIf, gDrop, gRcv, isL, gApp, gMeth, methM, tyD, gFn, callM, argsOf, argOf, brws, nodupN, putBack, Ret.res, gFnK, allVal, Perm.swap, Perm.id, swapL, gChain, gChain3, blM, gRaise, fAdd, fSub, fLt, fInt, fLen, fDivmod, fMod, fFdiv, fMax2, fIsi, isB, gPar, fEq, fNe, eqM, eqS, keyD, gItems, itemsM, tupItems, lstItems, gFor, gEnum, gRange1, sizeLine, noE, atI, ixN] at e
        simp [gSeq, gIfS, gBl, gOp, gVar, gC, EM.bind, EM.pure, EM.lift, op2, op1, gUn, view, moAt, Slot.mo?, Mo.view, fIx, fII, gAsg, gCall, M.gCons, M.gNil, consM, opL, views, aliveR, gdTup, gdCons, gdSub, gdNil, Tg.bind, Tg.binds, setV, putMo, gRet, gPass, M.gSet, setM, storeR, gFz, gFrz, M.gLst, M.gTup, valsR, gSl, slM, gPt, gNoP, fSl, gAnd, gOr, gNot, gTru, truM, tru, gAndV, gOrV, gNotV, stays, gIf, gDrop, gRcv, isL, gApp, gMeth, methM, tyD, gFn, callM, argsOf, argOf, brws, nodupN, putBack, Ret.res, gFnK, allVal, Perm.swap, Perm.id, swapL, gChain, gChain3, blM, gRaise, fAdd, fSub, fLt, fInt, fLen, fDivmod, fMod, fFdiv, fMax2, fIsi, isB, gPar, fEq, fNe, eqM, eqS, keyD, gItems, itemsM, tupItems, lstItems, gFor, gEnum, gRange1, sizeLine, noE, atI, ixN, gLc, tgIn, Tg.slots, noPars, e, fJoin, seqOf, strsD_map, TL.join_eq, j3, j6, j7]
theorem same_ok (c : Ads) {d : D} (h : DB 3 d) : m__law_same c [.val d, .val d] = some (.ok (.val (.bl true)) [.val d, .val d]) := by
  obtain ⟨z, e, _⟩ := plain_db c 3 8 d h (by decide) (by decide)
  unfold m__law_same b__law_same runM
  simp [gSeq, gIfS, gBl, gOp, gVar, gC, EM.bind, EM.pure, EM.lift, op2, op1, gUn, view, moAt, Slot.mo?, Mo.view, fIx, fII, gAsg, gCall, M.gCons, M.gNil, consM, opL, views, aliveR, gdTup, gdCons, gdSub, gdNil, Tg.bind, Tg.binds, setV, putMo, gRet, gPass, M.gSet, setM, storeR, gFz, gFrz, M.gLst, M.gTup, valsR, gSl, slM, gPt, gNoP, fSl, gAnd, gOr, gNot, gTru, truM, tru, gAndV, gOrV, gNotV, stays, gIf, gDrop, gRcv, isL, gApp, gMeth, methM, tyD, gFn, callM, argsOf, argOf, brws, nodupN, putBack, Ret.res, gFnK, allVal, Perm.swap, Perm.id, swapL, gChain, gChain3, blM, gRaise, fAdd, fSub, fLt, fInt, fLen, fDivmod, fMod, fFdiv, fMax2, fIsi, isB, gPar, fEq, fNe, eqM, eqS, keyD, gItems, itemsM, tupItems, lstItems, gFor, gEnum, gRange1, sizeLine, noE, atI, ixN, e]
end My

namespace My
open PySem PySem.Spec PyProof.Rows L2 M
theorem su_patches (c : Ads) (hd : c.InvalidText ≠ c.InvalidPatches) (k : D) : ∃ ρ, su__law_heard c [.un, .exc (.ref c.InvalidPatches) [("index", k)], .un, .un] = some (.ok (.rt (.val (.tup [.str "patches", k]))) ρ) := by
  have n1 : (("text" : Str) = ("patches" : Str)) = False := by decide
  have n2 : (("patches" : Str) = ("text" : Str)) = False := by decide
  refine ⟨[.un, .exc (.ref c.InvalidPatches) [("index", k)], .own (.l [.bl false, .bl true]), .val (.str "patches")], ?_⟩
  unfold su__law_heard
  simp [gSeq, gIfS, gBl, gOp, gVar, gC, EM.bind, EM.pure, EM.lift, op2, op1, gUn, view, moAt, Slot.mo?, Mo.view, fIx, fII, gAsg, gCall, M.gCons, M.gNil, consM, opL, views, aliveR, gdTup, gdCons, gdSub, gdNil, Tg.bind, Tg.binds, setV, putMo, gRet, gPass, M.gSet, setM, storeR, gFz, gFrz, M.gLst, M.gTup, valsR, gSl, slM, gPt, gNoP, fSl, gAnd, gOr, gNot, gTru, truM, tru, gAndV, gOrV, gNotV, stays, gIf, gDrop, gRcv, isL, gApp, gMeth, methM, tyD, gFn, callM, argsOf, argOf, brws, nodupN, putBack, Ret.res, gFnK, allVal, Perm.swap, Perm.id, swapL, gChain, gChain3, blM, gRaise, fAdd, fSub, fLt, fInt, fLen, fDivmod, fMod, fFdiv, fMax2, fIsi, isB, gPar, fEq, fNe, eqM, eqS, keyD, gItems, itemsM, tupItems, lstItems, gFor, gEnum, gRange1, sizeLine, noE, atI, ixN, gIsX, I_InvalidText, I_InvalidPatches, tabM, hd, hd.symm, fCount, fIndex, lstOf, scalD, eqF, gXf, P_written, P_index, isR, fIn, seqOf, List.countP_cons, List.findIdx_cons, List.lookup, n1, n2]
theorem su_text (c : Ads) (hd : c.InvalidText ≠ c.InvalidPatches) (k : D) : ∃ ρ, su__law_heard c [.un, .exc (.ref c.InvalidText) [("written", k)], .un, .un] = some (.ok (.rt (.val (.tup [.str "text", k]))) ρ) := by
  have n1 : (("text" : Str) = ("patches" : Str)) = False := by decide
  have n2 : (("patches" : Str) = ("text" : Str)) = False := by decide
  refine ⟨[.un, .exc (.ref c.InvalidText) [("written", k)], .own (.l [.bl true, .bl false]), .val (.str "text")], ?_⟩
  unfold su__law_heard
  simp [gSeq, gIfS, gBl, gOp, gVar, gC, EM.bind, EM.pure, EM.lift, op2, op1, gUn, view, moAt, Slot.mo?, Mo.view, fIx, fII, gAsg, gCall, M.gCons, M.gNil, consM, opL, views, aliveR, gdTup, gdCons, gdSub, gdNil, Tg.bind, Tg.binds, setV, putMo, gRet, gPass, M.gSet, setM, storeR, gFz, gFrz, M.gLst, M.gTup, valsR, gSl, slM, gPt, gNoP, fSl, gAnd, gOr, gNot, gTru, truM, tru, gAndV, gOrV, gNotV, stays, gIf, gDrop, gRcv, isL, gApp, gMeth, methM, tyD, gFn, callM, argsOf, argOf, brws, nodupN, putBack, Ret.res, gFnK, allVal, Perm.swap, Perm.id, swapL, gChain, gChain3, blM, gRaise, fAdd, fSub, fLt, fInt, fLen, fDivmod, fMod, fFdiv, fMax2, fIsi, isB, gPar, fEq, fNe, eqM, eqS, keyD, gItems, itemsM, tupItems, lstItems, gFor, gEnum, gRange1, sizeLine, noE, atI, ixN, gIsX, I_InvalidText, I_InvalidPatches, tabM, hd, hd.symm, fCount, fIndex, lstOf, scalD, eqF, gXf, P_written, P_index, isR, fIn, seqOf, List.countP_cons, List.findIdx_cons, List.lookup, n1, n2]
theorem heard_ok (c : Ads) {ge : EM Res} {ρ ρ' : En} {d : D} (hn : noE ρ = true) (e : ge ρ = some (.ok (.val d) ρ')) : gHeard 4 "told" (mt__law_heard c) (su__law_heard c) ge ρ = some (.ok (.val (.tup [.str "told", d])) ρ') := by
  unfold gHeard
  rw [if_pos hn, e]
theorem heard_patches (c : Ads) (hd : c.InvalidText ≠ c.InvalidPatches) {ge : EM Res} {ρ ρ' : En} {k : D} (hn : noE ρ = true) (e : ge ρ = some (.ex (.ref c.InvalidPatches) [("index", k)] ρ')) : gHeard 4 "told" (mt__law_heard c) (su__law_heard c) ge ρ = some (.ok (.val (.tup [.str "patches", k])) ρ') := by
  obtain ⟨q, hq⟩ := su_patches c hd k
  unfold gHeard
  rw [if_pos hn, e]
  have : mt__law_heard c (.ref c.InvalidPatches) = some true := by simp [mt__law_heard, tabM, hd, hd.symm]
  dsimp only
  rw [this]
  dsimp only
  have hq' : su__law_heard c (.un :: .exc (.ref c.InvalidPatches) [("index", k)] :: List.replicate (4 - 2) .un) = _ := hq
  rw [hq']
theorem heard_text (c : Ads) (hd : c.InvalidText ≠ c.InvalidPatches) {ge : EM Res} {ρ ρ' : En} {k : D} (hn : noE ρ = true) (e : ge ρ = some (.ex (.ref c.InvalidText) [("written", k)] ρ')) : gHeard 4 "told" (mt__law_heard c) (su__law_heard c) ge ρ = some (.ok (.val (.tup [.str "text", k])) ρ') := by
  obtain ⟨q, hq⟩ := su_text c hd k
  unfold gHeard
  rw [if_pos hn, e]
  have : mt__law_heard c (.ref c.InvalidText) = some true := by simp [mt__law_heard, tabM]
  dsimp only
  rw [this]
  dsimp only
  have hq' : su__law_heard c (.un :: .exc (.ref c.InvalidText) [("written", k)] :: List.replicate (4 - 2) .un) = _ := hq
  rw [hq']
end My

namespace My
open PySem PySem.Spec PyProof.Rows L2 M
def Nw (x : Str) : Prop := SB 10 x ∧ PyData.strOk x = true
def Chain (m : Int) : Int → List Ptc → Prop
  | _, [] => True
  | l, t :: ts => l ≤ t.1 ∧ t.1 ≤ t.2.1 ∧ t.2.1 ≤ m ∧ (t.1 < t.2.1 ∨ t.2.2 ≠ ("" : Str)) ∧ Chain m t.2.1 ts
theorem okItem_ptc {l m : Int} {t : Ptc} (h1 : l ≤ t.1) (h2 : t.1 ≤ t.2.1) (h3 : t.2.1 ≤ m) (h4 : t.1 < t.2.1 ∨ t.2.2 ≠ ("" : Str)) : okItem l m (ptc t) = some t := by
  unfold ptc okItem
  dsimp only
  rw [if_pos ⟨h1, h2, h3, h4⟩]
theorem chain_scan {m : Int} : ∀ {ts : List Ptc} {i : Nat} {l : Int}, Chain m l ts → scan m i l (ts.map ptc) = .inr ts
  | [], _, _, _ => rfl
  | t :: ts, i, l, h => by
    unfold Chain at h
    rw [List.map_cons]
    unfold scan
    rw [okItem_ptc h.1 h.2.1 h.2.2.1 h.2.2.2.1]
    dsimp only
    rw [chain_scan h.2.2.2.2]
theorem chain_snoc {m : Int} {t : Ptc} : ∀ {ts : List Ptc} {l : Int}, Chain m l ts → lastE l ts ≤ t.1 → t.1 ≤ t.2.1 → t.2.1 ≤ m → (t.1 < t.2.1 ∨ t.2.2 ≠ ("" : Str)) → Chain m l (ts ++ [t]) ∧ lastE l (ts ++ [t]) = t.2.1
  | [], l, _, h1, h2, h3, h4 => ⟨⟨h1, h2, h3, h4, trivial⟩, rfl⟩
  | u :: ts, l, h, h1, h2, h3, h4 => by
    obtain ⟨c1, c2⟩ := chain_snoc h.2.2.2.2 h1 h2 h3 h4
    exact ⟨⟨h.1, h.2.1, h.2.2.1, h.2.2.2.1, c1⟩, c2⟩
def sm1 : List D := [.int 0, .int 0, .int 1, .int 2, .int 5]
def sm2 : List D := [.int 0, .int 0, .int 1, .int 3]
def sm3 : List D := [.str "x", .str "<b>", .str "", .str "yy", .str "\n"]
theorem sb_of {n : Nat} {x : Str} (h : x.length ≤ n) (g : (x.cps.toList.all fun c => decide (c < 16 ^ 8)) = true) : SB n x := ⟨h, fun c hc => of_decide_eq_true (List.all_eq_true.mp g c hc)⟩
theorem nw3 {x : D} (h : x ∈ sm3) : ∃ z : Str, x = .str z ∧ Nw z ∧ Nw (z ++ ("z" : Str)) ∧ (z ++ ("z" : Str) = ("" : Str)) = False ∧ z.length + ("z" : Str).length ≤ 16777216 := by
  unfold sm3 at h
  simp only [List.mem_cons, List.not_mem_nil, or_false] at h
  rcases h with rfl | rfl | rfl | rfl | rfl <;> exact ⟨_, rfl, ⟨sb_of (by decide) (by decide), by decide +kernel⟩, ⟨sb_of (by decide) (by decide), by decide +kernel⟩, by decide, by decide⟩
def soBody (c : Ads) : EM Fl := (gSeq (gSet 5 (gOp fAdd (gVar 3) (gFn 2 (m__law_pick c) (gCons (gVar 0) (gCons (gFrz (gLst (gCons (gC (.int 0)) (gCons (gC (.int 0)) (gCons (gC (.int 1)) (gCons (gC (.int 2)) (gCons (gC (.int 5)) gNil))))))) gNil)))))
    (gSeq (gSet 6 (gOp fAdd (gVar 5) (gFn 2 (m__law_pick c) (gCons (gVar 0) (gCons (gFrz (gLst (gCons (gC (.int 0)) (gCons (gC (.int 0)) (gCons (gC (.int 1)) (gCons (gC (.int 3)) gNil)))))) gNil)))))
    (gIfS (gBl (gOp fLe (gVar 6) (gCall fLen (gCons (gVar 1) gNil))))
    (gSeq (gSet 7 (gFn 2 (m__law_pick c) (gCons (gVar 0) (gCons (gFrz (gLst (gCons (gC (.str "x")) (gCons (gC (.str "<b>")) (gCons (gC (.str "")) (gCons (gC (.str "yy")) (gCons (gC (.str "\n")) gNil))))))) gNil))))
    (gPar 2 3 (gCons (gOp fAdd (gVar 2) (gTup (gCons (gTup (gCons (gFz 5) (gCons (gFz 6) (gCons (gIf (gBl (gOp fLt (gVar 5) (gVar 6))) (gFz 7) (gFrz (gOp fAdd (gVar 7) (gC (.str "z"))))) gNil)))) gNil))) (gCons (gVar 6) gNil))))
    gPass)))
def SoI (n : Nat) (text : Str) (j : Nat) (ρ : En) : Prop := ∃ m ts at' s4 s5 s6 s7, ρ = [.par m, .val (.str text), .val (.tup (ts.map ptc)), .val (.int at'), s4, s5, s6, s7] ∧ WOk (n + 3 * j) m ∧
  ts.length ≤ j ∧ Chain text.length 0 ts ∧ lastE 0 ts ≤ at' ∧ at' ≤ text.length ∧ 0 ≤ at' ∧ (∀ t ∈ ts, Nw t.2.2) ∧ Vn s4 ∧ Vn s5 ∧ Vn s6 ∧ Vn s7
theorem so_step (c : Ads) {n : Nat} {text : Str} (ht : SB 64 text) (hn : n ≤ 50000) {j : Nat} {ρ : En} {d : D} (hj : j ≤ 100) (h : SoI n text j ρ) : ∃ ρ1 ρ2, Tg.bind (.nm 4) d ρ = some ρ1 ∧ (soBody c ρ1 = some (.ok .nx ρ2) ∨ soBody c ρ1 = some (.ok .ct ρ2)) ∧ SoI n text (j + 1) ρ2 := by
  obtain ⟨m, ts, at', s4, s5, s6, s7, rfl, w, hl, ch, le1, le2, le3, nw, h4, h5, h6, h7⟩ := h
  obtain ⟨x1, m1, e1, i1, w1⟩ := pick_ok c (ds := sm1) w (by omega) (by simp [sm1]) (by simp [sm1])
  obtain ⟨x2, m2, e2, i2, w2⟩ := pick_ok c (ds := sm2) w1 (by omega) (by simp [sm2]) (by simp [sm2])
  obtain ⟨x3, m3, e3, i3, w3⟩ := pick_ok c (ds := sm3) w2 (by omega) (by simp [sm3]) (by simp [sm3])
  obtain ⟨v1, rfl, b1⟩ : ∃ v : Int, x1 = .int v ∧ 0 ≤ v := by
    unfold sm1 at i1
    simp only [List.mem_cons, List.not_mem_nil, or_false] at i1
    rcases i1 with rfl | rfl | rfl | rfl | rfl <;> exact ⟨_, rfl, by decide⟩
  obtain ⟨v2, rfl, b2⟩ : ∃ v : Int, x2 = .int v ∧ 0 ≤ v := by
    unfold sm2 at i2
    simp only [List.mem_cons, List.not_mem_nil, or_false] at i2
    rcases i2 with rfl | rfl | rfl | rfl <;> exact ⟨_, rfl, by decide⟩
  obtain ⟨z, rfl, n1, n2, n3, n4⟩ := nw3 i3
  have g0 : text.length ≤ 16777216 := by have := ht.1; omega
  unfold sm1 at e1
  unfold sm2 at e2
  unfold sm3 at e3
  have bnd : Tg.bind (.nm 4) d [.par m, .val (.str text), .val (.tup (ts.map ptc)), .val (.int at'), s4, s5, s6, s7] = some [.par m, .val (.str text), .val (.tup (ts.map ptc)), .val (.int at'), .val d, s5, s6, s7] := by
    rcases h4 with rfl | ⟨_, rfl⟩ <;> simp [gSeq, gIfS, gBl, gOp, gVar, gC, EM.bind, EM.pure, EM.lift, op2, op1, gUn, view, moAt, Slot.mo?, Mo.view, fIx, fII, gAsg, gCall, M.gCons, M.gNil, consM, opL, views, aliveR, gdTup, gdCons, gdSub, gdNil, Tg.bind, Tg.binds, setV, putMo, gRet, gPass, M.gSet, setM, storeR, gFz, gFrz, M.gLst, M.gTup, valsR, gSl, slM, gPt, gNoP, fSl, gAnd, gOr, gNot, gTru, truM, tru, gAndV, gOrV, gNotV, stays, gIf, gDrop, gRcv, isL, gApp, gMeth, methM, tyD, gFn, callM, argsOf, argOf, brws, nodupN, putBack, Ret.res, gFnK, allVal, Perm.swap, Perm.id, swapL, gChain, gChain3, blM, gRaise, fAdd, fSub, fLt, fInt, fLen, fDivmod, fMod, fFdiv, fMax2, fIsi, isB, gPar, fEq, fNe, eqM, eqS, keyD, gItems, itemsM, tupItems, lstItems, gFor, gEnum, gRange1, sizeLine, noE, atI, ixN]
  by_cases hc : at' + v1 + v2 ≤ text.length
  · have g1 : ts.length + 1 ≤ 16777216 := by omega
    by_cases hs : at' + v1 < at' + v1 + v2
    · refine ⟨_, [.par m3, .val (.str text), .val (.tup ((ts ++ [(at' + v1, at' + v1 + v2, z)]).map ptc)), .val (.int (at' + v1 + v2)), .val d, .val (.int (at' + v1)), .val (.int (at' + v1 + v2)), .val (.str z)], bnd, .inl ?_, ?_⟩
      · unfold soBody
        rcases h5 with rfl | ⟨_, rfl⟩ <;> rcases h6 with rfl | ⟨_, rfl⟩ <;> rcases h7 with rfl | ⟨_, rfl⟩ <;> simp [gSeq, gIfS, gBl, gOp, gVar, gC, EM.bind, EM.pure, EM.lift, op2, op1, gUn, view, moAt, Slot.mo?, Mo.view, fIx, fII, gAsg, gCall, M.gCons, M.gNil, consM, opL, views, aliveR, gdTup, gdCons, gdSub, gdNil, Tg.bind, Tg.binds, setV, putMo, gRet, gPass, M.gSet, setM, storeR, gFz, gFrz, M.gLst, M.gTup, valsR, gSl, slM, gPt, gNoP, fSl, gAnd, gOr, gNot, gTru, truM, tru, gAndV, gOrV, gNotV, stays, gIf, gDrop, gRcv, isL, gApp, gMeth, methM, tyD, gFn, callM, argsOf, argOf, brws, nodupN, putBack, Ret.res, gFnK, allVal, Perm.swap, Perm.id, swapL, gChain, gChain3, blM, gRaise, fAdd, fSub, fLt, fInt, fLen, fDivmod, fMod, fFdiv, fMax2, fIsi, isB, gPar, fEq, fNe, eqM, eqS, keyD, gItems, itemsM, tupItems, lstItems, gFor, gEnum, gRange1, sizeLine, noE, atI, ixN, e1, e2, e3, g0, hc, hs, g1, ptc]
      · obtain ⟨c1, c2⟩ := chain_snoc (t := (at' + v1, at' + v1 + v2, z)) ch (by show lastE 0 ts ≤ at' + v1; omega) (by show at' + v1 ≤ at' + v1 + v2; omega) hc (.inl hs)
        exact ⟨m3, _, _, _, _, _, _, rfl, w3.mono (by omega), by simp; omega, c1, by rw [c2]; exact Int.le_refl _, hc, by omega, fun t ht => by
          rcases List.mem_append.mp ht with ht | ht
          · exact nw t ht
          · rw [List.mem_singleton.mp ht]; exact n1, .inr ⟨_, rfl⟩, .inr ⟨_, rfl⟩, .inr ⟨_, rfl⟩, .inr ⟨_, rfl⟩⟩
    · refine ⟨_, [.par m3, .val (.str text), .val (.tup ((ts ++ [(at' + v1, at' + v1 + v2, z ++ ("z" : Str))]).map ptc)), .val (.int (at' + v1 + v2)), .val d, .val (.int (at' + v1)), .val (.int (at' + v1 + v2)), .val (.str z)], bnd, .inl ?_, ?_⟩
      · unfold soBody
        rcases h5 with rfl | ⟨_, rfl⟩ <;> rcases h6 with rfl | ⟨_, rfl⟩ <;> rcases h7 with rfl | ⟨_, rfl⟩ <;> simp [gSeq, gIfS, gBl, gOp, gVar, gC, EM.bind, EM.pure, EM.lift, op2, op1, gUn, view, moAt, Slot.mo?, Mo.view, fIx, fII, gAsg, gCall, M.gCons, M.gNil, consM, opL, views, aliveR, gdTup, gdCons, gdSub, gdNil, Tg.bind, Tg.binds, setV, putMo, gRet, gPass, M.gSet, setM, storeR, gFz, gFrz, M.gLst, M.gTup, valsR, gSl, slM, gPt, gNoP, fSl, gAnd, gOr, gNot, gTru, truM, tru, gAndV, gOrV, gNotV, stays, gIf, gDrop, gRcv, isL, gApp, gMeth, methM, tyD, gFn, callM, argsOf, argOf, brws, nodupN, putBack, Ret.res, gFnK, allVal, Perm.swap, Perm.id, swapL, gChain, gChain3, blM, gRaise, fAdd, fSub, fLt, fInt, fLen, fDivmod, fMod, fFdiv, fMax2, fIsi, isB, gPar, fEq, fNe, eqM, eqS, keyD, gItems, itemsM, tupItems, lstItems, gFor, gEnum, gRange1, sizeLine, noE, atI, ixN, e1, e2, e3, g0, hc, hs, g1, n4, ptc]
      · obtain ⟨c1, c2⟩ := chain_snoc (t := (at' + v1, at' + v1 + v2, z ++ ("z" : Str))) ch (by show lastE 0 ts ≤ at' + v1; omega) (by show at' + v1 ≤ at' + v1 + v2; omega) hc (.inr (by show z ++ ("z" : Str) ≠ ("" : Str); intro q; rw [n3] at q; exact q))
        exact ⟨m3, _, _, _, _, _, _, rfl, w3.mono (by omega), by simp; omega, c1, by rw [c2]; exact Int.le_refl _, hc, by omega, fun t ht => by
          rcases List.mem_append.mp ht with ht | ht
          · exact nw t ht
          · rw [List.mem_singleton.mp ht]; exact n2, .inr ⟨_, rfl⟩, .inr ⟨_, rfl⟩, .inr ⟨_, rfl⟩, .inr ⟨_, rfl⟩⟩
  · refine ⟨_, [.par m2, .val (.str text), .val (.tup (ts.map ptc)), .val (.int at'), .val d, .val (.int (at' + v1)), .val (.int (at' + v1 + v2)), s7], bnd, .inl ?_, ?_⟩
    · unfold soBody
      rcases h5 with rfl | ⟨_, rfl⟩ <;> rcases h6 with rfl | ⟨_, rfl⟩ <;> rcases h7 with rfl | ⟨_, rfl⟩ <;> simp [gSeq, gIfS, gBl, gOp, gVar, gC, EM.bind, EM.pure, EM.lift, op2, op1, gUn, view, moAt, Slot.mo?, Mo.view, fIx, fII, gAsg, gCall, M.gCons, M.gNil, consM, opL, views, aliveR, gdTup, gdCons, gdSub, gdNil, Tg.bind, Tg.binds, setV, putMo, gRet, gPass, M.gSet, setM, storeR, gFz, gFrz, M.gLst, M.gTup, valsR, gSl, slM, gPt, gNoP, fSl, gAnd, gOr, gNot, gTru, truM, tru, gAndV, gOrV, gNotV, stays, gIf, gDrop, gRcv, isL, gApp, gMeth, methM, tyD, gFn, callM, argsOf, argOf, brws, nodupN, putBack, Ret.res, gFnK, allVal, Perm.swap, Perm.id, swapL, gChain, gChain3, blM, gRaise, fAdd, fSub, fLt, fInt, fLen, fDivmod, fMod, fFdiv, fMax2, fIsi, isB, gPar, fEq, fNe, eqM, eqS, keyD, gItems, itemsM, tupItems, lstItems, gFor, gEnum, gRange1, sizeLine, noE, atI, ixN, e1, e2, g0, hc]
    · exact ⟨m2, ts, at', _, _, _, s7, rfl, w2.mono (by omega), by omega, ch, le1, le2, le3, nw, .inr ⟨_, rfl⟩, .inr ⟨_, rfl⟩, .inr ⟨_, rfl⟩, h7⟩
theorem some_ok (c : Ads) {n : Nat} {m : Mo} {text : Str} (ht : SB 64 text) (w : WOk n m) (hn : n ≤ 40000) : ∃ m' ts, m__law_some c [.par m, .val (.str text)] = some (.ok (.val (.tup (ts.map ptc))) [.par m', .val (.str text)]) ∧ WOk (n + 19) m' ∧ ts.length ≤ 6 ∧ Chain text.length 0 ts ∧ ∀ t ∈ ts, Nw t.2.2 := by
  obtain ⟨v, m1, e1, v0, v1, w1⟩ := take_ok c (many := 7) w (by omega) (by decide) (by decide)
  have hlen : ((List.range v.toNat).map fun (i : Nat) => D.int (i : Int)).length ≤ 6 := by simp; omega
  obtain ⟨ρ', e2, m', ts, at', s4, s5, s6, s7, rfl, w2, hl, ch, _, _, _, nw, _, _, _, _⟩ := loopF_inv (t := .nm 4) (body := soBody c) (SoI (n + 1) text) ((List.range v.toNat).map fun (i : Nat) => D.int (i : Int)) 0
    [.par m1, .val (.str text), .val (.tup []), .val (.int 0), .un, .un, .un, .un] (fun j ρ d _ hj hI => so_step c ht (by omega) (by omega) hI)
    ⟨m1, [], 0, .un, .un, .un, .un, rfl, w1, Nat.le_refl _, trivial, Int.le_refl _, by omega, Int.le_refl _, fun t ht => absurd ht List.not_mem_nil, .inl rfl, .inl rfl, .inl rfl, .inl rfl⟩
  have hb : b__law_some c = gSeq (gAsg (Tg.bind (.tp [(.nm 2), (.nm 3)])) (M.gTup (M.gCons (M.gTup M.gNil) (M.gCons (gC (.int 0)) M.gNil))))
    (gSeq (gFor (gRange1 (M.gCons (gFn 2 (m__law_take c) (M.gCons (gVar 0) (M.gCons (gC (.int 7)) M.gNil))) M.gNil)) (.nm 4) (soBody c)) (gRet (gVar 2))) := rfl
  refine ⟨m', ts, ?_, w2.mono (by omega), by omega, ch, nw⟩
  have r1 : -4611686018427387904 ≤ v := by omega
  have r2 : v < 4611686018427387904 := by omega
  unfold m__law_some runM
  rw [hb]
  simp [gSeq, gIfS, gBl, gOp, gVar, gC, EM.bind, EM.pure, EM.lift, op2, op1, gUn, view, moAt, Slot.mo?, Mo.view, fIx, fII, gAsg, gCall, M.gCons, M.gNil, consM, opL, views, aliveR, gdTup, gdCons, gdSub, gdNil, Tg.bind, Tg.binds, setV, putMo, gRet, gPass, M.gSet, setM, storeR, gFz, gFrz, M.gLst, M.gTup, valsR, gSl, slM, gPt, gNoP, fSl, gAnd, gOr, gNot, gTru, truM, tru, gAndV, gOrV, gNotV, stays, gIf, gDrop, gRcv, isL, gApp, gMeth, methM, tyD, gFn, callM, argsOf, argOf, brws, nodupN, putBack, Ret.res, gFnK, allVal, Perm.swap, Perm.id, swapL, gChain, gChain3, blM, gRaise, fAdd, fSub, fLt, fInt, fLen, fDivmod, fMod, fFdiv, fMax2, fIsi, isB, gPar, fEq, fNe, eqM, eqS, keyD, gItems, itemsM, tupItems, lstItems, gFor, gEnum, gRange1, sizeLine, noE, atI, ixN, e1, r1, r2, e2]
end My

namespace My
open PySem PySem.Spec PyProof.Rows L2 M
def be_0 (c : Ads) : EM Fl := (gSet 3 (gFn 2 (m__law_take c) (gCons (gVar 0) (gCons (gCall fMax2 (gCons (gC (.int 1)) (gCons (gCall fLen (gCons (gVar 2) gNil)) gNil))) gNil))))
def be_1 (c : Ads) : EM Fl := (gSet 4 (gIf (gBl (gOp fNe (gVar 2) (gTup gNil))) (gOp fIx (gVar 2) (gVar 3)) (gTup (gCons (gC (.int 0)) (gCons (gC (.int 0)) (gCons (gC (.str "a")) gNil))))))
def be_2 (c : Ads) : EM Fl := (gSet 5 (gLst (gCons (gC .non) (gCons (gFrz (gCall fList (gCons (gVar 4) gNil))) (gCons (gFrz (gSl (gVar 4) gNoP (gPt (gC (.int 2))))) (gCons (gFrz (gOp fAdd (gVar 4) (gTup (gCons (gC (.str "")) gNil)))) (gCons (gTup (gCons (gOp fIx (gVar 4) (gC (.int 1))) (gCons (gOp fIx (gVar 4) (gC (.int 0))) (gCons (gOp fIx (gVar 4) (gC (.int 2))) gNil)))) (gCons (gTup (gCons (gOp fIx (gVar 4) (gC (.int 0))) (gCons (gOp fIx (gVar 4) (gC (.int 0))) (gCons (gC (.str "")) gNil)))) (gCons (gTup (gCons (gFrz (gOp fSub (gOp fIx (gVar 4) (gC (.int 0))) (gC (.int 1)))) (gCons (gOp fIx (gVar 4) (gC (.int 1))) (gCons (gOp fIx (gVar 4) (gC (.int 2))) gNil)))) gNil)))))))))
def be_3 (c : Ads) : EM Fl := (gSet 6 (gFn 2 (m__law_pick c) (gCons (gVar 0) (gCons (gFrz (gOp fAdd (gVar 5) (gLst (gCons (gTup (gCons (gOp fIx (gVar 4) (gC (.int 0))) (gCons (gFrz (gOp fAdd (gCall fLen (gCons (gVar 1) gNil)) (gC (.int 1)))) (gCons (gC (.str "a")) gNil)))) (gCons (gTup (gCons (gC (.bl true)) (gCons (gOp fIx (gVar 4) (gC (.int 1))) (gCons (gC (.str "a")) gNil)))) (gCons (gTup (gCons (gOp fIx (gVar 4) (gC (.int 0))) (gCons (gOp fIx (gVar 4) (gC (.int 1))) (gCons (gC (.int 5)) gNil)))) (gCons (gTup (gCons (gC (.str "0")) (gCons (gOp fIx (gVar 4) (gC (.int 1))) (gCons (gC (.str "a")) gNil)))) (gCons (gFz 4) gNil)))))))) gNil))))
def be_4 (c : Ads) : EM Fl := (gSet 5 (gOp fAdd (gOp fMul (gLst (gCons (gFrz (gOp fAdd (gOp fAdd (gSl (gVar 2) gNoP (gPt (gVar 3))) (gTup (gCons (gFz 6) gNil))) (gSl (gVar 2) (gPt (gOp fAdd (gVar 3) (gC (.int 1)))) gNoP))) gNil)) (gC (.int 3))) (gLst (gCons (gFrz (gOp fAdd (gOp fAdd (gSl (gVar 2) gNoP (gPt (gVar 3))) (gTup (gCons (gFz 6) gNil))) (gSl (gVar 2) (gPt (gVar 3)) gNoP))) (gCons (gUn fRev (gVar 2)) (gCons (gFrz (gOp fAdd (gVar 2) (gSl (gVar 2) (gPt (gUn fNeg (gC (.int 1)))) gNoP))) (gCons (gFrz (gCall fList (gCons (gVar 2) gNil))) (gCons (gC .non) (gCons (gTup (gCons (gFz 4) (gCons (gFz 4) gNil))) gNil)))))))))
def be_5 (c : Ads) : EM Fl := (gRet (gFn 2 (m__law_pick c) (gCons (gVar 0) (gCons (gFz 5) gNil))))
theorem be_eq (c : Ads) : b__law_bent c = (gSeq (be_0 c) (gSeq (be_1 c) (gSeq (be_2 c) (gSeq (be_3 c) (gSeq (be_4 c) (be_5 c)))))) := rfl
theorem seq_nx {g1 g2 : EM Fl} {ρ ρ' : En} (e : g1 ρ = some (.ok .nx ρ')) : gSeq g1 g2 ρ = g2 ρ' := by unfold gSeq; rw [e]
/-! ### patches != () -/
def pp (t : Ptc) : PyData := .tuple [.int t.1, .int t.2.1, .str t.2.2]
theorem pds_ptc : ∀ ts : List Ptc, pds (ts.map ptc) = some (ts.map pp)
  | [] => rfl
  | t :: ts => by
    show (pd (ptc t)).bind (fun x => (pds (ts.map ptc)).map (x :: ·)) = _
    rw [pds_ptc ts]; rfl
theorem can_pp : ∀ {ts : List Ptc}, (∀ t ∈ ts, Nw t.2.2) → PyData.canLayAll0 (ts.map pp) = true ∧ PyData.depthAll (ts.map pp) ≤ 1
  | [], _ => ⟨by simp [PyData.canLayAll0], by simp [PyData.depthAll]⟩
  | t :: ts, h => by
    obtain ⟨h1, h2⟩ := can_pp (ts := ts) fun t ht => h t (List.mem_cons_of_mem _ ht)
    have h3 := (h t List.mem_cons_self).2
    exact ⟨by simp [PyData.canLayAll0, PyData.canLay0, pp, h1, h3], by simp [PyData.depthAll, PyData.depth, pp]; exact Nat.max_le.mpr ⟨Nat.le_refl _, h2⟩⟩
theorem ne_nil {ts : List Ptc} (h : ∀ t ∈ ts, Nw t.2.2) : fNe (.tup (ts.map ptc)) (.tup []) = some (.val (.bl (!ts.isEmpty))) := by
  obtain ⟨h1, h2⟩ := can_pp h
  unfold fNe eqM eqS
  dsimp only
  unfold pd
  rw [pds_ptc]
  unfold pds
  have s1 : SeqAt.shaped (.tuple (ts.map pp)) = true := by
    unfold SeqAt.shaped
    simp [PyData.canLay0, PyData.depth, h1]; omega
  have s2 : SeqAt.shaped (.tuple []) = true := by decide +kernel
  simp [s1, s2]
  cases ts <;> simp [PyData.eqv, PyData.eqvAll]
/-! ### bent patches -/
def Gd (d : D) : Prop := plain2 d = true ∧ ∀ t, d = ptc t → SB 10 t.2.2
theorem gd_ptc {t : Ptc} (h : SB 10 t.2.2) : Gd (ptc t) := ⟨rfl, fun u e => by
  unfold ptc at e
  simp at e
  rw [← e.2.2]; exact h⟩
def GP (p : D) : Prop := plain3 p = true ∧ SmP p
theorem gp_tup {ds : List D} (h : ∀ d ∈ ds, Gd d) (hl : ds.length ≤ 20) : GP (.tup ds) :=
  ⟨by unfold plain3; exact List.all_eq_true.mpr fun d hd => (h d hd).1, fun es e => by cases e; exact ⟨hl, fun d hd t e => (h d hd).2 t e⟩⟩
theorem cut_mem {ds : List D} {lo hi : Option Int} {d : D} (h : d ∈ cutD ds lo hi) : d ∈ ds := List.mem_of_mem_drop (List.mem_of_mem_take h)
theorem cut_len {ds : List D} {lo hi : Option Int} : (cutD ds lo hi).length ≤ ds.length := by
  unfold M.cutD
  rw [List.length_take, List.length_drop]; omega
theorem be01 (c : Ads) {n : Nat} {m : Mo} {text : Str} {ts : List Ptc} (w : WOk n m) (hn : n ≤ 90000) (hl : ts.length ≤ 6) (h : ∀ t ∈ ts, Nw t.2.2) : ∃ (m1 : Mo) (k : Int) (t0 : Ptc), WOk (n + 1) m1 ∧ 0 ≤ k ∧ k ≤ 6 ∧ Nw t0.2.2 ∧
    be_0 c [.par m, .val (.str text), .val (.tup (ts.map ptc)), .un, .un, .un, .un] = some (.ok .nx [.par m1, .val (.str text), .val (.tup (ts.map ptc)), .val (.int k), .un, .un, .un]) ∧
    be_1 c [.par m1, .val (.str text), .val (.tup (ts.map ptc)), .val (.int k), .un, .un, .un] = some (.ok .nx [.par m1, .val (.str text), .val (.tup (ts.map ptc)), .val (.int k), .val (ptc t0), .un, .un]) := by
  have hne := ne_nil h
  cases ts with
  | nil =>
    obtain ⟨v, m1, e1, v0, v1, w1⟩ := take_ok c (many := 1) w (by omega) (by decide) (by decide)
    refine ⟨m1, v, (0, 0, "a"), w1, v0, by omega, ⟨sb_of (by decide) (by decide), by decide +kernel⟩, ?_, ?_⟩
    · unfold be_0
      simp [gSeq, gIfS, gBl, gOp, gVar, gC, EM.bind, EM.pure, EM.lift, op2, op1, gUn, view, moAt, Slot.mo?, Mo.view, fIx, fII, gAsg, gCall, M.gCons, M.gNil, consM, opL, views, aliveR, gdTup, gdCons, gdSub, gdNil, Tg.bind, Tg.binds, setV, putMo, gRet, gPass, M.gSet, setM, storeR, gFz, gFrz, M.gLst, M.gTup, valsR, gSl, slM, gPt, gNoP, fSl, gAnd, gOr, gNot, gTru, truM, tru, gAndV, gOrV, gNotV, stays, gIf, gDrop, gRcv, isL, gApp, gMeth, methM, tyD, gFn, callM, argsOf, argOf, brws, nodupN, putBack, Ret.res, gFnK, allVal, Perm.swap, Perm.id, swapL, gChain, gChain3, blM, gRaise, fAdd, fSub, fLt, fInt, fLen, fDivmod, fMod, fFdiv, fMax2, fIsi, isB, gPar, fEq, fNe, eqM, eqS, keyD, gItems, itemsM, tupItems, lstItems, gFor, gEnum, gRange1, sizeLine, noE, atI, ixN, e1]
    · unfold be_1
      simp [gSeq, gIfS, gBl, gOp, gVar, gC, EM.bind, EM.pure, EM.lift, op2, op1, gUn, view, moAt, Slot.mo?, Mo.view, fIx, fII, gAsg, gCall, M.gCons, M.gNil, consM, opL, views, aliveR, gdTup, gdCons, gdSub, gdNil, Tg.bind, Tg.binds, setV, putMo, gRet, gPass, M.gSet, setM, storeR, gFz, gFrz, M.gLst, M.gTup, valsR, gSl, slM, gPt, gNoP, fSl, gAnd, gOr, gNot, gTru, truM, tru, gAndV, gOrV, gNotV, stays, gIf, gDrop, gRcv, isL, gApp, gMeth, methM, tyD, gFn, callM, argsOf, argOf, brws, nodupN, putBack, Ret.res, gFnK, allVal, Perm.swap, Perm.id, swapL, gChain, gChain3, blM, gRaise, fAdd, fSub, fLt, fInt, fLen, fDivmod, fMod, fFdiv, fMax2, fIsi, isB, gPar, fEq, fNe, eqM, eqS, keyD, gItems, itemsM, tupItems, lstItems, gFor, gEnum, gRange1, sizeLine, noE, atI, ixN, pd, pds, SeqAt.shaped, PyData.canLay0, PyData.canLayAll0, PyData.depth, PyData.depthAll, PyData.eqv, PyData.eqvAll, ptc]
  | cons t0 ts =>
    obtain ⟨v, m1, e1, v0, v1, w1⟩ := take_ok c (many := (t0 :: ts).length) w (by omega) (by rw [List.length_cons]; omega) (by rw [List.length_cons] at hl ⊢; omega)
    obtain ⟨x, a1, a2⟩ := atI_in (xs := (t0 :: ts).map ptc) v0 (by simpa using v1)
    obtain ⟨t, ht, rfl⟩ := List.mem_map.mp a2
    refine ⟨m1, v, t, w1, v0, by rw [List.length_cons] at hl; simp at v1; omega, h t ht, ?_, ?_⟩
    · unfold be_0
      rw [List.length_cons] at e1
      by_cases q : 0 < ts.length
      · have e2 : m__law_take c [.par m, .val (.int ((ts.length : Int) + 1))] = some (.ok (.val (.int v)) [.par m1, .val (.int ((ts.length : Int) + 1))]) := e1
        have q' : (1 : Int) < (ts.length : Int) + 1 := by omega
        simp [gSeq, gIfS, gBl, gOp, gVar, gC, EM.bind, EM.pure, EM.lift, op2, op1, gUn, view, moAt, Slot.mo?, Mo.view, fIx, fII, gAsg, gCall, M.gCons, M.gNil, consM, opL, views, aliveR, gdTup, gdCons, gdSub, gdNil, Tg.bind, Tg.binds, setV, putMo, gRet, gPass, M.gSet, setM, storeR, gFz, gFrz, M.gLst, M.gTup, valsR, gSl, slM, gPt, gNoP, fSl, gAnd, gOr, gNot, gTru, truM, tru, gAndV, gOrV, gNotV, stays, gIf, gDrop, gRcv, isL, gApp, gMeth, methM, tyD, gFn, callM, argsOf, argOf, brws, nodupN, putBack, Ret.res, gFnK, allVal, Perm.swap, Perm.id, swapL, gChain, gChain3, blM, gRaise, fAdd, fSub, fLt, fInt, fLen, fDivmod, fMod, fFdiv, fMax2, fIsi, isB, gPar, fEq, fNe, eqM, eqS, keyD, gItems, itemsM, tupItems, lstItems, gFor, gEnum, gRange1, sizeLine, noE, atI, ixN, q', e2]
      · have this : ts.length = 0 := by omega
        rw [this] at e1
        have e2 : m__law_take c [.par m, .val (.int 1)] = some (.ok (.val (.int v)) [.par m1, .val (.int 1)]) := e1
        simp [gSeq, gIfS, gBl, gOp, gVar, gC, EM.bind, EM.pure, EM.lift, op2, op1, gUn, view, moAt, Slot.mo?, Mo.view, fIx, fII, gAsg, gCall, M.gCons, M.gNil, consM, opL, views, aliveR, gdTup, gdCons, gdSub, gdNil, Tg.bind, Tg.binds, setV, putMo, gRet, gPass, M.gSet, setM, storeR, gFz, gFrz, M.gLst, M.gTup, valsR, gSl, slM, gPt, gNoP, fSl, gAnd, gOr, gNot, gTru, truM, tru, gAndV, gOrV, gNotV, stays, gIf, gDrop, gRcv, isL, gApp, gMeth, methM, tyD, gFn, callM, argsOf, argOf, brws, nodupN, putBack, Ret.res, gFnK, allVal, Perm.swap, Perm.id, swapL, gChain, gChain3, blM, gRaise, fAdd, fSub, fLt, fInt, fLen, fDivmod, fMod, fFdiv, fMax2, fIsi, isB, gPar, fEq, fNe, eqM, eqS, keyD, gItems, itemsM, tupItems, lstItems, gFor, gEnum, gRange1, sizeLine, noE, atI, ixN, this, e2]
    · unfold be_1
      simp at a1
      unfold fNe at hne
      simp [gSeq, gIfS, gBl, gOp, gVar, gC, EM.bind, EM.pure, EM.lift, op2, op1, gUn, view, moAt, Slot.mo?, Mo.view, fIx, fII, gAsg, gCall, M.gCons, M.gNil, consM, opL, views, aliveR, gdTup, gdCons, gdSub, gdNil, Tg.bind, Tg.binds, setV, putMo, gRet, gPass, M.gSet, setM, storeR, gFz, gFrz, M.gLst, M.gTup, valsR, gSl, slM, gPt, gNoP, fSl, gAnd, gOr, gNot, gTru, truM, tru, gAndV, gOrV, gNotV, stays, gIf, gDrop, gRcv, isL, gApp, gMeth, methM, tyD, gFn, callM, argsOf, argOf, brws, nodupN, putBack, Ret.res, gFnK, allVal, Perm.swap, Perm.id, swapL, gChain, gChain3, blM, gRaise, fAdd, fSub, fLt, fInt, fLen, fDivmod, fMod, fFdiv, fMax2, fIsi, isB, gPar, fEq, fNe, eqM, eqS, keyD, gItems, itemsM, tupItems, lstItems, gFor, gEnum, gRange1, sizeLine, noE] at hne
      simp [gSeq, gIfS, gBl, gOp, gVar, gC, EM.bind, EM.pure, EM.lift, op2, op1, gUn, view, moAt, Slot.mo?, Mo.view, fIx, fII, gAsg, gCall, M.gCons, M.gNil, consM, opL, views, aliveR, gdTup, gdCons, gdSub, gdNil, Tg.bind, Tg.binds, setV, putMo, gRet, gPass, M.gSet, setM, storeR, gFz, gFrz, M.gLst, M.gTup, valsR, gSl, slM, gPt, gNoP, fSl, gAnd, gOr, gNot, gTru, truM, tru, gAndV, gOrV, gNotV, stays, gIf, gDrop, gRcv, isL, gApp, gMeth, methM, tyD, gFn, callM, argsOf, argOf, brws, nodupN, putBack, Ret.res, gFnK, allVal, Perm.swap, Perm.id, swapL, gChain, gChain3, blM, gRaise, fAdd, fSub, fLt, fInt, fLen, fDivmod, fMod, fFdiv, fMax2, fIsi, isB, gPar, fEq, fNe, eqM, eqS, keyD, gItems, itemsM, tupItems, lstItems, gFor, gEnum, gRange1, sizeLine, noE, a1, hne]
end My

namespace My
open PySem PySem.Spec PyProof.Rows L2 M
def L7 (t : Ptc) : List D := [.non, .lst [.int t.1, .int t.2.1, .str t.2.2], .tup [.int t.1, .int t.2.1], .tup [.int t.1, .int t.2.1, .str t.2.2, .str ""], .tup [.int t.2.1, .int t.1, .str t.2.2], .tup [.int t.1, .int t.1, .str ""], .tup [.int (t.1 - 1), .int t.2.1, .str t.2.2]]
def L12 (t : Ptc) (n : Nat) : List D := L7 t ++ [.tup [.int t.1, .int ((n : Int) + 1), .str "a"], .tup [.bl true, .int t.2.1, .str "a"], .tup [.int t.1, .int t.2.1, .int 5], .tup [.str "0", .int t.2.1, .str "a"], ptc t]
theorem be2 (c : Ads) {m : Mo} {text : Str} {p : D} {k : Int} {t : Ptc} : be_2 c [.par m, .val (.str text), .val p, .val (.int k), .val (ptc t), .un, .un] = some (.ok .nx [.par m, .val (.str text), .val p, .val (.int k), .val (ptc t), .own (.l (L7 t)), .un]) := by
  unfold be_2
  simp [gSeq, gIfS, gBl, gOp, gVar, gC, EM.bind, EM.pure, EM.lift, op2, op1, gUn, view, moAt, Slot.mo?, Mo.view, fIx, fII, gAsg, gCall, M.gCons, M.gNil, consM, opL, views, aliveR, gdTup, gdCons, gdSub, gdNil, Tg.bind, Tg.binds, setV, putMo, gRet, gPass, M.gSet, setM, storeR, gFz, gFrz, M.gLst, M.gTup, valsR, gSl, slM, gPt, gNoP, fSl, gAnd, gOr, gNot, gTru, truM, tru, gAndV, gOrV, gNotV, stays, gIf, gDrop, gRcv, isL, gApp, gMeth, methM, tyD, gFn, callM, argsOf, argOf, brws, nodupN, putBack, Ret.res, gFnK, allVal, Perm.swap, Perm.id, swapL, gChain, gChain3, blM, gRaise, fAdd, fSub, fLt, fInt, fLen, fDivmod, fMod, fFdiv, fMax2, fIsi, isB, gPar, fEq, fNe, eqM, eqS, keyD, gItems, itemsM, tupItems, lstItems, gFor, gEnum, gRange1, sizeLine, noE, atI, ixN, ptc, M.cutD, HT.sIx, L7, fList]
theorem be3 (c : Ads) {n : Nat} {m : Mo} {text : Str} {p : D} {k : Int} {t : Ptc} (ht : SB 64 text) (w : WOk n m) (hn : n ≤ 90000) : ∃ m' x, WOk (n + 1) m' ∧ x ∈ L12 t text.length ∧
    be_3 c [.par m, .val (.str text), .val p, .val (.int k), .val (ptc t), .own (.l (L7 t)), .un] = some (.ok .nx [.par m', .val (.str text), .val p, .val (.int k), .val (ptc t), .own (.l (L7 t)), .val x]) := by
  obtain ⟨x, m', e, hx, w'⟩ := pick_ok c (ds := L12 t text.length) w (by omega) (by simp [L12]) (by simp [L12, L7])
  refine ⟨m', x, w', hx, ?_⟩
  have g0 : text.length ≤ 16777216 := by have := ht.1; omega
  unfold L12 at e
  have hl : (L7 t).length = 7 := rfl
  unfold be_3
  simp [ptc] at e
  simp [gSeq, gIfS, gBl, gOp, gVar, gC, EM.bind, EM.pure, EM.lift, op2, op1, gUn, view, moAt, Slot.mo?, Mo.view, fIx, fII, gAsg, gCall, M.gCons, M.gNil, consM, opL, views, aliveR, gdTup, gdCons, gdSub, gdNil, Tg.bind, Tg.binds, setV, putMo, gRet, gPass, M.gSet, setM, storeR, gFz, gFrz, M.gLst, M.gTup, valsR, gSl, slM, gPt, gNoP, fSl, gAnd, gOr, gNot, gTru, truM, tru, gAndV, gOrV, gNotV, stays, gIf, gDrop, gRcv, isL, gApp, gMeth, methM, tyD, gFn, callM, argsOf, argOf, brws, nodupN, putBack, Ret.res, gFnK, allVal, Perm.swap, Perm.id, swapL, gChain, gChain3, blM, gRaise, fAdd, fSub, fLt, fInt, fLen, fDivmod, fMod, fFdiv, fMax2, fIsi, isB, gPar, fEq, fNe, eqM, eqS, keyD, gItems, itemsM, tupItems, lstItems, gFor, gEnum, gRange1, sizeLine, noE, atI, ixN, ptc, hl, g0, e]
theorem l12_gd {t : Ptc} {n : Nat} (h : SB 10 t.2.2) {x : D} (hx : x ∈ L12 t n) : Gd x := by
  have ha : SB 10 ("a" : Str) := sb_of (by decide) (by decide)
  have he : SB 10 ("" : Str) := sb_of (by decide) (by decide)
  simp only [L12, L7, List.mem_append, List.mem_cons, List.not_mem_nil, or_false, List.cons_append, List.nil_append] at hx
  rcases hx with rfl | rfl | rfl | rfl | rfl | rfl | rfl | rfl | rfl | rfl | rfl | rfl
  · exact ⟨rfl, fun u e => by unfold ptc at e; cases e⟩
  · exact ⟨rfl, fun u e => by unfold ptc at e; cases e⟩
  · exact ⟨rfl, fun u e => by unfold ptc at e; simp at e⟩
  · exact ⟨rfl, fun u e => by unfold ptc at e; simp at e⟩
  · exact gd_ptc (t := (t.2.1, t.1, t.2.2)) h
  · exact gd_ptc (t := (t.1, t.1, "")) he
  · exact gd_ptc (t := (t.1 - 1, t.2.1, t.2.2)) h
  · exact gd_ptc (t := (t.1, (n : Int) + 1, "a")) ha
  · exact ⟨rfl, fun u e => by unfold ptc at e; simp at e⟩
  · exact ⟨rfl, fun u e => by unfold ptc at e; simp at e⟩
  · exact ⟨rfl, fun u e => by unfold ptc at e; simp at e⟩
  · exact gd_ptc h
def LL (ds : List D) (k : Int) (o x : D) : List D :=
  let p := D.tup (M.cutD ds none (some k) ++ [x] ++ M.cutD ds (some (k + 1)) none)
  [p, p, p, .tup (M.cutD ds none (some k) ++ [x] ++ M.cutD ds (some k) none), .tup ds.reverse, .tup (ds ++ M.cutD ds (some (-1)) none), .lst ds, .non, .tup [o, o]]
theorem be4 (c : Ads) {m m' : Mo} {text : Str} {ds : List D} {k : Int} {o x : D} (hl : ds.length ≤ 6) : be_4 c [.par m, .val (.str text), .val (.tup ds), .val (.int k), .val o, .own m', .val x] = some (.ok .nx [.par m, .val (.str text), .val (.tup ds), .val (.int k), .val o, .own (.l (LL ds k o x)), .val x]) := by
  have q1 : (M.cutD ds none (some k)).length + 1 ≤ 16777216 := by have := cut_len (ds := ds) (lo := none) (hi := some k); omega
  have q2 : (M.cutD ds none (some k)).length + 1 + (M.cutD ds (some (k + 1)) none).length ≤ 16777216 := by
    have := cut_len (ds := ds) (lo := none) (hi := some k)
    have := cut_len (ds := ds) (lo := some (k + 1)) (hi := none)
    omega
  have q3 : (M.cutD ds none (some k)).length + 1 + (M.cutD ds (some k) none).length ≤ 16777216 := by
    have := cut_len (ds := ds) (lo := none) (hi := some k)
    have := cut_len (ds := ds) (lo := some k) (hi := none)
    omega
  have q4 : ds.length + (M.cutD ds (some (-1)) none).length ≤ 16777216 := by
    have := cut_len (ds := ds) (lo := some (-1)) (hi := none)
    omega
  unfold be_4
  simp [gSeq, gIfS, gBl, gOp, gVar, gC, EM.bind, EM.pure, EM.lift, op2, op1, gUn, view, moAt, Slot.mo?, Mo.view, fIx, fII, gAsg, gCall, M.gCons, M.gNil, consM, opL, views, aliveR, gdTup, gdCons, gdSub, gdNil, Tg.bind, Tg.binds, setV, putMo, gRet, gPass, M.gSet, setM, storeR, gFz, gFrz, M.gLst, M.gTup, valsR, gSl, slM, gPt, gNoP, fSl, gAnd, gOr, gNot, gTru, truM, tru, gAndV, gOrV, gNotV, stays, gIf, gDrop, gRcv, isL, gApp, gMeth, methM, tyD, gFn, callM, argsOf, argOf, brws, nodupN, putBack, Ret.res, gFnK, allVal, Perm.swap, Perm.id, swapL, gChain, gChain3, blM, gRaise, fAdd, fSub, fLt, fInt, fLen, fDivmod, fMod, fFdiv, fMax2, fIsi, isB, gPar, fEq, fNe, eqM, eqS, keyD, gItems, itemsM, tupItems, lstItems, gFor, gEnum, gRange1, sizeLine, noE, atI, ixN, fMul, fNeg, fRev, fList, q1, q2, q3, q4, LL, List.replicate]
theorem gp_LL {ds : List D} {k : Int} {o x p : D} (hl : ds.length ≤ 6) (h : ∀ d ∈ ds, Gd d) (ho : Gd o) (hx : Gd x) (hp : p ∈ LL ds k o x) : GP p := by
  have cl := fun lo hi => cut_len (ds := ds) (lo := lo) (hi := hi)
  have cg : ∀ lo hi, ∀ d ∈ M.cutD ds lo hi, Gd d := fun lo hi d hd => h d (cut_mem hd)
  have a1 : ∀ lo hi, GP (.tup (M.cutD ds none lo ++ [x] ++ M.cutD ds hi none)) := fun lo hi => gp_tup (fun d hd => by
    rcases List.mem_append.mp hd with hd | hd
    · rcases List.mem_append.mp hd with hd | hd
      · exact cg _ _ d hd
      · rw [List.mem_singleton.mp hd]; exact hx
    · exact cg _ _ d hd) (by
    have := cl none lo
    have := cl hi none
    simp; omega)
  simp only [LL, List.mem_cons, List.not_mem_nil, or_false] at hp
  rcases hp with rfl | rfl | rfl | rfl | rfl | rfl | rfl | rfl | rfl
  · exact a1 _ _
  · exact a1 _ _
  · exact a1 _ _
  · exact a1 _ _
  · exact gp_tup (fun d hd => h d (List.mem_reverse.mp hd)) (by simp; omega)
  · exact gp_tup (fun d hd => (List.mem_append.mp hd).elim (h d) (cg _ _ d)) (by have := cl (some (-1)) none; simp; omega)
  · exact ⟨rfl, fun es e => by cases e⟩
  · exact ⟨rfl, fun es e => by cases e⟩
  · exact gp_tup (fun d hd => by simp at hd; rw [hd]; exact ho) (by simp)
theorem bent_ok (c : Ads) {n : Nat} {m : Mo} {text : Str} {ts : List Ptc} (ht : SB 64 text) (w : WOk n m) (hn : n ≤ 80000) (hl : ts.length ≤ 6) (h : ∀ t ∈ ts, Nw t.2.2) :
    ∃ m' p, m__law_bent c [.par m, .val (.str text), .val (.tup (ts.map ptc))] = some (.ok (.val p) [.par m', .val (.str text), .val (.tup (ts.map ptc))]) ∧ WOk (n + 3) m' ∧ GP p := by
  obtain ⟨m1, k, t0, w1, k0, k6, hn0, e0, e1⟩ := be01 c (text := text) w (by omega) hl h
  obtain ⟨m2, x, w2, hx, e3⟩ := be3 c (p := .tup (ts.map ptc)) (k := k) (t := t0) ht w1 (by omega)
  have hg : ∀ d ∈ ts.map ptc, Gd d := fun d hd => by
    obtain ⟨t, ht, rfl⟩ := List.mem_map.mp hd
    exact gd_ptc (h t ht).1
  obtain ⟨p, m3, e5, hp, w3⟩ := pick_ok c (ds := LL (ts.map ptc) k (ptc t0) x) w2 (by omega) (by simp [LL]) (by simp [LL])
  refine ⟨m3, p, ?_, w3, gp_LL (by simpa using hl) hg (gd_ptc hn0.1) (l12_gd hn0.1 hx) hp⟩
  have e4 := be4 c (m := m2) (m' := .l (L7 t0)) (text := text) (ds := ts.map ptc) (k := k) (o := ptc t0) (x := x) (by simpa using hl)
  have e : gSeq (be_0 c) (gSeq (be_1 c) (gSeq (be_2 c) (gSeq (be_3 c) (gSeq (be_4 c) (be_5 c))))) [.par m, .val (.str text), .val (.tup (ts.map ptc)), .un, .un, .un, .un] = some (.ok (.rt (.val p)) [.par m3, .val (.str text), .val (.tup (ts.map ptc)), .val (.int k), .val (ptc t0), .val (.lst (LL (ts.map ptc) k (ptc t0) x)), .val x]) := by
    rw [seq_nx e0, seq_nx e1, seq_nx (be2 c), seq_nx e3, seq_nx e4]
    unfold be_5
    simp [gSeq, gIfS, gBl, gOp, gVar, gC, EM.bind, EM.pure, EM.lift, op2, op1, gUn, view, moAt, Slot.mo?, Mo.view, fIx, fII, gAsg, gCall, M.gCons, M.gNil, consM, opL, views, aliveR, gdTup, gdCons, gdSub, gdNil, Tg.bind, Tg.binds, setV, putMo, gRet, gPass, M.gSet, setM, storeR, gFz, gFrz, M.gLst, M.gTup, valsR, gSl, slM, gPt, gNoP, fSl, gAnd, gOr, gNot, gTru, truM, tru, gAndV, gOrV, gNotV, stays, gIf, gDrop, gRcv, isL, gApp, gMeth, methM, tyD, gFn, callM, argsOf, argOf, brws, nodupN, putBack, Ret.res, gFnK, allVal, Perm.swap, Perm.id, swapL, gChain, gChain3, blM, gRaise, fAdd, fSub, fLt, fInt, fLen, fDivmod, fMod, fFdiv, fMax2, fIsi, isB, gPar, fEq, fNe, eqM, eqS, keyD, gItems, itemsM, tupItems, lstItems, gFor, gEnum, gRange1, sizeLine, noE, atI, ixN, e5]
  unfold m__law_bent runM
  rw [be_eq]
  simp [e]
end My

namespace My
open PySem PySem.Spec PyProof.Rows L2 M
def we_0 (c : Ads) : EM Fl := (gSet 2 (gIf (gBl (gOp fLt (gVar 1) (gCall fLen (gCons (gVar 0) gNil)))) (gCall fInt (gCons (gOp fIx (gVar 0) (gVar 1)) gNil)) (gOp fAdd (gOp fAdd (gOp fMul (gC (.int 5119)) (gVar 1)) (gOp fMod (gCall fInt (gCons (gCall fSum (gCons (gSl (gVar 0) gNoP (gPt (gC (.int 4)))) gNil)) gNil)) (gC (.int 999979)))) (gC (.int 23)))))
def we_1 (c : Ads) : EM Fl := (gSet 3 (gOp fAdd (gC (.int 28530)) (gOp fMul (gC (.int 1511)) (gVar 1))))
def we_2 (c : Ads) : EM Fl := (gFor (gItems lstItems (gFrz (gOp fAdd (gSl (gVar 0) gNoP (gPt (gC (.int 7)))) (gLst (gCons (gFz 2) gNil))))) (.nm 4)
    (gSet 3 (gOp fMod (gCall fInt (gCons (gOp fAdd (gOp fAdd (gOp fMul (gVar 3) (gC (.int 39373))) (gOp fMod (gCall fInt (gCons (gVar 4) gNil)) (gC (.int 2147483399)))) (gC (.int 83))) gNil)) (gC (.int 2147483563)))))
def we_3 (c : Ads) : EM Fl := (gRet (gLst (gCons (gIf (gOr (gBl (gOp fLt (gVar 2) (gC (.int 0)))) (gBl (gOp fGe (gVar 2) (gOp fPow (gC (.int 10)) (gC (.int 16)))))) (gFrz (gOp fMod (gCall fInt (gCons (gCall fAbs (gCons (gVar 2) gNil)) gNil)) (gOp fPow (gC (.int 10)) (gC (.int 58))))) (gC (.int 0))) (gCons (gFz 3) (gCons (gC (.int 0)) gNil)))))
theorem we_eq (c : Ads) : b__law_well c = (gSeq (we_0 c) (gSeq (we_1 c) (gSeq (we_2 c) (we_3 c)))) := rfl
def weBody (c : Ads) : EM Fl := (gSet 3 (gOp fMod (gCall fInt (gCons (gOp fAdd (gOp fAdd (gOp fMul (gVar 3) (gC (.int 39373))) (gOp fMod (gCall fInt (gCons (gVar 4) gNil)) (gC (.int 2147483399)))) (gC (.int 83))) gNil)) (gC (.int 2147483563))))
theorem cut_map (ns : List Int) (lo hi : Option Int) : ∃ ks : List Int, M.cutD (ns.map D.int) lo hi = ks.map D.int := by
  unfold M.cutD
  rw [List.length_map, ← List.map_drop, ← List.map_take]
  exact ⟨_, rfl⟩
theorem intsD_map : ∀ l : List Int, intsD (l.map D.int) = some l
  | [] => rfl
  | x :: l => by show (intsD (l.map D.int)).map (x :: ·) = _; rw [intsD_map l]; rfl
theorem nopy2 {i j : Int} (h0 : 0 ≤ j) (h : j < 2 ^ 200) : Builtin.divisionGoesByPylong i j = false := by
  have hl := log_lt h0 h (by decide)
  unfold Builtin.divisionGoesByPylong
  dsimp only
  by_cases hj : j = 0
  · simp [hj]
  · simp [hj]; intro hh; omega
theorem we0 (c : Ads) {ns : List Int} {t : Int} (h0 : 0 ≤ t) (h1 : t ≤ 1) : ∃ own : Int, we_0 c [.val (.rol (ns.map D.int)), .val (.int t), .un, .un, .un] = some (.ok .nx [.val (.rol (ns.map D.int)), .val (.int t), .val (.int own), .un, .un]) := by
  by_cases h : t < ns.length
  · obtain ⟨x, e, hx⟩ := atI_in (xs := ns.map D.int) h0 (by simpa using h)
    obtain ⟨i, hi, rfl⟩ := List.mem_map.mp hx
    refine ⟨i, ?_⟩
    unfold we_0
    simp [gSeq, gIfS, gBl, gOp, gVar, gC, EM.bind, EM.pure, EM.lift, op2, op1, gUn, view, moAt, Slot.mo?, Mo.view, fIx, fII, gAsg, gCall, M.gCons, M.gNil, consM, opL, views, aliveR, gdTup, gdCons, gdSub, gdNil, Tg.bind, Tg.binds, setV, putMo, gRet, gPass, M.gSet, setM, storeR, gFz, gFrz, M.gLst, M.gTup, valsR, gSl, slM, gPt, gNoP, fSl, gAnd, gOr, gNot, gTru, truM, tru, gAndV, gOrV, gNotV, stays, gIf, gDrop, gRcv, isL, gApp, gMeth, methM, tyD, gFn, callM, argsOf, argOf, brws, nodupN, putBack, Ret.res, gFnK, allVal, Perm.swap, Perm.id, swapL, gChain, gChain3, blM, gRaise, fAdd, fSub, fLt, fInt, fLen, fDivmod, fMod, fFdiv, fMax2, fIsi, isB, gPar, fEq, fNe, eqM, eqS, keyD, gItems, itemsM, tupItems, lstItems, gFor, gEnum, gRange1, sizeLine, noE, h, e]
  · obtain ⟨ks, ek⟩ := cut_map ns none (some 4)
    have hp : Builtin.divisionGoesByPylong ks.sum 999979 = false := nopy2 (by decide) (by decide)
    have l1 : Nat.log2 5119 + t.natAbs.log2 < 1000000 := by
      have x1 := log_lt (i := t) (b := 2) (by omega) (by omega) (by decide)
      have : Nat.log2 5119 = 12 := by decide
      omega
    refine ⟨5119 * t + ks.sum % 999979 + 23, ?_⟩
    unfold we_0
    simp [gSeq, gIfS, gBl, gOp, gVar, gC, EM.bind, EM.pure, EM.lift, op2, op1, gUn, view, moAt, Slot.mo?, Mo.view, fIx, fII, gAsg, gCall, M.gCons, M.gNil, consM, opL, views, aliveR, gdTup, gdCons, gdSub, gdNil, Tg.bind, Tg.binds, setV, putMo, gRet, gPass, M.gSet, setM, storeR, gFz, gFrz, M.gLst, M.gTup, valsR, gSl, slM, gPt, gNoP, fSl, gAnd, gOr, gNot, gTru, truM, tru, gAndV, gOrV, gNotV, stays, gIf, gDrop, gRcv, isL, gApp, gMeth, methM, tyD, gFn, callM, argsOf, argOf, brws, nodupN, putBack, Ret.res, gFnK, allVal, Perm.swap, Perm.id, swapL, gChain, gChain3, blM, gRaise, fAdd, fSub, fLt, fInt, fLen, fDivmod, fMod, fFdiv, fMax2, fIsi, isB, gPar, fEq, fNe, eqM, eqS, keyD, gItems, itemsM, tupItems, lstItems, gFor, gEnum, gRange1, sizeLine, noE, atI, ixN, fMul, fSum, lstOf, h, ek, intsD_map, hp, l1]
theorem we2 (c : Ads) {s0 s1 s2 : Slot} : ∀ (ks : List Int) (st : Int) (s4 : Slot), 0 ≤ st → st < 2 ^ 31 → Vn s4 → ∃ st' s4', 0 ≤ st' ∧ st' < 2 ^ 31 ∧ loopF (.nm 4) (weBody c) (ks.map D.int) [s0, s1, s2, .val (.int st), s4] = some (.ok .nx [s0, s1, s2, .val (.int st'), s4'])
  | [], st, s4, a, b, _ => ⟨st, s4, a, b, rfl⟩
  | k :: ks, st, s4, a, b, h4 => by
    have hp : Builtin.divisionGoesByPylong k 2147483399 = false := nopy2 (by decide) (by decide)
    have hq : ∀ i, Builtin.divisionGoesByPylong i 2147483563 = false := fun i => nopy2 (by decide) (by decide)
    have l1 : st.natAbs.log2 + Nat.log2 39373 < 1000000 := by
      have x1 := log_lt (i := st) (b := 31) a b (by decide)
      have : Nat.log2 39373 = 15 := by decide
      omega
    have n0 : 0 ≤ (st * 39373 + k % 2147483399 + 83) % 2147483563 := Int.emod_nonneg _ (by decide)
    have n1 : (st * 39373 + k % 2147483399 + 83) % 2147483563 < 2147483563 := Int.emod_lt_of_pos _ (by decide)
    obtain ⟨st', s4', a', b', e⟩ := we2 c (s0 := s0) (s1 := s1) (s2 := s2) ks ((st * 39373 + k % 2147483399 + 83) % 2147483563) (.val (.int k)) n0 (by omega) (.inr ⟨_, rfl⟩)
    refine ⟨st', s4', a', b', ?_⟩
    rw [List.map_cons]
    unfold loopF
    have eb : Tg.bind (.nm 4) (.int k) [s0, s1, s2, .val (.int st), s4] = some [s0, s1, s2, .val (.int st), .val (.int k)] := by
      rcases h4 with rfl | ⟨_, rfl⟩ <;> simp [gSeq, gIfS, gBl, gOp, gVar, gC, EM.bind, EM.pure, EM.lift, op2, op1, gUn, view, moAt, Slot.mo?, Mo.view, fIx, fII, gAsg, gCall, M.gCons, M.gNil, consM, opL, views, aliveR, gdTup, gdCons, gdSub, gdNil, Tg.bind, Tg.binds, setV, putMo, gRet, gPass, M.gSet, setM, storeR, gFz, gFrz, M.gLst, M.gTup, valsR, gSl, slM, gPt, gNoP, fSl, gAnd, gOr, gNot, gTru, truM, tru, gAndV, gOrV, gNotV, stays, gIf, gDrop, gRcv, isL, gApp, gMeth, methM, tyD, gFn, callM, argsOf, argOf, brws, nodupN, putBack, Ret.res, gFnK, allVal, Perm.swap, Perm.id, swapL, gChain, gChain3, blM, gRaise, fAdd, fSub, fLt, fInt, fLen, fDivmod, fMod, fFdiv, fMax2, fIsi, isB, gPar, fEq, fNe, eqM, eqS, keyD, gItems, itemsM, tupItems, lstItems, gFor, gEnum, gRange1, sizeLine, noE, atI, ixN]
    have ebd : weBody c [s0, s1, s2, .val (.int st), .val (.int k)] = some (.ok .nx [s0, s1, s2, .val (.int ((st * 39373 + k % 2147483399 + 83) % 2147483563)), .val (.int k)]) := by
      unfold weBody
      simp [gSeq, gIfS, gBl, gOp, gVar, gC, EM.bind, EM.pure, EM.lift, op2, op1, gUn, view, moAt, Slot.mo?, Mo.view, fIx, fII, gAsg, gCall, M.gCons, M.gNil, consM, opL, views, aliveR, gdTup, gdCons, gdSub, gdNil, Tg.bind, Tg.binds, setV, putMo, gRet, gPass, M.gSet, setM, storeR, gFz, gFrz, M.gLst, M.gTup, valsR, gSl, slM, gPt, gNoP, fSl, gAnd, gOr, gNot, gTru, truM, tru, gAndV, gOrV, gNotV, stays, gIf, gDrop, gRcv, isL, gApp, gMeth, methM, tyD, gFn, callM, argsOf, argOf, brws, nodupN, putBack, Ret.res, gFnK, allVal, Perm.swap, Perm.id, swapL, gChain, gChain3, blM, gRaise, fAdd, fSub, fLt, fInt, fLen, fDivmod, fMod, fFdiv, fMax2, fIsi, isB, gPar, fEq, fNe, eqM, eqS, keyD, gItems, itemsM, tupItems, lstItems, gFor, gEnum, gRange1, sizeLine, noE, atI, ixN, fMul, hp, hq, l1]
    rw [eb]
    dsimp only
    rw [ebd]
    exact e
theorem we3 (c : Ads) {s0 s1 s4 : Slot} {own st : Int} (a : 0 ≤ st) (b : st < 2 ^ 31) : ∃ m, WOk 0 m ∧ we_3 c [s0, s1, .val (.int own), .val (.int st), s4] = some (.ok (.rt (.new m)) [s0, s1, .val (.int own), .val (.int st), s4]) := by
  have hp : Builtin.divisionGoesByPylong (own.natAbs : Int) 10000000000000000000000000000000000000000000000000000000000 = false := nopy2 (by decide) (by decide)
  by_cases h1 : own < 0
  · refine ⟨.l [.int ((-own) % 10 ^ 58), .int st, .int 0], ⟨_, _, _, rfl, Int.emod_nonneg _ (by decide), Int.emod_lt_of_pos _ (by decide), a, b, by decide, by decide⟩, ?_⟩
    unfold we_3
    simp [gSeq, gIfS, gBl, gOp, gVar, gC, EM.bind, EM.pure, EM.lift, op2, op1, gUn, view, moAt, Slot.mo?, Mo.view, fIx, fII, gAsg, gCall, M.gCons, M.gNil, consM, opL, views, aliveR, gdTup, gdCons, gdSub, gdNil, Tg.bind, Tg.binds, setV, putMo, gRet, gPass, M.gSet, setM, storeR, gFz, gFrz, M.gLst, M.gTup, valsR, gSl, slM, gPt, gNoP, fSl, gAnd, gOr, gNot, gTru, truM, tru, gAndV, gOrV, gNotV, stays, gIf, gDrop, gRcv, isL, gApp, gMeth, methM, tyD, gFn, callM, argsOf, argOf, brws, nodupN, putBack, Ret.res, gFnK, allVal, Perm.swap, Perm.id, swapL, gChain, gChain3, blM, gRaise, fAdd, fSub, fLt, fInt, fLen, fDivmod, fMod, fFdiv, fMax2, fIsi, isB, gPar, fEq, fNe, eqM, eqS, keyD, gItems, itemsM, tupItems, lstItems, gFor, gEnum, gRange1, sizeLine, noE, atI, ixN, fPow, fAbs, h1, hp]
  · by_cases h2 : own ≥ 10 ^ 16
    · refine ⟨.l [.int (own % 10 ^ 58), .int st, .int 0], ⟨_, _, _, rfl, Int.emod_nonneg _ (by decide), Int.emod_lt_of_pos _ (by decide), a, b, by decide, by decide⟩, ?_⟩
      have h2' : 10000000000000000 ≤ own := h2
      unfold we_3
      simp [gSeq, gIfS, gBl, gOp, gVar, gC, EM.bind, EM.pure, EM.lift, op2, op1, gUn, view, moAt, Slot.mo?, Mo.view, fIx, fII, gAsg, gCall, M.gCons, M.gNil, consM, opL, views, aliveR, gdTup, gdCons, gdSub, gdNil, Tg.bind, Tg.binds, setV, putMo, gRet, gPass, M.gSet, setM, storeR, gFz, gFrz, M.gLst, M.gTup, valsR, gSl, slM, gPt, gNoP, fSl, gAnd, gOr, gNot, gTru, truM, tru, gAndV, gOrV, gNotV, stays, gIf, gDrop, gRcv, isL, gApp, gMeth, methM, tyD, gFn, callM, argsOf, argOf, brws, nodupN, putBack, Ret.res, gFnK, allVal, Perm.swap, Perm.id, swapL, gChain, gChain3, blM, gRaise, fAdd, fSub, fLt, fInt, fLen, fDivmod, fMod, fFdiv, fMax2, fIsi, isB, gPar, fEq, fNe, eqM, eqS, keyD, gItems, itemsM, tupItems, lstItems, gFor, gEnum, gRange1, sizeLine, noE, atI, ixN, fPow, fAbs, h1, h2', hp]
    · refine ⟨.l [.int 0, .int st, .int 0], ⟨_, _, _, rfl, by decide, by decide, a, b, by decide, by decide⟩, ?_⟩
      have h2' : ¬ 10000000000000000 ≤ own := h2
      unfold we_3
      simp [gSeq, gIfS, gBl, gOp, gVar, gC, EM.bind, EM.pure, EM.lift, op2, op1, gUn, view, moAt, Slot.mo?, Mo.view, fIx, fII, gAsg, gCall, M.gCons, M.gNil, consM, opL, views, aliveR, gdTup, gdCons, gdSub, gdNil, Tg.bind, Tg.binds, setV, putMo, gRet, gPass, M.gSet, setM, storeR, gFz, gFrz, M.gLst, M.gTup, valsR, gSl, slM, gPt, gNoP, fSl, gAnd, gOr, gNot, gTru, truM, tru, gAndV, gOrV, gNotV, stays, gIf, gDrop, gRcv, isL, gApp, gMeth, methM, tyD, gFn, callM, argsOf, argOf, brws, nodupN, putBack, Ret.res, gFnK, allVal, Perm.swap, Perm.id, swapL, gChain, gChain3, blM, gRaise, fAdd, fSub, fLt, fInt, fLen, fDivmod, fMod, fFdiv, fMax2, fIsi, isB, gPar, fEq, fNe, eqM, eqS, keyD, gItems, itemsM, tupItems, lstItems, gFor, gEnum, gRange1, sizeLine, noE, atI, ixN, fPow, fAbs, h1, h2', hp]
theorem well_ok (c : Ads) {ns : List Int} {t : Int} (hn : ns.length ≤ 63) (h0 : 0 ≤ t) (h1 : t ≤ 1) : ∃ m, WOk 0 m ∧ m__law_well c [.val (.rol (ns.map D.int)), .val (.int t)] = some (.ok (.new m) [.val (.rol (ns.map D.int)), .val (.int t)]) := by
  obtain ⟨own, e0⟩ := we0 c (ns := ns) h0 h1
  obtain ⟨ks, ek⟩ := cut_map ns none (some 7)
  have l1 : Nat.log2 1511 + t.natAbs.log2 < 1000000 := by
    have x1 := log_lt (i := t) (b := 2) (by omega) (by omega) (by decide)
    have : Nat.log2 1511 = 10 := by decide
    omega
  have e1 : we_1 c [.val (.rol (ns.map D.int)), .val (.int t), .val (.int own), .un, .un] = some (.ok .nx [.val (.rol (ns.map D.int)), .val (.int t), .val (.int own), .val (.int (28530 + 1511 * t)), .un]) := by
    unfold we_1
    simp [gSeq, gIfS, gBl, gOp, gVar, gC, EM.bind, EM.pure, EM.lift, op2, op1, gUn, view, moAt, Slot.mo?, Mo.view, fIx, fII, gAsg, gCall, M.gCons, M.gNil, consM, opL, views, aliveR, gdTup, gdCons, gdSub, gdNil, Tg.bind, Tg.binds, setV, putMo, gRet, gPass, M.gSet, setM, storeR, gFz, gFrz, M.gLst, M.gTup, valsR, gSl, slM, gPt, gNoP, fSl, gAnd, gOr, gNot, gTru, truM, tru, gAndV, gOrV, gNotV, stays, gIf, gDrop, gRcv, isL, gApp, gMeth, methM, tyD, gFn, callM, argsOf, argOf, brws, nodupN, putBack, Ret.res, gFnK, allVal, Perm.swap, Perm.id, swapL, gChain, gChain3, blM, gRaise, fAdd, fSub, fLt, fInt, fLen, fDivmod, fMod, fFdiv, fMax2, fIsi, isB, gPar, fEq, fNe, eqM, eqS, keyD, gItems, itemsM, tupItems, lstItems, gFor, gEnum, gRange1, sizeLine, noE, atI, ixN, fMul, l1]
  obtain ⟨st, s4, a, b, e2⟩ := we2 c (s0 := .val (.rol (ns.map D.int))) (s1 := .val (.int t)) (s2 := .val (.int own)) (ks ++ [own]) (28530 + 1511 * t) .un (by omega) (by omega) (.inl rfl)
  have kl : ks.length + 1 ≤ 16777216 := by
    have := cut_len (ds := ns.map D.int) (lo := none) (hi := some 7)
    rw [ek] at this
    simp at this
    omega
  have e2' : we_2 c [.val (.rol (ns.map D.int)), .val (.int t), .val (.int own), .val (.int (28530 + 1511 * t)), .un] = some (.ok .nx [.val (.rol (ns.map D.int)), .val (.int t), .val (.int own), .val (.int st), s4]) := by
    have : we_2 c = gFor (gItems lstItems (gFrz (gOp fAdd (gSl (gVar 0) gNoP (gPt (gC (.int 7)))) (M.gLst (M.gCons (gFz 2) M.gNil))))) (.nm 4) (weBody c) := rfl
    rw [this]
    simp at e2
    simp [gSeq, gIfS, gBl, gOp, gVar, gC, EM.bind, EM.pure, EM.lift, op2, op1, gUn, view, moAt, Slot.mo?, Mo.view, fIx, fII, gAsg, gCall, M.gCons, M.gNil, consM, opL, views, aliveR, gdTup, gdCons, gdSub, gdNil, Tg.bind, Tg.binds, setV, putMo, gRet, gPass, M.gSet, setM, storeR, gFz, gFrz, M.gLst, M.gTup, valsR, gSl, slM, gPt, gNoP, fSl, gAnd, gOr, gNot, gTru, truM, tru, gAndV, gOrV, gNotV, stays, gIf, gDrop, gRcv, isL, gApp, gMeth, methM, tyD, gFn, callM, argsOf, argOf, brws, nodupN, putBack, Ret.res, gFnK, allVal, Perm.swap, Perm.id, swapL, gChain, gChain3, blM, gRaise, fAdd, fSub, fLt, fInt, fLen, fDivmod, fMod, fFdiv, fMax2, fIsi, isB, gPar, fEq, fNe, eqM, eqS, keyD, gItems, itemsM, tupItems, lstItems, gFor, gEnum, gRange1, sizeLine, noE, atI, ixN, ek, kl, e2]
  obtain ⟨m, w, e3⟩ := we3 c (s0 := .val (.rol (ns.map D.int))) (s1 := .val (.int t)) (s4 := s4) (own := own) a b
  refine ⟨m, w, ?_⟩
  have e := (seq_nx (g2 := gSeq (we_1 c) (gSeq (we_2 c) (we_3 c))) e0).trans ((seq_nx (g2 := gSeq (we_2 c) (we_3 c)) e1).trans ((seq_nx (g2 := we_3 c) e2').trans e3))
  unfold m__law_well runM
  rw [we_eq]
  simp [e]
end My

namespace My
open PySem PySem.Spec PyProof.Rows L2 M
def rl_0 (c : Ads) : EM Fl := (gSet 7 (gFn 3 (m__law_bent c) (gCons (gVar 0) (gCons (gFz 2) (gCons (gFz 4) gNil)))))
def rl_1 (c : Ads) : EM Fl := (gSet 8 (gFn 2 (m__law_wrong c) (gCons (gFz 2) (gCons (gFz 7) gNil))))
def rl_2 (c : Ads) : EM Fl := (gSet 9 (gLst (gCons (gFrz (gHeard 4 "told" (mt__law_heard c) (su__law_heard c) (gFrz (gFn 2 (m_patched c) (gCons (gFz 2) (gCons (gFz 7) gNil)))))) (gCons (gC (.int 0)) gNil))))
def rl_3 (c : Ads) : EM Fl := (gAsg (gdSub 9 (gC (.int 1))) (gFrz (gHeard 4 "told" (mt__law_heard c) (su__law_heard c) (gFrz (gFnK .swap 2 (m_patched c) (gCons (gFz 7) (gCons (gFz 2) gNil)))))))
def rl_4 (c : Ads) : EM Fl := (gIfS (gNot (gTru (gFn 2 (m__law_same c) (gCons (gFz 9) (gCons (gFrz (gOp fMul (gLst (gCons (gIf (gBl (gOp fNe (gVar 8) (gLst gNil))) (gTup (gCons (gC (.str "patches")) (gCons (gOp fIx (gVar 8) (gC (.int 0))) gNil))) (gTup (gCons (gC (.str "told")) (gCons (gFrz (gFn 2 (m__law_patched c) (gCons (gFz 2) (gCons (gFz 7) gNil)))) gNil)))) gNil)) (gC (.int 2)))) gNil)))))
    (gRet (gC (.bl false)))
    gPass)
theorem rl_eq (c : Ads) : (gSeq (gSet 7 (gFn 3 (m__law_bent c) (gCons (gVar 0) (gCons (gFz 2) (gCons (gFz 4) gNil)))))
    (gSeq (gSet 8 (gFn 2 (m__law_wrong c) (gCons (gFz 2) (gCons (gFz 7) gNil))))
    (gSeq (gSet 9 (gLst (gCons (gFrz (gHeard 4 "told" (mt__law_heard c) (su__law_heard c) (gFrz (gFn 2 (m_patched c) (gCons (gFz 2) (gCons (gFz 7) gNil)))))) (gCons (gC (.int 0)) gNil))))
    (gSeq (gAsg (gdSub 9 (gC (.int 1))) (gFrz (gHeard 4 "told" (mt__law_heard c) (su__law_heard c) (gFrz (gFnK .swap 2 (m_patched c) (gCons (gFz 7) (gCons (gFz 2) gNil)))))))
    (gIfS (gNot (gTru (gFn 2 (m__law_same c) (gCons (gFz 9) (gCons (gFrz (gOp fMul (gLst (gCons (gIf (gBl (gOp fNe (gVar 8) (gLst gNil))) (gTup (gCons (gC (.str "patches")) (gCons (gOp fIx (gVar 8) (gC (.int 0))) gNil))) (gTup (gCons (gC (.str "told")) (gCons (gFrz (gFn 2 (m__law_patched c) (gCons (gFz 2) (gCons (gFz 7) gNil)))) gNil)))) gNil)) (gC (.int 2)))) gNil)))))
    (gRet (gC (.bl false)))
    gPass))))) = (gSeq (rl_0 c) (gSeq (rl_1 c) (gSeq (rl_2 c) (gSeq (rl_3 c) (rl_4 c))))) := rfl
def Vo (s : Slot) : Prop := s = .un ∨ (∃ d, s = .val d) ∨ ∃ m, s = .own m
theorem Vn.vo {s : Slot} (h : Vn s) : Vo s := h.elim .inl fun h => .inr (.inl h)
theorem noE_cons {s : Slot} {ρ : En} (h : Vo s) (g : noE ρ = true) : noE (s :: ρ) = true := by
  unfold noE at g ⊢
  rw [List.all_cons, g]
  rcases h with rfl | ⟨_, rfl⟩ | ⟨_, rfl⟩ <;> rfl
theorem noE_par {m : Mo} {ρ : En} (g : noE ρ = true) : noE (.par m :: ρ) = true := by
  unfold noE at g ⊢
  rw [List.all_cons, g]; rfl
theorem noE_val {d : D} {ρ : En} (g : noE ρ = true) : noE (.val d :: ρ) = true := noE_cons (.inr (.inl ⟨_, rfl⟩)) g
theorem noE_un {ρ : En} (g : noE ρ = true) : noE (.un :: ρ) = true := noE_cons (.inl rfl) g
theorem noE_own {m : Mo} {ρ : En} (g : noE ρ = true) : noE (.own m :: ρ) = true := noE_cons (.inr (.inr ⟨_, rfl⟩)) g
/-! ### what is heard -/
def hv (text : Str) (p : D) : D := match scanP text p with
  | .inl k => .tup [.str "patches", k]
  | .inr ts => .tup [.str "told", .str (appl text ("" : Str) 0 ts)]
theorem heard_pa (c : Ads) (hd : c.InvalidText ≠ c.InvalidPatches) {ge : EM Res} {ρ : En} {text : Str} {p : D} (hn : noE ρ = true)
    (e : ge ρ = match scanP text p with
      | .inl k => some (.ex (.ref c.InvalidPatches) [("index", k)] ρ)
      | .inr ts => some (.ok (.val (.str (appl text ("" : Str) 0 ts))) ρ)) : gHeard 4 "told" (mt__law_heard c) (su__law_heard c) ge ρ = some (.ok (.val (hv text p)) ρ) := by
  unfold hv
  cases k : scanP text p with
  | inl k' => rw [k] at e; exact heard_patches c hd hn e
  | inr ts => rw [k] at e; exact heard_ok c hn e
theorem scan_inl {m : Int} : ∀ {ds : List D} {i : Nat} {l k : Int}, scan m i l ds = .inl k → ∃ j : Nat, j < i + ds.length ∧ k = (j : Int)
  | [], i, l, k, h => by cases h
  | d :: ds, i, l, k, h => by
    unfold scan at h
    cases e : okItem l m d with
    | none => rw [e] at h; cases h; exact ⟨i, by simp, rfl⟩
    | some t =>
      rw [e] at h
      dsimp only at h
      cases e2 : scan m (i + 1) t.2.1 ds with
      | inl q =>
        rw [e2] at h
        cases h
        obtain ⟨j, h1, h2⟩ := scan_inl e2
        exact ⟨j, by rw [List.length_cons]; omega, h2⟩
      | inr us => rw [e2] at h; cases h
theorem scanP_inl {text : Str} {p k : D} (hs : SmP p) (h : scanP text p = .inl k) : k = .non ∨ ∃ j : Nat, j < 100 ∧ k = .int (j : Int) := by
  unfold scanP at h
  split at h
  · rename_i ds
    cases e : scan text.length 0 0 ds with
    | inl q =>
      rw [e] at h
      cases h
      obtain ⟨j, h1, rfl⟩ := scan_inl e
      have := (hs ds rfl).1
      exact .inr ⟨j, by omega, rfl⟩
    | inr us => rw [e] at h; cases h
  · cases h; exact .inl rfl
theorem sc_nat {j : Nat} (h : j < 100) : Sc (.int (j : Int)) := .inr (.inr (.inl ⟨_, rfl, by
  have := log_lt (i := (j : Int)) (b := 7) (by omega) (by omega) (by decide)
  omega⟩))
theorem sc_str {x : Str} (h : SB 2000 x) : Sc (.str x) := .inr (.inr (.inr ⟨x, rfl, h⟩))
theorem db0 {k : Nat} {d : D} (h : Sc d) : DB k d := by
  cases k with
  | zero => exact h
  | succ k => exact .inl h
theorem db_tup2 {k : Nat} {a b : D} (h : DB k a) (g : DB k b) : DB (k + 1) (.tup [a, b]) := .inr ⟨[a, b], .inl rfl, by simp, fun x hx => by
  simp at hx
  rcases hx with rfl | rfl
  · exact h
  · exact g⟩
theorem hv_db {text : Str} {p : D} (ht : SB 64 text) (hs : SmP p) : DB 2 (hv text p) := by
  unfold hv
  cases k : scanP text p with
  | inl q =>
    refine db_tup2 (db0 (sc_str (sb_of (by decide) (by decide)))) (db0 ?_)
    rcases scanP_inl hs k with rfl | ⟨j, hj, rfl⟩
    · exact .inl rfl
    · exact sc_nat hj
  | inr ts => exact db_tup2 (db0 (sc_str (sb_of (by decide) (by decide)))) (db0 (sc_str (appl_sb ht (hs.ts k).2)))
/-! ### a lap -/
theorem rl0 (c : Ads) {n : Nat} {m : Mo} {text : Str} {ts : List Ptc} {s1 s3 s5 s6 s7 : Slot} {R : En} (ht : SB 64 text) (w : WOk n m) (hn : n ≤ 80000) (hl : ts.length ≤ 6) (h : ∀ t ∈ ts, Nw t.2.2) (h7 : Vn s7) :
    ∃ m' p, rl_0 c (.par m :: s1 :: .val (.str text) :: s3 :: .val (.tup (ts.map ptc)) :: s5 :: s6 :: s7 :: R) = some (.ok .nx (.par m' :: s1 :: .val (.str text) :: s3 :: .val (.tup (ts.map ptc)) :: s5 :: s6 :: .val p :: R)) ∧ WOk (n + 3) m' ∧ GP p := by
  obtain ⟨m', p, e, w', g⟩ := bent_ok c ht w hn hl h
  refine ⟨m', p, ?_, w', g⟩
  unfold rl_0
  rcases h7 with rfl | ⟨_, rfl⟩ <;> simp [gSeq, gIfS, gBl, gOp, gVar, gC, EM.bind, EM.pure, EM.lift, op2, op1, gUn, view, moAt, Slot.mo?, Mo.view, fIx, fII, gAsg, gCall, M.gCons, M.gNil, consM, opL, views, aliveR, gdTup, gdCons, gdSub, gdNil, Tg.bind, Tg.binds, setV, putMo, gRet, gPass, M.gSet, setM, storeR, gFz, gFrz, M.gLst, M.gTup, valsR, gSl, slM, gPt, gNoP, fSl, gAnd, gOr, gNot, gTru, truM, tru, gAndV, gOrV, gNotV, stays, gIf, gDrop, gRcv, isL, gApp, gMeth, methM, tyD, gFn, callM, argsOf, argOf, brws, nodupN, putBack, Ret.res, gFnK, allVal, Perm.swap, Perm.id, swapL, gChain, gChain3, blM, gRaise, fAdd, fSub, fLt, fInt, fLen, fDivmod, fMod, fFdiv, fMax2, fIsi, isB, gPar, fEq, fNe, eqM, eqS, keyD, gItems, itemsM, tupItems, lstItems, gFor, gEnum, gRange1, sizeLine, noE, atI, ixN, e]
theorem rl1 (c : Ads) {text : Str} {p : D} {s0 s1 s3 s4 s5 s6 s8 : Slot} {R : En} (ht : SB 64 text) (g : GP p) (h8 : Vo s8) :
    rl_1 c (s0 :: s1 :: .val (.str text) :: s3 :: s4 :: s5 :: s6 :: .val p :: s8 :: R) = some (.ok .nx (s0 :: s1 :: .val (.str text) :: s3 :: s4 :: s5 :: s6 :: .val p :: .own (.l (wrongD text p)) :: R)) := by
  have e := wrong_ok c (text := text) (p := p) (by have := ht.1; omega) g.1
  unfold rl_1
  rcases h8 with rfl | ⟨_, rfl⟩ | ⟨_, rfl⟩ <;> simp [gSeq, gIfS, gBl, gOp, gVar, gC, EM.bind, EM.pure, EM.lift, op2, op1, gUn, view, moAt, Slot.mo?, Mo.view, fIx, fII, gAsg, gCall, M.gCons, M.gNil, consM, opL, views, aliveR, gdTup, gdCons, gdSub, gdNil, Tg.bind, Tg.binds, setV, putMo, gRet, gPass, M.gSet, setM, storeR, gFz, gFrz, M.gLst, M.gTup, valsR, gSl, slM, gPt, gNoP, fSl, gAnd, gOr, gNot, gTru, truM, tru, gAndV, gOrV, gNotV, stays, gIf, gDrop, gRcv, isL, gApp, gMeth, methM, tyD, gFn, callM, argsOf, argOf, brws, nodupN, putBack, Ret.res, gFnK, allVal, Perm.swap, Perm.id, swapL, gChain, gChain3, blM, gRaise, fAdd, fSub, fLt, fInt, fLen, fDivmod, fMod, fFdiv, fMax2, fIsi, isB, gPar, fEq, fNe, eqM, eqS, keyD, gItems, itemsM, tupItems, lstItems, gFor, gEnum, gRange1, sizeLine, noE, atI, ixN, e]
def ge1 (c : Ads) : EM Res := gFrz (gFn 2 (m_patched c) (M.gCons (gFz 2) (M.gCons (gFz 7) M.gNil)))
def ge2 (c : Ads) : EM Res := gFrz (gFnK .swap 2 (m_patched c) (M.gCons (gFz 7) (M.gCons (gFz 2) M.gNil)))
theorem ge1_ok (c : Ads) {text : Str} {p : D} {s0 s1 s3 s4 s5 s6 : Slot} {R : En} (ht : SB 64 text) (g : GP p) : ge1 c (s0 :: s1 :: .val (.str text) :: s3 :: s4 :: s5 :: s6 :: .val p :: R) = match scanP text p with
      | .inl k => some (.ex (.ref c.InvalidPatches) [("index", k)] (s0 :: s1 :: .val (.str text) :: s3 :: s4 :: s5 :: s6 :: .val p :: R))
      | .inr ts => some (.ok (.val (.str (appl text ("" : Str) 0 ts))) (s0 :: s1 :: .val (.str text) :: s3 :: s4 :: s5 :: s6 :: .val p :: R)) := by
  have e := pa_ok c ht g.1 g.2
  unfold ge1
  cases k : scanP text p with
  | inl q => rw [k] at e; simp [gSeq, gIfS, gBl, gOp, gVar, gC, EM.bind, EM.pure, EM.lift, op2, op1, gUn, view, moAt, Slot.mo?, Mo.view, fIx, fII, gAsg, gCall, M.gCons, M.gNil, consM, opL, views, aliveR, gdTup, gdCons, gdSub, gdNil, Tg.bind, Tg.binds, setV, putMo, gRet, gPass, M.gSet, setM, storeR, gFz, gFrz, M.gLst, M.gTup, valsR, gSl, slM, gPt, gNoP, fSl, gAnd, gOr, gNot, gTru, truM, tru, gAndV, gOrV, gNotV, stays, gIf, gDrop, gRcv, isL, gApp, gMeth, methM, tyD, gFn, callM, argsOf, argOf, brws, nodupN, putBack, Ret.res, gFnK, allVal, Perm.swap, Perm.id, swapL, gChain, gChain3, blM, gRaise, fAdd, fSub, fLt, fInt, fLen, fDivmod, fMod, fFdiv, fMax2, fIsi, isB, gPar, fEq, fNe, eqM, eqS, keyD, gItems, itemsM, tupItems, lstItems, gFor, gEnum, gRange1, sizeLine, noE, atI, ixN, e]
  | inr ts => rw [k] at e; simp [gSeq, gIfS, gBl, gOp, gVar, gC, EM.bind, EM.pure, EM.lift, op2, op1, gUn, view, moAt, Slot.mo?, Mo.view, fIx, fII, gAsg, gCall, M.gCons, M.gNil, consM, opL, views, aliveR, gdTup, gdCons, gdSub, gdNil, Tg.bind, Tg.binds, setV, putMo, gRet, gPass, M.gSet, setM, storeR, gFz, gFrz, M.gLst, M.gTup, valsR, gSl, slM, gPt, gNoP, fSl, gAnd, gOr, gNot, gTru, truM, tru, gAndV, gOrV, gNotV, stays, gIf, gDrop, gRcv, isL, gApp, gMeth, methM, tyD, gFn, callM, argsOf, argOf, brws, nodupN, putBack, Ret.res, gFnK, allVal, Perm.swap, Perm.id, swapL, gChain, gChain3, blM, gRaise, fAdd, fSub, fLt, fInt, fLen, fDivmod, fMod, fFdiv, fMax2, fIsi, isB, gPar, fEq, fNe, eqM, eqS, keyD, gItems, itemsM, tupItems, lstItems, gFor, gEnum, gRange1, sizeLine, noE, atI, ixN, e]
theorem ge2_ok (c : Ads) {text : Str} {p : D} {s0 s1 s3 s4 s5 s6 : Slot} {R : En} (ht : SB 64 text) (g : GP p) : ge2 c (s0 :: s1 :: .val (.str text) :: s3 :: s4 :: s5 :: s6 :: .val p :: R) = match scanP text p with
      | .inl k => some (.ex (.ref c.InvalidPatches) [("index", k)] (s0 :: s1 :: .val (.str text) :: s3 :: s4 :: s5 :: s6 :: .val p :: R))
      | .inr ts => some (.ok (.val (.str (appl text ("" : Str) 0 ts))) (s0 :: s1 :: .val (.str text) :: s3 :: s4 :: s5 :: s6 :: .val p :: R)) := by
  have e := pa_ok c ht g.1 g.2
  unfold ge2
  cases k : scanP text p with
  | inl q => rw [k] at e; simp [gSeq, gIfS, gBl, gOp, gVar, gC, EM.bind, EM.pure, EM.lift, op2, op1, gUn, view, moAt, Slot.mo?, Mo.view, fIx, fII, gAsg, gCall, M.gCons, M.gNil, consM, opL, views, aliveR, gdTup, gdCons, gdSub, gdNil, Tg.bind, Tg.binds, setV, putMo, gRet, gPass, M.gSet, setM, storeR, gFz, gFrz, M.gLst, M.gTup, valsR, gSl, slM, gPt, gNoP, fSl, gAnd, gOr, gNot, gTru, truM, tru, gAndV, gOrV, gNotV, stays, gIf, gDrop, gRcv, isL, gApp, gMeth, methM, tyD, gFn, callM, argsOf, argOf, brws, nodupN, putBack, Ret.res, gFnK, allVal, Perm.swap, Perm.id, swapL, gChain, gChain3, blM, gRaise, fAdd, fSub, fLt, fInt, fLen, fDivmod, fMod, fFdiv, fMax2, fIsi, isB, gPar, fEq, fNe, eqM, eqS, keyD, gItems, itemsM, tupItems, lstItems, gFor, gEnum, gRange1, sizeLine, noE, atI, ixN, e]
  | inr ts => rw [k] at e; simp [gSeq, gIfS, gBl, gOp, gVar, gC, EM.bind, EM.pure, EM.lift, op2, op1, gUn, view, moAt, Slot.mo?, Mo.view, fIx, fII, gAsg, gCall, M.gCons, M.gNil, consM, opL, views, aliveR, gdTup, gdCons, gdSub, gdNil, Tg.bind, Tg.binds, setV, putMo, gRet, gPass, M.gSet, setM, storeR, gFz, gFrz, M.gLst, M.gTup, valsR, gSl, slM, gPt, gNoP, fSl, gAnd, gOr, gNot, gTru, truM, tru, gAndV, gOrV, gNotV, stays, gIf, gDrop, gRcv, isL, gApp, gMeth, methM, tyD, gFn, callM, argsOf, argOf, brws, nodupN, putBack, Ret.res, gFnK, allVal, Perm.swap, Perm.id, swapL, gChain, gChain3, blM, gRaise, fAdd, fSub, fLt, fInt, fLen, fDivmod, fMod, fFdiv, fMax2, fIsi, isB, gPar, fEq, fNe, eqM, eqS, keyD, gItems, itemsM, tupItems, lstItems, gFor, gEnum, gRange1, sizeLine, noE, atI, ixN, e]
theorem rl2 (c : Ads) (hd : c.InvalidText ≠ c.InvalidPatches) {text : Str} {p : D} {s0 s1 s3 s4 s5 s6 s8 s9 : Slot} {R : En} (ht : SB 64 text) (g : GP p) (h9 : Vo s9) (hn : noE (s0 :: s1 :: .val (.str text) :: s3 :: s4 :: s5 :: s6 :: .val p :: s8 :: s9 :: R) = true) :
    rl_2 c (s0 :: s1 :: .val (.str text) :: s3 :: s4 :: s5 :: s6 :: .val p :: s8 :: s9 :: R) = some (.ok .nx (s0 :: s1 :: .val (.str text) :: s3 :: s4 :: s5 :: s6 :: .val p :: s8 :: .own (.l [hv text p, .int 0]) :: R)) := by
  have e := heard_pa c hd hn (ge1_ok c ht g)
  have r : rl_2 c = M.gSet 9 (M.gLst (M.gCons (gFrz (gHeard 4 "told" (mt__law_heard c) (su__law_heard c) (ge1 c))) (M.gCons (gC (.int 0)) M.gNil))) := rfl
  rw [r]
  rcases h9 with rfl | ⟨_, rfl⟩ | ⟨_, rfl⟩ <;> simp [gSeq, gIfS, gBl, gOp, gVar, gC, EM.bind, EM.pure, EM.lift, op2, op1, gUn, view, moAt, Slot.mo?, Mo.view, fIx, fII, gAsg, gCall, M.gCons, M.gNil, consM, opL, views, aliveR, gdTup, gdCons, gdSub, gdNil, Tg.bind, Tg.binds, setV, putMo, gRet, gPass, M.gSet, setM, storeR, gFz, gFrz, M.gLst, M.gTup, valsR, gSl, slM, gPt, gNoP, fSl, gAnd, gOr, gNot, gTru, truM, tru, gAndV, gOrV, gNotV, stays, gIf, gDrop, gRcv, isL, gApp, gMeth, methM, tyD, gFn, callM, argsOf, argOf, brws, nodupN, putBack, Ret.res, gFnK, allVal, Perm.swap, Perm.id, swapL, gChain, gChain3, blM, gRaise, fAdd, fSub, fLt, fInt, fLen, fDivmod, fMod, fFdiv, fMax2, fIsi, isB, gPar, fEq, fNe, eqM, eqS, keyD, gItems, itemsM, tupItems, lstItems, gFor, gEnum, gRange1, sizeLine, noE, atI, ixN, e]
theorem rl3 (c : Ads) (hd : c.InvalidText ≠ c.InvalidPatches) {text : Str} {p x : D} {s0 s1 s3 s4 s5 s6 s8 : Slot} {R : En} (ht : SB 64 text) (g : GP p) (hn : noE (s0 :: s1 :: .val (.str text) :: s3 :: s4 :: s5 :: s6 :: .val p :: s8 :: .own (.l [x, .int 0]) :: R) = true) :
    rl_3 c (s0 :: s1 :: .val (.str text) :: s3 :: s4 :: s5 :: s6 :: .val p :: s8 :: .own (.l [x, .int 0]) :: R) = some (.ok .nx (s0 :: s1 :: .val (.str text) :: s3 :: s4 :: s5 :: s6 :: .val p :: s8 :: .own (.l [x, hv text p]) :: R)) := by
  have e := heard_pa c hd hn (ge2_ok c ht g)
  have r : rl_3 c = gAsg (gdSub 9 (gC (.int 1))) (gFrz (gHeard 4 "told" (mt__law_heard c) (su__law_heard c) (ge2 c))) := rfl
  rw [r]
  simp [gSeq, gIfS, gBl, gOp, gVar, gC, EM.bind, EM.pure, EM.lift, op2, op1, gUn, view, moAt, Slot.mo?, Mo.view, fIx, fII, gAsg, gCall, M.gCons, M.gNil, consM, opL, views, aliveR, gdTup, gdCons, gdSub, gdNil, Tg.bind, Tg.binds, setV, putMo, gRet, gPass, M.gSet, setM, storeR, gFz, gFrz, M.gLst, M.gTup, valsR, gSl, slM, gPt, gNoP, fSl, gAnd, gOr, gNot, gTru, truM, tru, gAndV, gOrV, gNotV, stays, gIf, gDrop, gRcv, isL, gApp, gMeth, methM, tyD, gFn, callM, argsOf, argOf, brws, nodupN, putBack, Ret.res, gFnK, allVal, Perm.swap, Perm.id, swapL, gChain, gChain3, blM, gRaise, fAdd, fSub, fLt, fInt, fLen, fDivmod, fMod, fFdiv, fMax2, fIsi, isB, gPar, fEq, fNe, eqM, eqS, keyD, gItems, itemsM, tupItems, lstItems, gFor, gEnum, gRange1, sizeLine, noE, atI, ixN, e]
theorem rl4 (c : Ads) {text : Str} {p : D} {s0 s1 s3 s4 s5 s6 : Slot} {R : En} (ht : SB 64 text) (g : GP p) :
    rl_4 c (s0 :: s1 :: .val (.str text) :: s3 :: s4 :: s5 :: s6 :: .val p :: .own (.l (wrongD text p)) :: .own (.l [hv text p, hv text p]) :: R) = some (.ok .nx (s0 :: s1 :: .val (.str text) :: s3 :: s4 :: s5 :: s6 :: .val p :: .own (.l (wrongD text p)) :: .val (.lst [hv text p, hv text p]) :: R)) := by
  have hdb := hv_db ht g.2
  have es := same_ok c (d := .lst [hv text p, hv text p]) (.inr ⟨_, .inr (.inl rfl), by simp, fun x hx => by simp at hx; rw [hx]; exact hdb⟩)
  unfold rl_4
  unfold hv at es ⊢
  unfold wrongD
  cases k : scanP text p with
  | inl q =>
    rw [k] at es
    rcases scanP_inl g.2 k with rfl | ⟨j, hj, rfl⟩
    · simp [gSeq, gIfS, gBl, gOp, gVar, gC, EM.bind, EM.pure, EM.lift, op2, op1, gUn, view, moAt, Slot.mo?, Mo.view, fIx, fII, gAsg, gCall, M.gCons, M.gNil, consM, opL, views, aliveR, gdTup, gdCons, gdSub, gdNil, Tg.bind, Tg.binds, setV, putMo, gRet, gPass, M.gSet, setM, storeR, gFz, gFrz, M.gLst, M.gTup, valsR, gSl, slM, gPt, gNoP, fSl, gAnd, gOr, gNot, gTru, truM, tru, gAndV, gOrV, gNotV, stays, gIf, gDrop, gRcv, isL, gApp, gMeth, methM, tyD, gFn, callM, argsOf, argOf, brws, nodupN, putBack, Ret.res, gFnK, allVal, Perm.swap, Perm.id, swapL, gChain, gChain3, blM, gRaise, fAdd, fSub, fLt, fInt, fLen, fDivmod, fMod, fFdiv, fMax2, fIsi, isB, gPar, fEq, fNe, eqM, eqS, keyD, gItems, itemsM, tupItems, lstItems, gFor, gEnum, gRange1, sizeLine, noE, atI, ixN, pd, pds, SeqAt.shaped, PyData.canLay0, PyData.canLayAll0, PyData.depth, PyData.depthAll, PyData.eqv, PyData.eqvAll, fMul, List.replicate, es]
    · simp [gSeq, gIfS, gBl, gOp, gVar, gC, EM.bind, EM.pure, EM.lift, op2, op1, gUn, view, moAt, Slot.mo?, Mo.view, fIx, fII, gAsg, gCall, M.gCons, M.gNil, consM, opL, views, aliveR, gdTup, gdCons, gdSub, gdNil, Tg.bind, Tg.binds, setV, putMo, gRet, gPass, M.gSet, setM, storeR, gFz, gFrz, M.gLst, M.gTup, valsR, gSl, slM, gPt, gNoP, fSl, gAnd, gOr, gNot, gTru, truM, tru, gAndV, gOrV, gNotV, stays, gIf, gDrop, gRcv, isL, gApp, gMeth, methM, tyD, gFn, callM, argsOf, argOf, brws, nodupN, putBack, Ret.res, gFnK, allVal, Perm.swap, Perm.id, swapL, gChain, gChain3, blM, gRaise, fAdd, fSub, fLt, fInt, fLen, fDivmod, fMod, fFdiv, fMax2, fIsi, isB, gPar, fEq, fNe, eqM, eqS, keyD, gItems, itemsM, tupItems, lstItems, gFor, gEnum, gRange1, sizeLine, noE, atI, ixN, pd, pds, SeqAt.shaped, PyData.canLay0, PyData.canLayAll0, PyData.depth, PyData.depthAll, PyData.eqv, PyData.eqvAll, fMul, List.replicate, es]
  | inr ts =>
    rw [k] at es
    obtain ⟨ep, sm⟩ := g.2.ts k
    have el := lp_ok c ht sm
    subst ep
    simp [gSeq, gIfS, gBl, gOp, gVar, gC, EM.bind, EM.pure, EM.lift, op2, op1, gUn, view, moAt, Slot.mo?, Mo.view, fIx, fII, gAsg, gCall, M.gCons, M.gNil, consM, opL, views, aliveR, gdTup, gdCons, gdSub, gdNil, Tg.bind, Tg.binds, setV, putMo, gRet, gPass, M.gSet, setM, storeR, gFz, gFrz, M.gLst, M.gTup, valsR, gSl, slM, gPt, gNoP, fSl, gAnd, gOr, gNot, gTru, truM, tru, gAndV, gOrV, gNotV, stays, gIf, gDrop, gRcv, isL, gApp, gMeth, methM, tyD, gFn, callM, argsOf, argOf, brws, nodupN, putBack, Ret.res, gFnK, allVal, Perm.swap, Perm.id, swapL, gChain, gChain3, blM, gRaise, fAdd, fSub, fLt, fInt, fLen, fDivmod, fMod, fFdiv, fMax2, fIsi, isB, gPar, fEq, fNe, eqM, eqS, keyD, gItems, itemsM, tupItems, lstItems, gFor, gEnum, gRange1, sizeLine, noE, atI, ixN, pd, pds, SeqAt.shaped, PyData.canLay0, PyData.canLayAll0, PyData.depth, PyData.depthAll, PyData.eqv, PyData.eqvAll, fMul, List.replicate, es, el]
end My

namespace My
open PySem PySem.Spec PyProof.Rows L2 M
def rb_0 (c : Ads) : EM Fl := (gSet 2 (gMeth "str" fJoin (gC (.str "")) (gCons (gLc (gRange1 (gCons (gFn 2 (m__law_take c) (gCons (gVar 0) (gCons (gC (.int 12)) gNil))) gNil)) (.nm 3) [3] gYes (gFrz (gFn 2 (m__law_pick c) (gCons (gVar 0) (gCons (gFrz (gLst (gCons (gC (.str "a")) (gCons (gC (.str "b")) (gCons (gC (.str "<p>")) (gCons (gC (.str "c d")) (gCons (gC (.str "\n")) (gCons (gC (.str "")) (gCons (gC (.str "&amp;")) gNil))))))))) gNil))))) gNil)))
def rb_1 (c : Ads) : EM Fl := (gSet 4 (gFn 2 (m__law_some c) (gCons (gVar 0) (gCons (gFz 2) gNil))))
def rb_2 (c : Ads) : EM Fl := (gSet 5 (gFn 2 (m__law_patched c) (gCons (gFz 2) (gCons (gFz 4) gNil))))
def rb_3 (c : Ads) : EM Fl := (gIfS (gOr (gNot (gTru (gFn 2 (m__law_same c) (gCons (gTup (gCons (gFrz (gFn 2 (m_patched c) (gCons (gFz 2) (gCons (gFz 4) gNil)))) (gCons (gFrz (gFnK .swap 2 (m_patched c) (gCons (gFz 4) (gCons (gFz 2) gNil)))) (gCons (gFrz (gFn 2 (m_patched c) (gCons (gFz 2) (gCons (gTup gNil) gNil)))) gNil)))) (gCons (gTup (gCons (gFz 5) (gCons (gFz 5) (gCons (gFz 2) gNil)))) gNil))))) (gBl (gOp fNe (gFn 2 (m__law_wrong c) (gCons (gFz 2) (gCons (gFz 4) gNil))) (gLst gNil))))
    (gRet (gC (.bl false)))
    gPass)
def rb_4 (c : Ads) : EM Fl := (gFor (gRange1 (gCons (gC (.int 4)) gNil)) (.nm 6)
    (gSeq (gSet 7 (gFn 3 (m__law_bent c) (gCons (gVar 0) (gCons (gFz 2) (gCons (gFz 4) gNil)))))
    (gSeq (gSet 8 (gFn 2 (m__law_wrong c) (gCons (gFz 2) (gCons (gFz 7) gNil))))
    (gSeq (gSet 9 (gLst (gCons (gFrz (gHeard 4 "told" (mt__law_heard c) (su__law_heard c) (gFrz (gFn 2 (m_patched c) (gCons (gFz 2) (gCons (gFz 7) gNil)))))) (gCons (gC (.int 0)) gNil))))
    (gSeq (gAsg (gdSub 9 (gC (.int 1))) (gFrz (gHeard 4 "told" (mt__law_heard c) (su__law_heard c) (gFrz (gFnK .swap 2 (m_patched c) (gCons (gFz 7) (gCons (gFz 2) gNil)))))))
    (gIfS (gNot (gTru (gFn 2 (m__law_same c) (gCons (gFz 9) (gCons (gFrz (gOp fMul (gLst (gCons (gIf (gBl (gOp fNe (gVar 8) (gLst gNil))) (gTup (gCons (gC (.str "patches")) (gCons (gOp fIx (gVar 8) (gC (.int 0))) gNil))) (gTup (gCons (gC (.str "told")) (gCons (gFrz (gFn 2 (m__law_patched c) (gCons (gFz 2) (gCons (gFz 7) gNil)))) gNil)))) gNil)) (gC (.int 2)))) gNil)))))
    (gRet (gC (.bl false)))
    gPass))))))
def rb_5 (c : Ads) : EM Fl := (gSet 10 (gFn 2 (m__law_pick c) (gCons (gVar 0) (gCons (gFrz (gLst (gCons (gC .non) (gCons (gC (.int 5)) (gCons (gTup (gCons (gC (.str "a")) gNil)) (gCons (gFrz (gLst (gCons (gC (.str "a")) gNil))) (gCons (gC (.bl true)) gNil))))))) gNil))))
def rb_6 (c : Ads) : EM Fl := (gIfS (gNot (gTru (gFn 2 (m__law_same c) (gCons (gFrz (gHeard 4 "told" (mt__law_heard c) (su__law_heard c) (gFrz (gFn 2 (m_patched c) (gCons (gFz 10) (gCons (gC .non) gNil)))))) (gCons (gTup (gCons (gC (.str "text")) (gCons (gFz 10) gNil))) gNil)))))
    (gRet (gC (.bl false)))
    gPass)
theorem rb_eq (c : Ads) : (gSeq (gSet 2 (gMeth "str" fJoin (gC (.str "")) (gCons (gLc (gRange1 (gCons (gFn 2 (m__law_take c) (gCons (gVar 0) (gCons (gC (.int 12)) gNil))) gNil)) (.nm 3) [3] gYes (gFrz (gFn 2 (m__law_pick c) (gCons (gVar 0) (gCons (gFrz (gLst (gCons (gC (.str "a")) (gCons (gC (.str "b")) (gCons (gC (.str "<p>")) (gCons (gC (.str "c d")) (gCons (gC (.str "\n")) (gCons (gC (.str "")) (gCons (gC (.str "&amp;")) gNil))))))))) gNil))))) gNil)))
    (gSeq (gSet 4 (gFn 2 (m__law_some c) (gCons (gVar 0) (gCons (gFz 2) gNil))))
    (gSeq (gSet 5 (gFn 2 (m__law_patched c) (gCons (gFz 2) (gCons (gFz 4) gNil))))
    (gSeq (gIfS (gOr (gNot (gTru (gFn 2 (m__law_same c) (gCons (gTup (gCons (gFrz (gFn 2 (m_patched c) (gCons (gFz 2) (gCons (gFz 4) gNil)))) (gCons (gFrz (gFnK .swap 2 (m_patched c) (gCons (gFz 4) (gCons (gFz 2) gNil)))) (gCons (gFrz (gFn 2 (m_patched c) (gCons (gFz 2) (gCons (gTup gNil) gNil)))) gNil)))) (gCons (gTup (gCons (gFz 5) (gCons (gFz 5) (gCons (gFz 2) gNil)))) gNil))))) (gBl (gOp fNe (gFn 2 (m__law_wrong c) (gCons (gFz 2) (gCons (gFz 4) gNil))) (gLst gNil))))
    (gRet (gC (.bl false)))
    gPass)
    (gSeq (gFor (gRange1 (gCons (gC (.int 4)) gNil)) (.nm 6)
    (gSeq (gSet 7 (gFn 3 (m__law_bent c) (gCons (gVar 0) (gCons (gFz 2) (gCons (gFz 4) gNil)))))
    (gSeq (gSet 8 (gFn 2 (m__law_wrong c) (gCons (gFz 2) (gCons (gFz 7) gNil))))
    (gSeq (gSet 9 (gLst (gCons (gFrz (gHeard 4 "told" (mt__law_heard c) (su__law_heard c) (gFrz (gFn 2 (m_patched c) (gCons (gFz 2) (gCons (gFz 7) gNil)))))) (gCons (gC (.int 0)) gNil))))
    (gSeq (gAsg (gdSub 9 (gC (.int 1))) (gFrz (gHeard 4 "told" (mt__law_heard c) (su__law_heard c) (gFrz (gFnK .swap 2 (m_patched c) (gCons (gFz 7) (gCons (gFz 2) gNil)))))))
    (gIfS (gNot (gTru (gFn 2 (m__law_same c) (gCons (gFz 9) (gCons (gFrz (gOp fMul (gLst (gCons (gIf (gBl (gOp fNe (gVar 8) (gLst gNil))) (gTup (gCons (gC (.str "patches")) (gCons (gOp fIx (gVar 8) (gC (.int 0))) gNil))) (gTup (gCons (gC (.str "told")) (gCons (gFrz (gFn 2 (m__law_patched c) (gCons (gFz 2) (gCons (gFz 7) gNil)))) gNil)))) gNil)) (gC (.int 2)))) gNil)))))
    (gRet (gC (.bl false)))
    gPass))))))
    (gSeq (gSet 10 (gFn 2 (m__law_pick c) (gCons (gVar 0) (gCons (gFrz (gLst (gCons (gC .non) (gCons (gC (.int 5)) (gCons (gTup (gCons (gC (.str "a")) gNil)) (gCons (gFrz (gLst (gCons (gC (.str "a")) gNil))) (gCons (gC (.bl true)) gNil))))))) gNil))))
    (gIfS (gNot (gTru (gFn 2 (m__law_same c) (gCons (gFrz (gHeard 4 "told" (mt__law_heard c) (su__law_heard c) (gFrz (gFn 2 (m_patched c) (gCons (gFz 10) (gCons (gC .non) gNil)))))) (gCons (gTup (gCons (gC (.str "text")) (gCons (gFz 10) gNil))) gNil)))))
    (gRet (gC (.bl false)))
    gPass))))))) = (gSeq (rb_0 c) (gSeq (rb_1 c) (gSeq (rb_2 c) (gSeq (rb_3 c) (gSeq (rb_4 c) (gSeq (rb_5 c) (rb_6 c))))))) := rfl
def rr_0 (c : Ads) : EM Fl := (gFor (gRange1 (gCons (gC (.int 16)) gNil)) (.nm 1)
    (gSeq (gSet 2 (gMeth "str" fJoin (gC (.str "")) (gCons (gLc (gRange1 (gCons (gFn 2 (m__law_take c) (gCons (gVar 0) (gCons (gC (.int 12)) gNil))) gNil)) (.nm 3) [3] gYes (gFrz (gFn 2 (m__law_pick c) (gCons (gVar 0) (gCons (gFrz (gLst (gCons (gC (.str "a")) (gCons (gC (.str "b")) (gCons (gC (.str "<p>")) (gCons (gC (.str "c d")) (gCons (gC (.str "\n")) (gCons (gC (.str "")) (gCons (gC (.str "&amp;")) gNil))))))))) gNil))))) gNil)))
    (gSeq (gSet 4 (gFn 2 (m__law_some c) (gCons (gVar 0) (gCons (gFz 2) gNil))))
    (gSeq (gSet 5 (gFn 2 (m__law_patched c) (gCons (gFz 2) (gCons (gFz 4) gNil))))
    (gSeq (gIfS (gOr (gNot (gTru (gFn 2 (m__law_same c) (gCons (gTup (gCons (gFrz (gFn 2 (m_patched c) (gCons (gFz 2) (gCons (gFz 4) gNil)))) (gCons (gFrz (gFnK .swap 2 (m_patched c) (gCons (gFz 4) (gCons (gFz 2) gNil)))) (gCons (gFrz (gFn 2 (m_patched c) (gCons (gFz 2) (gCons (gTup gNil) gNil)))) gNil)))) (gCons (gTup (gCons (gFz 5) (gCons (gFz 5) (gCons (gFz 2) gNil)))) gNil))))) (gBl (gOp fNe (gFn 2 (m__law_wrong c) (gCons (gFz 2) (gCons (gFz 4) gNil))) (gLst gNil))))
    (gRet (gC (.bl false)))
    gPass)
    (gSeq (gFor (gRange1 (gCons (gC (.int 4)) gNil)) (.nm 6)
    (gSeq (gSet 7 (gFn 3 (m__law_bent c) (gCons (gVar 0) (gCons (gFz 2) (gCons (gFz 4) gNil)))))
    (gSeq (gSet 8 (gFn 2 (m__law_wrong c) (gCons (gFz 2) (gCons (gFz 7) gNil))))
    (gSeq (gSet 9 (gLst (gCons (gFrz (gHeard 4 "told" (mt__law_heard c) (su__law_heard c) (gFrz (gFn 2 (m_patched c) (gCons (gFz 2) (gCons (gFz 7) gNil)))))) (gCons (gC (.int 0)) gNil))))
    (gSeq (gAsg (gdSub 9 (gC (.int 1))) (gFrz (gHeard 4 "told" (mt__law_heard c) (su__law_heard c) (gFrz (gFnK .swap 2 (m_patched c) (gCons (gFz 7) (gCons (gFz 2) gNil)))))))
    (gIfS (gNot (gTru (gFn 2 (m__law_same c) (gCons (gFz 9) (gCons (gFrz (gOp fMul (gLst (gCons (gIf (gBl (gOp fNe (gVar 8) (gLst gNil))) (gTup (gCons (gC (.str "patches")) (gCons (gOp fIx (gVar 8) (gC (.int 0))) gNil))) (gTup (gCons (gC (.str "told")) (gCons (gFrz (gFn 2 (m__law_patched c) (gCons (gFz 2) (gCons (gFz 7) gNil)))) gNil)))) gNil)) (gC (.int 2)))) gNil)))))
    (gRet (gC (.bl false)))
    gPass))))))
    (gSeq (gSet 10 (gFn 2 (m__law_pick c) (gCons (gVar 0) (gCons (gFrz (gLst (gCons (gC .non) (gCons (gC (.int 5)) (gCons (gTup (gCons (gC (.str "a")) gNil)) (gCons (gFrz (gLst (gCons (gC (.str "a")) gNil))) (gCons (gC (.bl true)) gNil))))))) gNil))))
    (gIfS (gNot (gTru (gFn 2 (m__law_same c) (gCons (gFrz (gHeard 4 "told" (mt__law_heard c) (su__law_heard c) (gFrz (gFn 2 (m_patched c) (gCons (gFz 10) (gCons (gC .non) gNil)))))) (gCons (gTup (gCons (gC (.str "text")) (gCons (gFz 10) gNil))) gNil)))))
    (gRet (gC (.bl false)))
    gPass))))))))
def rr_1 (c : Ads) : EM Fl := (gRet (gC (.bl true)))
theorem rr_eq (c : Ads) : b__law_round c = (gSeq (rr_0 c) (rr_1 c)) := rfl
def lapBody (c : Ads) : EM Fl := gSeq (rl_0 c) (gSeq (rl_1 c) (gSeq (rl_2 c) (gSeq (rl_3 c) (rl_4 c))))
def LapI (n : Nat) (d1 : D) (text : Str) (s3 s5 s10 : Slot) (ts : List Ptc) (j : Nat) (ρ : En) : Prop := ∃ m s6 s7 s8 s9, ρ = [.par m, .val d1, .val (.str text), s3, .val (.tup (ts.map ptc)), s5, s6, s7, s8, s9, s10] ∧ WOk (n + 3 * j) m ∧ Vn s6 ∧ Vn s7 ∧ Vo s8 ∧ Vo s9
theorem lap_step (c : Ads) (hd : c.InvalidText ≠ c.InvalidPatches) {n : Nat} {d1 : D} {text : Str} {s3 s5 s10 : Slot} {ts : List Ptc} (ht : SB 64 text) (hn : n ≤ 60000) (hl : ts.length ≤ 6) (h : ∀ t ∈ ts, Nw t.2.2) (h3 : Vn s3) (h5 : Vn s5) (h10 : Vn s10)
    {j : Nat} (hj : j ≤ 100) {ρ : En} {d : D} (hI : LapI n d1 text s3 s5 s10 ts j ρ) : ∃ ρ1 ρ2, Tg.bind (.nm 6) d ρ = some ρ1 ∧ (lapBody c ρ1 = some (.ok .nx ρ2) ∨ lapBody c ρ1 = some (.ok .ct ρ2)) ∧ LapI n d1 text s3 s5 s10 ts (j + 1) ρ2 := by
  obtain ⟨m, s6, s7, s8, s9, rfl, w, h6, h7, h8, h9⟩ := hI
  obtain ⟨m', p, e0, w', g⟩ := rl0 c (s1 := .val d1) (s3 := s3) (s5 := s5) (s6 := .val d) (s7 := s7) (R := [s8, s9, s10]) ht w (by omega) hl h h7
  have e1 := rl1 c (s0 := .par m') (s1 := .val d1) (s3 := s3) (s4 := .val (.tup (ts.map ptc))) (s5 := s5) (s6 := .val d) (s8 := s8) (R := [s9, s10]) ht g h8
  have n0 : noE [s10] = true := noE_cons h10.vo rfl
  have hn2 : noE [.par m', .val d1, .val (.str text), s3, .val (.tup (ts.map ptc)), s5, .val d, .val p, .own (.l (wrongD text p)), s9, s10] = true := noE_par (noE_val (noE_val (noE_cons h3.vo (noE_val (noE_cons h5.vo (noE_val (noE_val (noE_own (noE_cons h9 n0)))))))))
  have hn3 : noE [.par m', .val d1, .val (.str text), s3, .val (.tup (ts.map ptc)), s5, .val d, .val p, .own (.l (wrongD text p)), .own (.l [hv text p, .int 0]), s10] = true := noE_par (noE_val (noE_val (noE_cons h3.vo (noE_val (noE_cons h5.vo (noE_val (noE_val (noE_own (noE_own n0)))))))))
  have e2 := rl2 c hd ht g h9 hn2
  have e3 := rl3 c hd ht g hn3
  have e4 := rl4 c (s0 := .par m') (s1 := .val d1) (s3 := s3) (s4 := .val (.tup (ts.map ptc))) (s5 := s5) (s6 := .val d) (R := [s10]) ht g
  refine ⟨[.par m, .val d1, .val (.str text), s3, .val (.tup (ts.map ptc)), s5, .val d, s7, s8, s9, s10], _, ?_, .inl ?_, m', .val d, .val p, .own (.l (wrongD text p)), .val (.lst [hv text p, hv text p]), rfl, w'.mono (by omega), .inr ⟨_, rfl⟩, .inr ⟨_, rfl⟩, .inr (.inr ⟨_, rfl⟩), .inr (.inl ⟨_, rfl⟩)⟩
  · rcases h6 with rfl | ⟨_, rfl⟩ <;> simp [gSeq, gIfS, gBl, gOp, gVar, gC, EM.bind, EM.pure, EM.lift, op2, op1, gUn, view, moAt, Slot.mo?, Mo.view, fIx, fII, gAsg, gCall, M.gCons, M.gNil, consM, opL, views, aliveR, gdTup, gdCons, gdSub, gdNil, Tg.bind, Tg.binds, setV, putMo, gRet, gPass, M.gSet, setM, storeR, gFz, gFrz, M.gLst, M.gTup, valsR, gSl, slM, gPt, gNoP, fSl, gAnd, gOr, gNot, gTru, truM, tru, gAndV, gOrV, gNotV, stays, gIf, gDrop, gRcv, isL, gApp, gMeth, methM, tyD, gFn, callM, argsOf, argOf, brws, nodupN, putBack, Ret.res, gFnK, allVal, Perm.swap, Perm.id, swapL, gChain, gChain3, blM, gRaise, fAdd, fSub, fLt, fInt, fLen, fDivmod, fMod, fFdiv, fMax2, fIsi, isB, gPar, fEq, fNe, eqM, eqS, keyD, gItems, itemsM, tupItems, lstItems, gFor, gEnum, gRange1, sizeLine, noE, atI, ixN]
  · unfold lapBody
    rw [seq_nx e0, seq_nx e1, seq_nx e2, seq_nx e3]
    exact e4
/-! ### the text -/
def smT : List D := [.str "a", .str "b", .str "<p>", .str "c d", .str "\n", .str "", .str "&amp;"]
theorem smT_sb {x : D} (h : x ∈ smT) : ∃ z : Str, x = .str z ∧ SB 5 z := by
  unfold smT at h
  simp only [List.mem_cons, List.not_mem_nil, or_false] at h
  rcases h with rfl | rfl | rfl | rfl | rfl | rfl | rfl <;> exact ⟨_, rfl, sb_of (by decide) (by decide)⟩
def elT (c : Ads) : EM Res := (gFrz (gFn 2 (m__law_pick c) (gCons (gVar 0) (gCons (gFrz (gLst (gCons (gC (.str "a")) (gCons (gC (.str "b")) (gCons (gC (.str "<p>")) (gCons (gC (.str "c d")) (gCons (gC (.str "\n")) (gCons (gC (.str "")) (gCons (gC (.str "&amp;")) gNil))))))))) gNil))))
theorem rb0 (c : Ads) {n : Nat} {m : Mo} {s1 s2 s3 : Slot} {R : En} (w : WOk n m) (hn : n ≤ 80000) (h2 : Vn s2) (h3 : Vn s3) : ∃ m' text, WOk (n + 12) m' ∧ SB 64 text ∧ rb_0 c (.par m :: s1 :: s2 :: s3 :: R) = some (.ok .nx (.par m' :: s1 :: .val (.str text) :: .un :: R)) := by
  obtain ⟨v, m1, e1, v0, v1, w1⟩ := take_ok c (many := 12) w (by omega) (by decide) (by decide)
  obtain ⟨acc, ρ', e2, ⟨m2, q3, rfl, w2, hq, zs, rfl, hz⟩, hl⟩ := compM_inv (t := .nm 3) (vs := [3]) (ge := elT c) (fun acc ρ => ∃ m' q3, ρ = .par m' :: s1 :: s2 :: q3 :: R ∧ WOk (n + 1 + acc.length) m' ∧ Vn q3 ∧ ∃ zs : List Str, acc = zs.map D.str ∧ ∀ z ∈ zs, SB 5 z)
    ((List.range v.toNat).map fun (i : Nat) => D.int (i : Int)) [] (.par m1 :: s1 :: s2 :: s3 :: R) (by
    rintro acc ρ x hx hal ⟨m', q3, rfl, w', hq, zs, rfl, hz⟩
    rw [List.length_map] at w'
    simp at hal
    obtain ⟨y, m3, e, hy, w3⟩ := pick_ok c (ds := smT) w' (by omega) (by simp [smT]) (by simp [smT])
    obtain ⟨z, rfl, sz⟩ := smT_sb hy
    unfold smT at e
    refine ⟨.par m' :: s1 :: s2 :: .val x :: R, .str z, .par m3 :: s1 :: s2 :: .val x :: R, by simp [wipeE, gSeq, gIfS, gBl, gOp, gVar, gC, EM.bind, EM.pure, EM.lift, op2, op1, gUn, view, moAt, Slot.mo?, Mo.view, fIx, fII, gAsg, gCall, M.gCons, M.gNil, consM, opL, views, aliveR, gdTup, gdCons, gdSub, gdNil, Tg.bind, Tg.binds, setV, putMo, gRet, gPass, M.gSet, setM, storeR, gFz, gFrz, M.gLst, M.gTup, valsR, gSl, slM, gPt, gNoP, fSl, gAnd, gOr, gNot, gTru, truM, tru, gAndV, gOrV, gNotV, stays, gIf, gDrop, gRcv, isL, gApp, gMeth, methM, tyD, gFn, callM, argsOf, argOf, brws, nodupN, putBack, Ret.res, gFnK, allVal, Perm.swap, Perm.id, swapL, gChain, gChain3, blM, gRaise, fAdd, fSub, fLt, fInt, fLen, fDivmod, fMod, fFdiv, fMax2, fIsi, isB, gPar, fEq, fNe, eqM, eqS, keyD, gItems, itemsM, tupItems, lstItems, gFor, gEnum, gRange1, sizeLine, noE, atI, ixN], ?_, m3, .val x, rfl, w3.mono (by simp; omega), .inr ⟨_, rfl⟩, zs ++ [z], by simp, ?_⟩
    · unfold elT
      simp [gSeq, gIfS, gBl, gOp, gVar, gC, EM.bind, EM.pure, EM.lift, op2, op1, gUn, view, moAt, Slot.mo?, Mo.view, fIx, fII, gAsg, gCall, M.gCons, M.gNil, consM, opL, views, aliveR, gdTup, gdCons, gdSub, gdNil, Tg.bind, Tg.binds, setV, putMo, gRet, gPass, M.gSet, setM, storeR, gFz, gFrz, M.gLst, M.gTup, valsR, gSl, slM, gPt, gNoP, fSl, gAnd, gOr, gNot, gTru, truM, tru, gAndV, gOrV, gNotV, stays, gIf, gDrop, gRcv, isL, gApp, gMeth, methM, tyD, gFn, callM, argsOf, argOf, brws, nodupN, putBack, Ret.res, gFnK, allVal, Perm.swap, Perm.id, swapL, gChain, gChain3, blM, gRaise, fAdd, fSub, fLt, fInt, fLen, fDivmod, fMod, fFdiv, fMax2, fIsi, isB, gPar, fEq, fNe, eqM, eqS, keyD, gItems, itemsM, tupItems, lstItems, gFor, gEnum, gRange1, sizeLine, noE, atI, ixN, e]
    · intro q hq'
      rcases List.mem_append.mp hq' with hq' | hq'
      · exact hz q hq'
      · rw [List.mem_singleton.mp hq']; exact sz) (by
    rintro acc ρ ⟨m', q3, rfl, w', hq, _⟩
    rcases hq with rfl | ⟨_, rfl⟩ <;> simp [noPars]) (by simp [sizeLine]; omega) ⟨m1, s3, rfl, w1, h3, [], rfl, fun z hz => by cases hz⟩
  have zl : zs.length ≤ 11 := by simp at hl; omega
  have js : SB 64 (Str.join ("" : Str) zs) := (SB.join (sep := ("" : Str)) (k := 0) (sb_of (by decide) (by decide)) hz).mono (by omega)
  have g1 : (zs.map (·.length)).sum ≤ 16777216 := Nat.le_trans (sum_le fun x hx => (hz x hx).1) (by omega)
  have hz0 : ("" : Str).length = 0 := rfl
  have r1 : -4611686018427387904 ≤ v := by omega
  have r2 : v < 4611686018427387904 := by omega
  refine ⟨m2, Str.join ("" : Str) zs, w2.mono (by rw [List.length_map]; omega), js, ?_⟩
  have np : noPars (.par m1 :: s1 :: s2 :: s3 :: R) [3] = true := by rcases h3 with rfl | ⟨_, rfl⟩ <;> simp [noPars]
  have rb : rb_0 c = M.gSet 2 (gMeth "str" fJoin (gC (.str "")) (M.gCons (gLc (gRange1 (M.gCons (gFn 2 (m__law_take c) (M.gCons (gVar 0) (M.gCons (gC (.int 12)) M.gNil))) M.gNil)) (.nm 3) [3] gYes (elT c)) M.gNil)) := rfl
  rw [rb]
  have e2' : compM (.nm 3) [3] gYes (elT c) [] ((List.range v.toNat).map fun (i : Nat) => D.int (i : Int)) (.par m1 :: s1 :: s2 :: s3 :: R) = some (.ok (zs.map D.str) (.par m2 :: s1 :: s2 :: .un :: R)) := e2
  rcases h2 with rfl | ⟨_, rfl⟩ <;> simp [gSeq, gIfS, gBl, gOp, gVar, gC, EM.bind, EM.pure, EM.lift, op2, op1, gUn, view, moAt, Slot.mo?, Mo.view, fIx, fII, gAsg, gCall, M.gCons, M.gNil, consM, opL, views, aliveR, gdTup, gdCons, gdSub, gdNil, Tg.bind, Tg.binds, setV, putMo, gRet, gPass, M.gSet, setM, storeR, gFz, gFrz, M.gLst, M.gTup, valsR, gSl, slM, gPt, gNoP, fSl, gAnd, gOr, gNot, gTru, truM, tru, gAndV, gOrV, gNotV, stays, gIf, gDrop, gRcv, isL, gApp, gMeth, methM, tyD, gFn, callM, argsOf, argOf, brws, nodupN, putBack, Ret.res, gFnK, allVal, Perm.swap, Perm.id, swapL, gChain, gChain3, blM, gRaise, fAdd, fSub, fLt, fInt, fLen, fDivmod, fMod, fFdiv, fMax2, fIsi, isB, gPar, fEq, fNe, eqM, eqS, keyD, gItems, itemsM, tupItems, lstItems, gFor, gEnum, gRange1, sizeLine, noE, atI, ixN, e1, r1, r2, gLc, tgIn, Tg.slots, np, e2', fJoin, seqOf, strsD_map, TL.join_eq, hz0, g1]
end My

namespace My
open PySem PySem.Spec PyProof.Rows L2 M
theorem rb1 (c : Ads) {n : Nat} {m : Mo} {text : Str} {s1 s3 s4 : Slot} {R : En} (ht : SB 64 text) (w : WOk n m) (hn : n ≤ 30000) (h4 : Vn s4) : ∃ m' ts, WOk (n + 19) m' ∧ ts.length ≤ 6 ∧ Chain text.length 0 ts ∧ (∀ t ∈ ts, Nw t.2.2) ∧
    rb_1 c (.par m :: s1 :: .val (.str text) :: s3 :: s4 :: R) = some (.ok .nx (.par m' :: s1 :: .val (.str text) :: s3 :: .val (.tup (ts.map ptc)) :: R)) := by
  obtain ⟨m', ts, e, w', hl, ch, nw⟩ := some_ok c ht w (by omega)
  refine ⟨m', ts, w', hl, ch, nw, ?_⟩
  unfold rb_1
  rcases h4 with rfl | ⟨_, rfl⟩ <;> simp [gSeq, gIfS, gBl, gOp, gVar, gC, EM.bind, EM.pure, EM.lift, op2, op1, gUn, view, moAt, Slot.mo?, Mo.view, fIx, fII, gAsg, gCall, M.gCons, M.gNil, consM, opL, views, aliveR, gdTup, gdCons, gdSub, gdNil, Tg.bind, Tg.binds, setV, putMo, gRet, gPass, M.gSet, setM, storeR, gFz, gFrz, M.gLst, M.gTup, valsR, gSl, slM, gPt, gNoP, fSl, gAnd, gOr, gNot, gTru, truM, tru, gAndV, gOrV, gNotV, stays, gIf, gDrop, gRcv, isL, gApp, gMeth, methM, tyD, gFn, callM, argsOf, argOf, brws, nodupN, putBack, Ret.res, gFnK, allVal, Perm.swap, Perm.id, swapL, gChain, gChain3, blM, gRaise, fAdd, fSub, fLt, fInt, fLen, fDivmod, fMod, fFdiv, fMax2, fIsi, isB, gPar, fEq, fNe, eqM, eqS, keyD, gItems, itemsM, tupItems, lstItems, gFor, gEnum, gRange1, sizeLine, noE, atI, ixN, e]
theorem smT_of {ts : List Ptc} (hl : ts.length ≤ 6) (h : ∀ t ∈ ts, Nw t.2.2) : SmT ts := ⟨by omega, fun t ht => (h t ht).1⟩
theorem rb2 (c : Ads) {text : Str} {ts : List Ptc} {s0 s1 s3 s5 : Slot} {R : En} (ht : SB 64 text) (sm : SmT ts) (h5 : Vn s5) :
    rb_2 c (s0 :: s1 :: .val (.str text) :: s3 :: .val (.tup (ts.map ptc)) :: s5 :: R) = some (.ok .nx (s0 :: s1 :: .val (.str text) :: s3 :: .val (.tup (ts.map ptc)) :: .val (.str (appl text ("" : Str) 0 ts)) :: R)) := by
  have e := lp_ok c ht sm
  unfold rb_2
  rcases h5 with rfl | ⟨_, rfl⟩ <;> simp [gSeq, gIfS, gBl, gOp, gVar, gC, EM.bind, EM.pure, EM.lift, op2, op1, gUn, view, moAt, Slot.mo?, Mo.view, fIx, fII, gAsg, gCall, M.gCons, M.gNil, consM, opL, views, aliveR, gdTup, gdCons, gdSub, gdNil, Tg.bind, Tg.binds, setV, putMo, gRet, gPass, M.gSet, setM, storeR, gFz, gFrz, M.gLst, M.gTup, valsR, gSl, slM, gPt, gNoP, fSl, gAnd, gOr, gNot, gTru, truM, tru, gAndV, gOrV, gNotV, stays, gIf, gDrop, gRcv, isL, gApp, gMeth, methM, tyD, gFn, callM, argsOf, argOf, brws, nodupN, putBack, Ret.res, gFnK, allVal, Perm.swap, Perm.id, swapL, gChain, gChain3, blM, gRaise, fAdd, fSub, fLt, fInt, fLen, fDivmod, fMod, fFdiv, fMax2, fIsi, isB, gPar, fEq, fNe, eqM, eqS, keyD, gItems, itemsM, tupItems, lstItems, gFor, gEnum, gRange1, sizeLine, noE, atI, ixN, e]
theorem cut_all (x : Str) : cutS x (some 0) none = x := by
  unfold cutS HT.sIx
  refine Str.ext' ?_
  apply Array.toList_inj.mp
  have : x.cps.toList.length = x.length := rfl
  simp
  exact List.take_of_length_le (Nat.le_of_eq this)
theorem scanP_ts {text : Str} {ts : List Ptc} (ch : Chain text.length 0 ts) : scanP text (.tup (ts.map ptc)) = .inr ts := by
  unfold scanP
  dsimp only
  rw [chain_scan ch]
theorem gp_ts {ts : List Ptc} (hl : ts.length ≤ 6) (h : ∀ t ∈ ts, Nw t.2.2) : GP (.tup (ts.map ptc)) := gp_tup (fun d hd => by
  obtain ⟨t, ht, rfl⟩ := List.mem_map.mp hd
  exact gd_ptc (h t ht).1) (by simp; omega)
theorem rb3 (c : Ads) {text : Str} {ts : List Ptc} {s0 s1 s3 : Slot} {R : En} (ht : SB 64 text) (hl : ts.length ≤ 6) (ch : Chain text.length 0 ts) (h : ∀ t ∈ ts, Nw t.2.2) :
    rb_3 c (s0 :: s1 :: .val (.str text) :: s3 :: .val (.tup (ts.map ptc)) :: .val (.str (appl text ("" : Str) 0 ts)) :: R) = some (.ok .nx (s0 :: s1 :: .val (.str text) :: s3 :: .val (.tup (ts.map ptc)) :: .val (.str (appl text ("" : Str) 0 ts)) :: R)) := by
  have g := gp_ts hl h
  have e := pa_ok c ht g.1 g.2
  rw [scanP_ts ch] at e
  have e0 := pa_ok c (text := text) (p := .tup []) ht rfl (fun ds q => by cases q; exact ⟨by decide, fun d hd => absurd hd List.not_mem_nil⟩)
  have e00 : scanP text (.tup []) = .inr [] := rfl
  have e01 : appl text ("" : Str) 0 [] = text := by
    unfold appl
    rw [empty_add, cut_all]
  rw [e00] at e0
  dsimp only at e e0
  rw [e01] at e0
  have ew := wrong_ok c (text := text) (p := .tup (ts.map ptc)) (by have := ht.1; omega) g.1
  unfold wrongD at ew
  rw [scanP_ts ch] at ew
  dsimp only at ew
  have es := same_ok c (d := .tup [.str (appl text ("" : Str) 0 ts), .str (appl text ("" : Str) 0 ts), .str text]) (.inr ⟨_, .inl rfl, by simp, fun x hx => by
    simp at hx
    rcases hx with rfl | rfl
    · exact db0 (sc_str (appl_sb ht (smT_of hl h)))
    · exact db0 (sc_str (ht.mono (by decide)))⟩)
  unfold rb_3
  simp [gSeq, gIfS, gBl, gOp, gVar, gC, EM.bind, EM.pure, EM.lift, op2, op1, gUn, view, moAt, Slot.mo?, Mo.view, fIx, fII, gAsg, gCall, M.gCons, M.gNil, consM, opL, views, aliveR, gdTup, gdCons, gdSub, gdNil, Tg.bind, Tg.binds, setV, putMo, gRet, gPass, M.gSet, setM, storeR, gFz, gFrz, M.gLst, M.gTup, valsR, gSl, slM, gPt, gNoP, fSl, gAnd, gOr, gNot, gTru, truM, tru, gAndV, gOrV, gNotV, stays, gIf, gDrop, gRcv, isL, gApp, gMeth, methM, tyD, gFn, callM, argsOf, argOf, brws, nodupN, putBack, Ret.res, gFnK, allVal, Perm.swap, Perm.id, swapL, gChain, gChain3, blM, gRaise, fAdd, fSub, fLt, fInt, fLen, fDivmod, fMod, fFdiv, fMax2, fIsi, isB, gPar, fEq, fNe, eqM, eqS, keyD, gItems, itemsM, tupItems, lstItems, gFor, gEnum, gRange1, sizeLine, noE, atI, ixN, e, e0, ew, es, pd, pds, SeqAt.shaped, PyData.canLay0, PyData.canLayAll0, PyData.depth, PyData.depthAll, PyData.eqv, PyData.eqvAll]
def smO : List D := [.non, .int 5, .tup [.str "a"], .lst [.str "a"], .bl true]
theorem rb5 (c : Ads) {n : Nat} {m : Mo} {s1 s2 s3 s4 s5 s6 s7 s8 s9 s10 : Slot} (w : WOk n m) (hn : n ≤ 90000) (h10 : Vn s10) : ∃ m' x, WOk (n + 1) m' ∧ x ∈ smO ∧
    rb_5 c [.par m, s1, s2, s3, s4, s5, s6, s7, s8, s9, s10] = some (.ok .nx [.par m', s1, s2, s3, s4, s5, s6, s7, s8, s9, .val x]) := by
  obtain ⟨x, m', e, hx, w'⟩ := pick_ok c (ds := smO) w (by omega) (by simp [smO]) (by simp [smO])
  refine ⟨m', x, w', hx, ?_⟩
  unfold smO at e
  unfold rb_5
  rcases h10 with rfl | ⟨_, rfl⟩ <;> simp [gSeq, gIfS, gBl, gOp, gVar, gC, EM.bind, EM.pure, EM.lift, op2, op1, gUn, view, moAt, Slot.mo?, Mo.view, fIx, fII, gAsg, gCall, M.gCons, M.gNil, consM, opL, views, aliveR, gdTup, gdCons, gdSub, gdNil, Tg.bind, Tg.binds, setV, putMo, gRet, gPass, M.gSet, setM, storeR, gFz, gFrz, M.gLst, M.gTup, valsR, gSl, slM, gPt, gNoP, fSl, gAnd, gOr, gNot, gTru, truM, tru, gAndV, gOrV, gNotV, stays, gIf, gDrop, gRcv, isL, gApp, gMeth, methM, tyD, gFn, callM, argsOf, argOf, brws, nodupN, putBack, Ret.res, gFnK, allVal, Perm.swap, Perm.id, swapL, gChain, gChain3, blM, gRaise, fAdd, fSub, fLt, fInt, fLen, fDivmod, fMod, fFdiv, fMax2, fIsi, isB, gPar, fEq, fNe, eqM, eqS, keyD, gItems, itemsM, tupItems, lstItems, gFor, gEnum, gRange1, sizeLine, noE, atI, ixN, e]
def ge3 (c : Ads) : EM Res := gFrz (gFn 2 (m_patched c) (M.gCons (gFz 10) (M.gCons (gC .non) M.gNil)))
theorem rb6 (c : Ads) (hd : c.InvalidText ≠ c.InvalidPatches) {x : D} {s0 s1 s2 s3 s4 s5 s6 s7 s8 s9 : Slot} (hx : x ∈ smO) (hn : noE [s0, s1, s2, s3, s4, s5, s6, s7, s8, s9, .val x] = true) :
    rb_6 c [s0, s1, s2, s3, s4, s5, s6, s7, s8, s9, .val x] = some (.ok .nx [s0, s1, s2, s3, s4, s5, s6, s7, s8, s9, .val x]) := by
  have sa : Sc (.str "a") := sc_str (sb_of (by decide) (by decide))
  obtain ⟨p1, ns, db⟩ : plain1 x = true ∧ (∀ z, x ≠ .str z) ∧ DB 2 x := by
    unfold smO at hx
    simp only [List.mem_cons, List.not_mem_nil, or_false] at hx
    rcases hx with rfl | rfl | rfl | rfl | rfl
    · exact ⟨rfl, (fun z e => by cases e), .inl (.inl rfl)⟩
    · exact ⟨rfl, (fun z e => by cases e), .inl (sc_nat (j := 5) (by decide))⟩
    · exact ⟨rfl, (fun z e => by cases e), .inr ⟨_, .inl rfl, by simp, fun y hy => by simp at hy; rw [hy]; exact db0 sa⟩⟩
    · exact ⟨rfl, (fun z e => by cases e), .inr ⟨_, .inr (.inl rfl), by simp, fun y hy => by simp at hy; rw [hy]; exact db0 sa⟩⟩
    · exact ⟨rfl, (fun z e => by cases e), .inl (.inr (.inl ⟨_, rfl⟩))⟩
  have e := pa_bad c (d := x) (p := .non) p1 ns
  have eg : ge3 c [s0, s1, s2, s3, s4, s5, s6, s7, s8, s9, .val x] = some (.ex (.ref c.InvalidText) [("written", x)] [s0, s1, s2, s3, s4, s5, s6, s7, s8, s9, .val x]) := by
    unfold ge3
    simp [gSeq, gIfS, gBl, gOp, gVar, gC, EM.bind, EM.pure, EM.lift, op2, op1, gUn, view, moAt, Slot.mo?, Mo.view, fIx, fII, gAsg, gCall, M.gCons, M.gNil, consM, opL, views, aliveR, gdTup, gdCons, gdSub, gdNil, Tg.bind, Tg.binds, setV, putMo, gRet, gPass, M.gSet, setM, storeR, gFz, gFrz, M.gLst, M.gTup, valsR, gSl, slM, gPt, gNoP, fSl, gAnd, gOr, gNot, gTru, truM, tru, gAndV, gOrV, gNotV, stays, gIf, gDrop, gRcv, isL, gApp, gMeth, methM, tyD, gFn, callM, argsOf, argOf, brws, nodupN, putBack, Ret.res, gFnK, allVal, Perm.swap, Perm.id, swapL, gChain, gChain3, blM, gRaise, fAdd, fSub, fLt, fInt, fLen, fDivmod, fMod, fFdiv, fMax2, fIsi, isB, gPar, fEq, fNe, eqM, eqS, keyD, gItems, itemsM, tupItems, lstItems, gFor, gEnum, gRange1, sizeLine, noE, atI, ixN, e]
  have eh := heard_text c hd hn eg
  have es := same_ok c (d := .tup [.str "text", x]) (db_tup2 (db0 (sc_str (sb_of (by decide) (by decide)))) db)
  have rb : rb_6 c = gIfS (gNot (gTru (gFn 2 (m__law_same c) (M.gCons (gFrz (gHeard 4 "told" (mt__law_heard c) (su__law_heard c) (ge3 c))) (M.gCons (M.gTup (M.gCons (gC (.str "text")) (M.gCons (gFz 10) M.gNil))) M.gNil))))) (gRet (gC (.bl false))) gPass := rfl
  rw [rb]
  simp [gSeq, gIfS, gBl, gOp, gVar, gC, EM.bind, EM.pure, EM.lift, op2, op1, gUn, view, moAt, Slot.mo?, Mo.view, fIx, fII, gAsg, gCall, M.gCons, M.gNil, consM, opL, views, aliveR, gdTup, gdCons, gdSub, gdNil, Tg.bind, Tg.binds, setV, putMo, gRet, gPass, M.gSet, setM, storeR, gFz, gFrz, M.gLst, M.gTup, valsR, gSl, slM, gPt, gNoP, fSl, gAnd, gOr, gNot, gTru, truM, tru, gAndV, gOrV, gNotV, stays, gIf, gDrop, gRcv, isL, gApp, gMeth, methM, tyD, gFn, callM, argsOf, argOf, brws, nodupN, putBack, Ret.res, gFnK, allVal, Perm.swap, Perm.id, swapL, gChain, gChain3, blM, gRaise, fAdd, fSub, fLt, fInt, fLen, fDivmod, fMod, fFdiv, fMax2, fIsi, isB, gPar, fEq, fNe, eqM, eqS, keyD, gItems, itemsM, tupItems, lstItems, gFor, gEnum, gRange1, sizeLine, noE, atI, ixN, eh, es]
/-! ### a round -/
def rdBody (c : Ads) : EM Fl := gSeq (rb_0 c) (gSeq (rb_1 c) (gSeq (rb_2 c) (gSeq (rb_3 c) (gSeq (rb_4 c) (gSeq (rb_5 c) (rb_6 c))))))
def RdI (j : Nat) (ρ : En) : Prop := ∃ m s1 s2 s3 s4 s5 s6 s7 s8 s9 s10, ρ = [.par m, s1, s2, s3, s4, s5, s6, s7, s8, s9, s10] ∧ WOk (60 * j) m ∧ Vn s1 ∧ Vn s2 ∧ Vn s3 ∧ Vn s4 ∧ Vn s5 ∧ Vn s6 ∧ Vn s7 ∧ Vo s8 ∧ Vo s9 ∧ Vn s10
theorem rd_step (c : Ads) (hd : c.InvalidText ≠ c.InvalidPatches) {j : Nat} (hj : j ≤ 100) {ρ : En} {d : D} (hI : RdI j ρ) : ∃ ρ1 ρ2, Tg.bind (.nm 1) d ρ = some ρ1 ∧ (rdBody c ρ1 = some (.ok .nx ρ2) ∨ rdBody c ρ1 = some (.ok .ct ρ2)) ∧ RdI (j + 1) ρ2 := by
  obtain ⟨m, s1, s2, s3, s4, s5, s6, s7, s8, s9, s10, rfl, w, h1, h2, h3, h4, h5, h6, h7, h8, h9, h10⟩ := hI
  obtain ⟨m1, text, w1, ht, e0⟩ := rb0 c (s1 := .val d) (R := [s4, s5, s6, s7, s8, s9, s10]) w (by omega) h2 h3
  obtain ⟨m2, ts, w2, hl, ch, nw, e1⟩ := rb1 c (s1 := .val d) (s3 := .un) (R := [s5, s6, s7, s8, s9, s10]) ht w1 (by omega) h4
  have e2 := rb2 c (s0 := .par m2) (s1 := .val d) (s3 := .un) (R := [s6, s7, s8, s9, s10]) ht (smT_of hl nw) h5
  have e3 := rb3 c (s0 := .par m2) (s1 := .val d) (s3 := .un) (R := [s6, s7, s8, s9, s10]) ht hl ch nw
  obtain ⟨ρ', e4, m3, q6, q7, q8, q9, rfl, w3, g6, g7, g8, g9⟩ := loopF_inv (t := .nm 6) (body := lapBody c) (LapI (60 * j + 12 + 19) d text .un (.val (.str (appl text ("" : Str) 0 ts))) s10 ts) ((List.range (4 : Int).toNat).map fun (i : Nat) => D.int (i : Int)) 0
    [.par m2, .val d, .val (.str text), .un, .val (.tup (ts.map ptc)), .val (.str (appl text ("" : Str) 0 ts)), s6, s7, s8, s9, s10]
    (fun i ρ d _ hi hI => lap_step c hd ht (by omega) hl nw (.inl rfl) (.inr ⟨_, rfl⟩) h10 (by simp at hi; omega) hI)
    ⟨m2, s6, s7, s8, s9, rfl, w2, h6, h7, h8, h9⟩
  have e4' : rb_4 c [.par m2, .val d, .val (.str text), .un, .val (.tup (ts.map ptc)), .val (.str (appl text ("" : Str) 0 ts)), s6, s7, s8, s9, s10] = some (.ok .nx [.par m3, .val d, .val (.str text), .un, .val (.tup (ts.map ptc)), .val (.str (appl text ("" : Str) 0 ts)), q6, q7, q8, q9, s10]) := by
    have rb : rb_4 c = gFor (gRange1 (M.gCons (gC (.int 4)) M.gNil)) (.nm 6) (lapBody c) := rfl
    rw [rb]
    unfold gFor gRange1 M.gCons M.gNil gC EM.bind EM.pure consM aliveR
    exact e4
  obtain ⟨m4, x, w4, hx, e5⟩ := rb5 c (s1 := .val d) (s2 := .val (.str text)) (s3 := .un) (s4 := .val (.tup (ts.map ptc))) (s5 := .val (.str (appl text ("" : Str) 0 ts))) (s6 := q6) (s7 := q7) (s8 := q8) (s9 := q9) w3 (by simp; omega) h10
  have hn : noE [.par m4, .val d, .val (.str text), .un, .val (.tup (ts.map ptc)), .val (.str (appl text ("" : Str) 0 ts)), q6, q7, q8, q9, .val x] = true := noE_par (noE_val (noE_val (noE_un (noE_val (noE_val (noE_cons g6.vo (noE_cons g7.vo (noE_cons g8 (noE_cons g9 (noE_val rfl))))))))))
  have e6 := rb6 c hd hx hn
  refine ⟨[.par m, .val d, s2, s3, s4, s5, s6, s7, s8, s9, s10], [.par m4, .val d, .val (.str text), .un, .val (.tup (ts.map ptc)), .val (.str (appl text ("" : Str) 0 ts)), q6, q7, q8, q9, .val x], ?_, .inl ?_, ?_⟩
  · rcases h1 with rfl | ⟨_, rfl⟩ <;> simp [gSeq, gIfS, gBl, gOp, gVar, gC, EM.bind, EM.pure, EM.lift, op2, op1, gUn, view, moAt, Slot.mo?, Mo.view, fIx, fII, gAsg, gCall, M.gCons, M.gNil, consM, opL, views, aliveR, gdTup, gdCons, gdSub, gdNil, Tg.bind, Tg.binds, setV, putMo, gRet, gPass, M.gSet, setM, storeR, gFz, gFrz, M.gLst, M.gTup, valsR, gSl, slM, gPt, gNoP, fSl, gAnd, gOr, gNot, gTru, truM, tru, gAndV, gOrV, gNotV, stays, gIf, gDrop, gRcv, isL, gApp, gMeth, methM, tyD, gFn, callM, argsOf, argOf, brws, nodupN, putBack, Ret.res, gFnK, allVal, Perm.swap, Perm.id, swapL, gChain, gChain3, blM, gRaise, fAdd, fSub, fLt, fInt, fLen, fDivmod, fMod, fFdiv, fMax2, fIsi, isB, gPar, fEq, fNe, eqM, eqS, keyD, gItems, itemsM, tupItems, lstItems, gFor, gEnum, gRange1, sizeLine, noE, atI, ixN]
  · unfold rdBody
    rw [seq_nx e0, seq_nx e1, seq_nx e2, seq_nx e3, seq_nx e4', seq_nx e5]
    exact e6
  · exact ⟨m4, _, _, _, _, _, _, _, _, _, _, rfl, w4.mono (by simp; omega), .inr ⟨_, rfl⟩, .inr ⟨_, rfl⟩, .inl rfl, .inr ⟨_, rfl⟩, .inr ⟨_, rfl⟩, g6, g7, g8, g9, .inr ⟨_, rfl⟩⟩
theorem round_ok (c : Ads) (hd : c.InvalidText ≠ c.InvalidPatches) {m : Mo} (w : WOk 0 m) : ∃ m', m__law_round c [.par m] = some (.ok (.val (.bl true)) [.par m']) := by
  obtain ⟨ρ', e, m', s1, s2, s3, s4, s5, s6, s7, s8, s9, s10, rfl, _⟩ := loopF_inv (t := .nm 1) (body := rdBody c) RdI ((List.range (16 : Int).toNat).map fun (i : Nat) => D.int (i : Int)) 0
    [.par m, .un, .un, .un, .un, .un, .un, .un, .un, .un, .un] (fun i ρ d _ hi hI => rd_step c hd (by simp at hi; omega) hI)
    ⟨m, .un, .un, .un, .un, .un, .un, .un, .un, .un, .un, rfl, w, .inl rfl, .inl rfl, .inl rfl, .inl rfl, .inl rfl, .inl rfl, .inl rfl, .inl rfl, .inl rfl, .inl rfl⟩
  have e0 : rr_0 c [.par m, .un, .un, .un, .un, .un, .un, .un, .un, .un, .un] = some (.ok .nx [.par m', s1, s2, s3, s4, s5, s6, s7, s8, s9, s10]) := by
    have rb : rr_0 c = gFor (gRange1 (M.gCons (gC (.int 16)) M.gNil)) (.nm 1) (rdBody c) := rfl
    rw [rb]
    unfold gFor gRange1 M.gCons M.gNil gC EM.bind EM.pure consM aliveR
    exact e
  have e1 := seq_nx (g2 := rr_1 c) e0
  refine ⟨m', ?_⟩
  unfold m__law_round runM
  rw [rr_eq]
  simp [e1]
  simp [gSeq, gIfS, gBl, gOp, gVar, gC, EM.bind, EM.pure, EM.lift, op2, op1, gUn, view, moAt, Slot.mo?, Mo.view, fIx, fII, gAsg, gCall, M.gCons, M.gNil, consM, opL, views, aliveR, gdTup, gdCons, gdSub, gdNil, Tg.bind, Tg.binds, setV, putMo, gRet, gPass, M.gSet, setM, storeR, gFz, gFrz, M.gLst, M.gTup, valsR, gSl, slM, gPt, gNoP, fSl, gAnd, gOr, gNot, gTru, truM, tru, gAndV, gOrV, gNotV, stays, gIf, gDrop, gRcv, isL, gApp, gMeth, methM, tyD, gFn, callM, argsOf, argOf, brws, nodupN, putBack, Ret.res, gFnK, allVal, Perm.swap, Perm.id, swapL, gChain, gChain3, blM, gRaise, fAdd, fSub, fLt, fInt, fLen, fDivmod, fMod, fFdiv, fMax2, fIsi, isB, gPar, fEq, fNe, eqM, eqS, keyD, gItems, itemsM, tupItems, lstItems, gFor, gEnum, gRange1, sizeLine, noE, atI, ixN, rr_1]
theorem plain (c : Ads) (hd : c.InvalidText ≠ c.InvalidPatches) (ns : List Int) (hn : ns.length ≤ 63) : ∃ as', m_law c [.val (.rol (ns.map D.int))] = some (.ok (.val (.bl true)) as') := by
  obtain ⟨m0, w0, f0⟩ := well_ok c (ns := ns) (t := 0) hn (by decide) (by decide)
  obtain ⟨m1, w1, f1⟩ := well_ok c (ns := ns) (t := 1) hn (by decide) (by decide)
  obtain ⟨m0', g0⟩ := round_ok c hd w0
  obtain ⟨m1', g1⟩ := round_ok c hd w1
  refine ⟨[.val (.rol (ns.map D.int))], ?_⟩
  unfold m_law b_law runM
  simp [gSeq, gIfS, gBl, gOp, gVar, gC, EM.bind, EM.pure, EM.lift, op2, op1, gUn, view, moAt, Slot.mo?, Mo.view, fIx, fII, gAsg, gCall, M.gCons, M.gNil, consM, opL, views, aliveR, gdTup, gdCons, gdSub, gdNil, Tg.bind, Tg.binds, setV, putMo, gRet, gPass, M.gSet, setM, storeR, gFz, gFrz, M.gLst, M.gTup, valsR, gSl, slM, gPt, gNoP, fSl, gAnd, gOr, gNot, gTru, truM, tru, gAndV, gOrV, gNotV, stays, gIf, gDrop, gRcv, isL, gApp, gMeth, methM, tyD, gFn, callM, argsOf, argOf, brws, nodupN, putBack, Ret.res, gFnK, allVal, Perm.swap, Perm.id, swapL, gChain, gChain3, blM, gRaise, fAdd, fSub, fLt, fInt, fLen, fDivmod, fMod, fFdiv, fMax2, fIsi, isB, gPar, fEq, fNe, eqM, eqS, keyD, gItems, itemsM, tupItems, lstItems, gFor, gEnum, gRange1, sizeLine, noE, atI, ixN, fAll, gLc, tgIn, Tg.slots, noPars, compM, gYes, wipeE, f0, f1, g0, g1, lstOf, blsD]
end My

namespace My
open PySem PySem.Spec PyProof.Rows L2 M
def d_is_whole : He.DefD := ⟨("is_whole", none), "is_whole", "is_whole", defArgs (topS 1), defBody (topS 1), defScope (topS 1), [], []⟩
def d_InvalidText_init : He.DefD := ⟨("InvalidText", some "__init__"), "__init__", "InvalidText.__init__", defArgs (inClass (topS 4) 0), defBody (inClass (topS 4) 0), defScope (inClass (topS 4) 0), [], []⟩
def d_InvalidPatches_init : He.DefD := ⟨("InvalidPatches", some "__init__"), "__init__", "InvalidPatches.__init__", defArgs (inClass (topS 5) 0), defBody (inClass (topS 5) 0), defScope (inClass (topS 5) 0), [], []⟩
def d_is_patch : He.DefD := ⟨("is_patch", none), "is_patch", "is_patch", defArgs (topS 9), defBody (topS 9), defScope (topS 9), [], []⟩
def d_patched : He.DefD := ⟨("patched", none), "patched", "patched", defArgs (topS 10), defBody (topS 10), defScope (topS 10), [], []⟩
def d__law_well : He.DefD := ⟨("_law_well", none), "_law_well", "_law_well", defArgs (topS 12), defBody (topS 12), defScope (topS 12), [], []⟩
def d__law_take : He.DefD := ⟨("_law_take", none), "_law_take", "_law_take", defArgs (topS 13), defBody (topS 13), defScope (topS 13), [], []⟩
def d__law_pick : He.DefD := ⟨("_law_pick", none), "_law_pick", "_law_pick", defArgs (topS 14), defBody (topS 14), defScope (topS 14), [], []⟩
def d__law_plain : He.DefD := ⟨("_law_plain", none), "_law_plain", "_law_plain", defArgs (topS 15), defBody (topS 15), defScope (topS 15), [], []⟩
def d__law_same : He.DefD := ⟨("_law_same", none), "_law_same", "_law_same", defArgs (topS 16), defBody (topS 16), defScope (topS 16), [], []⟩
def d__law_patched : He.DefD := ⟨("_law_patched", none), "_law_patched", "_law_patched", defArgs (topS 17), defBody (topS 17), defScope (topS 17), [], []⟩
def d__law_heard : He.DefD := ⟨("_law_heard", none), "_law_heard", "_law_heard", defArgs (topS 18), defBody (topS 18), defScope (topS 18), [], []⟩
def d__law_is_number : He.DefD := ⟨("_law_is_number", none), "_law_is_number", "_law_is_number", defArgs (topS 19), defBody (topS 19), defScope (topS 19), [], []⟩
def d__law_wrong : He.DefD := ⟨("_law_wrong", none), "_law_wrong", "_law_wrong", defArgs (topS 20), defBody (topS 20), defScope (topS 20), [], []⟩
def d__law_some : He.DefD := ⟨("_law_some", none), "_law_some", "_law_some", defArgs (topS 21), defBody (topS 21), defScope (topS 21), [], []⟩
def d__law_bent : He.DefD := ⟨("_law_bent", none), "_law_bent", "_law_bent", defArgs (topS 22), defBody (topS 22), defScope (topS 22), [], []⟩
def d__law_round : He.DefD := ⟨("_law_round", none), "_law_round", "_law_round", defArgs (topS 23), defBody (topS 23), defScope (topS 23), [], []⟩
def d_law : He.DefD := ⟨("law", none), "law", "law", defArgs (topS 24), defBody (topS 24), defScope (topS 24), [], []⟩
def fn : List He.DefD := [d_is_whole, d_InvalidText_init, d_InvalidPatches_init, d_is_patch, d_patched, d__law_well, d__law_take, d__law_pick, d__law_plain, d__law_same, d__law_patched, d__law_heard, d__law_is_number, d__law_wrong, d__law_some, d__law_bent, d__law_round, d_law]
def fa : List He.Fa := [.glo "is_whole", .glo "is_patch", .glo "patched", .glo "_law_well", .glo "_law_take", .glo "_law_pick", .glo "_law_plain", .glo "_law_same", .glo "_law_patched", .glo "_law_heard", .glo "_law_is_number", .glo "_law_wrong", .glo "_law_some", .glo "_law_bent", .glo "_law_round", .glo "law", .glo "ShapeError", .glo "InvalidText", .glo "InvalidPatches", .glo "StateError", .glo "SizeError", .free "abs", .free "all", .free "bool", .free "dict", .free "divmod", .free "enumerate", .free "int", .free "isinstance", .free "len", .free "list", .free "max", .free "range", .free "repr", .free "str", .free "sum", .free "tuple"]
def tf : List He.Defn := [("_law_round", none)]
def loose : List PySem.Str := (["is_whole", "ShapeError", "InvalidText", "InvalidPatches", "StateError", "SizeError", "is_patch", "patched", "_law_well", "_law_take", "_law_pick", "_law_plain", "_law_same", "_law_patched", "_law_heard", "_law_is_number", "_law_wrong", "_law_some", "_law_bent", "_law_round"] : List PySem.Str)
def exs (K : PySem.W.Frag) : List Bool := [M.oexB K (He.ga K "InvalidText"),
  decide (PySem.W.findIn K (.ref (He.ga K "InvalidText")) "__init__" = some (some (.ref (He.fAd K ("InvalidText", some "__init__"))))),
  decide (PySem.W.typeIn K (.ref (He.fAd K ("InvalidText", some "__init__"))) = some (.type "function")),
  decide (∀ f ∈ (["written"] : List Str), PySem.W.findIn K (.ref (He.ga K "InvalidText")) f = some none),
  L2.xfB K (He.ga K "InvalidText"),
  M.excB K (He.ga K "InvalidText"),
  M.oexB K (He.ga K "InvalidPatches"),
  decide (PySem.W.findIn K (.ref (He.ga K "InvalidPatches")) "__init__" = some (some (.ref (He.fAd K ("InvalidPatches", some "__init__"))))),
  decide (PySem.W.typeIn K (.ref (He.fAd K ("InvalidPatches", some "__init__"))) = some (.type "function")),
  decide (∀ f ∈ (["index"] : List Str), PySem.W.findIn K (.ref (He.ga K "InvalidPatches")) f = some none),
  L2.xfB K (He.ga K "InvalidPatches"),
  M.excB K (He.ga K "InvalidPatches"),
  decide (PySem.W.kitOne K (.ref (He.ga K "InvalidText")) (.ref (He.ga K "InvalidPatches")) = some false),
  decide (PySem.W.kitOne K (.ref (He.ga K "InvalidPatches")) (.ref (He.ga K "InvalidPatches")) = some true),
  decide (PySem.W.kitOne K (.ref (He.ga K "InvalidText")) (.ref (He.ga K "InvalidText")) = some true),
  decide (PySem.W.kitOne K (.ref (He.ga K "InvalidPatches")) (.ref (He.ga K "InvalidText")) = some false),
  decide (PySem.W.exmAny K (.ref (He.ga K "InvalidText")) [.ref (He.ga K "ShapeError"), .ref (He.ga K "StateError"), .ref (He.ga K "SizeError")] = some true),
  decide (PySem.W.exmAny K (.ref (He.ga K "InvalidPatches")) [.ref (He.ga K "ShapeError"), .ref (He.ga K "StateError"), .ref (He.ga K "SizeError")] = some true),
  decide (He.ga K "InvalidText" ≠ He.ga K "InvalidPatches")]
def ex (K : PySem.W.Frag) : Bool := (exs K).all id
theorem ex_at {K : PySem.W.Frag} (h : ex K = true) (i : Nat) {b : Bool} (e : (exs K)[i]? = some b) : b = true := List.all_eq_true.mp h b (List.mem_of_getElem? e)
abbrev R : PySem.W.OpenRow := PySem.W.OpenLaw.row PySem.Challenge.rw_shapekeep_k77_whole_patches_on_any_texts
abbrev hk : PySem.W.Hook := He.hookX 6 fa fn [] tf ex
def ob (s : PySem.W.SharedT) : He.AlX := He.obsX 6 fa fn [] tf ex (HandSHeadRun.getT s)
theorem ob_eq (s : PySem.W.SharedT) : ob s = hk.obs s.abs := He.obsX_eq (HandSHeadRun.getT_eq s)
theorem run (w : World) : HandSHeadRun.RunEq R (PySem.W.view R.prog [24]) hk ob 4000 loose w := by
  intro os
  kernel_rfl
theorem fx_of {K : PySem.W.Frag} {h base : Heap} {w : World} {mg : Str → Option Value} (X : K.In base) (G : base.Ns mainGlobals mg) (c : He.SaysX fa fn [] tf ex w h K) (tb : ∀ p ∈ tf, LamX.TabB base mg (He.cT K p).1 (He.cT K p).2) : Fx K mg base where
  F_is_whole := c.t.d.def_ 0 (d := d_is_whole) rfl
  F_InvalidText_init := c.t.d.def_ 1 (d := d_InvalidText_init) rfl
  F_InvalidPatches_init := c.t.d.def_ 2 (d := d_InvalidPatches_init) rfl
  F_is_patch := c.t.d.def_ 3 (d := d_is_patch) rfl
  F_patched := c.t.d.def_ 4 (d := d_patched) rfl
  F__law_well := c.t.d.def_ 5 (d := d__law_well) rfl
  F__law_take := c.t.d.def_ 6 (d := d__law_take) rfl
  F__law_pick := c.t.d.def_ 7 (d := d__law_pick) rfl
  F__law_plain := c.t.d.def_ 8 (d := d__law_plain) rfl
  F__law_same := c.t.d.def_ 9 (d := d__law_same) rfl
  F__law_patched := c.t.d.def_ 10 (d := d__law_patched) rfl
  F__law_heard := c.t.d.def_ 11 (d := d__law_heard) rfl
  F__law_is_number := c.t.d.def_ 12 (d := d__law_is_number) rfl
  F__law_wrong := c.t.d.def_ 13 (d := d__law_wrong) rfl
  F__law_some := c.t.d.def_ 14 (d := d__law_some) rfl
  F__law_bent := c.t.d.def_ 15 (d := d__law_bent) rfl
  F__law_round := c.t.d.def_ 16 (d := d__law_round) rfl
  F_law := c.t.d.def_ 17 (d := d_law) rfl
  g_is_whole := He.glo_ok X G (c.t.d.fact 0 (f := .glo "is_whole") rfl)
  g_is_patch := He.glo_ok X G (c.t.d.fact 1 (f := .glo "is_patch") rfl)
  g_patched := He.glo_ok X G (c.t.d.fact 2 (f := .glo "patched") rfl)
  g__law_well := He.glo_ok X G (c.t.d.fact 3 (f := .glo "_law_well") rfl)
  g__law_take := He.glo_ok X G (c.t.d.fact 4 (f := .glo "_law_take") rfl)
  g__law_pick := He.glo_ok X G (c.t.d.fact 5 (f := .glo "_law_pick") rfl)
  g__law_plain := He.glo_ok X G (c.t.d.fact 6 (f := .glo "_law_plain") rfl)
  g__law_same := He.glo_ok X G (c.t.d.fact 7 (f := .glo "_law_same") rfl)
  g__law_patched := He.glo_ok X G (c.t.d.fact 8 (f := .glo "_law_patched") rfl)
  g__law_heard := He.glo_ok X G (c.t.d.fact 9 (f := .glo "_law_heard") rfl)
  g__law_is_number := He.glo_ok X G (c.t.d.fact 10 (f := .glo "_law_is_number") rfl)
  g__law_wrong := He.glo_ok X G (c.t.d.fact 11 (f := .glo "_law_wrong") rfl)
  g__law_some := He.glo_ok X G (c.t.d.fact 12 (f := .glo "_law_some") rfl)
  g__law_bent := He.glo_ok X G (c.t.d.fact 13 (f := .glo "_law_bent") rfl)
  g__law_round := He.glo_ok X G (c.t.d.fact 14 (f := .glo "_law_round") rfl)
  g_law := He.glo_ok X G (c.t.d.fact 15 (f := .glo "law") rfl)
  g_ShapeError := He.glo_ok X G (c.t.d.fact 16 (f := .glo "ShapeError") rfl)
  g_InvalidText := He.glo_ok X G (c.t.d.fact 17 (f := .glo "InvalidText") rfl)
  g_InvalidPatches := He.glo_ok X G (c.t.d.fact 18 (f := .glo "InvalidPatches") rfl)
  g_StateError := He.glo_ok X G (c.t.d.fact 19 (f := .glo "StateError") rfl)
  g_SizeError := He.glo_ok X G (c.t.d.fact 20 (f := .glo "SizeError") rfl)
  n_abs := He.free_ok X G (c.t.d.fact 21 (f := .free "abs") rfl)
  n_all := He.free_ok X G (c.t.d.fact 22 (f := .free "all") rfl)
  n_bool := He.free_ok X G (c.t.d.fact 23 (f := .free "bool") rfl)
  n_dict := He.free_ok X G (c.t.d.fact 24 (f := .free "dict") rfl)
  n_divmod := He.free_ok X G (c.t.d.fact 25 (f := .free "divmod") rfl)
  n_enumerate := He.free_ok X G (c.t.d.fact 26 (f := .free "enumerate") rfl)
  n_int := He.free_ok X G (c.t.d.fact 27 (f := .free "int") rfl)
  n_isinstance := He.free_ok X G (c.t.d.fact 28 (f := .free "isinstance") rfl)
  n_len := He.free_ok X G (c.t.d.fact 29 (f := .free "len") rfl)
  n_list := He.free_ok X G (c.t.d.fact 30 (f := .free "list") rfl)
  n_max := He.free_ok X G (c.t.d.fact 31 (f := .free "max") rfl)
  n_range := He.free_ok X G (c.t.d.fact 32 (f := .free "range") rfl)
  n_repr := He.free_ok X G (c.t.d.fact 33 (f := .free "repr") rfl)
  n_str := He.free_ok X G (c.t.d.fact 34 (f := .free "str") rfl)
  n_sum := He.free_ok X G (c.t.d.fact 35 (f := .free "sum") rfl)
  n_tuple := He.free_ok X G (c.t.d.fact 36 (f := .free "tuple") rfl)
  x_InvalidText := M.oexB_ok (ex_at c.more 0 rfl)
  i_InvalidText := of_decide_eq_true (ex_at c.more 1 rfl)
  t_InvalidText := of_decide_eq_true (ex_at c.more 2 rfl)
  no_InvalidText := of_decide_eq_true (ex_at c.more 3 rfl)
  xf_InvalidText := L2.xfB_ok (ex_at c.more 4 rfl)
  xe_InvalidText := M.excB_ok (ex_at c.more 5 rfl)
  x_InvalidPatches := M.oexB_ok (ex_at c.more 6 rfl)
  i_InvalidPatches := of_decide_eq_true (ex_at c.more 7 rfl)
  t_InvalidPatches := of_decide_eq_true (ex_at c.more 8 rfl)
  no_InvalidPatches := of_decide_eq_true (ex_at c.more 9 rfl)
  xf_InvalidPatches := L2.xfB_ok (ex_at c.more 10 rfl)
  xe_InvalidPatches := M.excB_ok (ex_at c.more 11 rfl)
  k_InvalidText_InvalidPatches := of_decide_eq_true (ex_at c.more 12 rfl)
  k_InvalidPatches_InvalidPatches := of_decide_eq_true (ex_at c.more 13 rfl)
  k_InvalidText_InvalidText := of_decide_eq_true (ex_at c.more 14 rfl)
  k_InvalidPatches_InvalidText := of_decide_eq_true (ex_at c.more 15 rfl)
  m__law_heard_InvalidText := of_decide_eq_true (ex_at c.more 16 rfl)
  m__law_heard_InvalidPatches := of_decide_eq_true (ex_at c.more 17 rfl)
  d_InvalidText_InvalidPatches := of_decide_eq_true (ex_at c.more 18 rfl)
  tb__law_round := tb ("_law_round", none) (by decide)
theorem tt_in {K : PySem.W.Frag} {H : L2.Hp} (hT : ∀ p ∈ tf.map (He.cT K), H p.2 = some (.tbl #[])) {p : Addr × Str} (hp : p ∈ TT K) : H p.1 = some (.tbl #[]) := by
  unfold TT at hp
  simp only [List.mem_cons, List.not_mem_nil, or_false] at hp
  rcases hp with rfl
  · exact hT _ (List.mem_map.mpr ⟨("_law_round", none), by decide, rfl⟩)

end My
open PySem PySem.W PySem.Calls PyProof.Rows
theorem PySem.Challenge.cw_shapekeep_k77_whole_patches_on_any_texts_holds : PySem.Challenge.rw_shapekeep_k77_whole_patches_on_any_texts.Holds := by
  w_on; o_law
  refine HandSHeadRun.head_any (r := OpenLaw.row PySem.Challenge.rw_shapekeep_k77_whole_patches_on_any_texts) (q := view (OpenLaw.row PySem.Challenge.rw_shapekeep_k77_whole_patches_on_any_texts).prog [24]) (H := My.hk) (ob := My.ob) (M := 4000) (loose := My.loose) (d := HandSHeadRun.topDef (OpenLaw.row PySem.Challenge.rw_shapekeep_k77_whole_patches_on_any_texts).prog 24) (kwd := []) My.ob_eq
    (by kernel_rfl) (fun s => by kernel_rfl) My.run (by kernel_rfl) (by kernel_rfl) (by kernel_rfl) (by rfl) (by first | assumption | decide +kernel) (by decide +kernel) ⟨rfl, rfl, rfl, rfl, rfl, by decide +kernel⟩ ?hw ?hc
  case hw => w_witness2
  case hc =>
    refine LamX.walk_ofTsE (l := PySem.Challenge.rw_shapekeep_k77_whole_patches_on_any_texts) (n := 63) (k := 14) (x := "script") (CX := fun w => L2.CX (PySem.Challenge.rw_shapekeep_k77_whole_patches_on_any_texts).prog w) rfl (by decide) (by kernel_rfl) ⟨rfl, by decide, by decide⟩ ?F (fun w H s e s' h => by
      obtain ⟨_, _, _, _, _, _, _, _, _, _, _, _, z⟩ := h
      exact z)
    intro w mg fa h Y G hmg0
    obtain ⟨K, KX, c⟩ := Y
    have hmg : mg ("law" : PySem.Str) = some (.ref fa) := by
      have e : (HandSHeadRun.topDef (OpenLaw.row PySem.Challenge.rw_shapekeep_k77_whole_patches_on_any_texts).prog 24).name = ("law" : PySem.Str) := by kernel_rfl
      rw [← e]
      exact hmg0
    obtain ⟨fd, F⟩ := c.t.d.def_ 17 (d := My.d_law) rfl
    have efa : fa = He.ga K "law" := by
      have e := hmg.symm.trans (He.glo_ok KX G (c.t.d.fact 15 (f := .glo "law") rfl))
      cases e
      rfl
    subst efa
    refine ⟨K, KX, fd, My.tf.map (He.cT K), M.spM K (My.TT K) 1 (My.m_law (My.ads K)), ?_, ?_, ?_, ?_, ?_, ?_⟩
    · intro p hp
      obtain ⟨q, hq, rfl⟩ := List.mem_map.mp hp
      exact c.empty q hq
    · intro p hp
      obtain ⟨q, hq, rfl⟩ := List.mem_map.mp hp
      exact c.out q hq
    · intro p hp
      obtain ⟨q, hq, rfl⟩ := List.mem_map.mp hp
      exact PySem.W.codeHd_of_K KX (c.hd q hq)
    · exact fun s u => L2.FunD.bindsA (ps := ["script"]) F (fun _ _ _ _ _ _ us hl => match us, hl with | [_], _ => rfl) s [u] rfl
    · intro H a ns hn hb hT hS
      refine M.law_sp (fun p hp => ?_) hS (My.plain (My.ads K) (show He.ga K "InvalidText" ≠ He.ga K "InvalidPatches" from of_decide_eq_true (My.ex_at c.more 18 rfl)) ns hn)
      exact My.tt_in hT hp
    · intro base hKb hGb hTb
      exact My.ok_law (My.fx_of hKb hGb c fun p hp => hTb _ (List.mem_map.mpr ⟨p, hp, rfl⟩)) fd F
