import PyProof.Rows.All
import Wide.All
import OpenK.AllK
import Wide.FinOn
import PyProof.EqAt
import PyProof.EqKinds
import PyProof.TupleCall
import HandS.Base
import HandS.Call
import HandS.List
import HandS.Comp
import HandS.Ends
import HandS.Iter
import HandS.Exc
import HandS.Words
import HandS.WordsList
import HandS.WordsExc
import HandS.Lambda
import HandS.TupAny
import HandS.Wide
import HandS.Deep
import HandS.IsInst
import HandS.SortInts
import HandS.RaiseMore
import HandS.WideBits
import HandS.Walk
import HandS.More
import HandS.Style
import HandS.ExcInit
import HandS.Nested
import KE.KSuper
import KE.KExcSuper
import HandS.HeadHook1
import HandS.Property
import HandS.MakeKwOnly
import HandS.Codes
import HandS.ExcField
import HandS.TryOnly
import HandS.CallRecv
import HandS.Small
import HandS.Dict
import HandS.Zip
import KE.GoesZip
import KE.GoesMore
import PyProof.ReprRoads
import PyProof.CallFns
import HandS.WrittenGet
import HandS.Set
import HandS.SetFor
import HandS.Strs
import HandS.EndTab
import HandS.HeadWalk
import HandS.Defaults
import HandS.Head0
import HandS.Head1
import HandS.Head2
import HandS.HeadEnd
import HandS.HeadHook2
import HandS.HeadHook3
import HandS.HeadHook4
import PyProof.ReprLen
import PyProof.Rows.ReprOcc
import PyProof.Rows.RegStrFacts
import PyProof.P3Eq
import PySem.Challenge.RW_allloads_k67_whole_marks_told_back_in_pa
set_option Elab.async false
set_option linter.all false
set_option maxRecDepth 100000
set_option maxHeartbeats 4000000
namespace Tv
open PySem PySem.Spec PyProof.Rows L2

/-! ### trees -/
inductive T where
  | non | bl (b : Bool) | int (i : Int) | str (x : Str)
  | tup (ts : List T) | lst (ts : List T) | dct (kvs : List (T × T)) | set (ts : List T)
  | obj (c : Nat) (fs : List (Str × T)) | drw | scr (is : List Int)

/-- a slot: nothing is known, a value that is shared, a thing that this slot alone has -/
inductive Sl where
  | no | sh (t : T) | ow (t : T)

/-- the drawing -/
structure Dr where
  large : List Int
  cells : List Int
  rest : Int
  turn : Int
  mix : Int

structure S where
  env : List Sl
  D : Dr

structure Ex where
  cls : Nat
  fs : List (Str × T)

inductive Out (α : Type) where
  | ok (a : α) (s : S) | exc (x : Ex) (s : S) | bad

@[simp] def Out.bind {α β : Type} : Out α → (α → S → Out β) → Out β
  | .ok a s, f => f a s
  | .exc x s, _ => .exc x s
  | .bad, _ => .bad

/-- the ground -/
structure G where
  P : Program
  w : World
  K : PySem.W.Frag
  mg : Str → Option Value
  base : Heap
  cl : Nat → Addr
  da : Addr
  la : Addr
  ca : Addr
  tb : List (Addr × Str)

/-! ### what a value stands for, in what is frozen -/
mutual
inductive Rep (g : G) (F : Hp) : V → T → Prop
  | non : Rep g F .non .non
  | bl (b : Bool) : Rep g F (.bl b) (.bl b)
  | int (i : Int) : Rep g F (.int i) (.int i)
  | str (x : Str) : Rep g F (.str x) (.str x)
  | tup {a : Addr} {xs : List V} {ts : List T} : SqT g.K F a xs → Reps g F xs ts → Rep g F (.ref a) (.tup ts)
  | lst {a : Addr} {xs : List V} {ts : List T} : F a = some (.lst xs) → Reps g F xs ts → Rep g F (.ref a) (.lst ts)
  | obj {c : Nat} {a dx : Addr} {fs : List (Str × V)} {ts : List (Str × T)} : F a = some (.ins (g.cl c) dx fs) → F dx = some (.own a) → RepF g F fs ts → Rep g F (.ref a) (.obj c ts)
  | drw : Rep g F (.ref g.da) .drw
  | scr {a : Addr} {is : List Int} : SqL g.K F a (is.map V.int) → Rep g F (.ref a) (.scr is)
inductive Reps (g : G) (F : Hp) : List V → List T → Prop
  | nil : Reps g F [] []
  | cons {v : V} {vs : List V} {t : T} {ts : List T} : Rep g F v t → Reps g F vs ts → Reps g F (v :: vs) (t :: ts)
inductive RepF (g : G) (F : Hp) : List (Str × V) → List (Str × T) → Prop
  | nil : RepF g F [] []
  | cons {n : Str} {v : V} {vs : List (Str × V)} {t : T} {ts : List (Str × T)} : Rep g F v t → RepF g F vs ts → RepF g F ((n, v) :: vs) ((n, t) :: ts)
end

/-- all of F stands in F' -/
abbrev LeF (F F' : Hp) : Prop := ∀ a o, F a = some o → F' a = some o
theorem LeF.refl (F : Hp) : LeF F F := fun _ _ h => h
theorem LeF.trans {F F1 F2 : Hp} (a : LeF F F1) (b : LeF F1 F2) : LeF F F2 := fun c o h => b c o (a c o h)
theorem LeF.upd {F : Hp} {p : Addr} {o : HO} (h : F p = none) : LeF F (upd F p o) := fun b u e => by
  rw [upd_ne (ne_of_none e h)]; exact e
theorem LeF.sqL {K : PySem.W.Frag} {F F' : Hp} {a : Addr} {xs : List V} (e : LeF F F') (h : SqL K F a xs) : SqL K F' a xs := Same.seq e h
theorem LeF.sqT {K : PySem.W.Frag} {F F' : Hp} {a : Addr} {xs : List V} (e : LeF F F') (h : SqT K F a xs) : SqT K F' a xs := by
  rcases h with (h | ⟨o, h⟩) | h
  · exact .inl (.inl (e _ _ h))
  · exact .inl (.inr ⟨o, e _ _ h⟩)
  · exact .inr h
theorem LeF.free {F F' : Hp} (e : LeF F F') {l : Addr} (h : F' l = Option.none) : F l = Option.none := Same.free e h

section
variable {g : G} {F F' : Hp}
mutual
theorem Rep.mono (e : LeF F F') : ∀ {v : V} {t : T}, Rep g F v t → Rep g F' v t
  | _, _, .non => .non
  | _, _, .bl b => .bl b
  | _, _, .int i => .int i
  | _, _, .str x => .str x
  | _, _, .tup h r => .tup (e.sqT h) (Reps.mono e r)
  | _, _, .lst h r => .lst (e _ _ h) (Reps.mono e r)
  | _, _, .obj h k r => .obj (e _ _ h) (e _ _ k) (RepF.mono e r)
  | _, _, .drw => .drw
  | _, _, .scr h => .scr (e.sqL h)
theorem Reps.mono (e : LeF F F') : ∀ {vs : List V} {ts : List T}, Reps g F vs ts → Reps g F' vs ts
  | _, _, .nil => .nil
  | _, _, .cons r rs => .cons (Rep.mono e r) (Reps.mono e rs)
theorem RepF.mono (e : LeF F F') : ∀ {vs : List (Str × V)} {ts : List (Str × T)}, RepF g F vs ts → RepF g F' vs ts
  | _, _, .nil => .nil
  | _, _, .cons r rs => .cons (Rep.mono e r) (RepF.mono e rs)
end
theorem Reps.length : ∀ {vs : List V} {ts : List T}, Reps g F vs ts → vs.length = ts.length
  | _, _, .nil => rfl
  | _, _, .cons _ rs => by simp [Reps.length rs]
theorem Reps.get : ∀ {vs : List V} {ts : List T} {i : Nat} {t : T}, Reps g F vs ts → ts[i]? = some t → ∃ v, vs[i]? = some v ∧ Rep g F v t
  | _, _, _, _, .nil, e => by simp at e
  | _, _, 0, _, .cons r _, e => by simp at e; subst e; exact ⟨_, rfl, r⟩
  | _, _, i + 1, t, .cons _ rs, e => by
    obtain ⟨v, h1, h2⟩ := Reps.get (i := i) (t := t) rs (by simpa using e)
    exact ⟨v, by simpa using h1, h2⟩
theorem Reps.getV : ∀ {vs : List V} {ts : List T} {i : Nat} {v : V}, Reps g F vs ts → vs[i]? = some v → ∃ t, ts[i]? = some t ∧ Rep g F v t
  | _, _, _, _, .nil, e => by simp at e
  | _, _, 0, _, .cons r _, e => by simp at e; subst e; exact ⟨_, rfl, r⟩
  | _, _, i + 1, t, .cons _ rs, e => by
    obtain ⟨v, h1, h2⟩ := Reps.getV (i := i) rs (by simpa using e)
    exact ⟨v, by simpa using h1, h2⟩
theorem Reps.append : ∀ {vs ws : List V} {ts us : List T}, Reps g F vs ts → Reps g F ws us → Reps g F (vs ++ ws) (ts ++ us)
  | _, _, _, _, .nil, s => s
  | _, _, _, _, .cons r rs, s => .cons r (Reps.append rs s)
theorem Reps.take : ∀ {vs : List V} {ts : List T} (n : Nat), Reps g F vs ts → Reps g F (vs.take n) (ts.take n)
  | _, _, 0, _ => by simp; exact .nil
  | _, _, _ + 1, .nil => .nil
  | _, _, n + 1, .cons r rs => .cons r (Reps.take n rs)
theorem Reps.drop : ∀ {vs : List V} {ts : List T} (n : Nat), Reps g F vs ts → Reps g F (vs.drop n) (ts.drop n)
  | _, _, 0, r => by simpa using r
  | _, _, _ + 1, .nil => .nil
  | _, _, n + 1, .cons _ rs => by simpa using Reps.drop n rs
theorem Reps.set : ∀ {vs : List V} {ts : List T} {v : V} {t : T} (i : Nat), Reps g F vs ts → Rep g F v t → Reps g F (vs.set i v) (ts.set i t)
  | _, _, _, _, _, .nil, _ => .nil
  | _, _, _, _, 0, .cons _ rs, r => .cons r rs
  | _, _, _, _, i + 1, .cons q rs, r => .cons q (Reps.set i rs r)
theorem Reps.snoc {vs : List V} {ts : List T} {v : V} {t : T} (r : Reps g F vs ts) (q : Rep g F v t) : Reps g F (vs ++ [v]) (ts ++ [t]) := r.append (.cons q .nil)
theorem Reps.eraseIdx : ∀ {vs : List V} {ts : List T} (i : Nat), Reps g F vs ts → Reps g F (vs.eraseIdx i) (ts.eraseIdx i)
  | _, _, _, .nil => .nil
  | _, _, 0, .cons _ rs => rs
  | _, _, i + 1, .cons q rs => .cons q (Reps.eraseIdx i rs)
theorem Reps.insertIdx {v : V} {t : T} : ∀ {vs : List V} {ts : List T} (i : Nat), Reps g F vs ts → Rep g F v t → Reps g F (vs.insertIdx i v) (ts.insertIdx i t)
  | _, _, 0, rs, q => .cons q rs
  | _, _, _ + 1, .nil, q => .nil
  | _, _, i + 1, .cons r rs, q => .cons r (Reps.insertIdx i rs q)
theorem Reps.reverse : ∀ {vs : List V} {ts : List T}, Reps g F vs ts → Reps g F vs.reverse ts.reverse
  | _, _, .nil => .nil
  | _, _, .cons r rs => by
    rw [List.reverse_cons, List.reverse_cons]
    exact (Reps.reverse rs).append (.cons r .nil)
theorem Reps.dropLast {vs : List V} {ts : List T} (r : Reps g F vs ts) : Reps g F vs.dropLast ts.dropLast := by
  rw [List.dropLast_eq_take, List.dropLast_eq_take, r.length]; exact r.take _
theorem Reps.replicate {v : V} {t : T} (r : Rep g F v t) : ∀ n : Nat, Reps g F (List.replicate n v) (List.replicate n t)
  | 0 => .nil
  | n + 1 => .cons r (Reps.replicate r n)
theorem Reps.flatRep {vs : List V} {ts : List T} (r : Reps g F vs ts) : ∀ n : Nat, Reps g F (List.replicate n vs).flatten (List.replicate n ts).flatten
  | 0 => .nil
  | n + 1 => by
    rw [List.replicate_succ, List.replicate_succ, List.flatten_cons, List.flatten_cons]
    exact r.append (Reps.flatRep r n)
theorem RepF.look {f : Str} {t : T} : ∀ {fs : List (Str × V)} {ts : List (Str × T)}, RepF g F fs ts → ts.lookup f = some t → ∃ v, fs.lookup f = some v ∧ Rep g F v t
  | _, _, .nil, e => by simp at e
  | _, _, .cons (n := n) r rs, e => by
    rw [List.lookup_cons] at e ⊢
    cases h : (f == n) with
    | true => rw [h] at e; cases e; exact ⟨_, rfl, r⟩
    | false => rw [h] at e; exact RepF.look rs e
theorem RepF.lookN {f : Str} : ∀ {fs : List (Str × V)} {ts : List (Str × T)}, RepF g F fs ts → ts.lookup f = none → fs.lookup f = none
  | _, _, .nil, e => rfl
  | _, _, .cons (n := n) r rs, e => by
    rw [List.lookup_cons] at e ⊢
    cases h : (f == n) with
    | true => rw [h] at e; cases e
    | false => rw [h] at e; exact RepF.lookN rs e
theorem RepF.length : ∀ {vs : List (Str × V)} {ts : List (Str × T)}, RepF g F vs ts → vs.length = ts.length
  | _, _, .nil => rfl
  | _, _, .cons _ rs => by simp [RepF.length rs]
theorem RepF.keys : ∀ {vs : List (Str × V)} {ts : List (Str × T)}, RepF g F vs ts → vs.map (·.1) = ts.map (·.1)
  | _, _, .nil => rfl
  | _, _, .cons _ rs => by simp [RepF.keys rs]
end

/-! ### the relation of a state -/
/-- what is to be kept; what was frozen at the entry -/
structure Bs where
  H : Hp
  F : Hp
  a : Addr := 0
structure Ne3 (g : G) (a : Addr) : Prop where
  da : a ≠ g.da
  la : a ≠ g.la
  ca : a ≠ g.ca
  tb : ∀ p ∈ g.tb, a ≠ p.1
/-- a thing that one slot alone has, at a -/
inductive OwA (g : G) (F H : Hp) (a : Addr) : T → Prop
  | lst {xs : List V} {ts : List T} : H a = some (.lst xs) → Reps g F xs ts → OwA g F H a (.lst ts)
  | ins {c : Nat} {dx : Addr} {fs : List (Str × V)} {ts : List (Str × T)} : H a = some (.ins (g.cl c) dx fs) → H dx = some (.own a) → F dx = none → dx + 1 = a → RepF g F fs ts → OwA g F H a (.obj c ts)
theorem OwA.there {g : G} {F H : Hp} {a : Addr} {t : T} (h : OwA g F H a t) : ∃ o, H a = some o := by
  cases h with
  | lst h _ => exact ⟨_, h⟩
  | ins h _ _ _ _ => exact ⟨_, h⟩
def SlOk (g : G) (B : Bs) (H F : Hp) (o : Option (Option V)) : Option Sl → Prop
  | some (.sh t) => ∃ v, o = some (some v) ∧ Rep g F v t
  | some (.ow t) => ∃ a, o = some (some (.ref a)) ∧ F a = none ∧ B.H a = none ∧ Ne3 g a ∧ OwA g F H a t
  | _ => True
structure DrOk (g : G) (H F : Hp) (D : Dr) : Prop where
  da : H g.da = some (.dK [(.inr "large", .ref g.la), (.inr "cells", .ref g.ca), (.inr "rest", .int D.rest), (.inr "turn", .int D.turn), (.inr "mix", .int D.mix)])
  la : H g.la = some (.lst (D.large.map V.int))
  ca : H g.ca = some (.lst (D.cells.map V.int))
  fda : F g.da = none
  fla : F g.la = none
  fca : F g.ca = none
  dl : g.da ≠ g.la
  dc : g.da ≠ g.ca
  lc : g.la ≠ g.ca
  tb : LamX.Tabs g.tb H
  ftb : ∀ p ∈ g.tb, F p.1 = none
/-- what is changed is not to be kept -/
structure Bd (g : G) (B : Bs) : Prop where
  da : B.H g.da = none
  la : B.H g.la = none
  ca : B.H g.ca = none
  tb : ∀ p ∈ g.tb, B.H p.1 = none
structure Rl (g : G) (B : Bs) (s : S) (σ : L2.St) (H F : Hp) : Prop where
  sub : LeF F H
  new : ∀ a o, F a = some o → B.F a = some o ∨ B.H a = none
  old : LeF B.F F
  keep : LeF B.H H
  slot : ∀ i : Nat, SlOk g B H F (σ[i]?) (s.env[i]?)
  dis : ∀ (i j : Nat) (t u : T) (a : Addr), s.env[i]? = some (.ow t) → s.env[j]? = some (.ow u) → σ[i]? = some (some (.ref a)) → σ[j]? = some (some (.ref a)) → i = j
  dr : DrOk g H F s.D
  bd : Bd g B
  mkd : ∀ (i c : Nat) (fs : List (Str × T)), s.env[i]? = some (.ow (.obj c fs)) → σ[i]? = some (some (.ref B.a))
/-- a new thing that no slot has -/
structure Fr (g : G) (B : Bs) (s : S) (σ : L2.St) (F : Hp) (a : Addr) : Prop where
  f : F a = none
  b : B.H a = none
  n : Ne3 g a
  s : ∀ (i : Nat) (t : T), s.env[i]? = some (Sl.ow t) → σ[i]? ≠ some (some (.ref a))

section
variable {g : G} {B : Bs} {s : S} {σ : L2.St} {H H' F F' : Hp} {p a : Addr} {o : HO}
theorem ne_of_none' {H : Hp} {a p : Addr} {o : HO} (h : H a = some o) (h' : H p = none) : p ≠ a := Ne.symm (ne_of_none h h')
theorem DrOk.ne {D : Dr} (d : DrOk g H F D) (h : H p = none) : Ne3 g p :=
  ⟨ne_of_none' d.da h, ne_of_none' d.la h, ne_of_none' d.ca h, fun p hp => by obtain ⟨ps, h1, _⟩ := d.tb p hp; exact ne_of_none' h1 h⟩
theorem OwA.up {t : T} (x : OwA g F H a t) (e : LeF H H') : OwA g F H' a t := by
  cases x with
  | lst h r => exact .lst (e _ _ h) r
  | ins h k f d r => exact .ins (e _ _ h) (e _ _ k) f d r
theorem SlOk.up {q : Option (Option V)} {z : Option Sl} (x : SlOk g B H F q z) (e : LeF H H') : SlOk g B H' F q z := by
  unfold SlOk at x ⊢
  split at x
  · exact x
  · obtain ⟨a, h1, h2, h3, h4, h5⟩ := x
    exact ⟨a, h1, h2, h3, h4, h5.up e⟩
  · trivial
/-- the heap has grown -/
theorem Rl.up (x : Rl g B s σ H F) (e : LeF H H') (d : DrOk g H' F s.D) : Rl g B s σ H' F :=
  ⟨x.sub.trans e, x.new, x.old, x.keep.trans e, fun i => (x.slot i).up e, x.dis, d, x.bd, x.mkd⟩
theorem DrOk.up {D : Dr} (d : DrOk g H F D) (e : LeF H H') : DrOk g H' F D := ⟨e _ _ d.da, e _ _ d.la, e _ _ d.ca, d.fda, d.fla, d.fca, d.dl, d.dc, d.lc, d.tb.ext e, d.ftb⟩
theorem Rl.alloc (x : Rl g B s σ H F) (h : H p = none) : Rl g B s σ (upd H p o) F := x.up (LeF.upd h) (x.dr.up (LeF.upd h))
theorem Rl.fresh (x : Rl g B s σ H F) (h : H p = none) : Fr g B s σ F p :=
  ⟨x.sub.free h, x.keep.free h, x.dr.ne h, fun i t e q => by
    have z := x.slot i
    rw [e] at z
    obtain ⟨a, h1, _, _, _, h5⟩ := z
    rw [q] at h1
    cases h1
    obtain ⟨o, ho⟩ := h5.there
    rw [h] at ho; cases ho⟩
theorem OwA.freeze {t : T} {b : Addr} (x : OwA g F H b t) (e : LeF F F') (k : ∀ dx, F dx = none → H dx = some (.own b) → F' dx = none) : OwA g F' H b t := by
  cases x with
  | lst h r => exact .lst h (r.mono e)
  | ins h q f d r => exact .ins h q (k _ f q) d (r.mono e)
theorem DrOk.freeze {D : Dr} (d : DrOk g H F D) (n : Ne3 g a) : DrOk g H (upd F a o) D :=
  ⟨d.da, d.la, d.ca, by rw [upd_ne (Ne.symm n.da)]; exact d.fda, by rw [upd_ne (Ne.symm n.la)]; exact d.fla, by rw [upd_ne (Ne.symm n.ca)]; exact d.fca, d.dl, d.dc, d.lc, d.tb, fun p hp => by rw [upd_ne (Ne.symm (n.tb p hp))]; exact d.ftb p hp⟩
theorem set_obj {env : List Sl} {i j : Nat} {b : Sl} (nb : ∀ c fs, b ≠ .ow (.obj c fs)) {c : Nat} {fs : List (Str × T)} (h : (env.set i b)[j]? = some (.ow (.obj c fs))) : i ≠ j ∧ env[j]? = some (.ow (.obj c fs)) := by
  by_cases hj : i = j
  · subst hj
    exfalso
    by_cases hl : i < env.length
    · rw [List.getElem?_set_self hl] at h
      exact nb _ _ (Option.some.inj h)
    · rw [List.getElem?_eq_none (by rw [List.length_set]; omega)] at h
      cases h
  · rw [List.getElem?_set_ne hj] at h
    exact ⟨hj, h⟩
/-- one thing that is not a code object is changed -/
theorem DrOk.other {D : Dr} (d : DrOk g H F D) (k : ∀ b u, b ≠ a → H b = some u → H' b = some u) (n : Ne3 g a) (no : ∀ c q, H a ≠ some (LamX.CodeO c q)) : DrOk g H' F D :=
  ⟨k _ _ (Ne.symm n.da) d.da, k _ _ (Ne.symm n.la) d.la, k _ _ (Ne.symm n.ca) d.ca, d.fda, d.fla, d.fca, d.dl, d.dc, d.lc, fun p hp => by
    obtain ⟨ps, h1, h2, h3⟩ := d.tb p hp
    exact ⟨ps, k _ _ (Ne.symm (n.tb p hp)) h1, h2, fun pos cv hc => by
      obtain ⟨c, e1, e2⟩ := h3 pos cv hc
      exact ⟨c, e1, k _ _ (fun z => by subst z; exact no _ _ e2) e2⟩⟩, d.ftb⟩
theorem lst_no {xs : List V} (h : H a = some (.lst xs)) : ∀ c q, H a ≠ some (LamX.CodeO c q) := fun c q z => by
  rw [h] at z
  have z := Option.some.inj z
  unfold LamX.CodeO at z
  cases z
/-- a fresh thing is frozen (o: not the own dict of an instance) -/
theorem Rl.freeze (x : Rl g B s σ H F) (f : Fr g B s σ F a) (h : H a = some o) (no : ∀ y, o ≠ .own y) : Rl g B s σ H (upd F a o) := by
  refine ⟨fun b u e => ?_, fun b u e => ?_, x.old.trans (LeF.upd f.f), x.keep, fun i => ?_, x.dis, x.dr.freeze f.n, x.bd, x.mkd⟩
  · by_cases hb : b = a
    · subst hb; rw [upd_same] at e; cases e; exact h
    · rw [upd_ne hb] at e; exact x.sub _ _ e
  · by_cases hb : b = a
    · subst hb; exact .inr f.b
    · rw [upd_ne hb] at e; exact x.new _ _ e
  · have z := x.slot i
    unfold SlOk at z ⊢
    split at z
    · obtain ⟨v, h1, h2⟩ := z
      exact ⟨v, h1, h2.mono (LeF.upd f.f)⟩
    · rename_i t ht
      obtain ⟨b, h1, h2, h3, h4, h5⟩ := z
      have hb : b ≠ a := fun e => by subst e; exact f.s i t ht h1
      refine ⟨b, h1, by rw [upd_ne hb]; exact h2, h3, h4, h5.freeze (LeF.upd f.f) fun dx h6 h7 => ?_⟩
      rw [upd_ne]
      · exact h6
      · intro e; subst e; rw [h] at h7; exact no b (Option.some.inj h7)
    · trivial
/-- a new thing, frozen at once -/
theorem Rl.allocF (x : Rl g B s σ H F) (h : H p = none) (no : ∀ y, o ≠ .own y) : Rl g B s σ (upd H p o) (upd F p o) :=
  (x.alloc (o := o) h).freeze (x.fresh h) upd_same no
theorem Rl.leF (x : Rl g B s σ H F) (h : H p = none) : LeF F (upd F p o) := LeF.upd (x.sub.free h)
theorem Rl.newTup {xs : List V} {ts : List T} (x : Rl g B s σ H F) (h : H p = none) (r : Reps g F xs ts) :
    Rl g B s σ (upd H p (.tup xs)) (upd F p (.tup xs)) ∧ LeF F (upd F p (.tup xs)) ∧ Rep g (upd F p (.tup xs)) (.ref p) (.tup ts) :=
  ⟨x.allocF h (fun y z => nomatch z), x.leF h, .tup (SqT.of upd_same) (r.mono (x.leF h))⟩
/-- what is frozen stands in the heap -/
theorem Rl.sqL {xs : List V} (x : Rl g B s σ H F) (h : SqL g.K F a xs) : SqL g.K H a xs := x.sub.sqL h
theorem Rl.sqT {xs : List V} (x : Rl g B s σ H F) (h : SqT g.K F a xs) : SqT g.K H a xs := x.sub.sqT h
end

/-! ### the results of an expression -/
inductive R where
  | val (t : T) | frs (t : T) | bor (i : Nat)
inductive Bv where
  | val (t : T) | bor (i : Nat)
def Bv.tr (s : S) : Bv → Option T
  | .val t => some t
  | .bor i => match s.env[i]? with
    | some (.ow t) => some t
    | some (.sh t) => some t
    | _ => none
/-- seen from outside: a frozen value, or a thing that a slot has -/
inductive Rb (g : G) (F H : Hp) : V → T → Prop
  | fr {v : V} {t : T} : Rep g F v t → Rb g F H v t
  | ow {a : Addr} {t : T} : OwA g F H a t → Rb g F H (.ref a) t

def RRv (g : G) (t : T) (v : V) (F : Hp) : Prop := Rep g F v t
def RRb (g : G) (σ : L2.St) (s : S) (b : Bv) (v : V) (F : Hp) : Prop := match b with
  | .val t => Rep g F v t
  | .bor i => σ[i]? = some (some v) ∧ ∃ t, s.env[i]? = some (.ow t)
def RRe (g : G) (B : Bs) (σ : L2.St) (s : S) (H : Hp) (b : R) (v : V) (F : Hp) : Prop := match b with
  | .val t => Rep g F v t
  | .frs t => ∃ a, v = .ref a ∧ Fr g B s σ F a ∧ OwA g F H a t ∧ ∃ ts, t = .lst ts
  | .bor i => σ[i]? = some (some v) ∧ ∃ t, s.env[i]? = some (.ow t)

end Tv
namespace Tv
open PySem PySem.Spec PyProof.Rows L2

/-! ### contexts -/
structure Rn where
  A : Around
  s0 : Shared
  H0 : Hp
  env : Env
  outer : List Env
  stack : List Env
  ex : List Addr
  fn : Str → Bool
  calm : Bool
  pn : List (Addr × Obj)
  xe : Value → Shared → Prop
/-- a def that makes lambdas: its code object, the table of code objects, the lambdas' name -/
structure LamI where
  c : Addr
  P : Addr
  q : Str
structure C where
  g : G
  N : List Str
  sc : Scope
  k : Nat
  fnl : Str → Bool
  lam : Option LamI
abbrev C.cx (c : C) (r : Rn) : Cx where
  prog := c.g.P
  w := c.g.w
  K := c.g.K
  mg := c.g.mg
  base := c.g.base
  A := r.A
  N := c.N
  s_0 := r.s0
  H_0 := r.H0
  env := r.env
  outer := r.outer
  stack := r.stack
  ex := r.ex
  fn := r.fn
  calm := r.calm
  pn := r.pn
  xe := r.xe
structure C.Ok (c : C) (r : Rn) : Prop where
  sc : r.env.scope = c.sc
  nd : c.N.Nodup
  calm : r.calm = true
  room : Room c.k r.A
  gd : r.A.guards = some []
  fnc : ∀ x, c.fnl x = true → r.fn x = true
  pass : PassesOwn (model c.g.P c.g.w) r.A r.env r.xe
  lam : ∀ l, c.lam = some l → r.env.code = .ref l.c ∧ r.env.qual ++ "<lambda>" = l.q ∧ LamX.TabB c.g.base c.g.mg l.c l.P ∧ (l.P, l.q) ∈ c.g.tb ∧ ∀ p ∈ c.g.tb, p.1 = l.P → p.2 = l.q

/-! ### weakest readings -/
def wE (X : Cx) (e : Expr) : TE := fun σ H Q => ∀ pins s, Inv X pins σ H s → wpAny (model X.prog X.w) X.A (eval e X.env) (EP X pins σ Q) X.xe s
def wT (X : Cx) (e : Expr) : TT := fun σ H Q => ∀ pins s, Inv X pins σ H s → wpAny (model X.prog X.w) X.A (isTrue e X.env (eval e X.env)) (TP X pins σ Q) X.xe s
def wW (X : Cx) (e : Expr) : TT := fun σ H Q => ∀ wh pins s, Inv X pins σ H s → wpAny (model X.prog X.w) X.A (isTrue e X.env wh) (TP X pins σ Q) X.xe s
def wA (X : Cx) (es : List Expr) : TA := fun σ H Q => ∀ pos pins s, Inv X pins σ H s → wpAny (model X.prog X.w) X.A (spliced (backTo pos (starEach es X.env))) (AP X pins σ Q) X.xe s
def wS (X : Cx) (st : Stmt) : TS := fun D σ H => ∀ pins s, Inv X pins σ H s → wpAny (model X.prog X.w) X.A (exec st X.env) (SP X pins D) X.xe s
def wSs (X : Cx) (st : List Stmt) : TS := fun D σ H => ∀ pins s, Inv X pins σ H s → wpAny (model X.prog X.w) X.A (execs st X.env) (SP X pins D) X.xe s
section
variable {X : Cx} {e : Expr} {es : List Expr} {st : Stmt} {sts : List Stmt} {σ : L2.St} {H : Hp}
theorem pE : PE X e (wE X e) := ⟨fun pins s _ _ _ I h => h pins s I⟩
theorem pT : PT X e (wT X e) := ⟨fun pins s _ _ _ I h => h pins s I⟩
theorem pW : PW X e (wW X e) := ⟨fun wh pins s _ _ _ I h => h wh pins s I⟩
theorem pA : PA X es (wA X es) := ⟨fun pos pins s _ _ _ I h => h pos pins s I⟩
theorem pS : PS X st (wS X st) := ⟨fun pins s _ _ _ I h => h pins s I⟩
theorem pSs : PSs X sts (wSs X sts) := ⟨fun pins s _ _ _ I h => h pins s I⟩
theorem PE.w {t : TE} {Q : VK} (h : PE X e t) (q : t σ H Q) : wE X e σ H Q := fun pins s I => h.run pins s σ H Q I q
theorem PT.w {t : TT} {Q : Bool → Hp → Prop} (h : PT X e t) (q : t σ H Q) : wT X e σ H Q := fun pins s I => h.run pins s σ H Q I q
theorem PW.w {t : TT} {Q : Bool → Hp → Prop} (h : PW X e t) (q : t σ H Q) : wW X e σ H Q := fun wh pins s I => h.run wh pins s σ H Q I q
theorem PA.w {t : TA} {Q : List V → Hp → Prop} (h : PA X es t) (q : t σ H Q) : wA X es σ H Q := fun pos pins s I => h.run pos pins s σ H Q I q
theorem PS.w {t : TS} {D : Ends} (h : PS X st t) (q : t D σ H) : wS X st D σ H := fun pins s I => h.run pins s σ H D I q
theorem PSs.w {t : TS} {D : Ends} (h : PSs X sts t) (q : t D σ H) : wSs X sts D σ H := fun pins s I => h.run pins s σ H D I q
end

/-! ### judgements -/
/-- an exception: its class, its own dict -/
def XRep (g : G) (x : Ex) (cls : Value) (d : Option Addr) (H F : Hp) : Prop := cls = .ref (g.cl x.cls) ∧
  match d with
  | none => x.fs = []
  | some dd => ∃ fs, H dd = some (.xd fs) ∧ F dd = some (.xd fs) ∧ RepF g F fs x.fs
section
variable {α β : Type}
/-- what is asked of what follows -/
def Po (g : G) (B : Bs) (σ : L2.St) (F : Hp) (W : WX) (RR : α → S → β → Hp → Hp → Prop) (Q : β → Hp → Prop) : Out α → Prop
  | .ok a s => ∀ v H' F', LeF F F' → Rl g B s σ H' F' → RR a s v H' F' → Q v H'
  | .exc x s => ∀ cls d H' F', LeF F F' → Rl g B s σ H' F' → XRep g x cls d H' F' → W cls d σ H'
  | .bad => False
theorem Po.le {g : G} {B : Bs} {σ : L2.St} {F F1 : Hp} {W : WX} {RR : α → S → β → Hp → Hp → Prop} {Q : β → Hp → Prop} {o : Out α} (h : Po g B σ F W RR Q o) (e : LeF F F1) : Po g B σ F1 W RR Q o := by
  cases o with
  | ok a s => exact fun v H' F' l => h v H' F' (e.trans l)
  | exc x s => exact fun cls d H' F' l => h cls d H' F' (e.trans l)
  | bad => exact h
end
def rE (g : G) (B : Bs) (σ : L2.St) (b : R) (s : S) (v : V) (H F : Hp) : Prop := match b with
  | .val t => Rep g F v t
  | .frs ts => ∃ a xs, v = .ref a ∧ Fr g B s σ F a ∧ H a = some (.lst xs) ∧ ∃ us, ts = .lst us ∧ Reps g F xs us
  | .bor i => σ[i]? = some (some v) ∧ ∃ t, s.env[i]? = some (.ow t)
def RB1 (g : G) (σ : L2.St) (F : Hp) (b : Bv) (v : V) : Prop := match b with
  | .val t => Rep g F v t
  | .bor i => σ[i]? = some (some v)
theorem RB1.mono {g : G} {σ : L2.St} {F F' : Hp} {b : Bv} {v : V} (e : LeF F F') (h : RB1 g σ F b v) : RB1 g σ F' b v := by
  cases b with
  | val t => exact Rep.mono e h
  | bor i => exact h
def rB (g : G) (σ : L2.St) (b : Bv) (s : S) (v : V) (H F : Hp) : Prop := RB1 g σ F b v
def rV (g : G) (t : T) (s : S) (v : V) (H F : Hp) : Prop := Rep g F v t
def rVs (g : G) (ts : List T) (s : S) (vs : List V) (H F : Hp) : Prop := Reps g F vs ts
inductive RBs (g : G) (σ : L2.St) (F : Hp) : List V → List Bv → Prop
  | nil : RBs g σ F [] []
  | cons {v : V} {vs : List V} {b : Bv} {bs : List Bv} : RB1 g σ F b v → RBs g σ F vs bs → RBs g σ F (v :: vs) (b :: bs)
def rBs (g : G) (σ : L2.St) (bs : List Bv) (s : S) (vs : List V) (H F : Hp) : Prop := RBs g σ F vs bs
def rT (b : Bool) (s : S) (v : Bool) (H F : Hp) : Prop := v = b

/-- expressions: as they come; to be looked at; to be kept; a test; arguments to be kept; to be looked at -/
def SE (c : C) (e : Expr) (f : S → Out R) : Prop := ∀ r W, c.Ok r → Takes (c.cx r) W → ∀ B s σ H F, Rl c.g B s σ H F → ∀ Q, Po c.g B σ F W (rE c.g B σ) Q (f s) → wE (c.cx r) e σ H Q
def SB (c : C) (e : Expr) (f : S → Out Bv) : Prop := ∀ r W, c.Ok r → Takes (c.cx r) W → ∀ B s σ H F, Rl c.g B s σ H F → ∀ Q, Po c.g B σ F W (rB c.g σ) Q (f s) → wE (c.cx r) e σ H Q
def SV (c : C) (e : Expr) (f : S → Out T) : Prop := ∀ r W, c.Ok r → Takes (c.cx r) W → ∀ B s σ H F, Rl c.g B s σ H F → ∀ Q, Po c.g B σ F W (rV c.g) Q (f s) → wE (c.cx r) e σ H Q
def STs (c : C) (e : Expr) (f : S → Out Bool) : Prop := ∀ r W, c.Ok r → Takes (c.cx r) W → ∀ B s σ H F, Rl c.g B s σ H F → ∀ Q, Po c.g B σ F W rT Q (f s) → wT (c.cx r) e σ H Q
def SWs (c : C) (e : Expr) (f : S → Out Bool) : Prop := ∀ r W, c.Ok r → Takes (c.cx r) W → ∀ B s σ H F, Rl c.g B s σ H F → ∀ Q, Po c.g B σ F W rT Q (f s) → wW (c.cx r) e σ H Q
def SA (c : C) (es : List Expr) (f : S → Out (List T)) : Prop := ∀ r W, c.Ok r → Takes (c.cx r) W → ∀ B s σ H F, Rl c.g B s σ H F → ∀ Q, Po c.g B σ F W (rVs c.g) Q (f s) → wA (c.cx r) es σ H Q
def SAb (c : C) (es : List Expr) (f : S → Out (List Bv)) : Prop := ∀ r W, c.Ok r → Takes (c.cx r) W → ∀ B s σ H F, Rl c.g B s σ H F → ∀ Q, Po c.g B σ F W (rBs c.g σ) Q (f s) → wA (c.cx r) es σ H Q

/-! ### from one to the other -/
def Out.toB : Out R → Out Bv
  | .ok (.val t) s => .ok (.val t) s
  | .ok (.frs t) s => .ok (.val t) s
  | .ok (.bor i) s => .ok (.bor i) s
  | .exc x s => .exc x s
  | .bad => .bad
def frz (i : Nat) (s : S) : Out T := match s.env[i]? with
  | some (.ow (.lst ts)) => .ok (.lst ts) { s with env := s.env.set i (.sh (.lst ts)) }
  | some (.sh t) => .ok t s
  | _ => .bad
def Out.toV : Out R → Out T
  | .ok (.val t) s => .ok t s
  | .ok (.frs t) s => .ok t s
  | .ok (.bor i) s => frz i s
  | .exc x s => .exc x s
  | .bad => .bad

section
variable {g : G} {B : Bs} {s : S} {σ : L2.St} {H H' F F' : Hp} {p a : Addr} {o : HO} {i : Nat}
theorem ho_own {xs : List V} : ∀ y, HO.lst xs ≠ .own y := fun _ z => nomatch z
/-- a slot's list is given away: it is frozen -/
theorem Rl.give {ts : List T} {xs : List V} (x : Rl g B s σ H F) (e : s.env[i]? = some (.ow (.lst ts))) (ea : σ[i]? = some (some (.ref a))) (h : H a = some (.lst xs)) (r : Reps g F xs ts) (fa : F a = none) (ba : B.H a = none) (n : Ne3 g a) :
    Rl g B { s with env := s.env.set i (.sh (.lst ts)) } σ H (upd F a (.lst xs)) := by
  have le : LeF F (upd F a (.lst xs)) := LeF.upd fa
  refine ⟨fun b u e => ?_, fun b u e => ?_, x.old.trans le, x.keep, fun j => ?_, fun j k t u b h1 h2 h3 h4 => ?_, x.dr.freeze n, x.bd, fun j c fs h => x.mkd j c fs (set_obj (fun _ _ z => by cases z) h).2⟩
  · by_cases hb : b = a
    · subst hb; rw [upd_same] at e; cases e; exact h
    · rw [upd_ne hb] at e; exact x.sub _ _ e
  · by_cases hb : b = a
    · subst hb; exact .inr ba
    · rw [upd_ne hb] at e; exact x.new _ _ e
  · show SlOk g B H _ _ ((s.env.set i (.sh (.lst ts)))[j]?)
    by_cases hj : i = j
    · subst hj
      have hl : i < s.env.length := (List.getElem?_eq_some_iff.mp e).1
      rw [List.getElem?_set_self hl]
      exact ⟨_, ea, .lst upd_same (r.mono le)⟩
    · rw [List.getElem?_set_ne hj]
      have z := x.slot j
      unfold SlOk at z ⊢
      split at z
      · obtain ⟨v, h1, h2⟩ := z
        exact ⟨v, h1, h2.mono le⟩
      · rename_i t ht
        obtain ⟨b, h1, h2, h3, h4, h5⟩ := z
        have hb : b ≠ a := fun q => hj (x.dis i j _ _ a e ht ea (by rw [h1, q]))
        refine ⟨b, h1, by rw [upd_ne hb]; exact h2, h3, h4, h5.freeze le fun dx h6 h7 => ?_⟩
        rw [upd_ne]
        · exact h6
        · intro q; subst q; rw [h] at h7; cases h7
      · trivial
  · have h1 : (s.env.set i (.sh (.lst ts)))[j]? = some (.ow t) := h1
    have h2 : (s.env.set i (.sh (.lst ts)))[k]? = some (.ow u) := h2
    have nj : i ≠ j := fun q => by
      subst q
      rw [List.getElem?_set_self (List.getElem?_eq_some_iff.mp e).1] at h1; cases h1
    have nk : i ≠ k := fun q => by
      subst q
      rw [List.getElem?_set_self (List.getElem?_eq_some_iff.mp e).1] at h2; cases h2
    rw [List.getElem?_set_ne nj] at h1
    rw [List.getElem?_set_ne nk] at h2
    exact x.dis j k t u b h1 h2 h3 h4
/-- .. and what it stands for -/
theorem Rl.frz {t : T} {s' : S} {v : V} (x : Rl g B s σ H F) (e : frz i s = .ok t s') (ev : σ[i]? = some (some v)) : ∃ F', LeF F F' ∧ Rl g B s' σ H F' ∧ Rep g F' v t := by
  have z := x.slot i
  unfold Tv.frz at e
  split at e
  · rename_i ts he
    cases e
    rw [he] at z
    obtain ⟨a, h1, h2, h3, h4, h5⟩ := z
    rw [ev] at h1
    cases h1
    cases h5 with
    | lst h r => exact ⟨_, LeF.upd h2, x.give he ev h r h2 h3 h4, .lst upd_same (r.mono (LeF.upd h2))⟩
  · rename_i t he
    cases e
    rw [he] at z
    obtain ⟨w, h1, h2⟩ := z
    rw [ev] at h1
    cases h1
    exact ⟨F, LeF.refl F, x, h2⟩
  · cases e
end

section
variable {c : C} {e : Expr} {es : List Expr} {f : S → Out R}
def fB (f : S → Out R) : S → Out Bv := fun s => (f s).toB
def fV (f : S → Out R) : S → Out T := fun s => (f s).toV
theorem SE.b (h : SE c e f) : SB c e (fB f) := by
  intro r W ok tk B s σ H F x Q q
  unfold fB at q
  refine h r W ok tk B s σ H F x Q ?_
  cases hf : f s with
  | ok b s' =>
    rw [hf] at q
    cases b with
    | val t => exact q
    | frs t =>
      intro v H' F' le x' hr
      obtain ⟨a, xs, rfl, fr, ha, us, rfl, rs⟩ := hr
      exact q (.ref a) H' (upd F' a (.lst xs)) (le.trans (LeF.upd fr.f)) (x'.freeze fr ha ho_own) (.lst upd_same (rs.mono (LeF.upd fr.f)))
    | bor i =>
      intro v H' F' le x' hr
      exact q v H' F' le x' hr.1
  | exc y s' => rw [hf] at q; exact q
  | bad => rw [hf] at q; exact q
theorem SE.v (h : SE c e f) : SV c e (fV f) := by
  intro r W ok tk B s σ H F x Q q
  unfold fV at q
  refine h r W ok tk B s σ H F x Q ?_
  cases hf : f s with
  | ok b s' =>
    rw [hf] at q
    cases b with
    | val t => exact q
    | frs t =>
      intro v H' F' le x' hr
      obtain ⟨a, xs, rfl, fr, ha, us, rfl, rs⟩ := hr
      exact q (.ref a) H' (upd F' a (.lst xs)) (le.trans (LeF.upd fr.f)) (x'.freeze fr ha ho_own) (.lst upd_same (rs.mono (LeF.upd fr.f)))
    | bor i =>
      intro v H' F' le x' hr
      have q2 : Po c.g B σ F W (rV c.g) Q (frz i s') := q
      cases hz : frz i s' with
      | ok t s'' =>
        rw [hz] at q2
        obtain ⟨F'', l2, x2, r2⟩ := x'.frz hz hr.1
        exact q2 v H' F'' (le.trans l2) x2 r2
      | exc y s'' =>
        exfalso
        unfold frz at hz
        split at hz <;> cases hz
      | bad => rw [hz] at q2; exact q2.elim
  | exc y s' => rw [hf] at q; exact q
  | bad => rw [hf] at q; exact q
/-- a kept value is one -/
def Out.val : Out T → Out R
  | .ok t s => .ok (.val t) s
  | .exc x s => .exc x s
  | .bad => .bad
def fE (f : S → Out T) : S → Out R := fun s => (f s).val
theorem SV.up {f : S → Out T} (h : SV c e f) : SE c e (fE f) := by
  intro r W ok tk B s σ H F x Q q
  unfold fE at q
  refine h r W ok tk B s σ H F x Q ?_
  cases hf : f s with
  | ok b s' => rw [hf] at q; exact q
  | exc y s' => rw [hf] at q; exact q
  | bad => rw [hf] at q; exact q

/-! ### argument lists -/
def aNil {α : Type} : S → Out (List α) := fun s => .ok [] s
def aCons {α : Type} (f : S → Out α) (g : S → Out (List α)) : S → Out (List α) := fun s => (f s).bind fun t s1 => (g s1).bind fun ts s2 => .ok (t :: ts) s2
theorem SA.nil : SA c [] aNil := fun r W ok tk B s σ H F x Q q => PA.w pa_nil (q [] H F (LeF.refl F) x .nil)
theorem SAb.nil : SAb c [] aNil := fun r W ok tk B s σ H F x Q q => PA.w pa_nil (q [] H F (LeF.refl F) x .nil)
def NoStar (e : Expr) : Prop := ∀ (es : List Expr) (env : Env), starEach (e :: es) env = (false, eval e env) :: starEach es env
theorem SA.cons {f : S → Out T} {k : S → Out (List T)} (h1 : SV c e f) (h2 : SA c es k) (hs : NoStar e := by intro _ _; rfl) : SA c (e :: es) (aCons f k) := by
  intro r W ok tk B s σ H F x Q q
  refine PA.w (pa_cons pE pA (hs _ _)) (h1 r W ok tk B s σ H F x _ ?_)
  unfold aCons at q
  cases hf : f s with
  | ok t s1 =>
    rw [hf] at q
    intro v H1 F1 l1 x1 r1
    refine h2 r W ok tk B s1 σ H1 F1 x1 _ ?_
    have q : Po c.g B σ F W (rVs c.g) Q ((k s1).bind fun ts s2 => .ok (t :: ts) s2) := q
    cases hk : k s1 with
    | ok ts s2 =>
      rw [hk] at q
      exact fun vs H2 F2 l2 x2 r2 => q (v :: vs) H2 F2 (l1.trans l2) x2 (.cons (Rep.mono l2 r1) r2)
    | exc y s2 =>
      rw [hk] at q
      exact fun cls d H' F' l => q cls d H' F' (l1.trans l)
    | bad => rw [hk] at q; exact q
  | exc y s1 => rw [hf] at q; exact q
  | bad => rw [hf] at q; exact q
theorem RBs.mono {g : G} {σ : L2.St} {F F' : Hp} (e : LeF F F') : ∀ {vs : List V} {bs : List Bv}, RBs g σ F vs bs → RBs g σ F' vs bs
  | _, _, .nil => .nil
  | _, _, .cons r rs => .cons (r.mono e) (RBs.mono e rs)
theorem SAb.cons {f : S → Out Bv} {k : S → Out (List Bv)} (h1 : SB c e f) (h2 : SAb c es k) (hs : NoStar e := by intro _ _; rfl) : SAb c (e :: es) (aCons f k) := by
  intro r W ok tk B s σ H F x Q q
  refine PA.w (pa_cons pE pA (hs _ _)) (h1 r W ok tk B s σ H F x _ ?_)
  unfold aCons at q
  cases hf : f s with
  | ok t s1 =>
    rw [hf] at q
    intro v H1 F1 l1 x1 r1
    refine h2 r W ok tk B s1 σ H1 F1 x1 _ ?_
    have q : Po c.g B σ F W (rBs c.g σ) Q ((k s1).bind fun ts s2 => .ok (t :: ts) s2) := q
    cases hk : k s1 with
    | ok ts s2 =>
      rw [hk] at q
      exact fun vs H2 F2 l2 x2 r2 => q (v :: vs) H2 F2 (l1.trans l2) x2 (.cons (RB1.mono l2 r1) r2)
    | exc y s2 =>
      rw [hk] at q
      exact fun cls d H' F' l => q cls d H' F' (l1.trans l)
    | bad => rw [hk] at q; exact q
  | exc y s1 => rw [hf] at q; exact q
  | bad => rw [hf] at q; exact q
end

/-! ### names, constants -/
def fVar (i : Nat) : S → Out R := fun s => match s.env[i]? with
  | some (.sh t) => .ok (.val t) s
  | some (.ow _) => .ok (.bor i) s
  | _ => .bad
def fK (t : T) : S → Out R := fun s => .ok (.val t) s
section
variable {c : C} {pos : Pos}
theorem SE.var (i : Nat) {x : Str} (hN : c.N[i]? = some x := by rfl) (hv : Vis c.sc x := by first | exact Or.inl rfl | exact Or.inr (Or.inl rfl) | exact Or.inr (Or.inr rfl)) (hd : (x == ("__debug__" : Str)) = false := by decide)
    (hcd : (x == ("__classdict__" : Str)) = false := by decide) : SE c (.Name x pos) (fVar i) := by
  intro r W ok tk B s σ H F x Q q
  refine PE.w (pe_var (X := c.cx r) (i := i) hN (by rw [show (c.cx r).env.scope = c.sc from ok.sc]; exact hv) hd hcd) ?_
  have z := x.slot i
  unfold fVar at q
  cases he : s.env[i]? with
  | none => rw [he] at q; exact q.elim
  | some b =>
    rw [he] at q z
    cases b with
    | no => exact q.elim
    | sh t =>
      obtain ⟨v, h1, h2⟩ := z
      exact ⟨v, h1, q v H F (LeF.refl F) x h2⟩
    | ow t =>
      obtain ⟨a, h1, h2, h3, h4, h5⟩ := z
      exact ⟨.ref a, h1, q (.ref a) H F (LeF.refl F) x ⟨h1, t, he⟩⟩
theorem SE.const {e : Expr} {v : V} {t : T} (h : ∀ r, c.Ok r → PE (c.cx r) e (tC v)) (hr : ∀ F, Rep c.g F v t) : SE c e (fK t) := by
  intro r W ok tk B s σ H F x Q q
  exact PE.w (h r ok) (q v H F (LeF.refl F) x (hr F))
theorem SE.int {i : Int} {j : Nat} : SE c (.Constant (.int i) j pos) (fK (.int i)) := SE.const (fun _ _ => pe_int) fun _ => .int i
theorem SE.bl {b : Bool} {j : Nat} : SE c (.Constant (.bool b) j pos) (fK (.bl b)) := SE.const (fun _ _ => pe_bl) fun _ => .bl b
theorem SE.non {j : Nat} : SE c (.Constant .none j pos) (fK .non) := SE.const (fun _ _ => pe_non) fun _ => .non
theorem SE.str {x : Str} {j : Nat} : SE c (.Constant (.str x) j pos) (fK (.str x)) := SE.const (fun _ _ => pe_str) fun _ => .str x
/-- a module's int -/
theorem SE.gint {x : Str} {i : Int} (hm : ∃ t, c.g.mg x = some (.int i t)) (hg : c.sc.names.lookup x = some .globalImplicit := by rfl) (hd : (x == ("__debug__" : Str)) = false := by decide) : SE c (.Name x pos) (fK (.int i)) := by
  obtain ⟨t, hm⟩ := hm
  exact SE.const (v := .int i) (fun r ok => pe_glob (X := c.cx r) (by show r.env.scope.names.lookup x = _; rw [ok.sc]; exact hg) hm ⟨t, rfl⟩ hd) fun _ => .int i
end
end Tv
namespace Tv
open PySem PySem.Spec PyProof.Rows L2

/-! ### plain data -/
mutual
def toD : T → PyData
  | .bl b => .bool b
  | .int i => .int i
  | .str x => .str x
  | .tup ts => .tuple (toDs ts)
  | .lst ts => .list (toDs ts)
  | _ => .none
def toDs : List T → List PyData
  | [] => []
  | t :: ts => toD t :: toDs ts
end
mutual
def pl : T → Bool
  | .non => true
  | .bl _ => true
  | .int _ => true
  | .str _ => true
  | .tup ts => pls ts
  | .lst ts => pls ts
  | _ => false
def pls : List T → Bool
  | [] => true
  | t :: ts => pl t && pls ts
end
def shp (t : T) : Bool := pl t && SeqAt.shaped (toD t)
section
variable {g : G} {F H : Hp}
mutual
theorem Rep.dp (le : LeF F H) : ∀ {v : V} {t : T}, Rep g F v t → pl t = true → Dp g.K H v (toD t)
  | _, _, .non, _ => by have e : toD .non = .none := by simp [toD]
                        rw [e]; exact .non
  | _, _, .bl b, _ => by rw [toD]; exact .bl b
  | _, _, .int i, _ => by rw [toD]; exact .int i
  | _, _, .str x, _ => by rw [toD]; exact .str x
  | _, _, .tup h r, p => by rw [toD]; exact .tup (le.sqT h) (Reps.dp le r (by simpa [pl] using p))
  | _, _, .lst h r, p => by rw [toD]; exact .lst (SqL.of (le _ _ h)) (Reps.dp le r (by simpa [pl] using p))
  | _, _, .obj h k r, p => by simp [pl] at p
  | _, _, .drw, p => by simp [pl] at p
  | _, _, .scr _, p => by simp [pl] at p
theorem Reps.dp (le : LeF F H) : ∀ {vs : List V} {ts : List T}, Reps g F vs ts → pls ts = true → DpAll g.K H vs (toDs ts)
  | _, _, .nil, _ => by rw [toDs]; exact .nil
  | _, _, .cons r rs, p => by
    rw [pls, Bool.and_eq_true] at p
    rw [toDs]; exact .cons (Rep.dp le r p.1) (Reps.dp le rs p.2)
end
theorem Rb.dp (le : LeF F H) {v : V} {t : T} (r : Rb g F H v t) (p : pl t = true) : Dp g.K H v (toD t) := by
  cases r with
  | fr r => exact r.dp le p
  | ow r =>
    cases r with
    | lst h r => rw [toD]; exact .lst (SqL.of h) (r.dp le (by simpa [pl] using p))
    | ins _ _ _ _ _ => simp [pl] at p
theorem Rb.mono {H' F' : Hp} {v : V} {t : T} (r : Rep g F v t) (e : LeF F F') : Rb g F' H' v t := .fr (r.mono e)
theorem Rb.int {v : V} {i : Int} (r : Rb g F H v (.int i)) : v = .int i := by
  cases r with
  | fr r => cases r; rfl
  | ow r => cases r
theorem Rb.bl {v : V} {i : Bool} (r : Rb g F H v (.bl i)) : v = .bl i := by
  cases r with
  | fr r => cases r; rfl
  | ow r => cases r
theorem Rb.str {v : V} {i : Str} (r : Rb g F H v (.str i)) : v = .str i := by
  cases r with
  | fr r => cases r; rfl
  | ow r => cases r
theorem Rb.non {v : V} (r : Rb g F H v .non) : v = .non := by
  cases r with
  | fr r => cases r; rfl
  | ow r => cases r
theorem Rb.lst (le : LeF F H) {v : V} {ts : List T} (r : Rb g F H v (.lst ts)) : ∃ a xs, v = .ref a ∧ H a = some (.lst xs) ∧ Reps g F xs ts := by
  cases r with
  | fr r =>
    cases r with
    | lst h r => exact ⟨_, _, rfl, le _ _ h, r⟩
  | ow r =>
    cases r with
    | lst h r => exact ⟨_, _, rfl, h, r⟩
theorem Rb.tup (le : LeF F H) {v : V} {ts : List T} (r : Rb g F H v (.tup ts)) : ∃ a xs, v = .ref a ∧ SqT g.K F a xs ∧ SqT g.K H a xs ∧ Reps g F xs ts := by
  cases r with
  | fr r =>
    cases r with
    | tup h r => exact ⟨_, _, rfl, h, le.sqT h, r⟩
  | ow r => cases r
end
theorem Rl.look {g : G} {B : Bs} {s : S} {σ : L2.St} {H F : Hp} {b : Bv} {v : V} {t : T} (x : Rl g B s σ H F) (r : RB1 g σ F b v) (e : b.tr s = some t) : Rb g F H v t := by
  cases b with
  | val u =>
    have e2 : u = t := Option.some.inj e
    subst e2
    exact .fr r
  | bor i =>
    have z := x.slot i
    have e2 : (match s.env[i]? with | some (.ow t) => some t | some (.sh t) => some t | _ => none) = some t := e
    cases he : s.env[i]? with
    | none => rw [he] at e2; cases e2
    | some y =>
      rw [he] at e2 z
      cases y with
      | no => cases e2
      | sh u =>
        cases e2
        obtain ⟨w, h1, h2⟩ := z
        rw [show σ[i]? = some (some v) from r] at h1
        cases h1
        exact .fr h2
      | ow u =>
        cases e2
        obtain ⟨a, h1, h2, h3, h4, h5⟩ := z
        rw [show σ[i]? = some (some v) from r] at h1
        cases h1
        exact .ow h5

/-! ### binary operators -/
/-- an operator's rule gives what op says -/
def Op2 (g : G) (ρ : R2) (op : T → T → Option R) : Prop := ∀ t1 t2 r, op t1 t2 = some r → ∀ B s σ H F v1 v2, Rl g B s σ H F → Rb g F H v1 t1 → Rb g F H v2 t2 →
  ∀ Q : VK, (∀ v H' F', LeF F F' → Rl g B s σ H' F' → rE g B σ r s v H' F' → Q v H') → ρ v1 v2 H Q
def lift1 (o : Option R) (s : S) : Out R := match o with
  | some r => .ok r s
  | none => .bad
def op2 (op : T → T → Option R) (o1 o2 : Option T) (s : S) : Out R := match o1, o2 with
  | some t1, some t2 => lift1 (op t1 t2) s
  | _, _ => .bad
def fBin (op : T → T → Option R) (fa fb : S → Out Bv) : S → Out R := fun s => (fa s).bind fun b1 s1 => (fb s1).bind fun b2 s2 => op2 op (b1.tr s2) (b2.tr s2) s2
def R.blK {α : Type} (z : R) (k : Bool → Out α) : Out α := match z with
  | .val (.bl b) => k b
  | _ => .bad
section
variable {c : C} {a b : Expr} {fa fb : S → Out Bv} {op : T → T → Option R} {ρ : C → Cx → R2}
theorem bin_core {a b : Expr} (h1 : SB c a fa) (h2 : SB c b fb) {ρ : R2} (ho : Op2 c.g ρ op) {r : Rn} {W : WX} (ok : c.Ok r) (tk : Takes (c.cx r) W) {B : Bs} {s : S} {σ : L2.St} {H F : Hp} (x : Rl c.g B s σ H F) {Q : VK}
    (q : Po c.g B σ F W (rE c.g B σ) Q (fBin op fa fb s)) : tOp ρ (wE (c.cx r) a) (wE (c.cx r) b) σ H Q := by
  refine h1 r W ok tk B s σ H F x _ ?_
  unfold fBin at q
  cases hf : fa s with
  | ok b1 s1 =>
    rw [hf] at q
    intro v1 H1 F1 l1 x1 r1
    refine h2 r W ok tk B s1 σ H1 F1 x1 _ ?_
    have q : Po c.g B σ F W (rE c.g B σ) Q ((fb s1).bind fun b2 s2 => op2 op (b1.tr s2) (b2.tr s2) s2) := q
    cases hk : fb s1 with
    | ok b2 s2 =>
      rw [hk] at q
      intro v2 H2 F2 l2 x2 r2
      have q : Po c.g B σ F W (rE c.g B σ) Q (op2 op (b1.tr s2) (b2.tr s2) s2) := q
      cases e1 : b1.tr s2 with
      | none => rw [e1] at q; exact q.elim
      | some t1 =>
        cases e2 : b2.tr s2 with
        | none => rw [e1, e2] at q; exact q.elim
        | some t2 =>
          rw [e1, e2] at q
          have q : Po c.g B σ F W (rE c.g B σ) Q (lift1 (op t1 t2) s2) := q
          unfold lift1 at q
          cases e3 : op t1 t2 with
          | none => rw [e3] at q; exact q.elim
          | some z =>
            rw [e3] at q
            exact ho t1 t2 z e3 B s2 σ H2 F2 v1 v2 x2 (x2.look (RB1.mono l2 r1) e1) (x2.look r2 e2) Q fun v H' F' l x' rr => q v H' F' (l1.trans (l2.trans l)) x' rr
    | exc y s2 =>
      rw [hk] at q
      exact fun cls d H' F' l => q cls d H' F' (l1.trans l)
    | bad => rw [hk] at q; exact q
  | exc y s1 => rw [hf] at q; exact q
  | bad => rw [hf] at q; exact q
theorem SE.bin {o : Operator} {pos : Pos} {ρ : R2} (hr : ∀ r, c.Ok r → OpR (c.cx r) (binaryOp o) ρ) (ho : Op2 c.g ρ op) (h1 : SB c a fa) (h2 : SB c b fb) : SE c (.BinOp a o b pos) (fBin op fa fb) :=
  fun r W ok tk B s σ H F x Q q => PE.w (pe_op (hr r ok) pE pE) (bin_core h1 h2 ho ok tk x q)
theorem SE.cmp {o : CmpOp} {pos : Pos} {ρ : R2} (hr : ∀ r, c.Ok r → OpR (c.cx r) (compareOp o) ρ) (ho : Op2 c.g ρ op) (h1 : SB c a fa) (h2 : SB c b fb) (hm : behindInMarks o b = false := by rfl) : SE c (.Compare a [o] [b] pos) (fBin op fa fb) :=
  fun r W ok tk B s σ H F x Q q => PE.w (pe_cmpR (hr r ok) pE pE hm) (bin_core h1 h2 ho ok tk x q)
end

/-! ### tests -/
/-- a value that is a truth value -/
def asT (f : S → Out R) : S → Out Bool := fun s => (f s).bind fun r s1 => r.blK fun b => .ok b s1
theorem asT_po {c : C} {B : Bs} {s : S} {σ : L2.St} {F : Hp} {W : WX} {Q : Bool → Hp → Prop} {f : S → Out R} (q : Po c.g B σ F W rT Q (asT f s)) :
    Po c.g B σ F W (rE c.g B σ) (fun v H' => ∃ k, v = .bl k ∧ Q k H') (f s) := by
  unfold asT at q
  cases hf : f s with
  | ok b s1 =>
    rw [hf] at q
    have q : Po c.g B σ F W rT Q (b.blK fun b => .ok b s1) := q
    unfold R.blK at q
    split at q
    · intro v H' F' l x' r
      cases r
      exact ⟨_, rfl, q _ H' F' l x' rfl⟩
    · exact q.elim
  | exc y s1 => rw [hf] at q; exact q
  | bad => rw [hf] at q; exact q
section
variable {c : C} {a b : Expr} {fa fb : S → Out Bv} {op : T → T → Option R}
theorem STs.cmp {o : CmpOp} {pos : Pos} {ρ : R2} (hr : ∀ r, c.Ok r → OpR (c.cx r) (compareOp o) ρ) (ho : Op2 c.g ρ op) (h1 : SB c a fa) (h2 : SB c b fb) (hm : behindInMarks o b = false := by rfl) :
    STs c (.Compare a [o] [b] pos) (asT (fBin op fa fb)) :=
  fun r W ok tk B s σ H F x Q q => PT.w (pt_cmpR (hr r ok) pE pE hm) (bin_core h1 h2 ho ok tk x (asT_po q))
theorem STs.val {e : Expr} {f : S → Out R} (h : SE c e f) (he : ∀ (env : Env) (whole : Sem Value), isTrue e env whole = (do let v ← whole; standAt e.pos; holding [v] (truthy v)) := by intro _ _; rfl) : STs c e (asT f) :=
  fun r W ok tk B s σ H F x Q q => PT.w (pt_val pE (he _)) (h r W ok tk B s σ H F x _ (asT_po q))
def tNotF (f : S → Out Bool) : S → Out Bool := fun s => (f s).bind fun b s1 => .ok (!b) s1
def tAndF (f k : S → Out Bool) : S → Out Bool := fun s => (f s).bind fun b s1 => if b = true then k s1 else .ok false s1
def tOrF (f k : S → Out Bool) : S → Out Bool := fun s => (f s).bind fun b s1 => if b = true then .ok true s1 else k s1
variable {e : Expr} {rest : List Expr} {pos : Pos} {f k : S → Out Bool}
theorem STs.not (h : STs c e f) : STs c (.UnaryOp .Not e pos) (tNotF f) := by
  intro r W ok tk B s σ H F x Q q
  refine PT.w (pt_not pT) (h r W ok tk B s σ H F x _ ?_)
  unfold tNotF at q
  cases hf : f s with
  | ok b s1 => rw [hf] at q; exact fun v H' F' l x' e => by subst e; exact q _ H' F' l x' rfl
  | exc y s1 => rw [hf] at q; exact q
  | bad => rw [hf] at q; exact q
theorem SWs.t (h : SWs c e f) : STs c e f := fun r W ok tk B s σ H F x Q q => PT.w (pW.pt) (h r W ok tk B s σ H F x Q q)
theorem SWs.and1 (h : STs c e f) : SWs c (.BoolOp .And [e] pos) f := fun r W ok tk B s σ H F x Q q => PW.w (pw_and1 pT) (h r W ok tk B s σ H F x Q q)
theorem SWs.or1 (h : STs c e f) : SWs c (.BoolOp .Or [e] pos) f := fun r W ok tk B s σ H F x Q q => PW.w (pw_or1 pT) (h r W ok tk B s σ H F x Q q)
theorem SWs.and (h1 : STs c e f) (h2 : SWs c (.BoolOp .And (b :: rest) pos) k) : SWs c (.BoolOp .And (e :: b :: rest) pos) (tAndF f k) := by
  intro r W ok tk B s σ H F x Q q
  refine PW.w (pw_and pT pW) (h1 r W ok tk B s σ H F x _ ?_)
  unfold tAndF at q
  cases hf : f s with
  | ok b s1 =>
    rw [hf] at q
    have q : Po c.g B σ F W rT Q (if b = true then k s1 else .ok false s1) := q
    intro v H' F' l x' e
    subst e
    cases v with
    | true => exact h2 r W ok tk B s1 σ H' F' x' Q (q.le l)
    | false => exact q false H' F' l x' rfl
  | exc y s1 => rw [hf] at q; exact q
  | bad => rw [hf] at q; exact q
theorem SWs.or (h1 : STs c e f) (h2 : SWs c (.BoolOp .Or (b :: rest) pos) k) : SWs c (.BoolOp .Or (e :: b :: rest) pos) (tOrF f k) := by
  intro r W ok tk B s σ H F x Q q
  refine PW.w (pw_or pT pW) (h1 r W ok tk B s σ H F x _ ?_)
  unfold tOrF at q
  cases hf : f s with
  | ok b s1 =>
    rw [hf] at q
    have q : Po c.g B σ F W rT Q (if b = true then .ok true s1 else k s1) := q
    intro v H' F' l x' e
    subst e
    cases v with
    | true => exact q true H' F' l x' rfl
    | false => exact h2 r W ok tk B s1 σ H' F' x' Q (q.le l)
  | exc y s1 => rw [hf] at q; exact q
  | bad => rw [hf] at q; exact q
end

/-! ### and, or, not, if as values -/
def ofT (f : S → Out Bool) : S → Out R := fun s => (f s).bind fun b s1 => .ok (.val (.bl b)) s1
section
variable {c : C} {e b : Expr} {rest : List Expr} {pos : Pos} {f k : S → Out R}
/-- x and y, of truth values -/
def vAnd (f k : S → Out R) : S → Out R := fun s => (f s).bind fun z s1 => z.blK fun b => if b = true then k s1 else .ok (.val (.bl false)) s1
def vOr (f k : S → Out R) : S → Out R := fun s => (f s).bind fun z s1 => z.blK fun b => if b = true then .ok (.val (.bl true)) s1 else k s1
def vNot (f : S → Out R) : S → Out R := fun s => (f s).bind fun z s1 => z.blK fun b => .ok (.val (.bl (!b))) s1
def vIf (t : S → Out Bool) (f k : S → Out R) : S → Out R := fun s => (t s).bind fun b s1 => if b = true then f s1 else k s1
theorem SE.one {op : BoolOp} (h : SE c e f) : SE c (.BoolOp op [e] pos) f := fun r W ok tk B s σ H F x Q q => PE.w (pe_one pE) (h r W ok tk B s σ H F x Q q)
theorem SE.and (h1 : SE c e f) (h2 : SE c (.BoolOp .And (b :: rest) pos) k) : SE c (.BoolOp .And (e :: b :: rest) pos) (vAnd f k) := by
  intro r W ok tk B s σ H F x Q q
  refine PE.w (pe_and pE pE) (h1 r W ok tk B s σ H F x _ ?_)
  unfold vAnd at q
  cases hf : f s with
  | ok z s1 =>
    rw [hf] at q
    have q : Po c.g B σ F W (rE c.g B σ) Q (z.blK fun b => if b = true then k s1 else .ok (.val (.bl false)) s1) := q
    unfold R.blK at q
    split at q
    · rename_i b' q0
      intro v H' F' l x' e
      cases e
      refine ⟨b', rfl, ?_⟩
      cases b' with
      | true => exact h2 r W ok tk B s1 σ H' F' x' Q (q.le l)
      | false => exact q _ H' F' l x' (.bl false)
    · exact q.elim
  | exc y s1 => rw [hf] at q; exact q
  | bad => rw [hf] at q; exact q
theorem SE.or (h1 : SE c e f) (h2 : SE c (.BoolOp .Or (b :: rest) pos) k) : SE c (.BoolOp .Or (e :: b :: rest) pos) (vOr f k) := by
  intro r W ok tk B s σ H F x Q q
  refine PE.w (pe_or pE pE) (h1 r W ok tk B s σ H F x _ ?_)
  unfold vOr at q
  cases hf : f s with
  | ok z s1 =>
    rw [hf] at q
    have q : Po c.g B σ F W (rE c.g B σ) Q (z.blK fun b => if b = true then .ok (.val (.bl true)) s1 else k s1) := q
    unfold R.blK at q
    split at q
    · rename_i b' q0
      intro v H' F' l x' e
      cases e
      refine ⟨b', rfl, ?_⟩
      cases b' with
      | true => exact q _ H' F' l x' (.bl true)
      | false => exact h2 r W ok tk B s1 σ H' F' x' Q (q.le l)
    · exact q.elim
  | exc y s1 => rw [hf] at q; exact q
  | bad => rw [hf] at q; exact q
theorem SE.not (h : SE c e f) : SE c (.UnaryOp .Not e pos) (vNot f) := by
  intro r W ok tk B s σ H F x Q q
  refine PE.w (pe_not pE) (h r W ok tk B s σ H F x _ ?_)
  unfold vNot at q
  cases hf : f s with
  | ok z s1 =>
    rw [hf] at q
    have q : Po c.g B σ F W (rE c.g B σ) Q (z.blK fun b => .ok (.val (.bl (!b))) s1) := q
    unfold R.blK at q
    split at q
    · rename_i b' q0
      intro v H' F' l x' e
      cases e
      exact ⟨b', rfl, q _ H' F' l x' (.bl _)⟩
    · exact q.elim
  | exc y s1 => rw [hf] at q; exact q
  | bad => rw [hf] at q; exact q
theorem SE.ite {t : Expr} {ft : S → Out Bool} (h0 : STs c t ft) (h1 : SE c e f) (h2 : SE c b k) : SE c (.IfExp t e b pos) (vIf ft f k) := by
  intro r W ok tk B s σ H F x Q q
  refine PE.w (pe_ifExp pT pE pE) (h0 r W ok tk B s σ H F x _ ?_)
  unfold vIf at q
  cases hf : ft s with
  | ok z s1 =>
    rw [hf] at q
    have q : Po c.g B σ F W (rE c.g B σ) Q (if z = true then f s1 else k s1) := q
    intro v H' F' l x' e
    subst e
    cases v with
    | true => exact h1 r W ok tk B s1 σ H' F' x' Q (q.le l)
    | false => exact h2 r W ok tk B s1 σ H' F' x' Q (q.le l)
  | exc y s1 => rw [hf] at q; exact q
  | bad => rw [hf] at q; exact q
end
end Tv
namespace Tv
open PySem PySem.Spec PyProof.Rows L2

theorem szl {n : Nat} (h : n ≤ 16777216) : n ≤ sizeLine := by rw [sizeLine_eq]; exact h
theorem szlt {n : Nat} (h : n < 16777216) : n < sizeLine := by rw [sizeLine_eq]; exact h

section
variable {g : G}
/-- a value without a place -/
theorem rE.val {B : Bs} {σ : L2.St} {s : S} {H F : Hp} {v : V} {t : T} (r : Rep g F v t) : rE g B σ (.val t) s v H F := r
/-- a new list -/
theorem new_lst {B : Bs} {s : S} {σ : L2.St} {H F : Hp} {Q : VK} {xs : List V} {ts : List T} (x : Rl g B s σ H F) (r : Reps g F xs ts)
    (q : ∀ v H' F', LeF F F' → Rl g B s σ H' F' → rE g B σ (.frs (.lst ts)) s v H' F' → Q v H') : ∀ p, H p = none → Q (.ref p) (upd H p (.lst xs)) := fun p hp =>
  q (.ref p) _ F (LeF.refl F) (x.alloc hp) ⟨p, xs, rfl, x.fresh hp, upd_same, ts, rfl, r⟩
/-- a new tuple -/
theorem new_tup {B : Bs} {s : S} {σ : L2.St} {H F : Hp} {Q : VK} {xs : List V} {ts : List T} (x : Rl g B s σ H F) (r : Reps g F xs ts)
    (q : ∀ v H' F', LeF F F' → Rl g B s σ H' F' → rE g B σ (.val (.tup ts)) s v H' F' → Q v H') : ∀ p, H p = none → Q (.ref p) (upd H p (.tup xs)) := fun p hp =>
  let ⟨h1, h2, h3⟩ := x.newTup hp r
  q (.ref p) _ _ h2 h1 h3
end

/-! ### + - * // % ** -/
def opAdd : T → T → Option R
  | .int i, .int j => some (.val (.int (i + j)))
  | .lst a, .lst b => if a.length + b.length ≤ 16777216 then some (.frs (.lst (a ++ b))) else none
  | .tup a, .tup b => if a.length + b.length ≤ 16777216 then some (.val (.tup (a ++ b))) else none
  | _, _ => none
def ρAdd (K : PySem.W.Frag) : R2 := fun x y H Q => rI0 (fun i j => .int (i + j)) x y H Q ∨ rCat x y H Q ∨ rCatA K x y H Q
theorem OpR.add {X : Cx} : OpR X (binaryOp .Add) (ρAdd X.K) := op_add.or (op_cat.or op_catA)
theorem Op2.add {g : G} : Op2 g (ρAdd g.K) opAdd := by
  intro t1 t2 r h B s σ H F v1 v2 x r1 r2 Q q
  unfold opAdd at h
  split at h
  · cases h
    exact .inl ⟨_, _, r1.int, r2.int, q _ H F (LeF.refl F) x (.int _)⟩
  · split at h
    · rename_i hl
      cases h
      obtain ⟨a, xs, rfl, h1, q1⟩ := r1.lst x.sub
      obtain ⟨b, ys, rfl, h2, q2⟩ := r2.lst x.sub
      refine .inr (.inl ⟨a, b, xs, ys, rfl, rfl, h1, h2, szl (by rw [q1.length, q2.length]; exact hl), new_lst x (q1.append q2) q⟩)
    · cases h
  · split at h
    · rename_i hl
      cases h
      obtain ⟨a, xs, rfl, f1, h1, q1⟩ := r1.tup x.sub
      obtain ⟨b, ys, rfl, f2, h2, q2⟩ := r2.tup x.sub
      refine .inr (.inr ⟨a, b, xs, ys, rfl, rfl, h1, h2, szl (by rw [q1.length, q2.length]; exact hl), fun e => ?_, fun _ e => ?_, fun _ _ => new_tup x (q1.append q2) q⟩)
      · subst e; cases q1
        exact q _ H F (LeF.refl F) x (.tup f2 q2)
      · subst e; cases q2
        refine q _ H F (LeF.refl F) x (.tup f1 ?_)
        rw [List.append_nil]; exact q1
    · cases h
  · cases h
def opSub : T → T → Option R
  | .int i, .int j => some (.val (.int (i - j)))
  | _, _ => none
theorem Op2.sub {g : G} : Op2 g (rI0 fun i j => .int (i - j)) opSub := by
  intro t1 t2 r h B s σ H F v1 v2 x r1 r2 Q q
  unfold opSub at h
  split at h
  · cases h
    exact ⟨_, _, r1.int, r2.int, q _ H F (LeF.refl F) x (.int _)⟩
  · cases h
def opMul : T → T → Option R
  | .int i, .int j => if i.natAbs.log2 + j.natAbs.log2 < 100000000 then some (.val (.int (i * j))) else none
  | .lst a, .int k => if -(2 ^ 63) ≤ k ∧ k < 2 ^ 63 ∧ a.length * k.toNat ≤ 16777216 then some (.frs (.lst (List.replicate k.toNat a).flatten)) else none
  | _, _ => none
def CMulV (i j : Int) : Prop := i.natAbs.log2 + j.natAbs.log2 < 100000000
theorem CMulV.x {i j : Int} (h : CMulV i j) : CMulX i j := by
  have b : ∀ x : Int, Builtin.Int.intBits x ≤ x.natAbs.log2 + 1 := fun x => by
    unfold Builtin.Int.intBits
    split <;> omega
  have h1 := b i
  have h2 := b j
  have h3 : i.natAbs.log2 + j.natAbs.log2 < 100000000 := h
  unfold CMulX
  omega
theorem op_mulV {X : Cx} : OpR X (binaryOp .Mult) (rI CMulV fun i j => .int (i * j)) := opI fun _ _ _ _ _ _ _ hc q => mul_int q (CMulV.x hc).ok
def ρMul : R2 := fun x y H Q => rI CMulV (fun i j => .int (i * j)) x y H Q ∨ rRep x y H Q
theorem OpR.mul {X : Cx} : OpR X (binaryOp .Mult) ρMul := op_mulV.or op_rep
theorem Op2.mul {g : G} : Op2 g ρMul opMul := by
  intro t1 t2 r h B s σ H F v1 v2 x r1 r2 Q q
  unfold opMul at h
  split at h
  · split at h
    · rename_i hc
      cases h
      exact .inl ⟨_, _, r1.int, r2.int, hc, q _ H F (LeF.refl F) x (.int _)⟩
    · cases h
  · split at h
    · rename_i hc
      cases h
      obtain ⟨a, xs, rfl, h1, q1⟩ := r1.lst x.sub
      exact .inr ⟨a, _, xs, rfl, r2.int, h1, hc.1, hc.2.1, szl (by rw [q1.length]; exact hc.2.2), new_lst x (q1.flatRep _) q⟩
    · cases h
  · cases h
def opFdv : T → T → Option R
  | .int i, .int j => if 0 < j ∧ j.natAbs.log2 < 9000 then some (.val (.int (i / j))) else none
  | _, _ => none
theorem Op2.fdv {g : G} : Op2 g (rI CDivW fun i j => .int (i / j)) opFdv := by
  intro t1 t2 r h B s σ H F v1 v2 x r1 r2 Q q
  unfold opFdv at h
  split at h
  · split at h
    · rename_i hc
      cases h
      exact ⟨_, _, r1.int, r2.int, hc, q _ H F (LeF.refl F) x (.int _)⟩
    · cases h
  · cases h
def opMod : T → T → Option R
  | .int i, .int j => if 0 < j then some (.val (.int (i % j))) else none
  | _, _ => none
theorem Op2.mod {g : G} : Op2 g (rI (fun _ j => 0 < j) fun i j => .int (i % j)) opMod := by
  intro t1 t2 r h B s σ H F v1 v2 x r1 r2 Q q
  unfold opMod at h
  split at h
  · split at h
    · rename_i hc
      cases h
      exact ⟨_, _, r1.int, r2.int, hc, q _ H F (LeF.refl F) x (.int _)⟩
    · cases h
  · cases h
def opPow : T → T → Option R
  | .int i, .int j => if 0 ≤ j ∧ j ≤ 1000000 ∧ i.natAbs < 2 ^ 64 then some (.val (.int (i ^ j.toNat))) else none
  | _, _ => none
theorem Op2.pow {g : G} : Op2 g (rI CPow fun i j => .int (i ^ j.toNat)) opPow := by
  intro t1 t2 r h B s σ H F v1 v2 x r1 r2 Q q
  unfold opPow at h
  split at h
  · split at h
    · rename_i hc
      cases h
      exact ⟨_, _, r1.int, r2.int, hc, q _ H F (LeF.refl F) x (.int _)⟩
    · cases h
  · cases h

/-! ### comparisons -/
def opEq (neg : Bool) : T → T → Option R := fun a b => if shp a = true ∧ shp b = true then some (.val (.bl (if neg then !PyData.eqv (toD a) (toD b) else PyData.eqv (toD a) (toD b)))) else none
theorem Op2.eq {g : G} : Op2 g (rEqD g.K) (opEq false) := by
  intro t1 t2 r h B s σ H F v1 v2 x r1 r2 Q q
  unfold opEq at h
  split at h
  · rename_i hc
    cases h
    obtain ⟨h1, h2⟩ := hc
    unfold shp at h1 h2
    rw [Bool.and_eq_true] at h1 h2
    exact ⟨_, _, r1.dp x.sub h1.1, r2.dp x.sub h2.1, h1.2, h2.2, q _ H F (LeF.refl F) x (.bl _)⟩
  · cases h
theorem Op2.ne {g : G} : Op2 g (rNeD g.K) (opEq true) := by
  intro t1 t2 r h B s σ H F v1 v2 x r1 r2 Q q
  unfold opEq at h
  split at h
  · rename_i hc
    cases h
    obtain ⟨h1, h2⟩ := hc
    unfold shp at h1 h2
    rw [Bool.and_eq_true] at h1 h2
    exact ⟨_, _, r1.dp x.sub h1.1, r2.dp x.sub h2.1, h1.2, h2.2, q _ H F (LeF.refl F) x (.bl _)⟩
  · cases h
def opCmp (p : Int → Int → Bool) : T → T → Option R
  | .int i, .int j => some (.val (.bl (p i j)))
  | _, _ => none
theorem Op2.cmp {g : G} (p : Int → Int → Bool) : Op2 g (rI0 fun i j => .bl (p i j)) (opCmp p) := by
  intro t1 t2 r h B s σ H F v1 v2 x r1 r2 Q q
  unfold opCmp at h
  split at h
  · cases h
    exact ⟨_, _, r1.int, r2.int, q _ H F (LeF.refl F) x (.bl _)⟩
  · cases h
abbrev opLt : T → T → Option R := opCmp fun i j => decide (i < j)
abbrev opLe : T → T → Option R := opCmp fun i j => decide (i ≤ j)
abbrev opGt : T → T → Option R := opCmp fun i j => decide (j < i)
abbrev opGe : T → T → Option R := opCmp fun i j => decide (j ≤ i)
def T.isNon : T → Bool
  | .non => true
  | _ => false
def opIs (neg : Bool) : T → T → Option R
  | t, .non => some (.val (.bl (if neg then !t.isNon else t.isNon)))
  | _, _ => none
theorem Rb.isNon {g : G} {F H : Hp} {v : V} {t : T} (r : Rb g F H v t) : decide (v = .non) = t.isNon := by
  cases r with
  | fr r => cases r <;> rfl
  | ow r => cases r <;> rfl
theorem Op2.isN {g : G} : Op2 g (fun x y H Q => y = .non ∧ Q (.bl (decide (x = .non))) H) (opIs false) := by
  intro t1 t2 r h B s σ H F v1 v2 x r1 r2 Q q
  unfold opIs at h
  split at h
  · cases h
    exact ⟨r2.non, q _ H F (LeF.refl F) x (by rw [r1.isNon]; exact .bl _)⟩
  · cases h
theorem Op2.notN {g : G} : Op2 g (fun x y H Q => y = .non ∧ Q (.bl (!decide (x = .non))) H) (opIs true) := by
  intro t1 t2 r h B s σ H F v1 v2 x r1 r2 Q q
  unfold opIs at h
  split at h
  · cases h
    exact ⟨r2.non, q _ H F (LeF.refl F) x (by rw [r1.isNon]; exact .bl _)⟩
  · cases h
/-- x in a list of data; x in a tuple of texts -/
def T.isStr : T → Bool
  | .str _ => true
  | _ => false
def opIn (neg : Bool) : T → T → Option R
  | t, .lst ts => if shp t = true ∧ shp (.lst ts) = true then some (.val (.bl (if neg then !(toDs ts).any (fun z => PyData.eqv z (toD t)) else (toDs ts).any (fun z => PyData.eqv z (toD t))))) else none
  | .str x, .tup ts => if ts.all T.isStr = true then some (.val (.bl (if neg then !(ts.any fun z => match z with | .str y => y == x | _ => false) else ts.any fun z => match z with | .str y => y == x | _ => false))) else none
  | _, _ => none
def ρIn (K : PySem.W.Frag) (neg : Bool) : R2 := fun x y H Q => (if neg then rNotInD K x y H Q else rInD K x y H Q) ∨ rIn K neg x y H Q
theorem inV_str {g : G} {F : Hp} {x : Str} : ∀ {vs : List V} {ts : List T}, Reps g F vs ts → ts.all T.isStr = true → vs.all flatV = true ∧ inV (.str x) vs = ts.any fun z => match z with | .str y => y == x | _ => false
  | _, _, .nil, _ => ⟨rfl, rfl⟩
  | _, _, .cons (t := t) r rs, h => by
    rw [List.all_cons, Bool.and_eq_true] at h
    obtain ⟨h1, h2⟩ := inV_str (x := x) rs h.2
    cases r with
    | str y =>
      refine ⟨by rw [List.all_cons, h1]; rfl, ?_⟩
      unfold inV at h2 ⊢
      rw [List.any_cons, List.any_cons, h2]
      rfl
    | _ => cases h.1
theorem Op2.isIn {g : G} (neg : Bool) : Op2 g (ρIn g.K neg) (opIn neg) := by
  intro t1 t2 r h B s σ H F v1 v2 x r1 r2 Q q
  unfold opIn at h
  split at h
  · split at h
    · rename_i ts hc
      cases h
      obtain ⟨h1, h2⟩ := hc
      unfold shp at h1 h2
      rw [Bool.and_eq_true] at h1 h2
      have d1 := r1.dp x.sub h1.1
      have d2 := r2.dp x.sub h2.1
      rw [toD] at d2 h2
      refine .inl ?_
      cases neg with
      | true => exact ⟨_, _, d1, d2, h1.2, h2.2, q _ H F (LeF.refl F) x (.bl _)⟩
      | false => exact ⟨_, _, d1, d2, h1.2, h2.2, q _ H F (LeF.refl F) x (.bl _)⟩
    · cases h
  · split at h
    · rename_i hc
      cases h
      obtain ⟨a, xs, rfl, f1, h1, q1⟩ := r2.tup x.sub
      rw [r1.str]
      rename_i y ts
      obtain ⟨e1, e2⟩ := inV_str (x := y) q1 hc
      refine .inr ⟨a, xs, rfl, .inr h1, rfl, e1, q _ H F (LeF.refl F) x ?_⟩
      rw [e2]
      exact .bl _
    · cases h
  · cases h
section
variable {c : C} {r : Rn}
theorem C.Ok.hu (ok : c.Ok r) : (c.cx r).A.units + 65 < cLine := by have h := ok.room.un; show r.A.units + 65 < cLine; omega
theorem C.Ok.hu64 (ok : c.Ok r) : (c.cx r).A.units + 64 < cLine := by have h := ok.room.un; show r.A.units + 64 < cLine; omega
theorem C.Ok.hu1 (ok : c.Ok r) : (c.cx r).A.units + 1 < cLine := by have h := ok.room.un; show r.A.units + 1 < cLine; omega
theorem OpR.isIn (ok : c.Ok r) : OpR (c.cx r) (compareOp .In) (ρIn c.g.K false) := by
  intro pins s σ H x y v u Q I rx ry h
  rcases h with h | h
  · exact op_inD ok.hu pins s σ H x y v u Q I rx ry h
  · exact op_in_seq pins s σ H x y v u Q I rx ry h
theorem OpR.notIn (ok : c.Ok r) : OpR (c.cx r) (compareOp .NotIn) (ρIn c.g.K true) := by
  intro pins s σ H x y v u Q I rx ry h
  rcases h with h | h
  · exact op_notInD ok.hu pins s σ H x y v u Q I rx ry h
  · exact op_notIn_seq pins s σ H x y v u Q I rx ry h
end

/-! ### the words -/
section
variable {c : C} {a b : Expr} {fa fb : S → Out Bv} {pos : Pos}
theorem SE.add (h1 : SB c a fa) (h2 : SB c b fb) : SE c (.BinOp a .Add b pos) (fBin opAdd fa fb) := SE.bin (fun r ok => OpR.add) Op2.add h1 h2
theorem SE.sub (h1 : SB c a fa) (h2 : SB c b fb) : SE c (.BinOp a .Sub b pos) (fBin opSub fa fb) := SE.bin (fun r ok => op_sub) Op2.sub h1 h2
theorem SE.mul (h1 : SB c a fa) (h2 : SB c b fb) : SE c (.BinOp a .Mult b pos) (fBin opMul fa fb) := SE.bin (fun r ok => OpR.mul) Op2.mul h1 h2
theorem SE.fdv (h1 : SB c a fa) (h2 : SB c b fb) : SE c (.BinOp a .FloorDiv b pos) (fBin opFdv fa fb) := SE.bin (fun r ok => op_fdivW) Op2.fdv h1 h2
theorem SE.mod (h1 : SB c a fa) (h2 : SB c b fb) : SE c (.BinOp a .Mod b pos) (fBin opMod fa fb) := SE.bin (fun r ok => op_mod) Op2.mod h1 h2
theorem SE.pow (h1 : SB c a fa) (h2 : SB c b fb) : SE c (.BinOp a .Pow b pos) (fBin opPow fa fb) := SE.bin (fun r ok => op_pow) Op2.pow h1 h2
theorem SE.eq (h1 : SB c a fa) (h2 : SB c b fb) : SE c (.Compare a [.Eq] [b] pos) (fBin (opEq false) fa fb) := SE.cmp (fun r ok => op_eqD ok.hu64) Op2.eq h1 h2 (nomark _)
theorem SE.ne (h1 : SB c a fa) (h2 : SB c b fb) : SE c (.Compare a [.NotEq] [b] pos) (fBin (opEq true) fa fb) := SE.cmp (fun r ok => op_neD ok.hu64) Op2.ne h1 h2 (nomark _)
theorem SE.lt (h1 : SB c a fa) (h2 : SB c b fb) : SE c (.Compare a [.Lt] [b] pos) (fBin opLt fa fb) := SE.cmp (fun r ok => op_lt) (Op2.cmp _) h1 h2 (nomark _)
theorem SE.le (h1 : SB c a fa) (h2 : SB c b fb) : SE c (.Compare a [.LtE] [b] pos) (fBin opLe fa fb) := SE.cmp (fun r ok => op_le) (Op2.cmp _) h1 h2 (nomark _)
theorem SE.gt (h1 : SB c a fa) (h2 : SB c b fb) : SE c (.Compare a [.Gt] [b] pos) (fBin opGt fa fb) := SE.cmp (fun r ok => op_gt) (Op2.cmp _) h1 h2 (nomark _)
theorem SE.ge (h1 : SB c a fa) (h2 : SB c b fb) : SE c (.Compare a [.GtE] [b] pos) (fBin opGe fa fb) := SE.cmp (fun r ok => op_ge) (Op2.cmp _) h1 h2 (nomark _)
theorem SE.isN (h1 : SB c a fa) (h2 : SB c b fb) : SE c (.Compare a [.Is] [b] pos) (fBin (opIs false) fa fb) := SE.cmp (fun r ok => op_isN) Op2.isN h1 h2 (nomark _)
theorem SE.notN (h1 : SB c a fa) (h2 : SB c b fb) : SE c (.Compare a [.IsNot] [b] pos) (fBin (opIs true) fa fb) := SE.cmp (fun r ok => op_notN) Op2.notN h1 h2 (nomark _)
theorem SE.isIn (h1 : SB c a fa) (h2 : SB c b fb) (hm : behindInMarks .In b = false := by rfl) : SE c (.Compare a [.In] [b] pos) (fBin (opIn false) fa fb) := SE.cmp (fun r ok => OpR.isIn ok) (Op2.isIn _) h1 h2 hm
theorem SE.notIn (h1 : SB c a fa) (h2 : SB c b fb) (hm : behindInMarks .NotIn b = false := by rfl) : SE c (.Compare a [.NotIn] [b] pos) (fBin (opIn true) fa fb) := SE.cmp (fun r ok => OpR.notIn ok) (Op2.isIn _) h1 h2 hm
theorem STs.eq (h1 : SB c a fa) (h2 : SB c b fb) : STs c (.Compare a [.Eq] [b] pos) (asT (fBin (opEq false) fa fb)) := STs.cmp (fun r ok => op_eqD ok.hu64) Op2.eq h1 h2 (nomark _)
theorem STs.ne (h1 : SB c a fa) (h2 : SB c b fb) : STs c (.Compare a [.NotEq] [b] pos) (asT (fBin (opEq true) fa fb)) := STs.cmp (fun r ok => op_neD ok.hu64) Op2.ne h1 h2 (nomark _)
theorem STs.lt (h1 : SB c a fa) (h2 : SB c b fb) : STs c (.Compare a [.Lt] [b] pos) (asT (fBin opLt fa fb)) := STs.cmp (fun r ok => op_lt) (Op2.cmp _) h1 h2 (nomark _)
theorem STs.le (h1 : SB c a fa) (h2 : SB c b fb) : STs c (.Compare a [.LtE] [b] pos) (asT (fBin opLe fa fb)) := STs.cmp (fun r ok => op_le) (Op2.cmp _) h1 h2 (nomark _)
theorem STs.gt (h1 : SB c a fa) (h2 : SB c b fb) : STs c (.Compare a [.Gt] [b] pos) (asT (fBin opGt fa fb)) := STs.cmp (fun r ok => op_gt) (Op2.cmp _) h1 h2 (nomark _)
theorem STs.ge (h1 : SB c a fa) (h2 : SB c b fb) : STs c (.Compare a [.GtE] [b] pos) (asT (fBin opGe fa fb)) := STs.cmp (fun r ok => op_ge) (Op2.cmp _) h1 h2 (nomark _)
theorem STs.isN (h1 : SB c a fa) (h2 : SB c b fb) : STs c (.Compare a [.Is] [b] pos) (asT (fBin (opIs false) fa fb)) := STs.cmp (fun r ok => op_isN) Op2.isN h1 h2 (nomark _)
theorem STs.notN (h1 : SB c a fa) (h2 : SB c b fb) : STs c (.Compare a [.IsNot] [b] pos) (asT (fBin (opIs true) fa fb)) := STs.cmp (fun r ok => op_notN) Op2.notN h1 h2 (nomark _)
theorem STs.isIn (h1 : SB c a fa) (h2 : SB c b fb) (hm : behindInMarks .In b = false := by rfl) : STs c (.Compare a [.In] [b] pos) (asT (fBin (opIn false) fa fb)) := STs.cmp (fun r ok => OpR.isIn ok) (Op2.isIn _) h1 h2 hm
theorem STs.notIn (h1 : SB c a fa) (h2 : SB c b fb) (hm : behindInMarks .NotIn b = false := by rfl) : STs c (.Compare a [.NotIn] [b] pos) (asT (fBin (opIn true) fa fb)) := STs.cmp (fun r ok => OpR.notIn ok) (Op2.isIn _) h1 h2 hm
end
end Tv
namespace Tv
open PySem PySem.Spec PyProof.Rows L2

/-! ### minus -/
def fNeg (f : S → Out R) : S → Out R := fun s => (f s).bind fun z s1 => match z with
  | .val (.int i) => .ok (.val (.int (-i))) s1
  | _ => .bad
theorem SE.neg {c : C} {e : Expr} {pos : Pos} {f : S → Out R} (h : SE c e f) : SE c (.UnaryOp .USub e pos) (fNeg f) := by
  intro r W ok tk B s σ H F x Q q
  refine PE.w (pe_un un_neg pE) (h r W ok tk B s σ H F x _ ?_)
  unfold fNeg at q
  cases hf : f s with
  | ok z s1 =>
    rw [hf] at q
    dsimp only [Out.bind] at q
    split at q
    · intro v H' F' l x' e
      cases e
      exact ⟨_, rfl, q _ H' F' l x' (.int _)⟩
    · exact q.elim
  | exc y s1 => rw [hf] at q; exact q
  | bad => rw [hf] at q; exact q

/-! ### displays -/
def fTup (f : S → Out (List T)) : S → Out R := fun s => (f s).bind fun ts s1 => if ts.length ≤ 1000 then .ok (.val (.tup ts)) s1 else .bad
def fLst (f : S → Out (List T)) : S → Out R := fun s => (f s).bind fun ts s1 => if ts.length ≤ 1000 then .ok (.frs (.lst ts)) s1 else .bad
section
variable {c : C} {es : List Expr} {pos : Pos} {f : S → Out (List T)}
theorem SE.tup {k : Nat} (h : SA c es f) : SE c (.Tuple es k pos) (fTup f) := by
  intro r W ok tk B s σ H F x Q q
  refine PE.w (pe_tup pA) (h r W ok tk B s σ H F x _ ?_)
  unfold fTup at q
  cases hf : f s with
  | ok ts s1 =>
    rw [hf] at q
    dsimp only [Out.bind] at q
    split at q
    · rename_i hl
      intro vs H' F' l x' e
      have e : Reps c.g F' vs ts := e
      exact ⟨szl (by rw [e.length]; omega), new_tup x' e fun v H2 F2 l2 x2 r2 => q v H2 F2 (l.trans l2) x2 r2⟩
    · exact q.elim
  | exc y s1 => rw [hf] at q; exact q
  | bad => rw [hf] at q; exact q
theorem SE.lst (h : SA c es f) : SE c (.List es pos) (fLst f) := by
  intro r W ok tk B s σ H F x Q q
  refine PE.w (pe_lst pA) (h r W ok tk B s σ H F x _ ?_)
  unfold fLst at q
  cases hf : f s with
  | ok ts s1 =>
    rw [hf] at q
    dsimp only [Out.bind] at q
    split at q
    · rename_i hl
      intro vs H' F' l x' e
      have e : Reps c.g F' vs ts := e
      exact ⟨szl (by rw [e.length]; omega), new_lst x' e fun v H2 F2 l2 x2 r2 => q v H2 F2 (l.trans l2) x2 r2⟩
    · exact q.elim
  | exc y s1 => rw [hf] at q; exact q
  | bad => rw [hf] at q; exact q
end

/-! ### subscripts -/
def opIx : T → T → Option R
  | .lst ts, .int i => (atI ts i).map .val
  | .tup ts, .int i => (atI ts i).map .val
  | _, _ => none
theorem Reps.atI {g : G} {F : Hp} {xs : List V} {ts : List T} {i : Int} {t : T} (r : Reps g F xs ts) (h : L2.atI ts i = some t) : ∃ v, L2.atI xs i = some v ∧ Rep g F v t := by
  unfold L2.atI at h ⊢
  rw [r.length]
  obtain ⟨j, h1, h2⟩ := Option.bind_eq_some_iff.mp h
  obtain ⟨v, h3, h4⟩ := r.get h2
  exact ⟨v, by rw [h1]; exact h3, h4⟩
theorem Op2.ix {g : G} : Op2 g (rIx g.K) opIx := by
  intro t1 t2 r h B s σ H F v1 v2 x r1 r2 Q q
  unfold opIx at h
  split at h
  · obtain ⟨t, h1, h2⟩ := Option.map_eq_some_iff.mp h
    cases h2
    obtain ⟨a, xs, rfl, h3, q1⟩ := r1.lst x.sub
    obtain ⟨v, h4, h5⟩ := q1.atI h1
    exact .inl ⟨a, xs, _, v, rfl, r2.int, SqL.of h3, h4, q v H F (LeF.refl F) x h5⟩
  · obtain ⟨t, h1, h2⟩ := Option.map_eq_some_iff.mp h
    cases h2
    obtain ⟨a, xs, rfl, f1, h3, q1⟩ := r1.tup x.sub
    obtain ⟨v, h4, h5⟩ := q1.atI h1
    exact .inr (.inl ⟨a, xs, _, v, rfl, r2.int, h3, h4, q v H F (LeF.refl F) x h5⟩)
  · cases h
theorem SE.ix {c : C} {a b : Expr} {pos : Pos} {fa fb : S → Out Bv} (h1 : SB c a fa) (h2 : SB c b fb) (hs : PlainIx b := by intro _ _; rfl) : SE c (.Subscript a b pos) (fBin opIx fa fb) :=
  fun r W ok tk B s σ H F x Q q => PE.w (pe_ix ix_seq pE pE hs) (bin_core h1 h2 Op2.ix ok tk x q)

/-! ### slices -/
def cutT (ts : List T) (lo hi : Option Int) : List T := (ts.drop (HT.sIx ts.length 0 lo)).take (HT.sIx ts.length ts.length hi - HT.sIx ts.length 0 lo)
def opSl (lo hi : Option Int) : T → Option R
  | .lst ts => some (.frs (.lst (cutT ts lo hi)))
  | .tup ts => some (.val (.tup (cutT ts lo hi)))
  | _ => none
def ρSl (K : PySem.W.Frag) : V → Option Int → Option Int → Hp → VK → Prop := fun x lo hi H Q => rSlL K x lo hi H Q ∨ rSlA K x lo hi H Q
theorem Reps.cut {g : G} {F : Hp} {xs : List V} {ts : List T} (r : Reps g F xs ts) (lo hi : Option Int) : Reps g F (cutV xs lo hi) (cutT ts lo hi) := by
  unfold cutV cutT
  rw [r.length]
  exact (r.drop _).take _
theorem cutT_whole (ts : List T) (lo hi : Option Int) (h : HT.sIx ts.length 0 lo = 0 ∧ HT.sIx ts.length ts.length hi = ts.length) : cutT ts lo hi = ts := by
  unfold cutT
  rw [h.1, h.2, List.drop_zero, Nat.sub_zero, List.take_length]
theorem opSl_ok {g : G} {B : Bs} {s : S} {σ : L2.St} {H F : Hp} {lo hi : Option Int} {t : T} {r : R} {v : V} (h : opSl lo hi t = some r) (x : Rl g B s σ H F) (r1 : Rb g F H v t) (Q : VK)
    (q : ∀ v H' F', LeF F F' → Rl g B s σ H' F' → rE g B σ r s v H' F' → Q v H') : ρSl g.K v lo hi H Q := by
  unfold opSl at h
  split at h
  · cases h
    obtain ⟨a, xs, rfl, h3, q1⟩ := r1.lst x.sub
    exact .inl ⟨a, xs, rfl, SqL.of h3, new_lst x (q1.cut lo hi) q⟩
  · cases h
    obtain ⟨a, xs, rfl, f1, h3, q1⟩ := r1.tup x.sub
    refine .inr ⟨a, xs, rfl, h3, fun e => ?_, fun _ => new_tup x (q1.cut lo hi) q⟩
    rw [q1.length] at e
    rw [cutT_whole _ _ _ e] at q
    exact q _ H F (LeF.refl F) x (.tup f1 q1)
  · cases h
/-- a part of a slice: none, or an int -/
def SO (c : C) (e : Option Expr) (f : S → Out (Option Int)) : Prop := ∀ r W, c.Ok r → Takes (c.cx r) W → ∀ B s σ H F, Rl c.g B s σ H F → ∀ Q : Option Int → Hp → Prop,
  Po c.g B σ F W (fun i _ j _ _ => i = j) Q (f s) → ∃ t, PO (c.cx r) e t ∧ t σ H Q
def oNone : S → Out (Option Int) := fun s => .ok none s
def oInt (f : S → Out R) : S → Out (Option Int) := fun s => (f s).bind fun z s1 => match z with
  | .val (.int i) => .ok (some i) s1
  | _ => .bad
section
variable {c : C} {e : Expr} {lo hi : Option Expr} {pos p2 : Pos}
theorem SO.none : SO c none oNone := fun r W ok tk B s σ H F x Q q => ⟨_, po_none, q Option.none H F (LeF.refl F) x rfl⟩
theorem SO.int {f : S → Out R} (h : SE c e f) : SO c (some e) (oInt f) := by
  intro r W ok tk B s σ H F x Q q
  refine ⟨_, po_some pE, h r W ok tk B s σ H F x _ ?_⟩
  unfold oInt at q
  cases hf : f s with
  | ok z s1 =>
    rw [hf] at q
    dsimp only [Out.bind] at q
    split at q
    · intro v H' F' l x' e
      cases e
      exact ⟨_, rfl, q _ H' F' l x' rfl⟩
    · exact q.elim
  | exc y s1 => rw [hf] at q; exact q
  | bad => rw [hf] at q; exact q
def op1 (op : T → Option R) (o : Option T) (s : S) : Out R := match o with
  | some t => lift1 (op t) s
  | none => .bad
def fSl (f : S → Out Bv) (fl fh : S → Out (Option Int)) : S → Out R := fun s => (f s).bind fun b s1 => (fl s1).bind fun lo s2 => (fh s2).bind fun hi s3 => op1 (opSl lo hi) (b.tr s3) s3
/-- the weakest reading of a part -/
def wO (X : Cx) (e : Option Expr) : TO := fun σ H Q => ∀ pins s, Inv X pins σ H s → wpAny (model X.prog X.w) X.A (evalPart e X.env) (fun u s' => ∃ o H', Inv X pins σ H' s' ∧ IsPart u o ∧ Q o H') X.xe s
theorem pO {X : Cx} {e : Option Expr} : PO X e (wO X e) := ⟨fun pins s _ _ _ I h => h pins s I⟩
theorem PO.w {X : Cx} {e : Option Expr} {t : TO} {σ : L2.St} {H : Hp} {Q : Option Int → Hp → Prop} (h : PO X e t) (q : t σ H Q) : wO X e σ H Q := fun pins s I => h.run pins s σ H Q I q
theorem SO.w {o : Option Expr} {f : S → Out (Option Int)} (h : SO c o f) {r : Rn} {W : WX} (ok : c.Ok r) (tk : Takes (c.cx r) W) {B : Bs} {s : S} {σ : L2.St} {H F : Hp} (x : Rl c.g B s σ H F) {Q : Option Int → Hp → Prop}
    (q : Po c.g B σ F W (fun i _ j _ _ => i = j) Q (f s)) : wO (c.cx r) o σ H Q := by
  obtain ⟨t, h1, h2⟩ := h r W ok tk B s σ H F x Q q
  exact PO.w h1 h2
theorem SE.sl {f : S → Out Bv} {fl fh : S → Out (Option Int)} (h : SB c e f) (hl : SO c lo fl) (hh : SO c hi fh) : SE c (.Subscript e (.Slice lo hi none p2) pos) (fSl f fl fh) := by
  intro r W ok tk B s σ H F x Q q
  refine PE.w (pe_slice (r := ρSl c.g.K) (sl_list.or sl_tupA) pE pO pO) (h r W ok tk B s σ H F x _ ?_)
  unfold fSl at q
  cases hf : f s with
  | ok b s1 =>
    rw [hf] at q
    intro v H1 F1 l1 x1 r1
    refine hl.w ok tk x1 ?_
    have q : Po c.g B σ F W (rE c.g B σ) Q ((fl s1).bind fun lo s2 => (fh s2).bind fun hi s3 => op1 (opSl lo hi) (b.tr s3) s3) := q
    cases h2 : fl s1 with
    | ok lo s2 =>
      rw [h2] at q
      intro j H2 F2 l2 x2 ej
      subst ej
      refine hh.w ok tk x2 ?_
      have q : Po c.g B σ F W (rE c.g B σ) Q ((fh s2).bind fun hi s3 => op1 (opSl lo hi) (b.tr s3) s3) := q
      cases h3 : fh s2 with
      | ok hi s3 =>
        rw [h3] at q
        intro j H3 F3 l3 x3 ej
        subst ej
        have q : Po c.g B σ F W (rE c.g B σ) Q (op1 (opSl lo hi) (b.tr s3) s3) := q
        unfold op1 lift1 at q
        cases e1 : b.tr s3 with
        | none => rw [e1] at q; exact q.elim
        | some t =>
          rw [e1] at q
          dsimp only at q
          cases e2 : opSl lo hi t with
          | none => rw [e2] at q; exact q.elim
          | some z =>
            rw [e2] at q
            exact opSl_ok e2 x3 (x3.look (RB1.mono (l2.trans l3) r1) e1) Q fun v' H' F' l' x' r' => q v' H' F' (l1.trans (l2.trans (l3.trans l'))) x' r'
      | exc y s2 => rw [h3] at q; exact fun cls d H' F' l => q cls d H' F' (l1.trans (l2.trans l))
      | bad => rw [h3] at q; exact q
    | exc y s2 => rw [h2] at q; exact fun cls d H' F' l => q cls d H' F' (l1.trans l)
    | bad => rw [h2] at q; exact q
  | exc y s1 => rw [hf] at q; exact q
  | bad => rw [hf] at q; exact q
end

/-! ### calls of built-ins -/
def OpN (g : G) (ρ : List V → Hp → VK → Prop) (op : List T → Option R) : Prop := ∀ ts r, op ts = some r → ∀ B s σ H F vs, Rl g B s σ H F → Paired (Rb g F H) vs ts →
  ∀ Q : VK, (∀ v H' F', LeF F F' → Rl g B s σ H' F' → rE g B σ r s v H' F' → Q v H') → ρ vs H Q
def trs (s : S) : List Bv → Option (List T)
  | [] => some []
  | b :: bs => match b.tr s, trs s bs with
    | some t, some ts => some (t :: ts)
    | _, _ => none
def opN (op : List T → Option R) (o : Option (List T)) (s : S) : Out R := match o with
  | some ts => lift1 (op ts) s
  | none => .bad
def fCall (op : List T → Option R) (f : S → Out (List Bv)) : S → Out R := fun s => (f s).bind fun bs s1 => opN op (trs s1 bs) s1
theorem Rl.looks {g : G} {B : Bs} {s : S} {σ : L2.St} {H F : Hp} (x : Rl g B s σ H F) : ∀ {bs : List Bv} {vs : List V} {ts : List T}, RBs g σ F vs bs → trs s bs = some ts → Paired (Rb g F H) vs ts
  | [], _, _, .nil, e => by cases e; exact .nil
  | b :: bs, _, _, .cons r rs, e => by
    unfold trs at e
    split at e
    · rename_i t us h1 h2
      cases e
      exact .cons (x.look r h1) (Rl.looks x rs h2)
    · cases e
section
variable {c : C} {e : Expr} {es : List Expr} {p pos : Pos} {op : List T → Option R} {f : S → Out (List Bv)}
theorem call_core {ρ : List V → Hp → VK → Prop} (ho : OpN c.g ρ op) (h : SAb c es f) {r : Rn} {W : WX} (ok : c.Ok r) (tk : Takes (c.cx r) W) {B : Bs} {s : S} {σ : L2.St} {H F : Hp} (x : Rl c.g B s σ H F) {Q : VK}
    (q : Po c.g B σ F W (rE c.g B σ) Q (fCall op f s)) : tCB ρ (wA (c.cx r) es) σ H Q := by
  refine h r W ok tk B s σ H F x _ ?_
  unfold fCall at q
  cases hf : f s with
  | ok bs s1 =>
    rw [hf] at q
    intro vs H1 F1 l1 x1 r1
    have q : Po c.g B σ F W (rE c.g B σ) Q (opN op (trs s1 bs) s1) := q
    unfold opN lift1 at q
    cases e1 : trs s1 bs with
    | none => rw [e1] at q; exact q.elim
    | some ts =>
      rw [e1] at q
      dsimp only at q
      cases e2 : op ts with
      | none => rw [e2] at q; exact q.elim
      | some z =>
        rw [e2] at q
        exact ho ts z e2 B s1 σ H1 F1 vs x1 (x1.looks r1 e1) Q fun v H' F' l x' rr => q v H' F' (l1.trans l) x' rr
  | exc y s1 => rw [hf] at q; exact q
  | bad => rw [hf] at q; exact q
/-- the name of a built-in: no name of the def's own, none of the module's -/
structure Blt (c : C) (x : Str) (u : Value) : Prop where
  gl : c.sc.names.lookup x = some .globalImplicit
  mg : c.g.mg x = none
  bt : bootBuiltins x = some u
  n1 : x ≠ "__name__"
  n2 : (x == ("__debug__" : Str)) = false
theorem Blt.isGl {x : Str} {u : Value} (b : Blt c x u) {r : Rn} (ok : c.Ok r) : Gl (c.cx r) x := by show r.env.scope.names.lookup x = _; rw [ok.sc]; exact b.gl
theorem SE.callB {x : Str} {id : String} {ρ : List V → Hp → VK → Prop} (b : Blt c x (.builtin id)) (hc : ∀ r, c.Ok r → CallR (c.cx r) (.builtin id) ρ) (ho : OpN c.g ρ op) (h : SAb c (e :: es) f)
    (he : NoStar e := by intro _ _; rfl) (hpl : ∀ env, (backTo pos (starEach es env)).any (·.1) = false := by intro _; rfl) : SE c (.Call (.Name x p) (e :: es) [] pos) (fCall op f) :=
  fun r W ok tk B s σ H F hx Q q => PE.w (pe_callB (hc r ok) (b.isGl ok) b.mg b.bt pA b.n1 b.n2 (he _ _) (hpl _)) (call_core ho h ok tk hx q)
theorem SE.callTy {x : Str} {id : String} {ρ : List V → Hp → VK → Prop} (b : Blt c x (.type id)) (hc : ∀ r, c.Ok r → CallR (c.cx r) (.type id) ρ) (ho : OpN c.g ρ op) (h : SAb c (e :: es) f)
    (he : NoStar e := by intro _ _; rfl) (hpl : ∀ env, (backTo pos (starEach es env)).any (·.1) = false := by intro _; rfl) : SE c (.Call (.Name x p) (e :: es) [] pos) (fCall op f) :=
  fun r W ok tk B s σ H F hx Q q => PE.w (pe_callTy (hc r ok) (b.isGl ok) b.mg b.bt pA b.n1 b.n2 (he _ _) (hpl _)) (call_core ho h ok tk hx q)
end
/-! len, list, tuple, abs, int, max, min of two -/
def opLen : List T → Option R
  | [.lst ts] => some (.val (.int ts.length))
  | [.tup ts] => some (.val (.int ts.length))
  | [.scr ts] => some (.val (.int ts.length))
  | _ => none
section
variable {g : G}
theorem f2_1 {α β : Type} {P : α → β → Prop} {vs : List α} {t : β} (h : Paired P vs [t]) : ∃ v, vs = [v] ∧ P v t := by
  cases h with
  | cons h h' => cases h'; exact ⟨_, rfl, h⟩
theorem f2_2 {α β : Type} {P : α → β → Prop} {vs : List α} {t u : β} (h : Paired P vs [t, u]) : ∃ v w, vs = [v, w] ∧ P v t ∧ P w u := by
  cases h with
  | cons h h' =>
    obtain ⟨w, rfl, h2⟩ := f2_1 h'
    exact ⟨_, _, rfl, h, h2⟩
theorem OpN.len : OpN g (fun xs H Q => ∃ p ys, xs = [.ref p] ∧ (SqL g.K H p ys ∨ SqT g.K H p ys) ∧ Q (.int ys.length) H) opLen := by
  intro ts r h B s σ H F vs x rs Q q
  unfold opLen at h
  split at h
  · cases h
    obtain ⟨v, rfl, r1⟩ := f2_1 rs
    obtain ⟨a, xs, rfl, h3, q1⟩ := r1.lst x.sub
    exact ⟨a, xs, rfl, .inl (SqL.of h3), by rw [q1.length]; exact q _ H F (LeF.refl F) x (.int _)⟩
  · cases h
    obtain ⟨v, rfl, r1⟩ := f2_1 rs
    obtain ⟨a, xs, rfl, f1, h3, q1⟩ := r1.tup x.sub
    exact ⟨a, xs, rfl, .inr h3, by rw [q1.length]; exact q _ H F (LeF.refl F) x (.int _)⟩
  · cases h
    obtain ⟨v, rfl, r1⟩ := f2_1 rs
    cases r1 with
    | fr r1 =>
      cases r1 with
      | scr h3 => exact ⟨_, _, rfl, .inl (x.sqL h3), by rw [List.length_map]; exact q _ H F (LeF.refl F) x (.int _)⟩
    | ow r1 => cases r1
  · cases h
def opList : List T → Option R
  | [.lst ts] => some (.frs (.lst ts))
  | [.tup ts] => some (.frs (.lst ts))
  | _ => none
theorem OpN.list : OpN g (fun xs H Q => ∃ p ys, xs = [.ref p] ∧ (SqL g.K H p ys ∨ SqT g.K H p ys) ∧ ∀ l, H l = none → Q (.ref l) (upd H l (.lst ys))) opList := by
  intro ts r h B s σ H F vs x rs Q q
  unfold opList at h
  split at h
  · cases h
    obtain ⟨v, rfl, r1⟩ := f2_1 rs
    obtain ⟨a, xs, rfl, h3, q1⟩ := r1.lst x.sub
    exact ⟨a, xs, rfl, .inl (SqL.of h3), new_lst x q1 q⟩
  · cases h
    obtain ⟨v, rfl, r1⟩ := f2_1 rs
    obtain ⟨a, xs, rfl, f1, h3, q1⟩ := r1.tup x.sub
    exact ⟨a, xs, rfl, .inr h3, new_lst x q1 q⟩
  · cases h
def opTuple : List T → Option R
  | [.lst ts] => some (.val (.tup ts))
  | [.tup ts] => some (.val (.tup ts))
  | _ => none
theorem OpN.tuple : OpN g (fun xs H Q => ∃ p ys, xs = [.ref p] ∧ ((SqL g.K H p ys ∧ ∀ l, H l = none → Q (.ref l) (upd H l (.tup ys))) ∨ (SqT g.K H p ys ∧ Q (.ref p) H))) opTuple := by
  intro ts r h B s σ H F vs x rs Q q
  unfold opTuple at h
  split at h
  · cases h
    obtain ⟨v, rfl, r1⟩ := f2_1 rs
    obtain ⟨a, xs, rfl, h3, q1⟩ := r1.lst x.sub
    exact ⟨a, xs, rfl, .inl ⟨SqL.of h3, new_tup x q1 q⟩⟩
  · cases h
    obtain ⟨v, rfl, r1⟩ := f2_1 rs
    obtain ⟨a, xs, rfl, f1, h3, q1⟩ := r1.tup x.sub
    exact ⟨a, xs, rfl, .inr ⟨h3, q _ H F (LeF.refl F) x (.tup f1 q1)⟩⟩
  · cases h
def opInt : List T → Option R
  | [.int i] => some (.val (.int i))
  | [.bl b] => some (.val (.int (if b then 1 else 0)))
  | _ => none
theorem OpN.int : OpN g (fun xs H Q => (∃ i, xs = [.int i] ∧ Q (.int i) H) ∨ ∃ k, xs = [.bl k] ∧ Q (.int (if k then 1 else 0)) H) opInt := by
  intro ts r h B s σ H F vs x rs Q q
  unfold opInt at h
  split at h
  · cases h
    obtain ⟨v, rfl, r1⟩ := f2_1 rs
    exact .inl ⟨_, by rw [r1.int], q _ H F (LeF.refl F) x (.int _)⟩
  · cases h
    obtain ⟨v, rfl, r1⟩ := f2_1 rs
    exact .inr ⟨_, by rw [r1.bl], q _ H F (LeF.refl F) x (.int _)⟩
  · cases h
def opAbs : List T → Option R
  | [.int i] => some (.val (.int (if i < 0 then -i else i)))
  | _ => none
theorem OpN.abs : OpN g (fun xs H Q => ∃ i, xs = [.int i] ∧ Q (.int (if i < 0 then -i else i)) H) opAbs := by
  intro ts r h B s σ H F vs x rs Q q
  unfold opAbs at h
  split at h
  · cases h
    obtain ⟨v, rfl, r1⟩ := f2_1 rs
    exact ⟨_, by rw [r1.int], q _ H F (LeF.refl F) x (.int _)⟩
  · cases h
/-- lists of ints -/
def intsOf : List T → Option (List Int)
  | [] => some []
  | .int i :: ts => (intsOf ts).map (i :: ·)
  | _ => none
theorem Reps.intsOf {F : Hp} : ∀ {vs : List V} {ts : List T} {ns : List Int}, Reps g F vs ts → Tv.intsOf ts = some ns → vs = ns.map V.int
  | _, _, ns, .nil, e => by cases e; rfl
  | _, _, ns, .cons (t := t) r rs, e => by
    cases r with
    | int i =>
      obtain ⟨ms, h1, h2⟩ := Option.map_eq_some_iff.mp (show (Tv.intsOf _).map (i :: ·) = some ns from e)
      subst h2
      rw [Reps.intsOf rs h1]; rfl
    | _ => cases e
def maxL : List Int → Int
  | [] => 0
  | [i] => i
  | i :: r => let m := maxL r; if i < m then m else i
def minL : List Int → Int
  | [] => 0
  | [i] => i
  | i :: r => let m := minL r; if m < i then m else i
theorem maxL_spec : ∀ ns : List Int, ns ≠ [] → maxL ns ∈ ns ∧ ∀ y ∈ ns, y ≤ maxL ns
  | [], h => absurd rfl h
  | [i], _ => ⟨by simp [maxL], by simp [maxL]⟩
  | i :: j :: r, _ => by
    obtain ⟨h1, h2⟩ := maxL_spec (j :: r) (by simp)
    unfold maxL
    dsimp only
    split
    · rename_i hl
      refine ⟨List.mem_cons_of_mem _ h1, fun y hy => ?_⟩
      rcases List.mem_cons.mp hy with rfl | hy
      · omega
      · exact h2 y hy
    · rename_i hl
      refine ⟨List.mem_cons_self, fun y hy => ?_⟩
      rcases List.mem_cons.mp hy with rfl | hy
      · omega
      · have := h2 y hy; omega
theorem minL_spec : ∀ ns : List Int, ns ≠ [] → minL ns ∈ ns ∧ ∀ y ∈ ns, minL ns ≤ y
  | [], h => absurd rfl h
  | [i], _ => ⟨by simp [minL], by simp [minL]⟩
  | i :: j :: r, _ => by
    obtain ⟨h1, h2⟩ := minL_spec (j :: r) (by simp)
    unfold minL
    dsimp only
    split
    · rename_i hl
      refine ⟨List.mem_cons_of_mem _ h1, fun y hy => ?_⟩
      rcases List.mem_cons.mp hy with rfl | hy
      · omega
      · exact h2 y hy
    · rename_i hl
      refine ⟨List.mem_cons_self, fun y hy => ?_⟩
      rcases List.mem_cons.mp hy with rfl | hy
      · omega
      · have := h2 y hy; omega
def opMax : List T → Option R
  | [.int i, .int j] => some (.val (.int (if j > i then j else i)))
  | [.lst ts] => match intsOf ts with
    | some (i :: r) => some (.val (.int (maxL (i :: r))))
    | _ => none
  | _ => none
def opMin : List T → Option R
  | [.int i, .int j] => some (.val (.int (if j < i then j else i)))
  | [.lst ts] => match intsOf ts with
    | some (i :: r) => some (.val (.int (minL (i :: r))))
    | _ => none
  | _ => none
def opSum : List T → Option R
  | [.lst ts] => match intsOf ts with
    | some ns => some (.val (.int ns.sum))
    | _ => none
  | _ => none
def ρMax (K : PySem.W.Frag) : List V → Hp → VK → Prop := fun xs H Q => (∃ i j, xs = [.int i, .int j] ∧ Q (.int (if j > i then j else i)) H) ∨ rMax K xs H Q
def ρMin (K : PySem.W.Frag) : List V → Hp → VK → Prop := fun xs H Q => (∃ i j, xs = [.int i, .int j] ∧ Q (.int (if j < i then j else i)) H) ∨ rMin K xs H Q
theorem CallR.or {X : Cx} {f : Value} {a b : List V → Hp → VK → Prop} (h : CallR X f a) (k : CallR X f b) : CallR X f (fun xs H Q => a xs H Q ∨ b xs H Q) := by
  intro pins s σ H vs us Q I r q
  rcases q with q | q
  · exact h pins s σ H vs us Q I r q
  · exact k pins s σ H vs us Q I r q
theorem OpN.max : OpN g (ρMax g.K) opMax := by
  intro ts r h B s σ H F vs x rs Q q
  unfold opMax at h
  split at h
  · cases h
    obtain ⟨v, w, rfl, r1, r2⟩ := f2_2 rs
    exact .inl ⟨_, _, by rw [r1.int, r2.int], q _ H F (LeF.refl F) x (.int _)⟩
  · split at h
    · rename_i i ms hi
      cases h
      obtain ⟨v, rfl, r1⟩ := f2_1 rs
      obtain ⟨a, xs, rfl, h3, q1⟩ := r1.lst x.sub
      have e := q1.intsOf hi
      subst e
      refine .inr ⟨a, _, rfl, SqL.of h3, by simp, fun m h1 h2 => ?_⟩
      obtain ⟨k1, k2⟩ := maxL_spec (i :: ms) (by simp)
      have e : m = maxL (i :: ms) := by have := h2 _ k1; have := k2 _ h1; omega
      rw [e]
      exact q _ H F (LeF.refl F) x (.int _)
    · cases h
  · cases h
theorem OpN.min : OpN g (ρMin g.K) opMin := by
  intro ts r h B s σ H F vs x rs Q q
  unfold opMin at h
  split at h
  · cases h
    obtain ⟨v, w, rfl, r1, r2⟩ := f2_2 rs
    exact .inl ⟨_, _, by rw [r1.int, r2.int], q _ H F (LeF.refl F) x (.int _)⟩
  · split at h
    · rename_i i ms hi
      cases h
      obtain ⟨v, rfl, r1⟩ := f2_1 rs
      obtain ⟨a, xs, rfl, h3, q1⟩ := r1.lst x.sub
      have e := q1.intsOf hi
      subst e
      refine .inr ⟨a, _, rfl, SqL.of h3, by simp, fun m h1 h2 => ?_⟩
      obtain ⟨k1, k2⟩ := minL_spec (i :: ms) (by simp)
      have e : m = minL (i :: ms) := by have := h2 _ k1; have := k2 _ h1; omega
      rw [e]
      exact q _ H F (LeF.refl F) x (.int _)
    · cases h
  · cases h
theorem OpN.sum : OpN g (rSum g.K) opSum := by
  intro ts r h B s σ H F vs x rs Q q
  unfold opSum at h
  split at h
  · split at h
    · rename_i ns hi
      cases h
      obtain ⟨v, rfl, r1⟩ := f2_1 rs
      obtain ⟨a, xs, rfl, h3, q1⟩ := r1.lst x.sub
      have e := q1.intsOf hi
      subst e
      exact ⟨a, _, rfl, SqL.of h3, q _ H F (LeF.refl F) x (.int _)⟩
    · cases h
  · cases h
/-- lists of truth values -/
def bls : List T → Option (List Bool)
  | [] => some []
  | .bl i :: ts => (bls ts).map (i :: ·)
  | _ => none
theorem Reps.bls {F : Hp} : ∀ {vs : List V} {ts : List T} {ns : List Bool}, Reps g F vs ts → Tv.bls ts = some ns → vs = ns.map V.bl
  | _, _, ns, .nil, e => by cases e; rfl
  | _, _, ns, .cons (t := t) r rs, e => by
    cases r with
    | bl i =>
      obtain ⟨ms, h1, h2⟩ := Option.map_eq_some_iff.mp (show (Tv.bls _).map (i :: ·) = some ns from e)
      subst h2
      rw [Reps.bls rs h1]; rfl
    | _ => cases e
def opAny : List T → Option R
  | [.lst ts] => (bls ts).map fun bs => .val (.bl (bs.any id))
  | _ => none
def opAll : List T → Option R
  | [.lst ts] => (bls ts).map fun bs => .val (.bl (bs.all id))
  | _ => none
theorem OpN.any : OpN g (rAny g.K) opAny := by
  intro ts r h B s σ H F vs x rs Q q
  unfold opAny at h
  split at h
  · obtain ⟨bs, h1, h2⟩ := Option.map_eq_some_iff.mp h
    subst h2
    obtain ⟨v, rfl, r1⟩ := f2_1 rs
    obtain ⟨a, xs, rfl, h3, q1⟩ := r1.lst x.sub
    have e := q1.bls h1
    subst e
    exact ⟨a, _, rfl, SqL.of h3, q _ H F (LeF.refl F) x (.bl _)⟩
  · cases h
theorem OpN.all : OpN g (rAll g.K) opAll := by
  intro ts r h B s σ H F vs x rs Q q
  unfold opAll at h
  split at h
  · obtain ⟨bs, h1, h2⟩ := Option.map_eq_some_iff.mp h
    subst h2
    obtain ⟨v, rfl, r1⟩ := f2_1 rs
    obtain ⟨a, xs, rfl, h3, q1⟩ := r1.lst x.sub
    have e := q1.bls h1
    subst e
    exact ⟨a, _, rfl, SqL.of h3, q _ H F (LeF.refl F) x (.bl _)⟩
  · cases h
end

/-! ### isinstance -/
inductive Ty where
  | int | bool | str | list | tuple | dict
def Ty.name : Ty → String
  | .int => "int" | .bool => "bool" | .str => "str" | .list => "list" | .tuple => "tuple" | .dict => "dict"
def T.isi : T → Ty → Option Bool
  | .non, _ => some false
  | .bl _, .int => some true
  | .bl _, .bool => some true
  | .bl _, _ => some false
  | .int _, .int => some true
  | .int _, _ => some false
  | .str _, .str => some true
  | .str _, _ => some false
  | .lst _, .list => some true
  | .lst _, _ => some false
  | .tup _, .tuple => some true
  | .tup _, _ => some false
  | _, _ => none
def T.ty : T → String
  | .non => "NoneType" | .bl _ => "bool" | .int _ => "int" | .str _ => "str" | .lst _ => "list" | .tup _ => "tuple" | _ => ""
theorem isi_kit (t : T) (y : Ty) (b : Bool) (h : t.isi y = some b) : kitB t.ty y.name = some b := by
  cases t <;> cases y <;> first | (cases h; done) | (cases h; simp only [T.ty, Ty.name]; decide +kernel)
theorem Rb.ty {g : G} {F H : Hp} {v : V} {t : T} {y : Ty} {b : Bool} (r : Rb g F H v t) (le : LeF F H) (h : t.isi y = some b) : TyX g.K H v (.type t.ty) := by
  cases t with
  | non => rw [r.non]; exact .base .non
  | bl b => rw [r.bl]; exact .base (.bl _)
  | int i => rw [r.int]; exact .base (.int _)
  | str x => rw [r.str]; exact .base (.str _)
  | lst ts =>
    obtain ⟨a, xs, rfl, h1, _⟩ := r.lst le
    exact .base (.lst h1)
  | tup ts =>
    obtain ⟨a, xs, rfl, f1, h1, _⟩ := r.tup le
    rcases h1 with (h1 | ⟨o, h1⟩) | ⟨o, its, n, h1, h2, _⟩
    · exact .base (.tup h1)
    · exact .fTuple h1
    · exact .kTuple h1 h2
  | dct _ => cases y <;> cases h
  | set _ => cases y <;> cases h
  | obj _ _ => cases y <;> cases h
  | drw => cases y <;> cases h
  | scr => cases y <;> cases h
def fIsi (f : S → Out Bv) (y : Ty) : S → Out R := fun s => (f s).bind fun b s1 => op1 (fun t => (t.isi y).map fun z => .val (.bl z)) (b.tr s1) s1
def isi2 (t : T) (y z : Ty) : Option Bool := match t.isi y with
  | some true => some true
  | some false => (match t.isi z with
    | some b => some b
    | none => none)
  | none => none
def fIsi2 (f : S → Out Bv) (y z : Ty) : S → Out R := fun s => (f s).bind fun b s1 => op1 (fun t => (isi2 t y z).map fun z => .val (.bl z)) (b.tr s1) s1
section
variable {c : C} {e : Expr} {f : S → Out Bv} {p p2 p3 p4 pos : Pos}
theorem SE.isi {x : Str} (y : Ty) (hi : Blt c "isinstance" (.builtin "isinstance")) (hy : Blt c x (.type y.name)) (h : SB c e f) (he : NoStar e := by intro _ _; rfl) : SE c (.Call (.Name "isinstance" p) [e, .Name x p2] [] pos) (fIsi f y) := by
  intro r W ok tk B s σ H F hx Q q
  refine PE.w (pe_callB call_isi (hi.isGl ok) hi.mg hi.bt (pa_cons pE (pa_cons (pe_bltn (v := .ty y.name) (hy.isGl ok) hy.mg hy.bt rfl hy.n1 hy.n2) pa_nil) (he _ _)) hi.n1 hi.n2 (he _ _)) (h r W ok tk B s σ H F hx _ ?_)
  unfold fIsi at q
  cases hf : f s with
  | ok b s1 =>
    rw [hf] at q
    intro v H1 F1 l1 x1 r1
    have q : Po c.g B σ F W (rE c.g B σ) Q (op1 (fun t => (t.isi y).map fun z => .val (.bl z)) (b.tr s1) s1) := q
    unfold op1 lift1 at q
    cases e1 : b.tr s1 with
    | none => rw [e1] at q; exact q.elim
    | some t =>
      rw [e1] at q
      dsimp only at q
      cases e2 : t.isi y with
      | none => rw [e2] at q; exact q.elim
      | some z =>
        rw [e2] at q
        exact ⟨v, .ty y.name, _, _, z, rfl, .ty _, (x1.look r1 e1).ty x1.sub e2, kit_ty (isi_kit t y z e2), q _ H1 F1 l1 x1 (.bl z)⟩
  | exc y s1 => rw [hf] at q; exact q
  | bad => rw [hf] at q; exact q
theorem kitAny2 {K : PySem.W.Frag} {t : T} {y z : Ty} {b : Bool} (h : isi2 t y z = some b) : PySem.W.kitAny K (.type t.ty) [.type y.name, .type z.name] = some b := by
  unfold isi2 at h
  split at h
  · rename_i e
    cases h
    unfold PySem.W.kitAny
    rw [kit_ty (isi_kit t y true e)]
  · rename_i e
    split at h
    · rename_i b' e'
      cases h
      unfold PySem.W.kitAny
      rw [kit_ty (isi_kit t y false e)]
      dsimp only
      unfold PySem.W.kitAny
      rw [kit_ty (isi_kit t z b e')]
      cases b <;> rfl
    · cases h
  · cases h
theorem SE.isi2 {x x' : Str} {k : Nat} (y z : Ty) (hi : Blt c "isinstance" (.builtin "isinstance")) (hy : Blt c x (.type y.name)) (hz : Blt c x' (.type z.name)) (h : SB c e f) (he : NoStar e := by intro _ _; rfl) :
    SE c (.Call (.Name "isinstance" p) [e, .Tuple [.Name x p2, .Name x' p3] k p4] [] pos) (fIsi2 f y z) := by
  intro r W ok tk B s σ H F hx Q q
  refine PE.w (pe_callB call_isiT (hi.isGl ok) hi.mg hi.bt (pa_cons pE (pa_cons (pe_tup (pa_cons (pe_bltn (v := .ty y.name) (hy.isGl ok) hy.mg hy.bt rfl hy.n1 hy.n2) (pa_cons (pe_bltn (v := .ty z.name) (hz.isGl ok) hz.mg hz.bt rfl hz.n1 hz.n2) pa_nil))) pa_nil) (he _ _)) hi.n1 hi.n2 (he _ _)) (h r W ok tk B s σ H F hx _ ?_)
  unfold fIsi2 at q
  cases hf : f s with
  | ok b s1 =>
    rw [hf] at q
    intro v H1 F1 l1 x1 r1
    have q : Po c.g B σ F W (rE c.g B σ) Q (op1 (fun t => (Tv.isi2 t y z).map fun z => .val (.bl z)) (b.tr s1) s1) := q
    unfold op1 lift1 at q
    cases e1 : b.tr s1 with
    | none => rw [e1] at q; exact q.elim
    | some t =>
      rw [e1] at q
      dsimp only at q
      cases e2 : Tv.isi2 t y z with
      | none => rw [e2] at q; exact q.elim
      | some w =>
        rw [e2] at q
        refine ⟨szl (by show 2 ≤ 16777216; omega), fun pt hpt => ?_⟩
        have x2 := x1.allocF (o := .tup [.ty y.name, .ty z.name]) hpt (fun _ z => nomatch z)
        have l2 := x1.leF (o := .tup [.ty y.name, .ty z.name]) hpt
        have r2 := x2.look (RB1.mono l2 r1) e1
        obtain ⟨w', hw⟩ : ∃ w', t.isi y = some w' := by
          unfold Tv.isi2 at e2
          split at e2
          · rename_i e; exact ⟨_, e⟩
          · rename_i e; exact ⟨_, e⟩
          · cases e2
        exact ⟨v, pt, _, _, _, w, rfl, upd_same, .cons (.ty _) (.cons (.ty _) .nil), r2.ty x2.sub hw, kitAny2 e2, q _ _ _ (l1.trans l2) x2 (.bl w)⟩
  | exc y s1 => rw [hf] at q; exact q
  | bad => rw [hf] at q; exact q
end
end Tv
namespace Tv
open PySem PySem.Spec PyProof.Rows L2

/-! ### statements -/
inductive Fl where
  | nx | rt (t : T) (fr : Bool) | bk | ct
def rR (g : G) (B : Bs) (t : T) (fr : Bool) (v : V) (H F : Hp) : Prop := match fr with
  | false => Rep g F v t
  | true => ∃ a xs, v = .ref a ∧ F a = none ∧ B.H a = none ∧ Ne3 g a ∧ H a = some (.lst xs) ∧ ∃ us, t = .lst us ∧ Reps g F xs us
def PoS (g : G) (B : Bs) (F : Hp) (W : WX) (D : Ends) : Out Fl → Prop
  | .ok .nx s => ∀ σ' H' F', LeF F F' → Rl g B s σ' H' F' → D.nx σ' H'
  | .ok .bk s => ∀ σ' H' F', LeF F F' → Rl g B s σ' H' F' → D.bk σ' H'
  | .ok .ct s => ∀ σ' H' F', LeF F F' → Rl g B s σ' H' F' → D.ct σ' H'
  | .ok (.rt t fr) s => ∀ v σ' H' F', LeF F F' → Rl g B s σ' H' F' → rR g B t fr v H' F' → D.rt v H'
  | .exc x s => ∀ cls d σ' H' F', LeF F F' → Rl g B s σ' H' F' → XRep g x cls d H' F' → W cls d σ' H'
  | .bad => False
theorem PoS.le {g : G} {B : Bs} {F F1 : Hp} {W : WX} {D : Ends} {o : Out Fl} (h : PoS g B F W D o) (e : LeF F F1) : PoS g B F1 W D o := by
  cases o with
  | ok a s =>
    cases a with
    | nx => exact fun σ' H' F' l => h σ' H' F' (e.trans l)
    | bk => exact fun σ' H' F' l => h σ' H' F' (e.trans l)
    | ct => exact fun σ' H' F' l => h σ' H' F' (e.trans l)
    | rt t fr => exact fun v σ' H' F' l => h v σ' H' F' (e.trans l)
  | exc x s => exact fun cls d σ' H' F' l => h cls d σ' H' F' (e.trans l)
  | bad => exact h
def SS (c : C) (st : Stmt) (f : S → Out Fl) : Prop := ∀ r W, c.Ok r → Takes (c.cx r) W → ∀ B s σ H F, Rl c.g B s σ H F → ∀ D, PoS c.g B F W D (f s) → wS (c.cx r) st D σ H
def SSs (c : C) (sts : List Stmt) (f : S → Out Fl) : Prop := ∀ r W, c.Ok r → Takes (c.cx r) W → ∀ B s σ H F, Rl c.g B s σ H F → ∀ D, PoS c.g B F W D (f s) → wSs (c.cx r) sts D σ H

def fNil : S → Out Fl := fun s => .ok .nx s
def fSeq (f k : S → Out Fl) : S → Out Fl := fun s => (f s).bind fun a s1 => match a with
  | .nx => k s1
  | a => .ok a s1
def fBrk : S → Out Fl := fun s => .ok .bk s
def fCnt : S → Out Fl := fun s => .ok .ct s
def fIf (t : S → Out Bool) (f k : S → Out Fl) : S → Out Fl := fun s => (t s).bind fun b s1 => if b = true then f s1 else k s1
def fRet (f : S → Out R) : S → Out Fl := fun s => (f s).bind fun z s1 => match z with
  | .val t => .ok (.rt t false) s1
  | .frs t => .ok (.rt t true) s1
  | .bor i => match s1.env[i]? with
    | some (.ow (.lst ts)) => .ok (.rt (.lst ts) true) s1
    | some (.sh t) => .ok (.rt t false) s1
    | _ => .bad
def fRetN : S → Out Fl := fun s => .ok (.rt .non false) s
def fDrop (f : S → Out R) : S → Out Fl := fun s => (f s).bind fun _ s1 => .ok .nx s1
section
variable {c : C} {st : Stmt} {sts : List Stmt} {e : Expr} {pos : Pos} {f k : S → Out Fl}
theorem SSs.nil : SSs c [] fNil := fun r W ok tk B s σ H F x D q => PSs.w pss_nil (q σ H F (LeF.refl F) x)
theorem SSs.cons (h1 : SS c st f) (h2 : SSs c sts k) : SSs c (st :: sts) (fSeq f k) := by
  intro r W ok tk B s σ H F x D q
  refine PSs.w (pss_cons pS pSs) (h1 r W ok tk B s σ H F x _ ?_)
  unfold fSeq at q
  cases hf : f s with
  | ok a s1 =>
    rw [hf] at q
    cases a with
    | nx => exact fun σ' H' F' l x' => h2 r W ok tk B s1 σ' H' F' x' D (PoS.le q l)
    | bk => exact q
    | ct => exact q
    | rt t fr => exact q
  | exc y s1 => rw [hf] at q; exact q
  | bad => rw [hf] at q; exact q
theorem SSs.one (h : SS c st f) : SSs c [st] f := fun r W ok tk B s σ H F x D q => PSs.w (pss_one pS) (h r W ok tk B s σ H F x D q)
theorem SS.pass : SS c (.Pass pos) fNil := fun r W ok tk B s σ H F x D q => PS.w ps_pass (q σ H F (LeF.refl F) x)
theorem SS.brk : SS c (.Break pos) fBrk := fun r W ok tk B s σ H F x D q => PS.w ps_break (q σ H F (LeF.refl F) x)
theorem SS.cnt : SS c (.Continue pos) fCnt := fun r W ok tk B s σ H F x D q => PS.w ps_continue (q σ H F (LeF.refl F) x)
theorem SS.ifS {t : Expr} {a b : List Stmt} {ft : S → Out Bool} (h0 : STs c t ft) (h1 : SSs c a f) (h2 : SSs c b k) : SS c (.If t a b pos) (fIf ft f k) := by
  intro r W ok tk B s σ H F x D q
  refine PS.w (ps_if pT pSs pSs) (h0 r W ok tk B s σ H F x _ ?_)
  unfold fIf at q
  cases hf : ft s with
  | ok z s1 =>
    rw [hf] at q
    have q : PoS c.g B F W D (if z = true then f s1 else k s1) := q
    intro v H' F' l x' e
    subst e
    cases v with
    | true => exact h1 r W ok tk B s1 σ H' F' x' D (PoS.le q l)
    | false => exact h2 r W ok tk B s1 σ H' F' x' D (PoS.le q l)
  | exc y s1 => rw [hf] at q; exact fun cls d H' F' l x' => q cls d σ H' F' l x'
  | bad => rw [hf] at q; exact q
theorem SS.ret {f : S → Out R} (h : SE c e f) : SS c (.Return (some e) pos) (fRet f) := by
  intro r W ok tk B s σ H F x D q
  refine PS.w (ps_ret pE) (h r W ok tk B s σ H F x _ ?_)
  unfold fRet at q
  cases hf : f s with
  | ok z s1 =>
    rw [hf] at q
    intro v H' F' l x' hr
    cases z with
    | val t => exact q v σ H' F' l x' hr
    | frs t =>
      obtain ⟨a, xs, rfl, fr, ha, us, rfl, rs⟩ := hr
      exact q (.ref a) σ H' F' l x' ⟨a, xs, rfl, fr.f, fr.b, fr.n, ha, us, rfl, rs⟩
    | bor i =>
      obtain ⟨e1, t, e2⟩ := hr
      dsimp only [Out.bind] at q
      rw [e2] at q
      have z := x'.slot i
      rw [e2] at z
      obtain ⟨a, h1, h2, h3, h4, h5⟩ := z
      rw [e1] at h1
      cases h1
      cases h5 with
      | lst h r => exact q (.ref a) σ H' F' l x' ⟨a, _, rfl, h2, h3, h4, h, _, rfl, r⟩
      | ins _ _ _ _ _ => exact q.elim
  | exc y s1 => rw [hf] at q; exact fun cls d H' F' l x' => q cls d σ H' F' l x'
  | bad => rw [hf] at q; exact q
theorem SS.retN : SS c (.Return none pos) fRetN := fun r W ok tk B s σ H F x D q => PS.w ps_retN (q .non σ H F (LeF.refl F) x .non)
theorem SS.expr {f : S → Out R} (h : SE c e f) (hs : ∀ n env, swapsWith e none n env = pure false := by intro _ _; rfl) : SS c (.Expr e pos) (fDrop f) := by
  intro r W ok tk B s σ H F x D q
  refine PS.w (ps_expr pE (hs _ _)) (h r W ok tk B s σ H F x _ ?_)
  unfold fDrop at q
  cases hf : f s with
  | ok z s1 => rw [hf] at q; exact fun v H' F' l x' hr => q σ H' F' l x'
  | exc y s1 => rw [hf] at q; exact fun cls d H' F' l x' => q cls d σ H' F' l x'
  | bad => rw [hf] at q; exact q
end

/-! ### slots stored -/
section
variable {g : G} {B : Bs} {s : S} {σ : L2.St} {H F : Hp} {a : Addr} {i : Nat} {v : V} {t : T}
theorem Rl.setSh (x : Rl g B s σ H F) (hi : i < σ.length) (r : Rep g F v t) : Rl g B { s with env := s.env.set i (.sh t) } (σ.set i (some v)) H F := by
  refine ⟨x.sub, x.new, x.old, x.keep, fun j => ?_, fun j k u w b h1 h2 h3 h4 => ?_, x.dr, x.bd, fun j c fs h => by
    obtain ⟨n, h⟩ := set_obj (fun _ _ z => by cases z) h
    rw [List.getElem?_set_ne n]
    exact x.mkd j c fs h⟩
  · show SlOk g B H F ((σ.set i (some v))[j]?) ((s.env.set i (.sh t))[j]?)
    by_cases hj : i = j
    · subst hj
      rw [List.getElem?_set_self hi]
      by_cases he : i < s.env.length
      · rw [List.getElem?_set_self he]; exact ⟨v, rfl, r⟩
      · rw [List.getElem?_eq_none (by rw [List.length_set]; omega)]; trivial
    · rw [List.getElem?_set_ne hj, List.getElem?_set_ne hj]; exact x.slot j
  · have h1 : (s.env.set i (.sh t))[j]? = some (.ow u) := h1
    have h2 : (s.env.set i (.sh t))[k]? = some (.ow w) := h2
    have nj : i ≠ j := fun q => by
      subst q
      have hl := (List.getElem?_eq_some_iff.mp h1).1
      rw [List.length_set] at hl
      rw [List.getElem?_set_self hl] at h1; cases h1
    have nk : i ≠ k := fun q => by
      subst q
      have hl := (List.getElem?_eq_some_iff.mp h2).1
      rw [List.length_set] at hl
      rw [List.getElem?_set_self hl] at h2; cases h2
    rw [List.getElem?_set_ne nj] at h1 h3
    rw [List.getElem?_set_ne nk] at h2 h4
    exact x.dis j k u w b h1 h2 h3 h4
theorem Rl.setOw (x : Rl g B s σ H F) (hi : i < σ.length) (fr : Fr g B s σ F a) (o : OwA g F H a t) (no : ∀ c fs, t ≠ .obj c fs := by intro _ _ z; cases z) : Rl g B { s with env := s.env.set i (.ow t) } (σ.set i (some (.ref a))) H F := by
  refine ⟨x.sub, x.new, x.old, x.keep, fun j => ?_, fun j k u w b h1 h2 h3 h4 => ?_, x.dr, x.bd, fun j c fs h => by
    obtain ⟨n, h⟩ := set_obj (fun _ _ z => no _ _ (Sl.ow.inj z)) h
    rw [List.getElem?_set_ne n]
    exact x.mkd j c fs h⟩
  · show SlOk g B H F ((σ.set i (some (.ref a)))[j]?) ((s.env.set i (.ow t))[j]?)
    by_cases hj : i = j
    · subst hj
      rw [List.getElem?_set_self hi]
      by_cases he : i < s.env.length
      · rw [List.getElem?_set_self he]; exact ⟨a, rfl, fr.f, fr.b, fr.n, o⟩
      · rw [List.getElem?_eq_none (by rw [List.length_set]; omega)]; trivial
    · rw [List.getElem?_set_ne hj, List.getElem?_set_ne hj]; exact x.slot j
  · have h1 : (s.env.set i (.ow t))[j]? = some (.ow u) := h1
    have h2 : (s.env.set i (.ow t))[k]? = some (.ow w) := h2
    by_cases nj : i = j
    · by_cases nk : i = k
      · omega
      · subst nj
        rw [List.getElem?_set_self hi] at h3
        cases h3
        rw [List.getElem?_set_ne nk] at h2 h4
        exact absurd h4 (fr.s k w h2)
    · rw [List.getElem?_set_ne nj] at h1 h3
      by_cases nk : i = k
      · subst nk
        rw [List.getElem?_set_self hi] at h4
        cases h4
        exact absurd h3 (fr.s j u h1)
      · rw [List.getElem?_set_ne nk] at h2 h4
        exact x.dis j k u w b h1 h2 h3 h4
end
def S.put (s : S) (i : Nat) (b : Sl) : S := { s with env := s.env.set i b }
/-- name = value -/
def fSet (i : Nat) (f : S → Out R) : S → Out Fl := fun s => (f s).bind fun z s1 => match z with
  | .val t => .ok .nx (s1.put i (.sh t))
  | .frs t => .ok .nx (s1.put i (.ow t))
  | .bor j => (frz j s1).bind fun t s2 => .ok .nx (s2.put i (.sh t))
theorem fSet_po {c : C} {B : Bs} {s : S} {σ : L2.St} {F : Hp} {W : WX} {D : Ends} {f : S → Out R} {i : Nat} (hi : i < σ.length) (q : PoS c.g B F W D (fSet i f s)) :
    Po c.g B σ F W (rE c.g B σ) (fun v H' => D.nx (σ.set i (some v)) H') (f s) := by
  unfold fSet at q
  cases hf : f s with
  | ok z s1 =>
    rw [hf] at q
    intro v H' F' l x' hr
    cases z with
    | val t => exact q _ H' F' l (x'.setSh hi hr)
    | frs t =>
      obtain ⟨a, xs, rfl, fr, ha, us, rfl, rs⟩ := hr
      exact q _ H' F' l (x'.setOw hi fr (.lst ha rs))
    | bor j =>
      have q2 : PoS c.g B F W D ((frz j s1).bind fun t s2 => .ok .nx (s2.put i (.sh t))) := q
      cases hz : frz j s1 with
      | ok t s2 =>
        rw [hz] at q2
        obtain ⟨F'', l2, x2, r2⟩ := x'.frz hz hr.1
        exact q2 _ H' F'' (l.trans l2) (x2.setSh hi r2)
      | exc y s2 =>
        exfalso
        unfold frz at hz
        split at hz <;> cases hz
      | bad => rw [hz] at q2; exact q2.elim
  | exc y s1 => rw [hf] at q; exact fun cls d H' F' l x' => q cls d σ H' F' l x'
  | bad => rw [hf] at q; exact q
/-- a name that may be stored -/
def Sto (c : C) (x : Str) : Prop := c.sc.names.lookup x = some .local ∨ (c.sc.names.lookup x = some .cell ∧ c.fnl x = true)
theorem C.Ok.loc {c : C} {r : Rn} (ok : c.Ok r) {x : Str} (h : Sto c x) : Loc (c.cx r).env.scope x ∧ ((c.cx r).fn x = true ∨ (c.cx r).env.scope.names.lookup x = some .local) := by
  have e : (c.cx r).env.scope = c.sc := ok.sc
  rcases h with h | ⟨h, h'⟩
  · exact ⟨by rw [e]; exact .inl h, .inr (by rw [e]; exact h)⟩
  · exact ⟨by rw [e]; exact .inr h, .inl (ok.fnc x h')⟩
section
variable {c : C} {e : Expr} {pos pos' : Pos} {i : Nat} {x : Str} {f : S → Out R}
theorem lt_of {r : Rn} {pins : List (Addr × Obj)} {σ : L2.St} {H : Hp} {s : Shared} (I : Inv (c.cx r) pins σ H s) (hN : c.N[i]? = some x) : i < σ.length := by
  rw [I.len]; exact (List.getElem?_eq_some_iff.mp hN).1
theorem SS.set (h : SE c e f) (hN : c.N[i]? = some x := by rfl) (hx : Sto c x := by first | exact Or.inl rfl | exact Or.inr ⟨rfl, rfl⟩)
    (hs : ∀ t n env, swapsWith e (some (.Name x t)) n env = pure false := by intro _ _ _; rfl) : SS c (.Assign [.Name x pos'] e pos) (fSet i f) := by
  intro r W ok tk B s σ H F hx' D q pins ss I
  obtain ⟨h1, h2⟩ := ok.loc hx
  exact (ps_set (X := c.cx r) ok.nd hN h1 pE (hs _ _ _) h2).run pins ss σ H D I (h r W ok tk B s σ H F hx' _ (fSet_po (lt_of I hN) q))
end

/-! ### targets -/
def wG (X : Cx) (tg : Expr) : TG := fun v σ H Q => ∀ pins s u, Inv X pins σ H s → RelV v u → wpAny (model X.prog X.w) X.A (assign tg X.env u) (fun _ s' => ∃ σ' H', Inv X pins σ' H' s' ∧ Q σ' H') X.xe s
def wGs (X : Cx) (ts : List Expr) : TGs := fun vs σ H Q => ∀ pins s us, Inv X pins σ H s → Vals vs us → wpAny (model X.prog X.w) X.A (assignInOrder ((assignEach ts X.env).map (·.2)) us) (fun _ s' => ∃ σ' H', Inv X pins σ' H' s' ∧ Q σ' H') X.xe s
theorem pG {X : Cx} {tg : Expr} : PG X tg (wG X tg) := ⟨fun pins s _ _ _ u _ I r h => h pins s u I r⟩
theorem pGs {X : Cx} {ts : List Expr} : PGs X ts (wGs X ts) := ⟨fun pins s _ _ _ us _ I r h => h pins s us I r⟩
/-- only the slots ws differ -/
def Dif (ws : List Nat) (σ σ' : L2.St) : Prop := σ'.length = σ.length ∧ ∀ j, j ∉ ws → σ'[j]? = σ[j]?
def SG (c : C) (tg : Expr) (gf : T → S → Option S) (ws : List Nat) : Prop := ∀ r, c.Ok r → ∀ B s σ H F v t s', Rl c.g B s σ H F → Rep c.g F v t → gf t s = some s' → ∀ Q, (∀ σ', Rl c.g B s' σ' H F → Dif ws σ σ' → Q σ' H) → wG (c.cx r) tg v σ H Q
def SGs (c : C) (ts : List Expr) (gf : List T → S → Option S) (ws : List Nat) : Prop := ∀ r, c.Ok r → ∀ B s σ H F vs us s', Rl c.g B s σ H F → Reps c.g F vs us → gf us s = some s' → ∀ Q, (∀ σ', Rl c.g B s' σ' H F → Dif ws σ σ' → Q σ' H) → wGs (c.cx r) ts vs σ H Q
def gNm (i : Nat) : T → S → Option S := fun t s => some (s.put i (.sh t))
def gNl : List T → S → Option S
  | [], s => some s
  | _, _ => none
def gCn (g : T → S → Option S) (k : List T → S → Option S) : List T → S → Option S
  | t :: ts, s => (g t s).bind (k ts)
  | [], _ => none
def gTp (n : Nat) (k : List T → S → Option S) : T → S → Option S
  | .tup ts, s => if ts.length = n then k ts s else none
  | _, _ => none
section
variable {c : C} {e : Expr} {es : List Expr} {pos pos' : Pos} {i : Nat} {x : Str}
theorem SG.nm (i : Nat) (hN : c.N[i]? = some x := by rfl) (hx : Sto c x := by first | exact Or.inl rfl | exact Or.inr ⟨rfl, rfl⟩) : SG c (.Name x pos) (gNm i) [i] := by
  intro r ok B s σ H F v t s' x' rp e Q q pins ss u I rv
  cases e
  obtain ⟨h1, h2⟩ := ok.loc hx
  exact (pg_name (X := c.cx r) ok.nd hN h1 h2).run pins ss σ H v u _ I rv (q _ (x'.setSh (lt_of I hN) rp) ⟨List.length_set, fun j hj => List.getElem?_set_ne (fun e => hj (by simp [e]))⟩)
theorem SGs.nil : SGs c [] gNl [] := by
  intro r ok B s σ H F vs us s' x' rp e Q q pins ss u I rv
  cases rp with
  | nil => cases e; exact pgs_nil.run pins ss σ H [] u Q I rv ⟨rfl, q σ x' ⟨rfl, fun _ _ => rfl⟩⟩
  | cons _ _ => cases e
theorem SGs.cons {g : T → S → Option S} {k : List T → S → Option S} {w1 w2 : List Nat} (h1 : SG c e g w1) (h2 : SGs c es k w2) (hs : ∀ env, (assignEach (e :: es) env).map (·.2) = assign e env :: (assignEach es env).map (·.2) := by intro _; rfl) : SGs c (e :: es) (gCn g k) (w1 ++ w2) := by
  intro r ok B s σ H F vs us s' x' rp e Q q pins ss u I rv
  cases rp with
  | nil => cases e
  | cons r1 rs =>
    obtain ⟨s1, e1, e2⟩ := Option.bind_eq_some_iff.mp (show (g _ s).bind (k _) = some s' from e)
    refine (pgs_cons (X := c.cx r) pG pGs (hs _)).run pins ss σ H _ u Q I rv ⟨_, _, rfl, ?_⟩
    exact h1 r ok B s σ H F _ _ s1 x' r1 e1 _ fun σ1 x1 d1 => h2 r ok B s1 σ1 H F _ _ s' x1 rs e2 Q fun σ2 x2 d2 => q σ2 x2 ⟨d2.1.trans d1.1, fun j hj => (d2.2 j (fun z => hj (List.mem_append_right _ z))).trans (d1.2 j (fun z => hj (List.mem_append_left _ z)))⟩
theorem SG.tp {k : Nat} {n : Nat} {gs : List T → S → Option S} {ws : List Nat} (h : SGs c es gs ws) (hn : ∀ env, (assignEach es env).length = n := by intro _; rfl) (hst : ∀ env, (assignEach es env).findIdx? (·.1) = none := by intro _; rfl) : SG c (.Tuple es k pos) (gTp n gs) ws := by
  intro r ok B s σ H F v t s' x' rp e Q q pins ss u I rv
  unfold gTp at e
  split at e
  · split at e
    · rename_i ts s0 hl
      cases rp with
      | tup ht rs =>
        refine (pg_tup (X := c.cx r) ok.calm pGs (hn _) (hst _)).run pins ss σ H _ u Q I rv ⟨_, _, rfl, x'.sqT ht, by rw [rs.length]; exact hl, ?_⟩
        exact h r ok B _ σ H F _ _ s' x' rs e Q q
    · cases e
  · cases e
/-- target = value, any target -/
def fAsg (gf : T → S → Option S) (f : S → Out T) : S → Out Fl := fun s => (f s).bind fun t s1 => match gf t s1 with
  | some s2 => .ok .nx s2
  | none => .bad
theorem SS.asg {tg : Expr} {gf : T → S → Option S} {ws : List Nat} {f : S → Out T} (h : SV c e f) (hg : SG c tg gf ws) (hs : ∀ n env, swapsWithSole [tg] e n env = pure false := by intro _ _; rfl) (hw : ∀ env, swappedStores [tg] e env = pure none := by intro _; rfl)
    (h1 : ∀ env, (assignEach [tg] env).map (·.2) = [assign tg env] := by intro _; rfl) : SS c (.Assign [tg] e pos) (fAsg gf f) := by
  intro r W ok tk B s σ H F x D q
  refine PS.w (ps_asg pE pG (hs _ _) (hw _) (h1 _)) (h r W ok tk B s σ H F x _ ?_)
  unfold fAsg at q
  cases hf : f s with
  | ok t s1 =>
    rw [hf] at q
    intro v H' F' l x' hr
    dsimp only [Out.bind] at q
    cases hg2 : gf t s1 with
    | none => rw [hg2] at q; exact q.elim
    | some s2 =>
      rw [hg2] at q
      exact hg r ok B s1 σ H' F' v t s2 x' hr hg2 _ fun σ' x2 _ => q σ' H' F' l x2
  | exc y s1 => rw [hf] at q; exact fun cls d H' F' l x' => q cls d σ H' F' l x'
  | bad => rw [hf] at q; exact q
end
end Tv
namespace Tv
open PySem PySem.Spec PyProof.Rows L2

/-! ### what is walked -/
structure Src (g : G) (F0 : Hp) (J : It) (ts : List T) : Prop where
  go : ∀ i H, LeF F0 H → i < ts.length → J.go i H
  stop : ∀ H, LeF F0 H → J.stop ts.length H
  yld : ∀ i x H H' t, LeF F0 H → ts[i]? = some t → J.yld i H x H' → ∀ B s σ F, LeF F0 F → Rl g B s σ H F → ∃ F', LeF F F' ∧ Rl g B s σ H' F' ∧ Rep g F' x t
def wI (X : Cx) (tg iter : Expr) : TI := fun σ H R => ∀ pins s, Inv X pins σ H s → wpAny (model X.prog X.w) X.A (eval iter X.env) (fun v s1 => wpAny (model X.prog X.w) X.A (pyIter v) (PIE X pins σ tg R) X.xe s1) X.xe s
theorem pI {X : Cx} {tg iter : Expr} : PI X tg iter (wI X tg iter) := ⟨fun pins s _ _ _ I h => h pins s I⟩
theorem PI.w {X : Cx} {tg iter : Expr} {wi : TI} {σ : L2.St} {H : Hp} {R : It → Hp → Prop} (h : PI X tg iter wi) (q : wi σ H R) : wI X tg iter σ H R := fun pins s I => h.run pins s σ H R I q
def SI (c : C) (tg iter : Expr) (f : S → Out (List T)) : Prop := ∀ r W, c.Ok r → Takes (c.cx r) W → ∀ B s σ H F, Rl c.g B s σ H F → ∀ Q : It → Hp → Prop,
  Po c.g B σ F W (fun ts _ J _ F' => Src c.g F' J ts) Q (f s) → wI (c.cx r) tg iter σ H Q
section
variable {g : G} {F0 : Hp} {a b : Addr} {xs ys : List V} {ts us : List T}
theorem Src.list (h : F0 a = some (.lst xs)) (r : Reps g F0 xs ts) : Src g F0 (Itl g.K a) ts where
  go := fun i H le hi => by
    have hx : i < xs.length := by rw [r.length]; exact hi
    exact ⟨xs, xs[i], SqL.of (le _ _ h), by simp [hx]⟩
  stop := fun H le => ⟨xs, SqL.of (le _ _ h), by rw [r.length]; exact Nat.le_refl _⟩
  yld := fun i x H H' t le et y B s σ F l0 x1 => by
    obtain ⟨rfl, y⟩ := y
    obtain ⟨v, h1, h2⟩ := r.get et
    have := y xs (SqL.of (le _ _ h))
    rw [h1] at this
    cases this
    exact ⟨F, LeF.refl F, x1, h2.mono l0⟩
theorem Src.tup (h : SqT g.K F0 a xs) (r : Reps g F0 xs ts) : Src g F0 (Itt g.K a) ts where
  go := fun i H le hi => by
    have hx : i < xs.length := by rw [r.length]; exact hi
    exact ⟨xs, xs[i], le.sqT h, by simp [hx]⟩
  stop := fun H le => ⟨xs, le.sqT h, by rw [r.length]; exact Nat.le_refl _⟩
  yld := fun i x H H' t le et y B s σ F l0 x1 => by
    obtain ⟨rfl, y⟩ := y
    obtain ⟨v, h1, h2⟩ := r.get et
    have := y xs (le.sqT h)
    rw [h1] at this
    cases this
    exact ⟨F, LeF.refl F, x1, h2.mono l0⟩
def rngT (lo : Int) (n : Nat) : List T := (List.range n).map fun i => .int (lo + (i : Nat))
theorem rngT_length (lo : Int) (n : Nat) : (rngT lo n).length = n := by simp [rngT]
theorem Src.range {lo : Int} {n : Nat} : Src g F0 (Itr lo n) (rngT lo n) where
  go := fun i H le hi => by rw [rngT_length] at hi; exact hi
  stop := fun H le => by rw [rngT_length]; exact Nat.le_refl _
  yld := fun i x H H' t le et y B s σ F l0 x1 => by
    obtain ⟨rfl, rfl⟩ := y
    have e : t = .int (lo + (i : Nat)) := by
      have hl := (List.getElem?_eq_some_iff.mp et).1
      rw [rngT_length] at hl
      unfold rngT at et
      rw [List.getElem?_map, List.getElem?_range hl] at et
      exact (Option.some.inj et).symm
    subst e
    exact ⟨F, LeF.refl F, x1, .int _⟩
def enumT : Nat → List T → List T
  | _, [] => []
  | i, t :: ts => .tup [.int (i : Nat), t] :: enumT (i + 1) ts
theorem enumT_length : ∀ (i : Nat) (ts : List T), (enumT i ts).length = ts.length
  | _, [] => rfl
  | i, t :: ts => by simp [enumT, enumT_length]
theorem enumT_get : ∀ (k : Nat) (ts : List T) (i : Nat) (t : T), (enumT k ts)[i]? = some t → ∃ u, ts[i]? = some u ∧ t = .tup [.int ((k + i : Nat) : Int), u]
  | _, [], _, _, h => by simp [enumT] at h
  | k, u :: us, 0, t, h => by simp [enumT] at h; exact ⟨u, rfl, by rw [← h]; rfl⟩
  | k, u :: us, i + 1, t, h => by
    obtain ⟨w, h1, h2⟩ := enumT_get (k + 1) us i t (by simpa [enumT] using h)
    exact ⟨w, by simpa using h1, by rw [h2, show k + 1 + i = k + (i + 1) by omega]⟩
theorem yld_pair {B : Bs} {s : S} {σ : L2.St} {H F : Hp} {p : Addr} {x y : V} {t u : T} (x1 : Rl g B s σ H F) (hp : H p = none) (r1 : Rep g F x t) (r2 : Rep g F y u) :
    ∃ F', LeF F F' ∧ Rl g B s σ (upd H p (.tup [x, y])) F' ∧ Rep g F' (.ref p) (.tup [t, u]) := by
  obtain ⟨h1, h2, h3⟩ := x1.newTup hp (.cons r1 (.cons r2 .nil))
  exact ⟨_, h2, h1, h3⟩
theorem Src.enum (h : F0 a = some (.lst xs)) (r : Reps g F0 xs ts) : Src g F0 (Ite g.K a) (enumT 0 ts) where
  go := fun i H le hi => by
    rw [enumT_length] at hi
    have hx : i < xs.length := by rw [r.length]; exact hi
    exact ⟨xs, xs[i], SqL.of (le _ _ h), by simp [hx]⟩
  stop := fun H le => ⟨xs, SqL.of (le _ _ h), by rw [enumT_length, r.length]; exact Nat.le_refl _⟩
  yld := fun i x H H' t le et y B s σ F l0 x1 => by
    obtain ⟨p, z, rfl, hp, rfl, y⟩ := y
    obtain ⟨u, e1, rfl⟩ := enumT_get 0 ts i t et
    obtain ⟨v, h1, h2⟩ := r.get e1
    have := y xs (SqL.of (le _ _ h))
    rw [h1] at this
    cases this
    rw [Nat.zero_add]
    exact yld_pair x1 hp (.int _) (h2.mono l0)
def zipT : List T → List T → List T
  | t :: ts, u :: us => .tup [t, u] :: zipT ts us
  | _, _ => []
theorem zipT_length : ∀ ts us : List T, (zipT ts us).length = min ts.length us.length
  | [], _ => by simp [zipT]
  | _ :: _, [] => by simp [zipT]
  | t :: ts, u :: us => by simp [zipT, zipT_length]
theorem zipT_get : ∀ (ts us : List T) (i : Nat) (t : T), (zipT ts us)[i]? = some t → ∃ u w, ts[i]? = some u ∧ us[i]? = some w ∧ t = .tup [u, w]
  | [], _, _, _, h => by simp [zipT] at h
  | _ :: _, [], _, _, h => by simp [zipT] at h
  | u :: ts, w :: us, 0, t, h => by simp [zipT] at h; exact ⟨u, w, rfl, rfl, h.symm⟩
  | u :: ts, w :: us, i + 1, t, h => by
    obtain ⟨a, b, h1, h2, h3⟩ := zipT_get ts us i t (by simpa [zipT] using h)
    exact ⟨a, b, by simpa using h1, by simpa using h2, h3⟩
theorem Src.zip (h : F0 a = some (.lst xs)) (k : F0 b = some (.lst ys)) (r : Reps g F0 xs ts) (q : Reps g F0 ys us) : Src g F0 (Itz g.K a b) (zipT ts us) where
  go := fun i H le hi => by
    rw [zipT_length] at hi
    have hx : i < xs.length := by rw [r.length]; omega
    have hy : i < ys.length := by rw [q.length]; omega
    exact ⟨xs, ys, xs[i], ys[i], SqL.of (le _ _ h), SqL.of (le _ _ k), by simp [hx], by simp [hy]⟩
  stop := fun H le => ⟨xs, ys, SqL.of (le _ _ h), SqL.of (le _ _ k), by rw [zipT_length, r.length, q.length]; omega⟩
  yld := fun i x H H' t le et y B s σ F l0 x1 => by
    obtain ⟨p, z, w, rfl, hp, rfl, y1, y2⟩ := y
    obtain ⟨u, v, e1, e2, rfl⟩ := zipT_get ts us i t et
    obtain ⟨v1, h1, h2⟩ := r.get e1
    obtain ⟨v2, h3, h4⟩ := q.get e2
    have z1 := y1 xs (SqL.of (le _ _ h))
    have z2 := y2 ys (SqL.of (le _ _ k))
    rw [h1] at z1
    rw [h3] at z2
    cases z1
    cases z2
    exact yld_pair x1 hp (h2.mono l0) (h4.mono l0)
end
section
variable {c : C} {e e2 tg : Expr} {p pos tpos : Pos} {f : S → Out T}
/-- a list, a tuple -/
def itS (f : S → Out T) : S → Out (List T) := fun s => (f s).bind fun t s1 => match t with
  | .lst ts => .ok ts s1
  | .tup ts => .ok ts s1
  | _ => .bad
theorem SI.seq (h : SV c e f) : SI c tg e (itS f) := by
  intro r W ok tk B s σ H F x Q q
  unfold itS at q
  cases hf : f s with
  | ok t s1 =>
    rw [hf] at q
    dsimp only [Out.bind] at q
    split at q
    · rename_i ts
      refine PI.w (pi_list pE) (h r W ok tk B s σ H F x _ ?_)
      rw [hf]
      intro v H' F' l x' hr
      cases hr with
      | lst h1 h2 => exact ⟨_, rfl, ⟨_, SqL.of (x'.sub _ _ h1)⟩, q _ H' F' l x' (Src.list h1 h2)⟩
    · rename_i ts
      refine PI.w (pi_tup pE) (h r W ok tk B s σ H F x _ ?_)
      rw [hf]
      intro v H' F' l x' hr
      cases hr with
      | tup h1 h2 => exact ⟨_, rfl, ⟨_, x'.sqT h1⟩, q _ H' F' l x' (Src.tup h1 h2)⟩
    · exact q.elim
  | exc y s1 =>
    rw [hf] at q
    refine PI.w (pi_list pE) (h r W ok tk B s σ H F x _ ?_)
    rw [hf]; exact q
  | bad => rw [hf] at q; exact q.elim
def itR1 (f : S → Out R) : S → Out (List T) := fun s => (f s).bind fun z s1 => match z with
  | .val (.int n) => if -(2 ^ 62) ≤ n ∧ n < 2 ^ 62 then .ok (rngT 0 n.toNat) s1 else .bad
  | _ => .bad
theorem SI.range1 {f : S → Out R} (b : Blt c "range" (.type "range")) (h : SE c e f) (hs : NoStar e := by intro _ _; rfl) : SI c tg (.Call (.Name "range" p) [e] [] pos) (itR1 f) := by
  intro r W ok tk B s σ H F x Q q
  refine PI.w (pi_range1 (b.isGl ok) b.mg (pa_cons pE pa_nil (hs _ _)) (hs _ _)) (h r W ok tk B s σ H F x _ ?_)
  unfold itR1 at q
  cases hf : f s with
  | ok z s1 =>
    rw [hf] at q
    dsimp only [Out.bind] at q
    split at q
    · split at q
      · rename_i hn
        intro v H' F' l x' hr
        cases hr
        exact ⟨_, rfl, hn.1, hn.2, q _ H' F' l x' Src.range⟩
      · exact q.elim
    · exact q.elim
  | exc y s1 => rw [hf] at q; exact q
  | bad => rw [hf] at q; exact q
def itR2 (f k : S → Out R) : S → Out (List T) := fun s => (f s).bind fun z s1 => (k s1).bind fun w s2 => match z, w with
  | .val (.int a), .val (.int n) => if -(2 ^ 62) ≤ a ∧ a < 2 ^ 62 ∧ -(2 ^ 62) ≤ n ∧ n < 2 ^ 62 then .ok (rngT a (n - a).toNat) s2 else .bad
  | _, _ => .bad
theorem SI.range2 {f k : S → Out R} (b : Blt c "range" (.type "range")) (h : SE c e f) (h2 : SE c e2 k) (hs : NoStar e := by intro _ _; rfl) (hs2 : NoStar e2 := by intro _ _; rfl) : SI c tg (.Call (.Name "range" p) [e, e2] [] pos) (itR2 f k) := by
  intro r W ok tk B s σ H F x Q q
  refine PI.w (pi_range2 (b.isGl ok) b.mg (pa_cons pE (pa_cons pE pa_nil (hs2 _ _)) (hs _ _)) (by rw [hs, hs2] <;> rfl) (hs2 _ _)) (h r W ok tk B s σ H F x _ ?_)
  unfold itR2 at q
  cases hf : f s with
  | ok z s1 =>
    rw [hf] at q
    intro v H' F' l x' hr
    refine h2 r W ok tk B s1 σ H' F' x' _ ?_
    dsimp only [Out.bind] at q
    cases hk : k s1 with
    | ok w s2 =>
      rw [hk] at q
      dsimp only at q
      split at q
      · split at q
        · rename_i hn
          intro v2 H2 F2 l2 x2 hr2
          cases hr
          cases hr2
          exact ⟨_, _, rfl, hn, q _ H2 F2 (l.trans l2) x2 Src.range⟩
        · exact q.elim
      · exact q.elim
    | exc y s2 => rw [hk] at q; exact fun cls d H2 F2 l2 => q cls d H2 F2 (l.trans l2)
    | bad => rw [hk] at q; exact q
  | exc y s1 => rw [hf] at q; exact q
  | bad => rw [hf] at q; exact q
def itE (f : S → Out T) : S → Out (List T) := fun s => (f s).bind fun t s1 => match t with
  | .lst ts => .ok (enumT 0 ts) s1
  | _ => .bad
theorem SI.enum {elts : List Expr} {kk : Nat} (b : Blt c "enumerate" (.type "enumerate")) (h : SV c e f) (hs : NoStar e := by intro _ _; rfl) : SI c (.Tuple elts kk tpos) (.Call (.Name "enumerate" p) [e] [] pos) (itE f) := by
  intro r W ok tk B s σ H F x Q q
  refine PI.w (pi_enum (b.isGl ok) b.mg (pa_cons pE pa_nil (hs _ _)) (hs _ _)) (h r W ok tk B s σ H F x _ ?_)
  unfold itE at q
  cases hf : f s with
  | ok t s1 =>
    rw [hf] at q
    dsimp only [Out.bind] at q
    split at q
    · intro v H' F' l x' hr
      cases hr with
      | lst h1 h2 => exact ⟨_, _, rfl, SqL.of (x'.sub _ _ h1), q _ H' F' l x' (Src.enum h1 h2)⟩
    · exact q.elim
  | exc y s1 => rw [hf] at q; exact q
  | bad => rw [hf] at q; exact q
def itZ (f k : S → Out T) : S → Out (List T) := fun s => (f s).bind fun t s1 => (k s1).bind fun u s2 => match t, u with
  | .lst ts, .lst us => .ok (zipT ts us) s2
  | _, _ => .bad
theorem SI.zip {k : S → Out T} {elts : List Expr} {kk : Nat} (b : Blt c "zip" (.type "zip")) (h : SV c e f) (h2 : SV c e2 k) (hs : NoStar e := by intro _ _; rfl) (hs2 : NoStar e2 := by intro _ _; rfl) (hpl : ∀ env, (backTo pos (starEach [e2] env)).any (·.1) = false := by intro _; rfl) :
    SI c (.Tuple elts kk tpos) (.Call (.Name "zip" p) [e, e2] [] pos) (itZ f k) := by
  intro r W ok tk B s σ H F x Q q
  refine PI.w (pi_zip (b.isGl ok) b.mg (pa_cons pE (pa_cons pE pa_nil (hs2 _ _)) (hs _ _)) (hs _ _) (hpl _)) (h r W ok tk B s σ H F x _ ?_)
  unfold itZ at q
  cases hf : f s with
  | ok t s1 =>
    rw [hf] at q
    intro v H' F' l x' hr
    refine h2 r W ok tk B s1 σ H' F' x' _ ?_
    dsimp only [Out.bind] at q
    cases hk : k s1 with
    | ok u s2 =>
      rw [hk] at q
      dsimp only at q
      split at q
      · intro v2 H2 F2 l2 x2 hr2
        cases hr with
        | lst h1 h3 =>
          cases hr2 with
          | lst h4 h5 =>
            exact ⟨_, _, _, _, rfl, SqL.of (x2.sub _ _ (l2 _ _ h1)), SqL.of (x2.sub _ _ h4), q _ H2 F2 (l.trans l2) x2 (Src.zip (l2 _ _ h1) h4 (h3.mono l2) h5)⟩
      · exact q.elim
    | exc y s2 => rw [hk] at q; exact fun cls d H2 F2 l2 => q cls d H2 F2 (l.trans l2)
    | bad => rw [hk] at q; exact q
  | exc y s1 => rw [hf] at q; exact q
  | bad => rw [hf] at q; exact q
end

/-! ### for -/
def forL (gf : T → S → Option S) (f : S → Out Fl) : List T → S → Out Fl
  | [], s => .ok .nx s
  | t :: ts, s => match gf t s with
    | none => .bad
    | some s1 => match f s1 with
      | .ok .nx s2 => forL gf f ts s2
      | .ok .ct s2 => forL gf f ts s2
      | .ok .bk s2 => .ok .nx s2
      | .ok (.rt t fr) s2 => .ok (.rt t fr) s2
      | .exc y s2 => .exc y s2
      | .bad => .bad
def fFor (it : S → Out (List T)) (gf : T → S → Option S) (f : S → Out Fl) : S → Out Fl := fun s => (it s).bind fun ts s1 => forL gf f ts s1
section
variable {c : C} {tg iter : Expr} {body : List Stmt} {pos : Pos} {it : S → Out (List T)} {gf : T → S → Option S} {f : S → Out Fl} {ws : List Nat}
theorem for_core (hg : SG c tg gf ws) (hb : SSs c body f) {r : Rn} {W : WX} (ok : c.Ok r) (tk : Takes (c.cx r) W) {B : Bs} {s : S} {σ : L2.St} {H F : Hp} {ts : List T} {J : It} (x : Rl c.g B s σ H F) (sr : Src c.g F J ts) {D : Ends}
    (q : PoS c.g B F W D (forL gf f ts s)) :
    ∃ V : Nat → Nat → L2.St → Hp → Prop, (∃ m, V 0 m σ H) ∧ ∀ i m σ H, V i m σ H →
      (J.stop i H ∧ D.nx σ H) ∨ (J.go i H ∧ ∃ N : L2.St → Hp → Prop, (∀ σ' H', N σ' H' → ∃ m', m' < m ∧ V (i + 1) m' σ' H') ∧ ∀ x H', J.yld i H x H' → wG (c.cx r) tg x σ H' fun σ2 H2 => wSs (c.cx r) body { D with nx := N, ct := N, bk := D.nx } σ2 H2) := by
  let V : Nat → Nat → L2.St → Hp → Prop := fun i m σ H => m = ts.length - i ∧ i ≤ ts.length ∧ ∃ s F', LeF F F' ∧ Rl c.g B s σ H F' ∧ PoS c.g B F' W D (forL gf f (ts.drop i) s)
  refine ⟨V, ⟨ts.length, by simp, Nat.zero_le _, s, F, LeF.refl F, x, by simpa using q⟩, ?_⟩
  rintro i m σ1 H1 ⟨rfl, hi, s1, F1, l1, x1, q1⟩
  by_cases hlt : i < ts.length
  · refine .inr ⟨sr.go i H1 (l1.trans x1.sub) hlt, V (i + 1) (ts.length - (i + 1)), fun σ' H' h => ⟨_, by omega, h⟩, fun y H2 hy => ?_⟩
    have ht : ts[i]? = some ts[i] := List.getElem?_eq_getElem hlt
    obtain ⟨F2, l2, x2, r2⟩ := sr.yld i y H1 H2 _ (l1.trans x1.sub) ht hy B s1 σ1 F1 l1 x1
    rw [List.drop_eq_getElem_cons hlt] at q1
    unfold forL at q1
    cases hgf : gf ts[i] s1 with
    | none => rw [hgf] at q1; exact q1.elim
    | some s2 =>
      rw [hgf] at q1
      dsimp only at q1
      refine hg r ok B s1 σ1 H2 F2 y _ s2 x2 r2 hgf _ fun σ3 x3 _ => ?_
      refine hb r W ok tk B s2 σ3 H2 F2 x3 _ ?_
      cases hf : f s2 with
      | ok a s3 =>
        rw [hf] at q1
        cases a with
        | nx => exact fun σ4 H4 F4 l4 x4 => ⟨rfl, by omega, s3, F4, l1.trans (l2.trans l4), x4, q1.le (l2.trans l4)⟩
        | ct => exact fun σ4 H4 F4 l4 x4 => ⟨rfl, by omega, s3, F4, l1.trans (l2.trans l4), x4, q1.le (l2.trans l4)⟩
        | bk => exact fun σ4 H4 F4 l4 x4 => q1 σ4 H4 F4 (l2.trans l4) x4
        | rt t fr => exact fun v σ4 H4 F4 l4 x4 => q1 v σ4 H4 F4 (l2.trans l4) x4
      | exc y s3 => rw [hf] at q1; exact fun cls d σ4 H4 F4 l4 x4 => q1 cls d σ4 H4 F4 (l2.trans l4) x4
      | bad => rw [hf] at q1; exact q1.elim
  · have e : i = ts.length := by omega
    subst e
    rw [List.drop_length] at q1
    exact .inl ⟨sr.stop H1 (l1.trans x1.sub), q1 σ1 H1 F1 (LeF.refl F1) x1⟩
theorem SS.forS (hi : SI c tg iter it) (hg : SG c tg gf ws) (hb : SSs c body f) (hs : ∀ env x, foldedSetIterable iter env x = pure x := by intro _ _; rfl) : SS c (.For tg iter body [] pos) (fFor it gf f) := by
  intro r W ok tk B s σ H F x D q
  refine PS.w (ps_for ok.pass ok.calm pI pG pSs (hs _)) (hi r W ok tk B s σ H F x _ ?_)
  unfold fFor at q
  cases hf : it s with
  | ok ts s1 =>
    rw [hf] at q
    intro J H1 F1 l1 x1 sr
    exact for_core hg hb ok tk x1 sr (PoS.le q l1)
  | exc y s1 => rw [hf] at q; exact fun cls d H' F' l x' => q cls d σ H' F' l x'
  | bad => rw [hf] at q; exact q
end

/-! ### while -/
def whStep (t : S → Out Bool) (f : S → Out Fl) (s : S) : S ⊕ Out Fl := match t s with
  | .ok true s1 => (match f s1 with
    | .ok .nx s2 => .inl s2
    | .ok .ct s2 => .inl s2
    | .ok .bk s2 => .inr (.ok .nx s2)
    | .ok (.rt t fr) s2 => .inr (.ok (.rt t fr) s2)
    | .exc y s2 => .inr (.exc y s2)
    | .bad => .inr .bad)
  | .ok false s1 => .inr (.ok .nx s1)
  | .exc y s1 => .inr (.exc y s1)
  | .bad => .inr .bad
def whIt (t : S → Out Bool) (f : S → Out Fl) : Nat → S → Option (Out Fl)
  | 0, _ => none
  | n + 1, s => match whStep t f s with
    | .inl s' => whIt t f n s'
    | .inr o => some o
open Classical in
noncomputable def fWh (t : S → Out Bool) (f : S → Out Fl) : S → Out Fl := fun s => if h : ∃ n, (whIt t f n s).isSome = true then (match whIt t f h.choose s with | some o => o | none => .bad) else .bad
section
variable {t : S → Out Bool} {f : S → Out Fl}
theorem whIt_det : ∀ {n m : Nat} {s : S} {o o' : Out Fl}, whIt t f n s = some o → whIt t f m s = some o' → o = o'
  | 0, _, _, _, _, h, _ => by cases h
  | _ + 1, 0, _, _, _, _, h => by cases h
  | n + 1, m + 1, s, o, o', h, k => by
    unfold whIt at h k
    cases e : whStep t f s with
    | inl s' => rw [e] at h k; exact whIt_det h k
    | inr z => rw [e] at h k; cases h; cases k; rfl
theorem fWh_of {n : Nat} {s : S} {o : Out Fl} (h : whIt t f n s = some o) : fWh t f s = o := by
  unfold fWh
  have ex : ∃ n, (whIt t f n s).isSome = true := ⟨n, by rw [h]; rfl⟩
  rw [dif_pos ex]
  have hs := ex.choose_spec
  cases e : whIt t f ex.choose s with
  | none => rw [e] at hs; cases hs
  | some o' => exact whIt_det e h
theorem fWh_inv {s : S} {o : Out Fl} (h : fWh t f s = o) (nb : o ≠ .bad) : ∃ n, whIt t f n s = some o := by
  unfold fWh at h
  split at h
  · rename_i ex
    have hs := ex.choose_spec
    cases e : whIt t f ex.choose s with
    | none => rw [e] at hs; cases hs
    | some o' =>
      rw [e] at h
      have h : o' = o := h
      exact ⟨_, by rw [e, h]⟩
  · exact absurd h.symm nb
/-- the loop's equation -/
theorem fWh_eq (s : S) : fWh t f s = (match whStep t f s with | .inl s' => fWh t f s' | .inr o => o) := by
  cases e : whStep t f s with
  | inr o => exact fWh_of (n := 1) (by unfold whIt; rw [e])
  | inl s' =>
    by_cases ex : ∃ n, (whIt t f n s').isSome = true
    · obtain ⟨n, hn⟩ := ex
      obtain ⟨o, ho⟩ := Option.isSome_iff_exists.mp hn
      rw [fWh_of (n := n + 1) (o := o) (by unfold whIt; rw [e]; exact ho)]
      exact (fWh_of ho).symm
    · have n1 : ¬ ∃ n, (whIt t f n s).isSome = true := fun ⟨n, hn⟩ => by
        cases n with
        | zero => cases hn
        | succ n =>
          unfold whIt at hn
          rw [e] at hn
          exact ex ⟨n, hn⟩
      show fWh t f s = fWh t f s'
      unfold fWh
      rw [dif_neg n1, dif_neg ex]
end
theorem SS.whS {c : C} {e : Expr} {body : List Stmt} {pos : Pos} {t : S → Out Bool} {f : S → Out Fl} (h : STs c e t) (hb : SSs c body f) : SS c (.While e body [] pos) (fWh t f) := by
  intro r W ok tk B s σ H F x D q
  refine PS.w (ps_while ok.pass pT pSs) ?_
  have nb : fWh t f s ≠ .bad := fun z => by rw [z] at q; exact q
  obtain ⟨n, hn⟩ := fWh_inv rfl nb
  refine ⟨fun m σ H => ∃ s' F', LeF F F' ∧ Rl c.g B s' σ H F' ∧ whIt t f m s' = some (fWh t f s), ⟨n, s, F, LeF.refl F, x, hn⟩, ?_⟩
  rintro m σ1 H1 ⟨s1, F1, l1, x1, h1⟩
  cases m with
  | zero => cases h1
  | succ m =>
    unfold whIt at h1
    refine h r W ok tk B s1 σ1 H1 F1 x1 _ ?_
    cases ht : t s1 with
    | ok b s2 =>
      intro v H2 F2 l2 x2 e
      subst e
      unfold whStep at h1
      rw [ht] at h1
      cases v with
      | false =>
        dsimp only at h1
        have h1 := Option.some.inj h1
        rw [← h1] at q
        exact q σ1 H2 F2 (l1.trans l2) x2
      | true =>
        dsimp only at h1
        refine ⟨fun σ' H' => ∃ s' F', LeF F F' ∧ Rl c.g B s' σ' H' F' ∧ whIt t f m s' = some (fWh t f s), fun σ' H' z => ⟨m, by omega, z⟩, ?_⟩
        refine hb r W ok tk B s2 σ1 H2 F2 x2 _ ?_
        cases hf : f s2 with
        | ok a s3 =>
          rw [hf] at h1
          cases a with
          | nx => exact fun σ4 H4 F4 l4 x4 => ⟨s3, F4, l1.trans (l2.trans l4), x4, h1⟩
          | ct => exact fun σ4 H4 F4 l4 x4 => ⟨s3, F4, l1.trans (l2.trans l4), x4, h1⟩
          | bk =>
            have h1 := Option.some.inj h1
            rw [← h1] at q
            exact fun σ4 H4 F4 l4 x4 => q σ4 H4 F4 (l1.trans (l2.trans l4)) x4
          | rt t fr =>
            have h1 := Option.some.inj h1
            rw [← h1] at q
            exact fun v σ4 H4 F4 l4 x4 => q v σ4 H4 F4 (l1.trans (l2.trans l4)) x4
        | exc y s3 =>
          rw [hf] at h1
          have h1 := Option.some.inj h1
          rw [← h1] at q
          exact fun cls d σ4 H4 F4 l4 x4 => q cls d σ4 H4 F4 (l1.trans (l2.trans l4)) x4
        | bad =>
          rw [hf] at h1
          have h1 := Option.some.inj h1
          rw [← h1] at q
          exact q.elim
    | exc y s2 =>
      unfold whStep at h1
      rw [ht] at h1
      have h1 := Option.some.inj h1
      rw [← h1] at q
      exact fun cls d H2 F2 l2 x2 => q cls d σ1 H2 F2 (l1.trans l2) x2
    | bad =>
      unfold whStep at h1
      rw [ht] at h1
      have h1 := Option.some.inj h1
      rw [← h1] at q
      exact q.elim
end Tv
namespace Tv
open PySem PySem.Spec PyProof.Rows L2

/-! ### a slot's list is changed -/
section
variable {g : G} {B : Bs} {s : S} {σ : L2.St} {H F : Hp} {a : Addr} {i : Nat} {xs ys : List V} {ts us : List T}
theorem Rl.write (x : Rl g B s σ H F) (e : s.env[i]? = some (.ow (.lst ts))) (ea : σ[i]? = some (some (.ref a))) (h : H a = some (.lst xs)) (r : Reps g F ys us) (fa : F a = none) (ba : B.H a = none) (n : Ne3 g a) :
    Rl g B (s.put i (.ow (.lst us))) σ (upd H a (.lst ys)) F := by
  have hl : i < s.env.length := (List.getElem?_eq_some_iff.mp e).1
  have k : ∀ b o, b ≠ a → H b = some o → upd H a (.lst ys) b = some o := fun b o hb q => by rw [upd_ne hb]; exact q
  refine ⟨fun b u q => k b u (fun z => by subst z; rw [fa] at q; cases q) (x.sub _ _ q), x.new, x.old, fun b u q => k b u (fun z => by subst z; rw [ba] at q; cases q) (x.keep _ _ q), fun j => ?_, fun j k u w b h1 h2 h3 h4 => ?_, ?_, x.bd, fun j c fs h => x.mkd j c fs (set_obj (fun _ _ z => by cases z) h).2⟩
  · show SlOk g B _ F _ ((s.env.set i (.ow (.lst us)))[j]?)
    by_cases hj : i = j
    · subst hj
      rw [List.getElem?_set_self hl]
      exact ⟨a, ea, fa, ba, n, .lst upd_same r⟩
    · rw [List.getElem?_set_ne hj]
      have z := x.slot j
      unfold SlOk at z ⊢
      split at z
      · exact z
      · rename_i t ht
        obtain ⟨b, h1, h2, h3, h4, h5⟩ := z
        have hb : b ≠ a := fun q => hj (x.dis i j _ _ a e ht ea (by rw [h1, q]))
        refine ⟨b, h1, h2, h3, h4, ?_⟩
        cases h5 with
        | lst q r => exact .lst (k _ _ hb q) r
        | ins q q2 q3 qd r => exact .ins (k _ _ hb q) (k _ _ (fun z => by rw [z, h] at q2; cases q2) q2) q3 qd r
      · trivial
  · have h1 : (s.env.set i (.ow (.lst us)))[j]? = some (.ow u) := h1
    have h2 : (s.env.set i (.ow (.lst us)))[k]? = some (.ow w) := h2
    have f : ∀ (m : Nat) (v : T), (s.env.set i (.ow (.lst us)))[m]? = some (Sl.ow v) → ∃ v' : T, s.env[m]? = some (Sl.ow v') := fun m v q => by
      by_cases hm : i = m
      · subst hm; exact ⟨_, e⟩
      · rw [List.getElem?_set_ne hm] at q; exact ⟨_, q⟩
    obtain ⟨u', h1'⟩ := f _ _ h1
    obtain ⟨w', h2'⟩ := f _ _ h2
    exact x.dis j k u' w' b h1' h2' h3 h4
  · exact x.dr.other k n (lst_no h)
end
/-- a list's method: its content, the arguments: the answer, the content behind it -/
def OpM (g : G) (ρ : V → List V → Hp → VK → Prop) (op : List T → List T → Option (T × List T)) : Prop := ∀ ts us t ts', op ts us = some (t, ts') → ∀ H F a xs vs, H a = some (.lst xs) → Reps g F xs ts → Reps g F vs us → LeF F H → F a = none →
  ∀ Q : VK, (∀ v xs', Rep g F v t → Reps g F xs' ts' → Q v (upd H a (.lst xs'))) → ρ (.ref a) vs H Q
def fMut (i : Nat) (op : List T → List T → Option (T × List T)) (f : S → Out (List T)) : S → Out R := fun s => (f s).bind fun us s1 => match s1.env[i]? with
  | some (.ow (.lst ts)) => (match op ts us with
    | some (t, ts') => .ok (.val t) (s1.put i (.ow (.lst ts')))
    | none => .bad)
  | _ => .bad
def isOw (i : Nat) (f : S → Out R) : S → Out R := fun s => match s.env[i]? with
  | some (.ow (.lst _)) => f s
  | _ => .bad
section
variable {c : C} {e : Expr} {es : List Expr} {p apos pos : Pos} {i : Nat} {x name : Str} {op : List T → List T → Option (T × List T)} {f : S → Out (List T)} {id : String} {ρ : V → List V → Hp → VK → Prop}
theorem mut_core {B : Bs} {s : S} {σ : L2.St} {H F : Hp} {ts us : List T} {vs : List V} {a : Addr} {Q : VK} (ho : OpM c.g ρ op) (x : Rl c.g B s σ H F) (ea : σ[i]? = some (some (.ref a))) (he : s.env[i]? = some (.ow (.lst ts))) {t : T} {ts' : List T} (ho2 : op ts us = some (t, ts')) (r : Reps c.g F vs us)
    (q : ∀ v H' F', LeF F F' → Rl c.g B (s.put i (.ow (.lst ts'))) σ H' F' → Rep c.g F' v t → Q v H') : ρ (.ref a) vs H Q := by
  have z := x.slot i
  rw [he] at z
  obtain ⟨b, h1, h2, h3, h4, h5⟩ := z
  rw [ea] at h1
  cases h1
  cases h5 with
  | lst h r2 => exact ho ts us t ts' ho2 H F a _ vs h r2 r x.sub h2 Q fun v xs' rv rx => q v _ F (LeF.refl F) (x.write he ea h rx h2 h3 h4) rv
theorem SE.mutN (pa : PlainAttrs "list") (slot : Slot "list" name id) (hty : typeOf (.builtin id) = pure (.type "method_descriptor")) (hm : ∀ r, c.Ok r → MtR (c.cx r) id ρ) (ho : OpM c.g ρ op) (h : SA c (e :: es) f)
    (hN : c.N[i]? = some x := by rfl) (hv : Vis c.sc x := by first | exact Or.inl rfl | exact Or.inr (Or.inl rfl) | exact Or.inr (Or.inr rfl)) (hd : (x == ("__debug__" : Str)) = false := by decide) (hcd : (x == ("__classdict__" : Str)) = false := by decide)
    (hbase : ∀ env, attributeBase (.Name x p) name env (eval (.Name x p) env) = eval (.Name x p) env := by intro _; rfl)
    (hfew : ∀ env, ((backTo pos (starEach (e :: es) env)).all (fun x => !x.1) && (backToKw pos (keywordEach [] env)).all (fun x => x.1.isSome)
      && decide ((e :: es).length + ([] : List Keyword).length + (if ([] : List Keyword).isEmpty then 0 else 1) < 30)) = true := by intro _; rfl)
    (hline : (apos.endLine == pos.line) = true := by rfl) (hs : NoStar e := by intro _ _; rfl) (hplain : ∀ env, (backTo pos (starEach es env)).any (·.1) = false := by intro _; rfl) :
    SE c (.Call (.Attribute (.Name x p) name apos) (e :: es) [] pos) (isOw i (fMut i op f)) := by
  intro r W ok tk B s σ H F x' Q q
  have hv' : Vis (c.cx r).env.scope x := by rw [show (c.cx r).env.scope = c.sc from ok.sc]; exact hv
  refine PE.w (pe_bm pa slot hty (hm r ok) (pe_var (X := c.cx r) (i := i) hN hv' hd hcd) pA (hbase _) (hfew _) hline (hs _ _) (hplain _)) ?_
  unfold isOw at q
  cases h0 : s.env[i]? with
  | none => rw [h0] at q; exact q.elim
  | some b =>
    rw [h0] at q
    split at q
    · rename_i us0 heq
      cases heq
      have z := x'.slot i
      rw [h0] at z
      obtain ⟨a, h1, h2, h3, h4, h5⟩ := z
      cases h5 with
      | lst hh rr =>
        refine ⟨.ref a, h1, .inl ⟨rfl, _, SqL.of hh⟩, ?_⟩
        refine h r W ok tk B s σ H F x' _ ?_
        unfold fMut at q
        cases hf : f s with
        | ok us s1 =>
          rw [hf] at q
          intro vs H1 F1 l1 x1 r1
          dsimp only [Out.bind] at q
          split at q
          · rename_i ts he
            cases ho2 : op ts us with
            | none => rw [ho2] at q; exact q.elim
            | some w =>
              obtain ⟨t, ts'⟩ := w
              rw [ho2] at q
              exact mut_core ho x1 h1 he ho2 r1 fun v H' F' l x2 rv => q v H' F' (l1.trans l) x2 rv
          · exact q.elim
        | exc y s1 => rw [hf] at q; exact q
        | bad => rw [hf] at q; exact q
    · exact q.elim
theorem SE.mut0 (pa : PlainAttrs "list") (slot : Slot "list" name id) (hty : typeOf (.builtin id) = pure (.type "method_descriptor")) (hm : ∀ r, c.Ok r → MtR (c.cx r) id ρ) (ho : OpM c.g ρ op)
    (hN : c.N[i]? = some x := by rfl) (hv : Vis c.sc x := by first | exact Or.inl rfl | exact Or.inr (Or.inl rfl) | exact Or.inr (Or.inr rfl)) (hd : (x == ("__debug__" : Str)) = false := by decide) (hcd : (x == ("__classdict__" : Str)) = false := by decide)
    (hbase : ∀ env, attributeBase (.Name x p) name env (eval (.Name x p) env) = eval (.Name x p) env := by intro _; rfl) (hline : (apos.endLine == pos.line) = true := by rfl) :
    SE c (.Call (.Attribute (.Name x p) name apos) [] [] pos) (isOw i (fMut i op aNil)) := by
  intro r W ok tk B s σ H F x' Q q
  have hv' : Vis (c.cx r).env.scope x := by rw [show (c.cx r).env.scope = c.sc from ok.sc]; exact hv
  refine PE.w (pe_bm0 pa slot hty (hm r ok) (pe_var (X := c.cx r) (i := i) hN hv' hd hcd) (hbase _) hline) ?_
  unfold isOw at q
  cases h0 : s.env[i]? with
  | none => rw [h0] at q; exact q.elim
  | some b =>
    rw [h0] at q
    split at q
    · rename_i us0 heq
      cases heq
      have z := x'.slot i
      rw [h0] at z
      obtain ⟨a, h1, h2, h3, h4, h5⟩ := z
      cases h5 with
      | lst hh rr =>
        refine ⟨.ref a, h1, .inl ⟨rfl, _, SqL.of hh⟩, ?_⟩
        unfold fMut aNil at q
        dsimp only [Out.bind] at q
        rw [h0] at q
        dsimp only at q
        cases ho2 : op us0 [] with
        | none => rw [ho2] at q; exact q.elim
        | some w =>
          obtain ⟨t, ts'⟩ := w
          rw [ho2] at q
          exact mut_core ho x' h1 h0 ho2 .nil q
    · exact q.elim
end
/-! append, pop, pop(i), extend, clear, insert -/
def mApp (ts us : List T) : Option (T × List T) := match us with
  | [u] => if ts.length < 16777216 then some (.non, ts ++ [u]) else none
  | _ => none
def mPop (ts us : List T) : Option (T × List T) := match us with
  | [] => (ts[ts.length - 1]?).map fun t => (t, ts.dropLast)
  | [.int i] => if -(2 ^ 63) ≤ i ∧ i < 2 ^ 63 then (match seqIndex? i ts.length with
    | some k => (ts[k]?).map fun t => (t, ts.eraseIdx k)
    | none => none) else none
  | _ => none
def mExt (ts us : List T) : Option (T × List T) := match us with
  | [.lst vs] => if ts.length + vs.length ≤ 16777216 then some (.non, ts ++ vs) else none
  | _ => none
def mClr (ts us : List T) : Option (T × List T) := match us with
  | [] => some (.non, [])
  | _ => none
theorem rs1 {g : G} {F : Hp} {vs : List V} {t : T} (r : Reps g F vs [t]) : ∃ v, vs = [v] ∧ Rep g F v t := by
  cases r with
  | cons h h' => cases h'; exact ⟨_, rfl, h⟩
section
variable {g : G}
theorem OpM.app : OpM g rAppend mApp := by
  intro ts us t ts' h H F a xs vs ha r rv le fa Q q
  unfold mApp at h
  split at h
  · split at h
    · rename_i u hl
      cases h
      obtain ⟨v, rfl, r1⟩ := rs1 rv
      exact ⟨a, xs, v, rfl, rfl, ha, szlt (by rw [r.length]; exact hl), q .non _ .non (r.snoc r1)⟩
    · cases h
  · cases h
theorem OpM.pop : OpM g (fun x xs H Q => rPop x xs H Q ∨ rPopAt x xs H Q) mPop := by
  intro ts us t ts' h H F a xs vs ha r rv le fa Q q
  unfold mPop at h
  split at h
  · obtain ⟨u, h1, h2⟩ := Option.map_eq_some_iff.mp h
    cases h2
    cases rv
    rw [← r.length] at h1
    obtain ⟨v, h3, h4⟩ := r.get h1
    exact .inl ⟨a, xs, v, rfl, rfl, ha, h3, q v _ h4 r.dropLast⟩
  · split at h
    · rename_i i hi
      split at h
      · rename_i k hk
        obtain ⟨u, h1, h2⟩ := Option.map_eq_some_iff.mp h
        cases h2
        obtain ⟨w, rfl, r1⟩ := rs1 rv
        cases r1
        obtain ⟨v, h3, h4⟩ := r.get h1
        exact .inr ⟨a, xs, i, k, v, rfl, rfl, ha, hi.1, hi.2, by rw [r.length]; exact hk, h3, q v _ h4 (r.eraseIdx k)⟩
      · cases h
    · cases h
  · cases h
theorem OpM.ext : OpM g rExtend mExt := by
  intro ts us t ts' h H F a xs vs ha r rv le fa Q q
  unfold mExt at h
  split at h
  · split at h
    · rename_i ws hl
      cases h
      obtain ⟨v, rfl, r1⟩ := rs1 rv
      cases r1 with
      | lst h1 h2 => exact ⟨a, _, xs, _, rfl, rfl, ha, le _ _ h1, szl (by rw [r.length, h2.length]; exact hl), q .non _ .non (r.append h2)⟩
    · cases h
  · cases h
theorem OpM.clr : OpM g rClear mClr := by
  intro ts us t ts' h H F a xs vs ha r rv le fa Q q
  unfold mClr at h
  split at h
  · cases h
    cases rv
    exact ⟨a, xs, rfl, rfl, ha, q .non _ .non .nil⟩
  · cases h
end
theorem MtR.or {X : Cx} {id : String} {a b : V → List V → Hp → VK → Prop} (h : MtR X id a) (k : MtR X id b) : MtR X id (fun x xs H Q => a x xs H Q ∨ b x xs H Q) := by
  intro pins s σ H x xs v us Q I r1 r2 q
  rcases q with q | q
  · exact h pins s σ H x xs v us Q I r1 r2 q
  · exact k pins s σ H x xs v us Q I r1 r2 q
section
variable {c : C} {e : Expr} {p apos pos : Pos} {x : Str} {f : S → Out (List T)}
theorem SE.append (i : Nat) (h : SA c [e] f) (hN : c.N[i]? = some x := by rfl) (hv : Vis c.sc x := by first | exact Or.inl rfl | exact Or.inr (Or.inl rfl) | exact Or.inr (Or.inr rfl)) (hd : (x == ("__debug__" : Str)) = false := by decide) (hcd : (x == ("__classdict__" : Str)) = false := by decide)
    (hline : (apos.endLine == pos.line) = true := by rfl) (hs : NoStar e := by intro _ _; rfl)
    (hfew : ∀ env, ((backTo pos (starEach [e] env)).all (fun x => !x.1) && (backToKw pos (keywordEach [] env)).all (fun x => x.1.isSome)
      && decide ([e].length + ([] : List Keyword).length + (if ([] : List Keyword).isEmpty then 0 else 1) < 30)) = true := by intro _; rfl) :
    SE c (.Call (.Attribute (.Name x p) "append" apos) [e] [] pos) (isOw i (fMut i mApp f)) :=
  SE.mutN PySem.F.plainAttrs_list PySem.F.slot_list_append PySem.F.type_list_append (fun _ _ => mt_append) OpM.app h hN hv hd hcd (fun _ => rfl) hfew hline hs (fun _ => rfl)
theorem SE.extend (i : Nat) (h : SA c [e] f) (hN : c.N[i]? = some x := by rfl) (hv : Vis c.sc x := by first | exact Or.inl rfl | exact Or.inr (Or.inl rfl) | exact Or.inr (Or.inr rfl)) (hd : (x == ("__debug__" : Str)) = false := by decide) (hcd : (x == ("__classdict__" : Str)) = false := by decide)
    (hline : (apos.endLine == pos.line) = true := by rfl) (hs : NoStar e := by intro _ _; rfl)
    (hfew : ∀ env, ((backTo pos (starEach [e] env)).all (fun x => !x.1) && (backToKw pos (keywordEach [] env)).all (fun x => x.1.isSome)
      && decide ([e].length + ([] : List Keyword).length + (if ([] : List Keyword).isEmpty then 0 else 1) < 30)) = true := by intro _; rfl) :
    SE c (.Call (.Attribute (.Name x p) "extend" apos) [e] [] pos) (isOw i (fMut i mExt f)) :=
  SE.mutN PySem.F.plainAttrs_list PySem.F.slot_list_extend PySem.F.type_list_extend (fun _ _ => mt_extend) OpM.ext h hN hv hd hcd (fun _ => rfl) hfew hline hs (fun _ => rfl)
theorem SE.popAt (i : Nat) (h : SA c [e] f) (hN : c.N[i]? = some x := by rfl) (hv : Vis c.sc x := by first | exact Or.inl rfl | exact Or.inr (Or.inl rfl) | exact Or.inr (Or.inr rfl)) (hd : (x == ("__debug__" : Str)) = false := by decide) (hcd : (x == ("__classdict__" : Str)) = false := by decide)
    (hline : (apos.endLine == pos.line) = true := by rfl) (hs : NoStar e := by intro _ _; rfl)
    (hfew : ∀ env, ((backTo pos (starEach [e] env)).all (fun x => !x.1) && (backToKw pos (keywordEach [] env)).all (fun x => x.1.isSome)
      && decide ([e].length + ([] : List Keyword).length + (if ([] : List Keyword).isEmpty then 0 else 1) < 30)) = true := by intro _; rfl) :
    SE c (.Call (.Attribute (.Name x p) "pop" apos) [e] [] pos) (isOw i (fMut i mPop f)) :=
  SE.mutN PySem.F.plainAttrs_list PySem.F.slot_list_pop PySem.F.type_list_pop (fun _ _ => MtR.or mt_pop mt_popAt) OpM.pop h hN hv hd hcd (fun _ => rfl) hfew hline hs (fun _ => rfl)
theorem SE.pop (i : Nat) (hN : c.N[i]? = some x := by rfl) (hv : Vis c.sc x := by first | exact Or.inl rfl | exact Or.inr (Or.inl rfl) | exact Or.inr (Or.inr rfl)) (hd : (x == ("__debug__" : Str)) = false := by decide) (hcd : (x == ("__classdict__" : Str)) = false := by decide)
    (hline : (apos.endLine == pos.line) = true := by rfl) :
    SE c (.Call (.Attribute (.Name x p) "pop" apos) [] [] pos) (isOw i (fMut i mPop aNil)) :=
  SE.mut0 PySem.F.plainAttrs_list PySem.F.slot_list_pop PySem.F.type_list_pop (fun _ _ => MtR.or mt_pop mt_popAt) OpM.pop hN hv hd hcd (fun _ => rfl) hline
theorem SE.clear (i : Nat) (hN : c.N[i]? = some x := by rfl) (hv : Vis c.sc x := by first | exact Or.inl rfl | exact Or.inr (Or.inl rfl) | exact Or.inr (Or.inr rfl)) (hd : (x == ("__debug__" : Str)) = false := by decide) (hcd : (x == ("__classdict__" : Str)) = false := by decide)
    (hline : (apos.endLine == pos.line) = true := by rfl) :
    SE c (.Call (.Attribute (.Name x p) "clear" apos) [] [] pos) (isOw i (fMut i mClr aNil)) :=
  SE.mut0 PySem.F.plainAttrs_list PySem.F.slot_list_clear PySem.F.type_list_clear (fun _ _ => mt_clear) OpM.clr hN hv hd hcd (fun _ => rfl) hline
end

/-! ### xs[k] = e -/
def fSetIx (i : Nat) (f : S → Out T) (k : S → Out R) : S → Out Fl := fun s => (f s).bind fun t s1 => match s1.env[i]? with
  | some (.ow (.lst _)) => (k s1).bind fun z s2 => (match z, s2.env[i]? with
    | .val (.int n), some (.ow (.lst ts)) => (match ixN ts.length n with
      | some j => .ok .nx (s2.put i (.ow (.lst (ts.set j t))))
      | none => .bad)
    | _, _ => .bad)
  | _ => .bad
theorem SS.setIx {c : C} {v k : Expr} {p p2 pos : Pos} {x : Str} {f : S → Out T} {fk : S → Out R} (i : Nat) (h : SV c v f) (h2 : SE c k fk) (hN : c.N[i]? = some x := by rfl) (hv : Vis c.sc x := by first | exact Or.inl rfl | exact Or.inr (Or.inl rfl) | exact Or.inr (Or.inr rfl))
    (hd : (x == ("__debug__" : Str)) = false := by decide) (hcd : (x == ("__classdict__" : Str)) = false := by decide) (hs : ∀ n env, swapsWithSole [.Subscript (.Name x p) k p2] v n env = pure false := by intro _ _; rfl) (hw : ∀ env, swappedStores [.Subscript (.Name x p) k p2] v env = pure none := by intro _; rfl)
    (ha : ∀ (env : Env) v, assign (.Subscript (.Name x p) k p2) env v = (do
      let ov ← holding [v] (eval (.Name x p) env)
      let iv ← holding [v, ov] (eval k env)
      standAt p2
      holding [v, ov, iv] (setItem ov iv v)
      release [v, ov, iv] []) := by intro _ _; rfl) : SS c (.Assign [.Subscript (.Name x p) k p2] v pos) (fSetIx i f fk) := by
  intro r W ok tk B s σ H F x' D q
  have hv' : Vis (c.cx r).env.scope x := by rw [show (c.cx r).env.scope = c.sc from ok.sc]; exact hv
  refine PS.w (ps_asg (X := c.cx r) pE (pg_sub (pe_var (X := c.cx r) (i := i) hN hv' hd hcd) pE set_list (ha _)) (hs _ _) (hw _) rfl) (h r W ok tk B s σ H F x' _ ?_)
  unfold fSetIx at q
  cases hf : f s with
  | ok t s1 =>
    rw [hf] at q
    intro w H1 F1 l1 x1 r1
    have r1 : Rep c.g F1 w t := r1
    dsimp only [Out.bind] at q
    split at q
    · rename_i us0 h0
      have z := x1.slot i
      rw [h0] at z
      obtain ⟨a, h3, _, _, _, _⟩ := z
      refine ⟨.ref a, h3, ?_⟩
      refine h2 r W ok tk B s1 σ H1 F1 x1 _ ?_
      cases hk : fk s1 with
      | ok z s2 =>
        rw [hk] at q
        dsimp only at q
        split at q
        · rename_i n ts he
          split at q
          · rename_i j hj
            intro w2 H2 F2 l2 x2 r2
            cases r2
            have z := x2.slot i
            rw [he] at z
            obtain ⟨b, k1, k2, k3, k4, k5⟩ := z
            rw [h3] at k1
            cases k1
            cases k5 with
            | lst hh rr =>
              exact ⟨a, _, n, j, rfl, rfl, hh, by rw [rr.length]; exact hj, q σ _ F2 (l1.trans l2) (x2.write he h3 hh (rr.set j (r1.mono l2)) k2 k3 k4)⟩
          · exact q.elim
        · exact q.elim
      | exc y s2 => rw [hk] at q; exact fun cls d H2 F2 l2 x2 => q cls d σ H2 F2 (l1.trans l2) x2
      | bad => rw [hk] at q; exact q
    · exact q.elim
  | exc y s1 => rw [hf] at q; exact fun cls d H' F' l x' => q cls d σ H' F' l x'
  | bad => rw [hf] at q; exact q

/-! ### name op= e -/
def fAug (i : Nat) (op : T → T → Option R) (f : S → Out R) : S → Out Fl := fun s => match s.env[i]? with
  | some (.sh u) => (f s).bind fun z s1 => (match z with
    | .val t => (match op u t with
      | some (.val w) => .ok .nx (s1.put i (.sh w))
      | _ => .bad)
    | _ => .bad)
  | _ => .bad
theorem SS.aug {c : C} {o : Operator} {e : Expr} {p pos : Pos} {x : Str} {f : S → Out R} {op : T → T → Option R} {ρ : R2} (i : Nat) (hr : ∀ r, c.Ok r → OpR (c.cx r) (inplaceOp o) ρ) (ho : Op2 c.g ρ op) (h : SE c e f) (hN : c.N[i]? = some x := by rfl)
    (hx : Sto c x := by first | exact Or.inl rfl | exact Or.inr ⟨rfl, rfl⟩) : SS c (.AugAssign (.Name x p) o e pos) (fAug i op f) := by
  intro r W ok tk B s σ H F x' D q pins ss I
  obtain ⟨h1, h2⟩ := ok.loc hx
  refine (ps_aug (X := c.cx r) (i := i) ok.nd hN h1 pE (ti := ρ) (fun pins s σ H x y v u Q I r1 r2 q => hr r ok pins s σ H x y v u Q I r1 r2 q) h2).run pins ss σ H D I ?_
  unfold fAug at q
  split at q
  · rename_i u hu
    have z := x'.slot i
    rw [hu] at z
    obtain ⟨w, e1, rw1⟩ := z
    refine ⟨w, e1, h r W ok tk B s σ H F x' _ ?_⟩
    cases hf : f s with
    | ok z s1 =>
      rw [hf] at q
      dsimp only [Out.bind] at q
      split at q
      · rename_i t
        split at q
        · rename_i w' hop
          intro v H1 F1 l1 x1 r1
          exact ho u t _ hop B s1 σ H1 F1 w v x1 (.fr (rw1.mono l1)) (.fr r1) _ fun v' H2 F2 l2 x2 r2 => q _ H2 F2 (l1.trans l2) (x2.setSh (lt_of I hN) r2)
        · exact q.elim
      · exact q.elim
    | exc y s1 => rw [hf] at q; exact fun cls d H' F' l x' => q cls d σ H' F' l x'
    | bad => rw [hf] at q; exact q
  · exact q.elim
def opMulS : T → T → Option R
  | .int i, .int j => if (-(2 ^ 64) < i ∧ i < 2 ^ 64) ∨ (-(2 ^ 64) < j ∧ j < 2 ^ 64) then some (.val (.int (i * j))) else none
  | _, _ => none
theorem Op2.mulS {g : G} : Op2 g (rI CMul fun i j => .int (i * j)) opMulS := by
  intro t1 t2 r h B s σ H F v1 v2 x r1 r2 Q q
  unfold opMulS at h
  split at h
  · split at h
    · rename_i hc
      cases h
      exact ⟨_, _, r1.int, r2.int, hc, q _ H F (LeF.refl F) x (.int _)⟩
    · cases h
  · cases h
def opAddI : T → T → Option R
  | .int i, .int j => some (.val (.int (i + j)))
  | _, _ => none
theorem Op2.addI {g : G} : Op2 g (rI0 fun i j => .int (i + j)) opAddI := by
  intro t1 t2 r h B s σ H F v1 v2 x r1 r2 Q q
  unfold opAddI at h
  split at h
  · cases h
    exact ⟨_, _, r1.int, r2.int, q _ H F (LeF.refl F) x (.int _)⟩
  · cases h
section
variable {c : C} {e : Expr} {p pos : Pos} {x : Str} {f : S → Out R}
theorem SS.augAdd (i : Nat) (h : SE c e f) (hN : c.N[i]? = some x := by rfl) (hx : Sto c x := by first | exact Or.inl rfl | exact Or.inr ⟨rfl, rfl⟩) : SS c (.AugAssign (.Name x p) .Add e pos) (fAug i opAddI f) :=
  SS.aug i (fun _ _ => iop_add) Op2.addI h hN hx
theorem SS.augMul (i : Nat) (h : SE c e f) (hN : c.N[i]? = some x := by rfl) (hx : Sto c x := by first | exact Or.inl rfl | exact Or.inr ⟨rfl, rfl⟩) : SS c (.AugAssign (.Name x p) .Mult e pos) (fAug i opMulS f) :=
  SS.aug i (fun _ _ => iop_mul) Op2.mulS h hN hx
end
end Tv
namespace Tv
open PySem PySem.Spec PyProof.Rows L2

/-! ### a thing held beside -/
section
variable {g : G} {B : Bs} {s : S} {σ : L2.St} {H F : Hp} {d : Addr} {o : HO}
theorem Rl.hold (x : Rl g B s σ H F) (fr : Fr g B s σ F d) (h : H d = some o) : Rl g ⟨upd B.H d o, B.F, B.a⟩ s σ H F := by
  refine ⟨x.sub, fun b u q => ?_, x.old, fun b u q => ?_, fun i => ?_, x.dis, x.dr, (show Bd g ⟨upd B.H d o, B.F, B.a⟩ from ⟨(upd_ne (Ne.symm fr.n.da)).trans x.bd.da, (upd_ne (Ne.symm fr.n.la)).trans x.bd.la, (upd_ne (Ne.symm fr.n.ca)).trans x.bd.ca, fun p hp => (upd_ne (Ne.symm (fr.n.tb p hp))).trans (x.bd.tb p hp)⟩), x.mkd⟩
  · rcases x.new b u q with z | z
    · exact .inl z
    · refine .inr ?_
      show upd B.H d o b = none
      rw [upd_ne]
      · exact z
      · intro e; subst e; rw [fr.f] at q; cases q
  · have q : upd B.H d o b = some u := q
    by_cases hb : b = d
    · subst hb; rw [upd_same] at q; cases q; exact h
    · rw [upd_ne hb] at q; exact x.keep _ _ q
  · have z := x.slot i
    unfold SlOk at z ⊢
    split at z
    · exact z
    · rename_i t ht
      obtain ⟨a, h1, h2, h3, h4, h5⟩ := z
      refine ⟨a, h1, h2, ?_, h4, h5⟩
      show upd B.H d o a = none
      rw [upd_ne]
      · exact h3
      · intro e; subst e; exact fr.s i t ht h1
    · trivial
theorem Rl.unhold (x : Rl g ⟨upd B.H d o, B.F, B.a⟩ s σ H F) (hb : B.H d = none) (hf : B.F d = none) (n : Ne3 g d) : Rl g B s σ H F ∧ Fr g B s σ F d ∧ H d = some o := by
  have e : upd B.H d o d = some o := upd_same
  have up : ∀ a, upd B.H d o a = none → B.H a = none := fun a q => by
    by_cases hb : a = d
    · subst hb; rw [upd_same] at q; cases q
    · rw [upd_ne hb] at q; exact q
  refine ⟨⟨x.sub, fun b u q => (x.new b u q).imp id (up b), x.old, fun b u q => x.keep b u ?_, fun i => ?_, x.dis, x.dr, ⟨up _ x.bd.da, up _ x.bd.la, up _ x.bd.ca, fun p hp => up _ (x.bd.tb p hp)⟩, x.mkd⟩, ⟨?_, hb, n, fun i t he q => ?_⟩, x.keep _ _ e⟩
  · show upd B.H d o b = some u
    rw [upd_ne (ne_of_none q hb)]; exact q
  · have z := x.slot i
    unfold SlOk at z ⊢
    split at z
    · exact z
    · obtain ⟨a, h1, h2, h3, h4, h5⟩ := z
      exact ⟨a, h1, h2, up a h3, h4, h5⟩
    · trivial
  · cases q : F d with
    | none => rfl
    | some u =>
      rcases x.new d u q with z | z
      · rw [hf] at z; cases z
      · exact absurd (z.symm.trans e) (fun z => nomatch z)
  · have z := x.slot i
    rw [he] at z
    obtain ⟨a, h1, _, h3, _, _⟩ := z
    rw [q] at h1
    cases h1
    exact absurd (h3.symm.trans e) (fun z => nomatch z)
end

/-! ### slots that a comprehension has for itself -/
def wipeE (env : List Sl) : List Nat → List Sl
  | [] => env
  | v :: vs => (wipeE env vs).set v .no
theorem wipeE_length (env : List Sl) : ∀ vs : List Nat, (wipeE env vs).length = env.length
  | [] => rfl
  | v :: vs => by rw [wipeE, List.length_set, wipeE_length env vs]
theorem wipe_get (σ : L2.St) : ∀ (vs : List Nat) (i : Nat), i ∉ vs → (wipe σ vs)[i]? = σ[i]?
  | [], _, _ => rfl
  | v :: vs, i, h => by
    rw [wipe, List.getElem?_set_ne (fun e => h (by simp [e])), wipe_get σ vs i (fun z => h (List.mem_cons_of_mem _ z))]
theorem wipeE_get (env : List Sl) : ∀ (vs : List Nat) (i : Nat), i ∉ vs → (wipeE env vs)[i]? = env[i]?
  | [], _, _ => rfl
  | v :: vs, i, h => by
    rw [wipeE, List.getElem?_set_ne (fun e => h (by simp [e])), wipeE_get env vs i (fun z => h (List.mem_cons_of_mem _ z))]
theorem wipeE_in (env : List Sl) : ∀ (vs : List Nat) (i : Nat), i ∈ vs → (wipeE env vs)[i]? = none ∨ (wipeE env vs)[i]? = some .no
  | [], _, h => absurd h (by simp)
  | v :: vs, i, h => by
    rw [wipeE]
    by_cases e : v = i
    · subst e
      by_cases hl : v < (wipeE env vs).length
      · rw [List.getElem?_set_self hl]; exact .inr rfl
      · exact .inl (List.getElem?_eq_none (by rw [List.length_set]; omega))
    · rw [List.getElem?_set_ne e]
      exact wipeE_in env vs i ((List.mem_cons.mp h).resolve_left (fun z => e z.symm))
def S.wipe (s : S) (vs : List Nat) : S := { s with env := wipeE s.env vs }
/-- the slots of vs as they stood in s -/
def S.back (s2 s : S) (vs : List Nat) : S := { s2 with env := vs.foldr (fun v env => match s.env[v]? with | some b => env.set v b | none => env) s2.env }
def noOw (s : S) (vs : List Nat) : Bool := vs.all fun v => match s.env[v]? with
  | some (.ow _) => false
  | _ => true
section
variable {g : G} {B : Bs} {s s2 : S} {σ : L2.St} {H H2 F F2 : Hp} {vs : List Nat}
theorem Rl.wipe (x : Rl g B s σ H F) (vs : List Nat) : Rl g B (s.wipe vs) (L2.wipe σ vs) H F := by
  refine ⟨x.sub, x.new, x.old, x.keep, fun i => ?_, fun i j t u a h1 h2 h3 h4 => ?_, x.dr, x.bd, fun i c fs h => by
    have h : (wipeE s.env vs)[i]? = some (.ow (.obj c fs)) := h
    have ni : i ∉ vs := fun z => by rcases wipeE_in s.env vs i z with q | q <;> (rw [q] at h; cases h)
    rw [wipeE_get _ _ _ ni] at h
    rw [wipe_get _ _ _ ni]
    exact x.mkd i c fs h⟩
  · show SlOk g B H F ((L2.wipe σ vs)[i]?) ((wipeE s.env vs)[i]?)
    by_cases hi : i ∈ vs
    · rcases wipeE_in s.env vs i hi with z | z
      · rw [z]; trivial
      · rw [z]; trivial
    · rw [wipe_get σ vs i hi, wipeE_get s.env vs i hi]; exact x.slot i
  · have h1 : (wipeE s.env vs)[i]? = some (.ow t) := h1
    have h2 : (wipeE s.env vs)[j]? = some (.ow u) := h2
    have ni : i ∉ vs := fun z => by rcases wipeE_in s.env vs i z with q | q <;> (rw [q] at h1; cases h1)
    have nj : j ∉ vs := fun z => by rcases wipeE_in s.env vs j z with q | q <;> (rw [q] at h2; cases h2)
    rw [wipeE_get _ _ _ ni] at h1
    rw [wipeE_get _ _ _ nj] at h2
    rw [wipe_get _ _ _ ni] at h3
    rw [wipe_get _ _ _ nj] at h4
    exact x.dis i j t u a h1 h2 h3 h4
theorem back_get (s2 s : S) : ∀ (vs : List Nat) (i : Nat), (S.back s2 s vs).env[i]? = s2.env[i]? ∨ (i ∈ vs ∧ (S.back s2 s vs).env[i]? = s.env[i]?)
  | [], i => .inl rfl
  | v :: vs, i => by
    have ih := back_get s2 s vs i
    show (match s.env[v]? with | some b => (S.back s2 s vs).env.set v b | none => (S.back s2 s vs).env)[i]? = _ ∨ _ ∧ (match s.env[v]? with | some b => (S.back s2 s vs).env.set v b | none => (S.back s2 s vs).env)[i]? = _
    cases hv : s.env[v]? with
    | none =>
      dsimp only
      rcases ih with z | ⟨z1, z2⟩
      · exact .inl z
      · exact .inr ⟨List.mem_cons_of_mem _ z1, z2⟩
    | some b =>
      dsimp only
      by_cases e : v = i
      · subst e
        by_cases hl : v < (S.back s2 s vs).env.length
        · rw [List.getElem?_set_self hl]; exact .inr ⟨List.mem_cons_self, hv.symm⟩
        · rw [List.getElem?_eq_none (by rw [List.length_set]; omega)]
          rw [List.getElem?_eq_none (by omega)] at ih
          rcases ih with z | ⟨z1, z2⟩
          · exact .inl z
          · exact .inr ⟨List.mem_cons_of_mem _ z1, z2⟩
      · rw [List.getElem?_set_ne e]
        rcases ih with z | ⟨z1, z2⟩
        · exact .inl z
        · exact .inr ⟨List.mem_cons_of_mem _ z1, z2⟩
/-- behind a comprehension -/
theorem Rl.back (x : Rl g B s σ H F) (le : LeF F F2) (x2 : Rl g B (s2.wipe vs) (L2.wipe σ vs) H2 F2) (no : noOw s vs = true) (hs : s2 = s2.wipe vs) : Rl g B (s2.back s vs) σ H2 F2 := by
  have no' : ∀ v ∈ vs, ∀ t, s.env[v]? ≠ some (.ow t) := fun v hv t e => by
    have z := List.all_eq_true.mp no v hv
    rw [e] at z; cases z
  have e2 : (s2.wipe vs).env = s2.env := by rw [← hs]
  refine ⟨x2.sub, x2.new, x2.old, x2.keep, fun i => ?_, fun i j t u a h1 h2 h3 h4 => ?_, by have d := x2.dr; exact d, x2.bd, fun i c fs h => by
    rcases back_get s2 s vs i with z | ⟨z1, z⟩
    · rw [z] at h
      have ni : i ∉ vs := fun w => by
        have q := wipeE_in s2.env vs i w
        rw [show wipeE s2.env vs = s2.env from e2] at q
        rcases q with q | q <;> (rw [q] at h; cases h)
      have m := x2.mkd i c fs (by rw [e2]; exact h)
      rw [wipe_get _ _ _ ni] at m
      exact m
    · rw [z] at h
      exact absurd h (no' i z1 _)⟩
  · by_cases hi : i ∈ vs
    · rcases back_get s2 s vs i with z | ⟨_, z⟩
      · rw [z]
        have q := wipeE_in s2.env vs i hi
        rw [show wipeE s2.env vs = s2.env from e2] at q
        rcases q with q | q <;> (rw [q]; trivial)
      · rw [z]
        have q := x.slot i
        unfold SlOk at q ⊢
        split at q
        · obtain ⟨v, h1, h2⟩ := q
          exact ⟨v, h1, h2.mono le⟩
        · rename_i t ht
          exact absurd ht (no' i hi t)
        · trivial
    · have z : (s2.back s vs).env[i]? = s2.env[i]? := by
        rcases back_get s2 s vs i with z | ⟨z, _⟩
        · exact z
        · exact absurd z hi
      rw [z]
      have q := x2.slot i
      rw [e2, wipe_get σ vs i hi] at q
      exact q
  · have f : ∀ (k : Nat) (w : T), (s2.back s vs).env[k]? = some (Sl.ow w) → k ∉ vs ∧ s2.env[k]? = some (Sl.ow w) := fun k w q => by
      rcases back_get s2 s vs k with z | ⟨z1, z⟩
      · rw [z] at q
        refine ⟨fun hk => ?_, q⟩
        have q2 := wipeE_in s2.env vs k hk
        rw [show wipeE s2.env vs = s2.env from e2] at q2
        rcases q2 with q2 | q2 <;> (rw [q2] at q; cases q)
      · rw [z] at q
        exact absurd q (no' k z1 w)
    obtain ⟨n1, k1⟩ := f _ _ h1
    obtain ⟨n2, k2⟩ := f _ _ h2
    refine x2.dis i j t u a (by rw [e2]; exact k1) (by rw [e2]; exact k2) (by rw [wipe_get _ _ _ n1]; exact h3) (by rw [wipe_get _ _ _ n2]; exact h4)
end

/-! ### [e for x in xs if t] -/
/-- no exception leaves -/
def Out.nx {α : Type} : Out α → Out α
  | .exc _ _ => .bad
  | o => o
def lcL (own : List Nat) (gf : T → S → Option S) (ft : S → Out Bool) (fe : S → Out T) : List T → List T → S → Out (List T)
  | [], acc, s => .ok acc s
  | t :: ts, acc, s => match gf t s with
    | none => .bad
    | some s1 => match ft s1 with
      | .ok true s2 => (match fe s2 with
        | .ok y s3 => if acc.length < 16777216 then lcL own gf ft fe ts (acc ++ [y]) (s3.wipe own) else .bad
        | _ => .bad)
      | .ok false s2 => lcL own gf ft fe ts acc (s2.wipe own)
      | _ => .bad
def fLc (it : S → Out (List T)) (own : List Nat) (gf : T → S → Option S) (ft : S → Out Bool) (fe : S → Out T) : S → Out R := fun s => (it s).bind fun ts s1 =>
  if noOw s1 own = true then (match lcL own gf ft fe ts [] (s1.wipe own) with
    | .ok acc s2 => .ok (.frs (.lst acc)) (s2.back s1 own)
    | _ => .bad) else .bad
def tYesF : S → Out Bool := fun s => .ok true s
/-- the context within -/
abbrev C.blk (c : C) (scope : Scope) : C := { c with sc := relS scope c.sc, fnl := fun x => (scope.names.lookup x == some .cell), lam := none }
abbrev Rn.blk (r : Rn) (s : Shared) (H : Hp) (scope : Scope) (cl : List (Str × Addr)) (cc : Addr) (fp : List Addr) : Rn :=
  { r with s0 := s, H0 := H, env := compEnvC scope cl cc r.env, outer := r.stack, ex := fp, fn := fun x => (scope.names.lookup x == some .cell), pn := [], xe := fun _ _ => False }
theorem lcL_wiped.idem {own : List Nat} (s : S) : s.wipe own = (s.wipe own).wipe own := by
  have : ∀ env, wipeE (wipeE env own) own = wipeE env own := fun env => by
    apply List.ext_getElem?
    intro i
    by_cases hi : i ∈ own
    · have hl := wipeE_length env own
      rcases wipeE_in (wipeE env own) own i hi with z | z <;> rcases wipeE_in env own i hi with q | q
      · rw [z, q]
      · rw [z, q]
        have h1 := List.getElem?_eq_none_iff.mp z
        rw [wipeE_length] at h1
        have h2 := (List.getElem?_eq_some_iff.mp q).1
        omega
      · rw [z, q]
        have h1 := List.getElem?_eq_none_iff.mp q
        have h2 := (List.getElem?_eq_some_iff.mp z).1
        rw [wipeE_length] at h2
        omega
      · rw [z, q]
    · rw [wipeE_get _ _ _ hi]
  unfold S.wipe
  rw [this]
theorem lcL_wiped {own : List Nat} {gf : T → S → Option S} {ft : S → Out Bool} {fe : S → Out T} : ∀ {ts acc : List T} {s s2 : S} {a : List T}, s = s.wipe own → lcL own gf ft fe ts acc s = .ok a s2 → s2 = s2.wipe own
  | [], acc, s, s2, a, h, e => by
    cases e; exact h
  | t :: ts, acc, s, s2, a, h, e => by
    unfold lcL at e
    split at e
    · cases e
    · split at e
      · split at e
        · split at e
          · exact lcL_wiped (lcL_wiped.idem _) e
          · cases e
        · cases e
      · exact lcL_wiped (lcL_wiped.idem _) e
      · cases e
end Tv
namespace Tv
open PySem PySem.Spec PyProof.Rows L2

section
variable {c : C} {r : Rn}
theorem C.Ok.blk (ok : c.Ok r) {scope : Scope} (s : Shared) (H : Hp) (cl : List (Str × Addr)) (cc : Addr) (fp : List Addr) : (c.blk scope).Ok (r.blk s H scope cl cc fp) where
  sc := by
    show relabel scope r.env = relS scope c.sc
    have e := ok.sc
    rw [← e]
    rfl
  nd := ok.nd
  calm := ok.calm
  room := ok.room
  gd := ok.gd
  fnc := fun x h => h
  pass := PassesOwn.never
  lam := fun l h => nomatch h
theorem dif_wipe {vs ws : List Nat} {σ σ' : L2.St} (d : Dif ws (L2.wipe σ vs) σ') (h : ∀ j ∈ ws, j ∈ vs) : L2.wipe σ' vs = L2.wipe σ vs := by
  have len : ∀ (τ : L2.St) (us : List Nat), (L2.wipe τ us).length = τ.length := fun τ us => by
    induction us with
    | nil => rfl
    | cons v us ih => rw [L2.wipe, List.length_set, ih]
  have inn : ∀ (τ : L2.St) (us : List Nat) (i : Nat), i ∈ us → i < τ.length → (L2.wipe τ us)[i]? = some none := fun τ us i => by
    induction us with
    | nil => intro h; exact absurd h (by simp)
    | cons v us ih =>
      intro h hl
      rw [L2.wipe]
      by_cases e : v = i
      · subst e; rw [List.getElem?_set_self (by rw [len]; exact hl)]
      · rw [List.getElem?_set_ne e]; exact ih ((List.mem_cons.mp h).resolve_left (fun z => e z.symm)) hl
  have hl : σ'.length = σ.length := by rw [d.1, len]
  apply List.ext_getElem?
  intro i
  by_cases hi : i ∈ vs
  · by_cases hr : i < σ.length
    · rw [inn _ _ _ hi (by omega), inn _ _ _ hi hr]
    · rw [List.getElem?_eq_none (by rw [len]; omega), List.getElem?_eq_none (by rw [len]; omega)]
  · rw [wipe_get _ _ _ hi, d.2 i (fun z => hi (h i z))]
end

section
variable {c : C} {elt tg iter : Expr} {ifs : List Expr} {scope : Scope} {own : List (Str × Nat)} {pos : Pos} {it : S → Out (List T)} {gf : T → S → Option S} {ws : List Nat} {ft : S → Out Bool} {fe : S → Out T}
/-- the tests of a comprehension: none, or one -/
def SIf (c : C) (ifs : List Expr) (ft : S → Out Bool) : Prop := ∃ tw : (Cx → TT), (∀ X : Cx, PTs X ifs (tw X)) ∧ ∀ r W, c.Ok r → Takes (c.cx r) W → ∀ B s σ H F, Rl c.g B s σ H F → ∀ Q, Po c.g B σ F W rT Q (ft s) → tw (c.cx r) σ H Q
theorem SIf.nil : SIf c [] tYesF := ⟨fun _ => tYes, fun _ => pts_nil, fun r W ok tk B s σ H F x Q q => q true H F (LeF.refl F) x rfl⟩
theorem SIf.one {e : Expr} (h : STs c e ft) : SIf c [e] ft := ⟨fun X => wT X e, fun X => pts_one pT, fun r W ok tk B s σ H F x Q q => h r W ok tk B s σ H F x Q q⟩
def lcG (X : Cx) (scope : Scope) (tg : Expr) : TG := fun v σ H Q => ∀ s0 H0 cc cl fp, wG (X.blk s0 H0 scope (compEnvC scope cl cc X.env) fp) tg v σ H Q
def lcT (X : Cx) (scope : Scope) (tw : Cx → TT) : TT := fun σ H Q => ∀ s0 H0 cc cl fp, tw (X.blk s0 H0 scope (compEnvC scope cl cc X.env) fp) σ H Q
def lcE (X : Cx) (scope : Scope) (e : Expr) : TE := fun σ H Q => ∀ s0 H0 cc cl fp, wE (X.blk s0 H0 scope (compEnvC scope cl cc X.env) fp) e σ H Q
theorem lcG_ok {X : Cx} {scope : Scope} {tg : Expr} (s : Shared) (H : Hp) (cc : Addr) (cl : List (Str × Addr)) (fp : List Addr) : PG (X.blk s H scope (compEnvC scope cl cc X.env) fp) tg (lcG X scope tg) :=
  ⟨fun pins s' _ _ _ u _ I rv h => h s H cc cl fp pins s' u I rv⟩
theorem lcT_ok {X : Cx} {scope : Scope} {ifs : List Expr} {tw : Cx → TT} (tw1 : ∀ X : Cx, PTs X ifs (tw X)) (s : Shared) (H : Hp) (cc : Addr) (cl : List (Str × Addr)) (fp : List Addr) : PTs (X.blk s H scope (compEnvC scope cl cc X.env) fp) ifs (lcT X scope tw) :=
  ⟨fun pins s' σ H' Q I h => (tw1 _).run pins s' σ H' Q I (h s H cc cl fp)⟩
theorem lcE_ok {X : Cx} {scope : Scope} {e : Expr} (s : Shared) (H : Hp) (cc : Addr) (cl : List (Str × Addr)) (fp : List Addr) : PE (X.blk s H scope (compEnvC scope cl cc X.env) fp) e (lcE X scope e) :=
  ⟨fun pins s' _ _ _ I h => h s H cc cl fp pins s' I⟩
/-- what the rule of a comprehension asks -/
theorem lc_read (hg : SG (c.blk scope) tg gf ws) (hw : ∀ j ∈ ws, j ∈ own.map (·.2)) (he : SV (c.blk scope) elt fe) {tw : Cx → TT}
    (ht : ∀ r W, (c.blk scope).Ok r → Takes ((c.blk scope).cx r) W → ∀ B s σ H F, Rl c.g B s σ H F → ∀ Q, Po c.g B σ F W rT Q (ft s) → tw ((c.blk scope).cx r) σ H Q)
    (hi : SI c tg iter it) {r : Rn} {W : WX} (ok : c.Ok r) (tk : Takes (c.cx r) W) {B : Bs} {s : S} {σ : L2.St} {H F : Hp} (x : Rl c.g B s σ H F) {Q : VK} (q : Po c.g B σ F W (rE c.g B σ) Q (fLc it (own.map (·.2)) gf ft fe s)) :
    tLc (wI (c.cx r) tg iter) (lcG (c.cx r) scope tg) (lcT (c.cx r) scope tw) (lcE (c.cx r) scope elt) (own.map (·.2)) σ H Q := by
  refine hi r W ok tk B s σ H F x _ ?_
  unfold fLc at q
  cases hf : it s with
  | exc y s1 => rw [hf] at q; exact q
  | bad => rw [hf] at q; exact q
  | ok ts s1 =>
    rw [hf] at q
    intro J H1 F1 l1 x1 sr D hD
    dsimp only [Out.bind] at q
    split at q
    case isFalse => exact q.elim
    rename_i no
    split at q
    case h_2 => exact q.elim
    rename_i acc s2 hlc
    have f1 := x1.fresh hD
    have nD := f1.n
    have bD := f1.b
    have bF : B.F D = none := x1.old.free f1.f
    have le0 : LeF H1 (upd H1 D (.lst [])) := LeF.upd hD
    have x2 : Rl c.g ⟨upd B.H D (.lst []), B.F, B.a⟩ s1 σ (upd H1 D (.lst [])) F1 := (x1.alloc hD).hold f1 upd_same
    refine ⟨fun i m H => m = ts.length - i ∧ i ≤ ts.length ∧ ∃ s' F' av at', LeF F1 F' ∧ Rl c.g ⟨upd B.H D (.lst av), B.F, B.a⟩ s' (L2.wipe σ (own.map (·.2))) H F' ∧ Reps c.g F' av at' ∧ lcL (own.map (·.2)) gf ft fe (ts.drop i) at' s' = .ok acc s2 ∧ s' = s'.wipe (own.map (·.2)), ⟨ts.length, ?_⟩, ?_⟩
    · refine ⟨by simp, Nat.zero_le _, s1.wipe _, F1, [], [], LeF.refl F1, x2.wipe _, .nil, by simpa using hlc, ?_⟩
      exact lcL_wiped.idem s1
    · rintro i m H3 ⟨rfl, hi', s3, F3, av, at', l3, x3, r3, e3, w3⟩
      have sub3 : LeF F1 H3 := l3.trans x3.sub
      by_cases hlt : i < ts.length
      · refine .inr ⟨sr.go i H3 sub3 hlt, fun H' => i + 1 ≤ ts.length ∧ ∃ s' F' av at', LeF F1 F' ∧ Rl c.g ⟨upd B.H D (.lst av), B.F, B.a⟩ s' (L2.wipe σ (own.map (·.2))) H' F' ∧ Reps c.g F' av at' ∧ lcL (own.map (·.2)) gf ft fe (ts.drop (i + 1)) at' s' = .ok acc s2 ∧ s' = s'.wipe (own.map (·.2)),
          fun H' h => ⟨ts.length - (i + 1), by omega, rfl, h⟩, fun v H4 hy s0 H0 cc cl fp => ?_⟩
        have ht' : ts[i]? = some ts[i] := List.getElem?_eq_getElem hlt
        obtain ⟨F4, l4, x4, r4⟩ := sr.yld i v H3 H4 _ sub3 ht' hy _ s3 _ F3 l3 x3
        rw [List.drop_eq_getElem_cons hlt] at e3
        unfold lcL at e3
        cases hgf : gf ts[i] s3 with
        | none => rw [hgf] at e3; cases e3
        | some s4 =>
          rw [hgf] at e3
          dsimp only at e3
          have okb := ok.blk (scope := scope) s0 H0 cl cc fp
          refine hg _ okb _ s3 _ H4 F4 v _ s4 x4 r4 hgf _ fun σ4 x5 d4 => ⟨dif_wipe d4 hw, fun s0' H0' cc' cl' fp' => ?_⟩
          have okb' := ok.blk (scope := scope) s0' H0' cl' cc' fp'
          refine ht _ _ okb' takes0 _ s4 σ4 H4 F4 x5 _ ?_
          cases hft : ft s4 with
          | ok b s5 =>
            rw [hft] at e3
            intro b' H5 F5 l5 x6 eb
            subst eb
            cases b' with
            | true =>
              rw [if_pos rfl]
              dsimp only at e3
              intro s0'' H0'' cc'' cl'' fp''
              have okb'' := ok.blk (scope := scope) s0'' H0'' cl'' cc'' fp''
              refine he _ _ okb'' takes0 _ s5 σ4 H5 F5 x6 _ ?_
              cases hfe : fe s5 with
              | ok y s6 =>
                rw [hfe] at e3
                intro w H6 F6 l6 x7 rw'
                dsimp only at e3
                split at e3
                case isFalse => cases e3
                rename_i hlen
                obtain ⟨x8, f8, h8⟩ := x7.unhold bD bF nD
                have l36 : LeF F3 F6 := l4.trans (l5.trans l6)
                refine ⟨av, h8, szlt (by rw [r3.length]; exact hlen), by omega, s6.wipe _, F6, av ++ [w], at' ++ [y], l3.trans l36, ?_, (r3.mono l36).snoc rw', e3, lcL_wiped.idem s6⟩
                have x9 : Rl c.g B s6 σ4 (upd H6 D (.lst (av ++ [w]))) F6 := by
                  have k : ∀ b o, b ≠ D → H6 b = some o → upd H6 D (.lst (av ++ [w])) b = some o := fun b o hb q => by rw [upd_ne hb]; exact q
                  refine ⟨fun b u q => k b u (fun z => by subst z; rw [f8.f] at q; cases q) (x8.sub _ _ q), x8.new, x8.old, fun b u q => k b u (fun z => by subst z; rw [bD] at q; cases q) (x8.keep _ _ q), fun j => ?_, x8.dis, ?_, x8.bd, x8.mkd⟩
                  · have z := x8.slot j
                    unfold SlOk at z ⊢
                    split at z
                    · exact z
                    · rename_i t ht0
                      obtain ⟨b, h1, h2, h3, h4, h5⟩ := z
                      have hb : b ≠ D := fun q => by subst q; exact f8.s j t ht0 h1
                      refine ⟨b, h1, h2, h3, h4, ?_⟩
                      cases h5 with
                      | lst q r => exact .lst (k _ _ hb q) r
                      | ins q q2 q3 qd r => exact .ins (k _ _ hb q) (k _ _ (fun z => by rw [z, h8] at q2; cases q2) q2) q3 qd r
                    · trivial
                  · exact x8.dr.other k nD (lst_no h8)
                have f9 : Fr c.g B s6 σ4 F6 D := f8
                have z := (x9.hold f9 upd_same).wipe (own.map (·.2))
                rw [dif_wipe d4 hw] at z
                exact z
              | exc y s6 => rw [hfe] at e3; cases e3
              | bad => rw [hfe] at e3; cases e3
            | false =>
              rw [if_neg Bool.false_ne_true]
              dsimp only at e3
              refine ⟨by omega, s5.wipe _, F5, av, at', l3.trans (l4.trans l5), ?_, r3.mono (l4.trans l5), e3, lcL_wiped.idem s5⟩
              have z := x6.wipe (own.map (·.2))
              rw [dif_wipe d4 hw] at z
              exact z
          | exc y s5 => rw [hft] at e3; cases e3
          | bad => rw [hft] at e3; cases e3
      · have e : i = ts.length := by omega
        subst e
        rw [List.drop_length] at e3
        unfold lcL at e3
        cases e3
        obtain ⟨x4, f4, h4⟩ := x3.unhold bD bF nD
        refine .inl ⟨sr.stop H3 sub3, ?_⟩
        have xb := x1.back l3 (by rw [← w3]; exact x4) no w3
        refine q (.ref D) H3 F3 (l1.trans l3) xb ⟨D, av, rfl, ⟨f4.f, bD, nD, fun j t hj hq => ?_⟩, h4, _, rfl, r3⟩
        have z := x3.keep D (.lst av) upd_same
        have zz := xb.slot j
        rw [hj] at zz
        obtain ⟨a, k1, k2, k3, k4, k5⟩ := zz
        rw [hq] at k1
        cases k1
        rcases back_get s2 s1 (own.map (·.2)) j with y | ⟨y1, y2⟩
        · rw [y] at hj
          have nj : j ∉ own.map (·.2) := fun hin => by
            have q2 := wipeE_in s2.env (own.map (·.2)) j hin
            rw [show wipeE s2.env (own.map (·.2)) = s2.env from (congrArg S.env w3).symm] at q2
            rcases q2 with q2 | q2 <;> (rw [q2] at hj; cases hj)
          exact f4.s j t hj (by rw [wipe_get _ _ _ nj]; exact hq)
        · rw [y2] at hj
          have z := List.all_eq_true.mp no j y1
          rw [hj] at z; cases z
theorem SE.lc (hi : SI c tg iter it) (bo : BlkOk c.N c.sc scope own) (hg : SG (c.blk scope) tg gf ws) (ht : SIf (c.blk scope) ifs ft) (he : SV (c.blk scope) elt fe) (hw : ∀ j ∈ ws, j ∈ own.map (·.2) := by decide) (hs : ∀ env x, foldedSetIterable iter env x = pure x := by intro _ _; rfl) :
    SE c (.ListComp elt [⟨tg, iter, ifs, 0⟩] scope pos) (fLc it (own.map (·.2)) gf ft fe) := by
  intro r W ok tk B s σ H F x Q q
  obtain ⟨tw, tw1, tw2⟩ := ht
  have bo' : BlkOk (c.cx r).N (c.cx r).env.scope scope own := by rw [show (c.cx r).env.scope = c.sc from ok.sc]; exact bo
  exact PE.w (pe_lc (X := c.cx r) ok.calm ok.nd pI bo' lcG_ok (lcT_ok tw1) lcE_ok (hs _))
    (lc_read hg hw he tw2 hi ok tk x q)
/-- name = [..] -/
theorem SS.setLc {i : Nat} {y : Str} {py spos : Pos} (hi : SI c tg iter it) (bo : BlkOk c.N c.sc scope own) (hg : SG (c.blk scope) tg gf ws) (ht : SIf (c.blk scope) ifs ft) (he : SV (c.blk scope) elt fe)
    (hN : c.N[i]? = some y := by rfl) (hy : c.sc.names.lookup y = some .local := by rfl) (hk : c.sc.kind = .function := by rfl) (hl : (py.line == pos.line) = true := by rfl) (ha : (scope.names.any fun (n, k) => n == y && (k == .local || k == .cell)) = false := by rfl)
    (hw : ∀ j ∈ ws, j ∈ own.map (·.2) := by decide) (hs : ∀ env x, foldedSetIterable iter env x = pure x := by intro _ _; rfl) :
    SS c (.Assign [.Name y py] (.ListComp elt [⟨tg, iter, ifs, 0⟩] scope pos) spos) (fSet i (fLc it (own.map (·.2)) gf ft fe)) := by
  intro r W ok tk B s σ H F x D q pins ss I
  obtain ⟨tw, tw1, tw2⟩ := ht
  have es : (c.cx r).env.scope = c.sc := ok.sc
  have bo' : BlkOk (c.cx r).N (c.cx r).env.scope scope own := by rw [es]; exact bo
  refine (ps_setLc (X := c.cx r) ok.calm ok.nd hN (by rw [es]; exact hy) (sw_true (by rw [es]; exact hk) (by rw [es]; exact hy) hl ha) pI bo' lcG_ok (lcT_ok tw1) lcE_ok (hs _)).run pins ss σ H D I ?_
  exact lc_read hg hw he tw2 hi ok tk x (fSet_po (lt_of I hN) q)
end
end Tv
namespace Tv
open PySem PySem.Spec PyProof.Rows L2

/-! ### what a def answers -/
inductive Res where
  | ok (t : T) (fr : Bool) (D : Dr) | exc (x : Ex) (D : Dr) | bad
/-- how the heap has grown over a call -/
structure Gr (g : G) (H F H' F' : Hp) : Prop where
  f : LeF F F'
  sub : LeF F' H'
  new : ∀ a o, F' a = some o → F a = some o ∨ H a = none
  keep : ∀ a o, Ne3 g a → H a = some o → H' a = some o
def rRt (g : G) (H : Hp) (t : T) (fr : Bool) (v : V) (H' F' : Hp) : Prop := match fr with
  | false => Rep g F' v t
  | true => ∃ a xs, v = .ref a ∧ F' a = none ∧ H a = none ∧ Ne3 g a ∧ H' a = some (.lst xs) ∧ ∃ us, t = .lst us ∧ Reps g F' xs us
def PoR (g : G) (H F : Hp) (Q : VK) (E : XK) : Res → Prop
  | .ok t fr D' => ∀ v H' F', Gr g H F H' F' → DrOk g H' F' D' → rRt g H t fr v H' F' → Q v H'
  | .exc x D' => ∀ cls d H' F', Gr g H F H' F' → DrOk g H' F' D' → XRep g x cls d H' F' → E cls d H'
  | .bad => False
abbrev Phi := List T → Dr → Res
def spT (g : G) (n : Nat) (φ : Phi) : Sp := fun vs H Q E => ∃ (F : Hp) (ts : List T) (D : Dr), vs.length = n ∧ LeF F H ∧ Reps g F vs ts ∧ DrOk g H F D ∧ PoR g H F Q E (φ ts D)

structure FnG (g : G) (k : Nat) (f : Addr) (fd : FuncData) (ps : List Str) (sp : Sp) : Prop where
  len : ∀ vs H Q E, sp vs H Q E → vs.length = ps.length
  run : ∀ (A : Around) (outer : List Env) (s : Shared) (H : Hp) (args : Args) (us : List Value) (vs : List V) (Q : VK) (E : XK), Room k A → A.guards = some [] → Env0 g.P g.w g.K g.mg g.base A outer s H → BindsTo s fd args (ps.zip us) → Vals vs us → sp vs H Q E →
    codeAny (model g.P g.w) A (.call (.ref f) args) (CR (L2.CX g.P g.w) outer g.P g.w H s Q E) s
theorem FnG.mono {g : G} {j k : Nat} {f : Addr} {fd : FuncData} {ps : List Str} {sp : Sp} (F : FnG g j f fd ps sp) (h : j ≤ k) : FnG g k f fd ps sp := ⟨F.len, fun A outer s H args us vs Q E hr => F.run A outer s H args us vs Q E (hr.mono h)⟩
theorem FnG.imp {g : G} {k : Nat} {f : Addr} {fd : FuncData} {ps : List Str} {sp sp' : Sp} (F : FnG g k f fd ps sp) (h : ∀ vs H Q E, sp' vs H Q E → sp vs H Q E) : FnG g k f fd ps sp' :=
  ⟨fun vs H Q E q => F.len vs H Q E (h _ _ _ _ q), fun A outer s H args us vs Q E hr hg he hb hv hs => F.run A outer s H args us vs Q E hr hg he hb hv (h _ _ _ _ hs)⟩

/-- own fn_of -/
theorem fnG_of {g : G} {k : Nat} {f : Addr} {name qual : Str} {params : Arguments} {body : List Stmt} {scope : Scope} {dV kV doc pm cdv ct oc : Value} {an od : Option Addr} {osl : Array (Option Value)} {N ps : List Str} {sp : Sp}
    (lk : g.K.lookup f = some ⟨oc, od, .func (PySem.W.fnOf name qual params body scope dV kV doc pm an cdv ct), osl⟩) (hcd : PySem.W.codeIn g.K cdv qual = true) (S : FnScope N ps scope)
    (len : ∀ vs H Q E, sp vs H Q E → vs.length = ps.length)
    (hbody : ∀ (A : Around) (outer : List Env) (s : Shared) (H : Hp) (vs : List V) (Q : VK) (E : XK), Room k (A.deeper (envOfC qual scope s.heap.objs.size f cdv)) → A.guards = some [] → sp vs H Q E →
      ∃ t, PSs (cxOf (L2.CX g.P g.w) g.P g.w g.K g.mg g.base N qual scope f cdv A outer s H E) body t ∧ t { nx := fun _ H' => Q .non H', rt := Q } (start N vs) H) :
    FnG g (k + 1) f (PySem.W.fnOf name qual params body scope dV kV doc pm an cdv ct) ps sp := by
  refine ⟨len, fun A outer s H args us vs Q E hr hgd e0 hb r hsp => ?_⟩
  have hl := len _ _ _ _ hsp
  have KX : g.K.In s.heap := e0.mod.kin.keeps fun b o e => (e0.bs b o e).1
  have lim : s.heap.NoLimit := e0.mod.nolimit.keeps fun b o e => (e0.bs b o e).1
  have hkind : ∀ y ∈ ps.zip us, scope.names.lookup y.1 = some .local ∨ (scope.names.lookup y.1 = some .cell ∧ ((cellsFrom (s.heap.objs.size + 1) scope.names []).lookup y.1).isSome = true) := fun ⟨n, v⟩ hy => by
    rcases S.par n (List.of_mem_zip hy).1 with q | q
    · exact .inl q
    · exact .inr ⟨q, PySem.W.cellsFrom_some _ _ _ (.inl q)⟩
  refine codeAny_call_function hr.depth (KX _ _ lk) rfl S.co S.gen rfl (PySem.W.codeRec_of KX hcd) (hb _ _ _ _ ?_)
  refine wpAny_newFunctionEnv_cells S.kind hkind fun env he s1 x => ?_
  subst he
  refine ⟨lim.keeps x.toInCall.keep, codeAny_func ?_⟩
  obtain ⟨t, ht, hq⟩ := hbody A outer s H vs Q E (hr.deeper _) hgd hsp
  have I : Inv (cxOf (L2.CX g.P g.w) g.P g.w g.K g.mg g.base N qual scope f cdv A outer s H E) [] (start N vs) H s1 := inv_start S hr.hd e0 hl r x
  refine wpAny_mono (ht.run [] s1 (start N vs) H _ I hq) (fun fl s' hs => ?_) fun e s' hs => hs
  have fin : ∀ {σ' : L2.St} {H' : Hp} {v : V} {u : Value}, Inv (cxOf (L2.CX g.P g.w) g.P g.w g.K g.mg g.base N qual scope f cdv A outer s H E) [] σ' H' s' → RelV v u → Q v H' → CE outer g.P g.w H s Q u s' :=
    fun {σ' H' v u} J rv q => ⟨v, H', J.os, J.bare, J.base, J.hok, rv, q⟩
  cases fl with
  | ret u =>
    obtain ⟨v, σ', H', J, rv, q⟩ := hs
    exact fin J rv q
  | next =>
    obtain ⟨σ', H', J, q⟩ := hs
    exact fin (v := V.non) (u := Value.none) J rfl q
  | brk =>
    obtain ⟨_, _, _, q⟩ := hs
    exact False.elim q
  | cont =>
    obtain ⟨_, _, _, q⟩ := hs
    exact False.elim q

/-! ### the ground that a def keeps -/
open Classical in
noncomputable def cut (g : G) (H : Hp) : Hp := fun a => if Ne3 g a then H a else none
theorem cut_le {g : G} {H : Hp} : LeF (cut g H) H := fun a o e => by
  unfold cut at e
  split at e
  · exact e
  · cases e
theorem cut_ne {g : G} {H : Hp} {a : Addr} (n : Ne3 g a) : cut g H a = H a := by
  unfold cut
  rw [if_pos n]
theorem cut_no {g : G} {H : Hp} {a : Addr} (n : ¬ Ne3 g a) : cut g H a = none := by
  unfold cut
  rw [if_neg n]
theorem Ne3.not {g : G} {a : Addr} (n : ¬ Ne3 g a) : a = g.da ∨ a = g.la ∨ a = g.ca ∨ ∃ p ∈ g.tb, a = p.1 := by
  by_cases h1 : a = g.da
  · exact .inl h1
  by_cases h2 : a = g.la
  · exact .inr (.inl h2)
  by_cases h3 : a = g.ca
  · exact .inr (.inr (.inl h3))
  by_cases h4 : ∃ p ∈ g.tb, a = p.1
  · exact .inr (.inr (.inr h4))
  · exact absurd ⟨h1, h2, h3, fun p hp e => h4 ⟨p, hp, e⟩⟩ n
theorem DrOk.fno {g : G} {H F : Hp} {D : Dr} (d : DrOk g H F D) {a : Addr} (n : ¬ Ne3 g a) : F a = none := by
  rcases Ne3.not n with h | h | h | ⟨p, hp, h⟩
  · rw [h]; exact d.fda
  · rw [h]; exact d.fla
  · rw [h]; exact d.fca
  · rw [h]; exact d.ftb p hp
theorem Bd.no {g : G} {B : Bs} (d : Bd g B) {a : Addr} (n : ¬ Ne3 g a) : B.H a = none := by
  rcases Ne3.not n with h | h | h | ⟨p, hp, h⟩
  · rw [h]; exact d.da
  · rw [h]; exact d.la
  · rw [h]; exact d.ca
  · rw [h]; exact d.tb p hp
theorem Bd.cut {g : G} {H F : Hp} : Bd g ⟨cut g H, F, 0⟩ := ⟨cut_no fun n => n.da rfl, cut_no fun n => n.la rfl, cut_no fun n => n.ca rfl, fun p hp => cut_no fun n => n.tb p hp rfl⟩
/-- the slots at the entry -/
def ent (N : List Str) (ts : List T) (D : Dr) : S := ⟨ts.map Sl.sh ++ List.replicate (N.length - ts.length) .no, D⟩
theorem Rl.start {g : G} {N : List Str} {vs : List V} {ts : List T} {H F : Hp} {D : Dr} (le : LeF F H) (r : Reps g F vs ts) (d : DrOk g H F D) : Rl g ⟨cut g H, F, 0⟩ (ent N ts D) (L2.start N vs) H F := by
  have hl := r.length
  have nw : ∀ (i : Nat) (t : T), (ent N ts D).env[i]? ≠ some (.ow t) := fun i t e => by
    have e : (ts.map Sl.sh ++ List.replicate (N.length - ts.length) .no)[i]? = some (.ow t) := e
    by_cases hi : i < ts.length
    · rw [List.getElem?_append_left (by simpa using hi), List.getElem?_map] at e
      cases q : ts[i]? with
      | none => rw [q] at e; cases e
      | some u => rw [q] at e; cases e
    · rw [List.getElem?_append_right (by simpa using hi), List.getElem?_replicate] at e
      split at e <;> cases e
  refine ⟨le, fun a o e => .inl e, LeF.refl F, cut_le, fun i => ?_, fun i j t u a h1 h2 => absurd h1 (nw i t), d, Bd.cut, fun i c fs h => absurd h (nw i _)⟩
  show SlOk g _ H F ((vs.map some ++ List.replicate (N.length - vs.length) none)[i]?) ((ts.map Sl.sh ++ List.replicate (N.length - ts.length) .no)[i]?)
  by_cases hi : i < ts.length
  · rw [List.getElem?_append_left (by rw [List.length_map]; omega), List.getElem?_append_left (by rw [List.length_map]; omega), List.getElem?_map, List.getElem?_map]
    obtain ⟨v, h1, h2⟩ := r.get (List.getElem?_eq_getElem hi)
    rw [h1, List.getElem?_eq_getElem hi]
    exact ⟨v, rfl, h2⟩
  · rw [List.getElem?_append_right (l₁ := ts.map Sl.sh) (by simpa using hi), List.getElem?_replicate]
    split <;> trivial
theorem Rl.gr {g : G} {s : S} {σ : L2.St} {H F H' F' : Hp} (x : Rl g ⟨cut g H, F, 0⟩ s σ H' F') : Gr g H F H' F' :=
  ⟨x.old, x.sub, fun a o e => (x.new a o e).imp id fun z => by
    by_cases n : Ne3 g a
    · exact (cut_ne n).symm.trans z
    · exact absurd ((x.dr.fno n).symm.trans e) (fun z => nomatch z), fun a o n e => x.keep a o ((cut_ne n).trans e)⟩
theorem Rl.call {g : G} {B : Bs} {s : S} {σ : L2.St} {H F H' F' : Hp} {D : Dr} (x : Rl g B s σ H F) (r : Gr g H F H' F') (d : DrOk g H' F' D) : Rl g B { s with D := D } σ H' F' := by
  refine ⟨r.sub, fun a o e => ?_, x.old.trans r.f, fun a o e => ?_, fun i => ?_, x.dis, d, x.bd, x.mkd⟩
  · rcases r.new a o e with z | z
    · exact x.new a o z
    · exact .inr (x.keep.free z)
  · by_cases n : Ne3 g a
    · exact r.keep a o n (x.keep a o e)
    · rw [x.bd.no n] at e; cases e
  · have z := x.slot i
    show SlOk g B H' F' (σ[i]?) (s.env[i]?)
    unfold SlOk at z ⊢
    split at z
    · rename_i t ht
      obtain ⟨v, h1, h2⟩ := z
      exact ⟨v, h1, h2.mono r.f⟩
    · rename_i t ht
      obtain ⟨a, h1, h2, h3, h4, h5⟩ := z
      have fno : ∀ b o, H b = some o → F b = none → F' b = none := fun b o q1 q2 => by
        cases q : F' b with
        | none => rfl
        | some u =>
          rcases r.new b u q with z | z
          · rw [q2] at z; cases z
          · rw [q1] at z; cases z
      obtain ⟨o, ho⟩ := h5.there
      refine ⟨a, h1, fno a o ho h2, h3, h4, ?_⟩
      cases h5 with
      | lst q rs => exact .lst (r.keep _ _ h4 q) (rs.mono r.f)
      | ins q q2 q3 qd rs =>
        refine .ins (r.keep _ _ h4 q) (r.keep _ _ ?_ q2) (fno _ _ q2 q3) qd (rs.mono r.f)
        refine ⟨fun e => ?_, fun e => ?_, fun e => ?_, fun p hp e => ?_⟩
        · rw [e, x.dr.da] at q2; cases q2
        · rw [e, x.dr.la] at q2; cases q2
        · rw [e, x.dr.ca] at q2; cases q2
        · obtain ⟨ps, h1, _⟩ := x.dr.tb p hp
          rw [e, h1] at q2; cases q2
    · trivial

/-! ### a def's body -/
def resOf : Out Fl → Res
  | .ok .nx s => .ok .non false s.D
  | .ok (.rt t fr) s => .ok t fr s.D
  | .ok _ _ => .bad
  | .exc x s => .exc x s.D
  | .bad => .bad
def phi (N : List Str) (f : S → Out Fl) : Phi := fun ts D => resOf (f (ent N ts D))
theorem fnG_body {g : G} {k : Nat} {f : Addr} {name qual : Str} {params : Arguments} {body : List Stmt} {scope : Scope} {dV kV doc pm cdv ct oc : Value} {an od : Option Addr} {osl : Array (Option Value)} {N ps : List Str} {φ : S → Out Fl} {lam : Option LamI}
    (lk : g.K.lookup f = some ⟨oc, od, .func (PySem.W.fnOf name qual params body scope dV kV doc pm an cdv ct), osl⟩) (hcd : PySem.W.codeIn g.K cdv qual = true) (S : FnScope N ps scope)
    (h : SSs ⟨g, N, scope, k, fun _ => true, lam⟩ body φ) (hlam : ∀ l, lam = some l → cdv = .ref l.c ∧ qual ++ ".<locals>." ++ "<lambda>" = l.q ∧ LamX.TabB g.base g.mg l.c l.P ∧ (l.P, l.q) ∈ g.tb ∧ ∀ p ∈ g.tb, p.1 = l.P → p.2 = l.q := by intro _ z; cases z) : FnG g (k + 1) f (PySem.W.fnOf name qual params body scope dV kV doc pm an cdv ct) ps (spT g ps.length (phi N φ)) := by
  refine fnG_of lk hcd S (fun vs H Q E ⟨_, _, _, z, _⟩ => z) fun A outer s H vs Q E hr hg ⟨F, ts, D, hl, le, rs, dr, q⟩ => ?_
  let c : C := ⟨g, N, scope, k, fun _ => true, lam⟩
  let r : Rn := ⟨A.deeper (envOfC qual scope s.heap.objs.size f cdv), s, H, envOfC qual scope s.heap.objs.size f cdv, outer, envOfC qual scope s.heap.objs.size f cdv :: outer, [], fun _ => true, true, [], (cxOf (L2.CX g.P g.w) g.P g.w g.K g.mg g.base N qual scope f cdv A outer s H E).xe⟩
  have okc : c.Ok r := ⟨rfl, S.nd, rfl, hr, (by
    show (A.deeper _).guards = some []
    exact hg), fun x _ => rfl, passes_of (X := c.cx r) rfl, hlam⟩
  have tk : Takes (c.cx r) (fun cls d _ H => E cls d H) := takes_of rfl rfl rfl rfl
  refine ⟨wSs (c.cx r) body, pSs, h r _ okc tk ⟨cut g H, F, 0⟩ (ent N ts D) (L2.start N vs) H F (Rl.start le rs dr) _ ?_⟩
  unfold phi resOf at q
  split at q
  · rename_i s1 e
    rw [e]
    exact fun σ' H' F' l x => q .non H' F' x.gr x.dr .non
  · rename_i t fr s1 e
    rw [e]
    intro v σ' H' F' l x hr'
    refine q v H' F' x.gr x.dr ?_
    cases fr with
    | false => exact hr'
    | true =>
      obtain ⟨a, xs, rfl, h1, h2, h3, h4, us, rfl, h5⟩ := hr'
      exact ⟨a, xs, rfl, h1, (cut_ne h3).symm.trans h2, h3, h4, us, rfl, h5⟩
  · exact q.elim
  · rename_i y s1 e
    rw [e]
    exact fun cls d σ' H' F' l x hx => q cls d H' F' x.gr x.dr hx
  · exact q.elim

/-! ### a def of the text -/
structure DefAt (g : G) (x qual : Str) (params : Arguments) (body : List Stmt) (scope : Scope) : Prop where
  ex : ∃ (f : Addr) (oc : Value) (od : Option Addr) (kV doc pm : Value) (an : Option Addr) (cdv ct : Value) (osl : Array (Option Value)),
    g.K.lookup f = some ⟨oc, od, .func (PySem.W.fnOf x qual params body scope .none kV doc pm an cdv ct), osl⟩ ∧ PySem.W.codeIn g.K cdv qual = true ∧ g.mg x = some (.ref f) ∧ PySem.W.keepIn g.K (.ref f) = true
structure Fg (g : G) (k : Nat) (x : Str) (n : Nat) (φ : Phi) : Prop where
  ex : ∃ (f : Addr) (fd : FuncData) (ps : List Str), FnG g k f fd ps (spT g n φ) ∧ g.mg x = some (.ref f) ∧ PySem.W.keepIn g.K (.ref f) = true ∧ Binds g.K fd ps []
theorem Fg.of {g : G} {k : Nat} {x qual : Str} {params : Arguments} {body : List Stmt} {scope : Scope} {N ps : List Str} {f : S → Out Fl} (D : DefAt g x qual params body scope) (h : SSs ⟨g, N, scope, k, fun _ => true, none⟩ body f) (sc : FnScope N ps scope)
    (hb : ∀ (kV doc pm : Value) (an : Option Addr) (cdv ct : Value) (us : List Value), us.length = ps.length → bindArgs (PySem.W.fnOf x qual params body scope .none kV doc pm an cdv ct) ⟨us, []⟩ = pure (ps.zip us)) : Fg g (k + 1) x ps.length (phi N f) := by
  obtain ⟨fa, oc, od, kV, doc, pm, an, cdv, ct, osl, lk, hcd, hm, hk⟩ := D.ex
  exact ⟨fa, _, ps, fnG_body lk hcd sc h, hm, hk, .all (hb kV doc pm an cdv ct)⟩
theorem Fg.imp {g : G} {k n : Nat} {x : Str} {φ φ' : Phi} (h : Fg g k x n φ) (e : ∀ ts D, φ' ts D ≠ .bad → φ ts D = φ' ts D) : Fg g k x n φ' := by
  obtain ⟨f, fd, ps, h1, h2⟩ := h.ex
  refine ⟨f, fd, ps, h1.imp fun vs H Q E ⟨F, ts, D, a, b, c, d, q⟩ => ⟨F, ts, D, a, b, c, d, ?_⟩, h2⟩
  rw [e ts D fun z => by rw [z] at q; exact q]
  exact q
theorem Fg.mono {g : G} {j k n : Nat} {x : Str} {φ : Phi} (h : Fg g j x n φ) (hk : j ≤ k) : Fg g k x n φ := by
  obtain ⟨f, fd, ps, h1, h2⟩ := h.ex
  exact ⟨f, fd, ps, h1.mono hk, h2⟩

/-! ### a call -/
def fDef (n : Nat) (φ : Phi) (f : S → Out (List T)) : S → Out R := fun s => (f s).bind fun ts s1 => if ts.length = n then (match φ ts s1.D with
  | .ok t false D => .ok (.val t) { s1 with D := D }
  | .ok t true D => .ok (.frs t) { s1 with D := D }
  | .exc x D => .exc x { s1 with D := D }
  | .bad => .bad) else .bad
section
variable {g : G} {B : Bs} {s s1 : S} {σ : L2.St} {H F H1 F1 : Hp} {vs : List V} {ts : List T} {Q : VK} {W : WX} {φ : Phi} {n : Nat}
theorem call_post (x1 : Rl g B s1 σ H1 F1) (r1 : Reps g F1 vs ts) (l1 : LeF F F1) (hn : vs.length = n) (q : Po g B σ F W (rE g B σ) Q (match φ ts s1.D with
    | .ok t false D => (.ok (.val t) { s1 with D := D } : Out R)
    | .ok t true D => .ok (.frs t) { s1 with D := D }
    | .exc x D => .exc x { s1 with D := D }
    | .bad => .bad)) : spT g n φ vs H1 Q (WE W σ) := by
  refine ⟨F1, ts, s1.D, hn, x1.sub, r1, x1.dr, ?_⟩
  cases hφ : φ ts s1.D with
  | ok t fr D =>
    rw [hφ] at q
    cases fr with
    | false => exact fun v H' F' gr d hr => q v H' F' (l1.trans gr.f) (x1.call gr d) hr
    | true =>
      intro v H' F' gr d hr
      obtain ⟨a, xs, rfl, h1, h2, h3, h4, us, rfl, h5⟩ := hr
      refine q (.ref a) H' F' (l1.trans gr.f) (x1.call gr d) ⟨a, xs, rfl, ⟨h1, x1.keep.free h2, h3, fun i t e z => ?_⟩, h4, us, rfl, h5⟩
      have w := x1.slot i
      rw [show s1.env[i]? = some (.ow t) from e] at w
      obtain ⟨b, k1, _, _, _, k5⟩ := w
      rw [z] at k1
      cases k1
      obtain ⟨o, ho⟩ := k5.there
      rw [h2] at ho; cases ho
  | exc y D => rw [hφ] at q; exact fun cls d H' F' gr dd hx => q cls d H' F' (l1.trans gr.f) (x1.call gr dd) hx
  | bad => rw [hφ] at q; exact q
end
section
variable {X : Cx} {g : G} {k n : Nat} {f : Addr} {fd : FuncData} {ps : List Str} {sp : Sp} {E : L2.St → XK}
theorem run_fnG {c : C} {r : Rn} {pins : List (Addr × Obj)} {σ : L2.St} {H : Hp} {s : Shared} {Q : VK} {E : L2.St → XK} {us : List Value} {vs : List V} (F : FnG c.g k f fd ps sp) (hr : Room k r.A) (hg : r.A.guards = some []) (hb : Binds c.g.K fd ps []) (hx : PassesAt (L2.CX c.g.P c.g.w) (c.cx r) σ (E σ))
    (I : Inv (c.cx r) pins σ H s) (rv : Vals vs us) (h : sp vs H Q (E σ)) : wpAny (model c.g.P c.g.w) r.A (call (.ref f) us) (EP (c.cx r) pins σ Q) r.xe s := by
  have hl : us.length = ps.length := by rw [← rv.length]; exact F.len _ _ _ _ h
  have b := hb s us I.kIn (by rw [List.append_nil]; exact hl)
  rw [List.append_nil] at b
  refine wpAny_call (codeAny_mono (F.run r.A r.stack s H ⟨us, []⟩ us vs Q (E σ) hr hg I.env0 b rv h) fun rr s' hq => ?_)
  cases rr with
  | error e => exact hx pins H s e s' I hq
  | ok fl =>
    cases fl with
    | ret u => exact I.after hq
    | next => exact False.elim hq
    | brk => exact False.elim hq
    | cont => exact False.elim hq
end
section
variable {c : C} {x : Str} {p pos : Pos} {e : Expr} {es : List Expr} {k n : Nat} {φ : Phi}
theorem SE.call {f : S → Out (List T)} (h : Fg c.g k x n φ) (ha : SA c (e :: es) f) (hk : k ≤ c.k := by exact Nat.le_of_ble_eq_true rfl) (hg : c.sc.names.lookup x = some .globalImplicit := by rfl) (hdb : (x == ("__debug__" : Str)) = false := by decide)
    (hs : NoStar e := by intro _ _; rfl) (hpl : ∀ env, (backTo pos (starEach es env)).any (·.1) = false := by intro _; rfl) : SE c (.Call (.Name x p) (e :: es) [] pos) (fDef n φ f) := by
  intro r W ok tk B s σ H F x0 Q q pins ss I
  obtain ⟨fa, fd, ps, hF, hm, hkp, hb⟩ := h.ex
  refine wpAny_Call_Name_kw (ld_glob (X := c.cx r) I (by show r.env.scope.names.lookup x = _; rw [ok.sc]; exact hg) hm ?_ hdb)
  refine PySem.W.callWith_K (h₀ := c.g.base) I.ok.mod.kin hkp (thn (ha r W ok tk B s σ H F x0 (fun vs H1 => spT c.g n φ vs H1 Q (WE W σ)) ?_ pos pins ss I) fun us s1 ⟨vs, H1, I1, rv, q⟩ => ⟨I1.kIn, ?_⟩) (hs _ _) (hpl _)
  · unfold fDef at q
    cases hf : f s with
    | ok ts s1 =>
      rw [hf] at q
      dsimp only [Out.bind] at q
      intro vs H1 F1 l1 x1 r1
      split at q
      · rename_i hl
        exact call_post x1 r1 l1 (r1.length.trans hl) q
      · exact q.elim
    | exc y s1 => rw [hf] at q; exact q
    | bad => rw [hf] at q; exact q
  · exact run_fnG hF (ok.room.mono hk) ok.gd hb (passAt tk σ) I1 rv q
end
end Tv
namespace Tv
open PySem PySem.Spec PyProof.Rows L2

/-! ### an own exception class whose __init__ says super().__init__('..') and stores its one parameter -/
/-- the body -/
def xBody (msg par : Str) (p0 p1 pa pc pe pq0 pq1 pq2 pq3 pm : Pos) (j : Nat) : List Stmt :=
  [.Expr (.Call (.Attribute (.Call (.Name "super" p0) [] [] p1) "__init__" pa) [.Constant (.str msg) j pm] [] pc) pe,
   .Assign [.Attribute (.Name "self" pq0) par pq1] (.Name par pq2) pq3]
structure XCls (P : Program) (K : PySem.W.Frag) (C : Addr) (par qual : Str) (params : Arguments) (body : List Stmt) (scope : Scope) : Prop where
  T : OexC K C
  fn : ∃ (fI : Addr) (oc : Value) (od : Option Addr) (kV doc pm : Value) (an : Option Addr) (cda cc : Addr) (ct : Value) (osl : Array (Option Value)),
    PySem.W.findIn K (.ref C) "__init__" = some (some (.ref fI)) ∧ PySem.W.typeIn K (.ref fI) = some (.type "function") ∧
    K.lookup fI = some ⟨oc, od, .func (PySem.W.fnX "__init__" qual params body scope [(("__class__" : Str), cc)] .none kV doc pm an (.ref cda) ct), osl⟩ ∧
    PySem.W.codeIn K (.ref cda) qual = true ∧
    (∃ (ccl : Value) (cdd : Option Addr) (vs : Array Value) (ccs : Array (Option Value)) (file : Str) (tf : Tok), K.lookup cda = some ⟨ccl, cdd, .fields vs, ccs⟩ ∧ vs[2]? = some (.str file tf) ∧ ((P.main.file : Str) == file) = true) ∧
    (∃ (cl : Value) (cld : Option Addr) (csl : Array (Option Value)), K.lookup cc = some ⟨cl, cld, .cell (some (.ref C)), csl⟩)
  sub : PySem.W.mroIn K C (.ref C) = some true
  op : PySem.W.nsIn K cStatics "thirdparty.any" = some none
  sup : PySem.W.ks_superIn K C C "__init__" = some (some (.builtin "ValueError.__init__"))
  ve : PySem.W.subIn K (.ref C) (.type "ValueError") = some true
  no : PySem.W.findIn K (.ref C) par = some none
  top : (P.main.scope.names.lookup ("super" : Str)).isSome = false

/-- how its first statement is read -/
def SupEv (msg : Str) (p0 p1 pa pc pm : Pos) (j : Nat) : Prop := ∀ env : Env, ∃ pl : Sem Bool, eval (.Call (.Attribute (.Call (.Name "super" p0) [] [] p1) "__init__" pa) [.Constant (.str msg) j pm] [] pc) env = (do
      let ov ← attributeBase (.Call (.Name "super" p0) [] [] p1) "__init__" env (eval (.Call (.Name "super" p0) [] [] p1) env)
      standAt pa.atName
      let (f, first) ← holding [ov] (getMethod ov "__init__" pl)
      callWith pc f first (backTo pc (starEach [.Constant (.str msg) j pm] env)) [])
/-- its promise -/
def spX (C : Addr) (par : Str) : Sp := fun vs H Q _ => ∃ a y, vs = [.ref a, y] ∧ H a = some (exo a C none) ∧ ∀ dx, H dx = none → dx ≠ a → Q .non (upd (upd H dx (exd dx [(par, y)])) a (exo a C (some dx)))

theorem bootSuper : bootBuiltins "super" = some (.type "super") := by first | exact PyProof.Rows.Boot.«super» | kernel_rfl | decide +kernel

section
variable {P : Program} {w : World} {K : PySem.W.Frag} {mg : Str → Option Value} {base : Heap} {C fI cda cc : Addr} {par qual msg : Str} {params : Arguments} {scope : Scope} {p0 p1 pa pc pe pq0 pq1 pq2 pq3 pm : Pos} {j : Nat} {A : Around} {outer : List Env} {s : Shared} {H : Hp} {E : XK} {a : Addr}
/-- super().__init__('..') -/
theorem sup_stmt {CX : CXT} {N : List Str} {F : NdefX.NF} {f : Addr} {σ : L2.St} {a : Addr} {s1 : Shared} {oc : Value} {od : Option Addr} {fd : FuncData} {osl : Array (Option Value)} {ar : Arg} {m : Str → Option Value}
    {ccl : Value} {cdd : Option Addr} {vs : Array Value} {ccs : Array (Option Value)} {file : Str} {tf : Tok} {cl : Value} {cld : Option Addr} {csl : Array (Option Value)}
    (I : Inv (NdefX.ncx CX P w K mg base N F f A outer s H E) [] σ H s1) (T : OexC K C) (hms : mg "super" = none)
    (hf : K.lookup f = some ⟨oc, od, .func fd, osl⟩) (hp : (fd.params.posonlyargs ++ fd.params.args).head? = some ar) (hns : s1.heap.Ns s.heap.objs.size m) (hv : m ar.arg = some (.ref a)) (ea : H a = some (exo a C none))
    (hcode : K.lookup F.c = some ⟨ccl, cdd, .fields vs, ccs⟩) (hvs : vs[2]? = some (.str file tf)) (hfile : ((P.main.file : Str) == file) = true)
    (hcell : K.lookup cc = some ⟨cl, cld, .cell (some (.ref C)), csl⟩) (hcl : F.cl = [(("__class__" : Str), cc)]) (hsub : PySem.W.mroIn K C (.ref C) = some true) (op : PySem.W.nsIn K cStatics "thirdparty.any" = some none)
    (hks : F.scope.names.lookup ("super" : Str) = some .globalImplicit) (hkc : F.scope.names.lookup ("__class__" : Str) = some .free) (hka : F.scope.names.lookup ar.arg = some .local) (hk : F.scope.kind = .function)
    (hsup : PySem.W.ks_superIn K C C "__init__" = some (some (.builtin "ValueError.__init__"))) (ve : PySem.W.subIn K (.ref C) (.type "ValueError") = some true)
    (htop : (P.main.scope.names.lookup ("super" : Str)).isSome = false) (hev : SupEv msg p0 p1 pa pc pm j) {body : List Stmt} {Q : Flow → Shared → Prop} {Ex : Value → Shared → Prop}
    (hq : ∀ s2, Inv (NdefX.ncx CX P w K mg base N F f A outer s H E) [] σ H s2 → Q .next s2) :
    PySem.wpAt (model P w) (A.deeper (NdefX.envF F f s.heap.objs.size)) (.func body (NdefX.envF F f s.heap.objs.size)) (exec (.Expr (.Call (.Attribute (.Call (.Name "super" p0) [] [] p1) "__init__" pa) [.Constant (.str msg) j pm] [] pc) pe) (NdefX.envF F f s.heap.objs.size)) Q Ex s1 := by
  have X : K.In s1.heap := I.kIn
  have bmod := I.mod
  obtain ⟨mb, hb1, hb2⟩ := bmod.blt
  obtain ⟨t1, ho⟩ := exo_at I.hok ea
  obtain ⟨nm, q, N', bs, bm, sn, sub, ab, col, dd, k0, k1, k2, k3, k5, hC, hbm⟩ := T.cls
  have hclC : PySem.W.clsIn K C = some { name := nm, bases := bs, mro := .ref C :: bm, ns := N', qualname := q, hasDict := true, slotNames := sn, subclasses := sub, abstract := ab, collection := col, hasDel := false } := by unfold PySem.W.clsIn; rw [hC] <;> rfl
  have hCg := X _ _ hC
  have aC : a ≠ C := fun z => by
    rw [z, hCg] at ho
    have z2 := congrArg Obj.data (Option.some.inj ho)
    cases z2
  have hks' : (NdefX.envF F f s.heap.objs.size).kindOf "super" = some .globalImplicit := hks
  have hkc' : (NdefX.envF F f s.heap.objs.size).kindOf "__class__" = some .free := hkc
  have fin : ∀ (h3 : Heap) (g : Array GenState) (d : Drawn) (t : Nat) (os : OsState), g = s1.gens → d = s1.drawn → os = s1.os → (∀ b o, b ≠ a → s1.heap.get? b = some o → h3.get? b = some o) → (∃ t3, h3.get? a = some (PySem.W.excObj C t3 none .none)) → Q .next ⟨h3, g, d, t, os⟩ := by
    intro h3 g d t os e1 e2 e3 k ⟨t3, e4⟩
    subst e1 e2 e3
    have J := I.write (t' := t) (x := a) (e := a) (o := exo a C none) (by rw [ea]; exact True.intro) (.inl rfl) k ⟨_, e4⟩ (exo_ok e4)
    have eu : upd H a (exo a C none) = H := by
      funext b
      by_cases hb : b = a
      · rw [hb, upd_same, ea]
      · rw [upd_ne hb]
    rw [eu] at J
    exact hq _ J
  have globNs : s1.heap.Ns mainGlobals mg := I.mod.glob.keeps I.bk
  have bltNs : s1.heap.Ns builtinsNs mb := hb1.keeps I.bk
  obtain ⟨hp', g, d, t, os⟩ := s1
  refine PySem.ks_wpAt_Expr_any ?_ (by unfold interactive; rw [show (NdefX.envF F f s.heap.objs.size).scope.kind = .function from hk]; rfl)
  obtain ⟨pl, hev⟩ := hev (NdefX.envF F f s.heap.objs.size)
  refine PySem.ks_wpAt_MethodCall (pl := pl) ?_ hev
  refine PySem.ks_wpAt_super_base (env := NdefX.envF F f s.heap.objs.size) hks' hkc' (by decide) rfl (X _ _ hf) rfl hp rfl (X _ _ hcode) rfl hvs hfile htop ?_
  refine PySem.W.ks_loadName_global hk hks' (Calls.loadGlobal_builtin (env := NdefX.envF F f s.heap.objs.size) globNs hms bltNs ((hb2 _ (by decide +kernel)).trans bootSuper) ⟨rfl, ?_⟩)
  refine wpAny_loadName_free hk hkc' (by show F.cl.lookup _ = _; rw [hcl]; rfl) ⟨_, X _ _ hcell, rfl⟩ ?_
  refine wpAny_loadName_local hk hka hns hv ?_
  refine PySem.ks_wpAny_isType_cls hCg rfl ⟨rfl, ?_⟩
  refine PySem.ks_wpAny_call_super hCg rfl ho rfl (fun c e => nomatch e) (PySem.W.looks_mroIn X hsub) (fun h2 e2 kk => ?_)
  have X2 : K.In h2 := X.keeps kk
  have ho2 := kk _ _ ho
  have In2 : PySem.W.InstAt h2 a { cls := .ref C, dict := none, data := .fields #[.ref t1, .none, .none, .none, .bool false, .none] } C none := ⟨ho2, rfl, rfl, trivial⟩
  have hsup' := hsup
  unfold PySem.W.ks_superIn at hsup'
  rw [hclC] at hsup'
  refine PySem.W.kxs_getMethod PySem.W.kxs_ValueError e2 (PySem.W.looks_opaque X2 op) (l₀ := .ref C :: bm) (fun A Q E s k q => wpAny_bind ((PySem.W.looks_clsIn X2 hclC) A _ E s k (wpAny_pure q))) rfl X2 hsup' (In2.type.andThen (PySem.W.looks_subIn X2 ve)) aC (by decide) ?_
  have hu : (h2.push (PySem.W.kxs_mw "ValueError.__init__" a)).get? h2.objs.size = some (PySem.W.kxs_mw "ValueError.__init__" a) := Heap.get?_push_at rfl rfl
  refine PySem.W.kxs_callWith (i := "ValueError.__init__") (x := a) rfl ?_
  refine Calls.evalArgs_plain (Calls.spliced_cons (Calls.Constant_str (k := j) (pos := pm) (Calls.spliced_nil ⟨hu, ?_⟩)))
  have k3 : ∀ b o, hp'.get? b = some o → (h2.push (PySem.W.kxs_mw "ValueError.__init__" a)).get? b = some o := fun b o e => Heap.get?_push_of_some _ (kk _ _ e)
  have hC3 := k3 _ _ hCg
  have ho3 := k3 _ _ ho
  refine wpAny_call (codeAny_of_tree ?_)
  show wpAny _ (A.deeper (NdefX.envF F f s.heap.objs.size)).in1 (callAny (.ref h2.objs.size) ⟨[.str msg _], []⟩) _ _ _
  simp only [callAny]
  refine wpAny_bind (wpAny_load hu ?_)
  simp only [PySem.W.kxs_mw, show (Value.type "method-wrapper" == Value.type "method" || Value.type "method-wrapper" == Value.type "builtin_function_or_method" || Value.type "method-wrapper" == Value.type "method-wrapper") = true by decide, if_true]
  refine PySem.W.KFB.if_so (by decide) ?_
  refine wpAny_bind (PySem.W.check_bound_init PySem.F.excBase_ValueError.toExcCallFacts hC3 ho3 rfl ?_)
  refine wpAny_bind (wpAny_pure (wpAny_pure ?_))
  refine ⟨PySem.plainId_quiet PySem.F.excBase_ValueError.init.plain _, codeAny_builtin PySem.F.excBase_ValueError.initEntry ?_⟩
  refine PySem.W.exc_init_tree (cls := .ref C) (t0 := t1) (dv := none) (c2 := .none) (c3 := .none) (b4 := .bool false) ho3 (by show 1 ≤ sizeLine; rw [sizeLine_eq]; omega) fun h4 k4 e4 t4 => ?_
  exact fin h4 g d _ os rfl rfl rfl (fun b o hb e => k4 b o hb (k3 b o e)) ⟨_, e4⟩
/-- its __init__ keeps the promise -/
theorem xinit_ok {fI : Addr} {oc : Value} {od an : Option Addr} {kV doc pmV ct : Value} {osl : Array (Option Value)} {params : Arguments} {scope : Scope} {k : Nat} {CX : CXT}
    {ccl : Value} {cdd : Option Addr} {vs : Array Value} {ccs : Array (Option Value)} {file : Str} {tf : Tok} {cl : Value} {cld : Option Addr} {csl : Array (Option Value)}
    (T : OexC K C) (hms : mg "super" = none) (lk : K.lookup fI = some ⟨oc, od, .func (PySem.W.fnX "__init__" qual params (xBody msg par p0 p1 pa pc pe pq0 pq1 pq2 pq3 pm j) scope [(("__class__" : Str), cc)] .none kV doc pmV an (.ref cda) ct), osl⟩)
    (hcd : PySem.W.codeIn K (.ref cda) qual = true) (hcode : K.lookup cda = some ⟨ccl, cdd, .fields vs, ccs⟩) (hvs : vs[2]? = some (.str file tf)) (hfile : ((P.main.file : Str) == file) = true)
    (hcell : K.lookup cc = some ⟨cl, cld, .cell (some (.ref C)), csl⟩) (hsub : PySem.W.mroIn K C (.ref C) = some true) (op : PySem.W.nsIn K cStatics "thirdparty.any" = some none)
    (hsup : PySem.W.ks_superIn K C C "__init__" = some (some (.builtin "ValueError.__init__"))) (ve : PySem.W.subIn K (.ref C) (.type "ValueError") = some true) (hno : PySem.W.findIn K (.ref C) par = some none)
    (htop : (P.main.scope.names.lookup ("super" : Str)).isSome = false) (hev : SupEv msg p0 p1 pa pc pm j)
    (S : NdefX.NScope ["self", par, "__class__"] ["self", par] ["__class__"] scope) (hks : scope.names.lookup ("super" : Str) = some .globalImplicit) (ar : Arg) (har : ar.arg = "self") (hp : (params.posonlyargs ++ params.args).head? = some ar)
    (hd1 : (par == ("__debug__" : Str)) = false) (hd2 : (par == ("__classdict__" : Str)) = false) (hsw : ∀ env, swapsWith (.Name par pq2) (some (.Attribute (.Name "self" pq0) par pq1)) pq3.line env = pure false) :
    FnOk P w K mg base CX k fI (PySem.W.fnX "__init__" qual params (xBody msg par p0 p1 pa pc pe pq0 pq1 pq2 pq3 pm j) scope [(("__class__" : Str), cc)] .none kV doc pmV an (.ref cda) ct) ["self", par] (spX C par) := by
  refine ⟨fun vs H Q E ⟨a, y, e, _⟩ => by rw [e]; rfl, fun A outer s H args us vs' Q E hr e0 hb r hsp => ?_⟩
  obtain ⟨a, y, rfl, ea, hq⟩ := hsp
  have KX : K.In s.heap := e0.mod.kin.keeps fun b o e => (e0.bs b o e).1
  have lim : s.heap.NoLimit := e0.mod.nolimit.keeps fun b o e => (e0.bs b o e).1
  let F : NdefX.NF := ⟨"__init__", qual, params, xBody msg par p0 p1 pa pc pe pq0 pq1 pq2 pq3 pm j, scope, [(("__class__" : Str), cc)], cda⟩
  have hlu : us.length = 2 := by rw [← r.length]; rfl
  have lookC : ∀ (y : Str) (c : Addr), ([(("__class__" : Str), cc)] : List (Str × Addr)).lookup y = some c → y = "__class__" ∧ c = cc := fun y c e => by
    rw [List.lookup_cons] at e
    cases h : (y == ("__class__" : Str)) with
    | true => rw [h] at e; exact ⟨beq_iff_eq.mp h, (Option.some.inj e).symm⟩
    | false => rw [h] at e; cases e
  have CA : NdefX.CellsAt F.cl ["__class__"] [none] s.heap H := {
    len := rfl
    all := fun y c e => by
      obtain ⟨_, rfl⟩ := lookC y c e
      have z := e0.bs _ _ (e0.mod.kin _ _ hcell)
      exact ⟨z.2, _, _, z.1, rfl⟩
    inj := fun x y c e1 e2 => by rw [(lookC x c e1).1, (lookC y c e2).1]
    has := fun i y e => by
      cases i with
      | zero =>
        cases e
        exact ⟨cc, rfl, fun v z => nomatch z⟩
      | succ i => cases e }
  have hself : scope.names.lookup ("self" : Str) = some .local := S.par _ (by simp)
  have hpar : scope.names.lookup par = some .local := S.par _ (by simp)
  have hkc : scope.names.lookup ("__class__" : Str) = some .free := S.frk _ (by simp)
  refine PySem.ks_codeAny_call_defAt (fd := PySem.W.fnX "__init__" qual params (xBody msg par p0 p1 pa pc pe pq0 pq1 pq2 pq3 pm j) scope [(("__class__" : Str), cc)] .none kV doc pmV an (.ref cda) ct) (body := xBody msg par p0 p1 pa pc pe pq0 pq1 pq2 pq3 pm j) (binds := (["self", par] : List Str).zip us) hr.depth (KX _ _ lk) rfl lim (PySem.W.codeRec_of KX hcd) rfl hb S.nocell (fun ⟨n, _⟩ hy => S.par n (List.of_mem_zip hy).1) (fun h1 hns kp => ?_) S.co S.gen S.kind
  have I : Inv (NdefX.ncx CX P w K mg base ["self", par, "__class__"] F fI A outer s H E) [] (NdefX.startF ["self", par, "__class__"] [.ref a, y] [none]) H { s with heap := h1, toks := s.toks + ((["self", par] : List Str).zip us).length } := NdefX.inv_startN (ps := ["self", par]) (fr := ["__class__"]) S hr.hd e0 rfl r CA hns kp
  have hvself : ((((["self", par] : List Str)).zip us).reverse.lookup ar.arg) = some (.ref a) := by
    rw [har]
    obtain ⟨u0, hu0, ru0⟩ := r.get (i := 0) (x := .ref a) rfl
    have e : u0 = .ref a := ru0
    subst e
    have nd2 : (["self", par] : List Str).Nodup := by
      have q := S.nd.sublist (List.take_sublist 2 _)
      exact q
    exact NdefX.zip_look (i := 0) nd2 rfl hu0
  refine PySem.ks_wpAt_execs_cons (sup_stmt (F := F) I T hms lk (ar := ar) hp hns hvself ea hcode hvs hfile hcell rfl hsub op hks hkc (by rw [har]; exact hself) S.kind hsup ve htop hev fun s2 I2 => ?_)
  refine wpAt_of_wpAny ?_
  have PP : PSs (NdefX.ncx CX P w K mg base ["self", par, "__class__"] F fI A outer s H E) [.Assign [.Attribute (.Name "self" pq0) par pq1] (.Name par pq2) pq3] (tOst K par (tVar 0) (tVar 1)) :=
    pss_one (ps_ost (pe_var (i := 0) rfl (.inl hself) (by decide) (by decide)) (pe_var (i := 1) rfl (.inl hpar) hd1 hd2) (hsw _))
  refine wpAny_mono (PP.run [] s2 _ H { nx := fun _ H' => Q .non H', rt := Q } I2 ?_) (fun fl s' hs => ?_) fun e s' hs => hs
  · exact ⟨y, rfl, .ref a, rfl, a, C, rfl, T, hno, .inl ⟨ea, fun dx h1 h2 => hq dx h1 h2⟩⟩
  · have fin : ∀ {σ' : L2.St} {H' : Hp} {v : V} {u : Value}, Inv (NdefX.ncx CX P w K mg base ["self", par, "__class__"] F fI A outer s H E) [] σ' H' s' → RelV v u → Q v H' → CE outer P w H s Q u s' :=
      fun {σ' H' v u} J rv q => ⟨v, H', J.os, J.bare, J.base, J.hok, rv, q⟩
    cases fl with
    | ret u =>
      obtain ⟨v, σ', H', J, rv, q⟩ := hs
      exact fin J rv q
    | next =>
      obtain ⟨σ', H', J, q⟩ := hs
      exact fin (v := V.non) (u := Value.none) J rfl q
    | brk =>
      obtain ⟨_, _, _, q⟩ := hs
      exact False.elim q
    | cont =>
      obtain ⟨_, _, _, q⟩ := hs
      exact False.elim q
end
end Tv
namespace Tv
open PySem PySem.Spec PyProof.Rows L2

/-! ### raise -/
structure Xc (g : G) (k i : Nat) (x par : Str) : Prop where
  mg : g.mg x = some (.ref (g.cl i))
  T : OexC g.K (g.cl i)
  fn : ∃ (fI : Addr) (fd : FuncData), PySem.W.findIn g.K (.ref (g.cl i)) "__init__" = some (some (.ref fI)) ∧ PySem.W.typeIn g.K (.ref fI) = some (.type "function") ∧
    FnOk g.P g.w g.K g.mg g.base (L2.CX g.P g.w) k fI fd ["self", par] (spX (g.cl i) par) ∧ Binds g.K fd ["self", par] []
def fRaise (i : Nat) (par : Str) (f : S → Out (List T)) : S → Out Fl := fun s => (f s).bind fun ts s1 => match ts with
  | [t] => .exc ⟨i, [(par, t)]⟩ s1
  | _ => .bad
def fBad : S → Out Fl := fun _ => .bad
def fRaise0 (i : Nat) : S → Out Fl := fun s => .exc ⟨i, []⟩ s
section
variable {c : C} {x par : Str} {p pos rpos : Pos} {e : Expr} {k i : Nat}
theorem SS.bad {st : Stmt} : SS c st fBad := fun r W ok tk B s σ H F x D q => q.elim
theorem SS.raise {f : S → Out (List T)} (h : Xc c.g k i x par) (ha : SA c [e] f) (hk : k + 1 ≤ c.k := by exact Nat.le_of_ble_eq_true rfl) (hg : c.sc.names.lookup x = some .globalImplicit := by rfl) (hdb : (x == ("__debug__" : Str)) = false := by decide)
    (hs : NoStar e := by intro _ _; rfl) : SS c (.Raise (some (.Call (.Name x p) [e] [] pos)) none rpos) (fRaise i par f) := by
  intro r W ok tk B s σ H F x0 D q
  obtain ⟨fI, fd, h1, h2, h3, h4⟩ := h.fn
  refine PS.w (ps_raise ok.calm tk (pmk_oex (X := c.cx r) h.T h1 h2 h3 (ok.room.mono hk) h4 .nil passL (by show r.env.scope.names.lookup x = _; rw [ok.sc]; exact hg) h.mg pA hdb (hs _ _) rfl)) ?_
  refine ha r W ok tk B s σ H F x0 _ ?_
  unfold fRaise at q
  cases hf : f s with
  | exc y s1 => rw [hf] at q; exact fun cls d H' F' l x' => q cls d σ H' F' l x'
  | bad => rw [hf] at q; exact q
  | ok ts s1 =>
    rw [hf] at q
    dsimp only [Out.bind] at q
    intro vs H1 F1 l1 x1 r1
    split at q
    case h_2 => exact q.elim
    rename_i t
    cases r1 with
    | cons r1 rn =>
    cases rn
    rename_i v
    refine ⟨by simp, fun a ha => ⟨a, v, rfl, upd_same, fun dx hd na => ⟨rfl, dx, [(par, v)], upd_same, ?_, ?_, ?_⟩⟩⟩
    · rw [upd_ne na, upd_same]
    · rw [upd_ne na] at hd; exact hd
    · have hd1 : H1 dx = none := by rw [upd_ne na] at hd; exact hd
      have e : upd (del (upd (upd (upd H1 a (exo a (c.g.cl i) none)) dx (exd dx [(par, v)])) a (exo a (c.g.cl i) (some dx))) a) dx (.xd [(par, v)]) = upd H1 dx (.xd [(par, v)]) := by
        funext b
        by_cases hb : b = dx
        · rw [hb, upd_same, upd_same]
        · rw [upd_ne hb, upd_ne hb]
          by_cases hc : b = a
          · rw [hc, del_same, ha]
          · rw [del_ne hc, upd_ne hc, upd_ne hb, upd_ne hc]
      rw [e]
      refine q _ _ σ _ (upd F1 dx (.xd [(par, v)])) (l1.trans (x1.leF hd1)) (x1.allocF hd1 (fun y z => nomatch z)) ⟨rfl, [(par, v)], upd_same, upd_same, .cons (Rep.mono (x1.leF hd1) r1) .nil⟩
/-- of a class without an __init__ of its own -/
structure Xc0 (g : G) (i : Nat) (x : Str) : Prop where
  mg : g.mg x = some (.ref (g.cl i))
  q : PySem.W.excIn g.K (g.cl i) He.veBase "ValueError.__new__" = true
  kC : PySem.W.keepIn g.K (.ref (g.cl i)) = true
  sub : PySem.W.subIn g.K (.ref (g.cl i)) (.type "BaseException") = some true
  ty : PySem.W.typeIn g.K (.ref (g.cl i)) = some (.type "type")
theorem SS.raise0 {m : Str} {j : Nat} {p2 : Pos} (h : Xc0 c.g i x) (hg : c.sc.names.lookup x = some .globalImplicit := by rfl) (hdb : (x == ("__debug__" : Str)) = false := by decide) :
    SS c (.Raise (some (.Call (.Name x p) [.Constant (.str m) j p2] [] pos)) none rpos) (fRaise0 i) := by
  intro r W ok tk B s σ H F x0 D q
  refine PS.w (ps_raise ok.calm tk (pmk_own (X := c.cx r) PySem.F.excBase_ValueError h.q h.mg h.kC (raises_own h.sub h.ty) (by show r.env.scope.names.lookup x = _; rw [ok.sc]; exact hg) hdb)) ?_
  exact q _ _ σ H F (LeF.refl F) x0 ⟨rfl, rfl⟩
end
end Tv
namespace Tv
open PySem PySem.Spec PyProof.Rows L2

/-! ### a op b op' c -/
def fChain (op op' : T → T → Option R) (fa fb fc : S → Out Bv) : S → Out R := fun s => (fa s).bind fun b1 s1 => (fb s1).bind fun b2 s2 => (op2 op (b1.tr s2) (b2.tr s2) s2).bind fun z s3 => z.blK fun k =>
  if k = true then (fc s3).bind fun b3 s4 => op2 op' (b2.tr s4) (b3.tr s4) s4 else .ok (.val (.bl false)) s3
section
variable {c : C} {a b d : Expr} {fa fb fc : S → Out Bv} {op op' : T → T → Option R}
theorem op2_use {g : G} {ρ : R2} {op : T → T → Option R} (ho : Op2 g ρ op) {B : Bs} {s : S} {σ : L2.St} {H F F0 : Hp} {W : WX} {Q : VK} {o1 o2 : Option T} {v1 v2 : V} (x : Rl g B s σ H F) (r1 : ∀ t, o1 = some t → Rb g F H v1 t) (r2 : ∀ t, o2 = some t → Rb g F H v2 t) (le : LeF F0 F)
    (q : Po g B σ F0 W (rE g B σ) Q (op2 op o1 o2 s)) : ρ v1 v2 H Q := by
  cases e1 : o1 with
  | none => rw [e1] at q; exact q.elim
  | some t1 =>
    cases e2 : o2 with
    | none => rw [e1, e2] at q; exact q.elim
    | some t2 =>
      rw [e1, e2] at q
      have q : Po g B σ F0 W (rE g B σ) Q (lift1 (op t1 t2) s) := q
      unfold lift1 at q
      cases e3 : op t1 t2 with
      | none => rw [e3] at q; exact q.elim
      | some z =>
        rw [e3] at q
        exact ho t1 t2 z e3 B s σ H F v1 v2 x (r1 _ e1) (r2 _ e2) Q fun v H' F' l x' rr => q v H' F' (le.trans l) x' rr
theorem op2_state {op : T → T → Option R} {o1 o2 : Option T} {s s' : S} {z : R} (e : op2 op o1 o2 s = .ok z s') : s' = s := by
  unfold op2 at e
  split at e
  · unfold lift1 at e
    split at e
    · cases e; rfl
    · cases e
  · cases e
theorem chain_core (h1 : SB c a fa) (h2 : SB c b fb) (h3 : SB c d fc) {ρ ρ' : R2} (ho : Op2 c.g ρ op) (ho' : Op2 c.g ρ' op') {r : Rn} {W : WX} (ok : c.Ok r) (tk : Takes (c.cx r) W) {B : Bs} {s : S} {σ : L2.St} {H F : Hp} (x : Rl c.g B s σ H F) {Q : VK}
    (q : Po c.g B σ F W (rE c.g B σ) Q (fChain op op' fa fb fc s)) : tChain ρ ρ' (wE (c.cx r) a) (wE (c.cx r) b) (wE (c.cx r) d) σ H Q := by
  refine h1 r W ok tk B s σ H F x _ ?_
  unfold fChain at q
  cases hf : fa s with
  | exc y s1 => rw [hf] at q; exact q
  | bad => rw [hf] at q; exact q
  | ok b1 s1 =>
    rw [hf] at q
    intro v1 H1 F1 l1 x1 r1
    refine h2 r W ok tk B s1 σ H1 F1 x1 _ ?_
    have q : Po c.g B σ F W (rE c.g B σ) Q ((fb s1).bind fun b2 s2 => (op2 op (b1.tr s2) (b2.tr s2) s2).bind fun z s3 => z.blK fun k => if k = true then (fc s3).bind fun b3 s4 => op2 op' (b2.tr s4) (b3.tr s4) s4 else .ok (.val (.bl false)) s3) := q
    cases hk : fb s1 with
    | exc y s2 => rw [hk] at q; exact fun cls d H' F' l => q cls d H' F' (l1.trans l)
    | bad => rw [hk] at q; exact q
    | ok b2 s2 =>
      rw [hk] at q
      intro v2 H2 F2 l2 x2 r2
      have q : Po c.g B σ F W (rE c.g B σ) Q ((op2 op (b1.tr s2) (b2.tr s2) s2).bind fun z s3 => z.blK fun k => if k = true then (fc s3).bind fun b3 s4 => op2 op' (b2.tr s4) (b3.tr s4) s4 else .ok (.val (.bl false)) s3) := q
      refine op2_use ho (W := W) (F0 := F2) x2 (fun t e => x2.look (RB1.mono l2 r1) e) (fun t e => x2.look r2 e) (LeF.refl _) ?_
      cases ho2 : op2 op (b1.tr s2) (b2.tr s2) s2 with
      | exc y s3 =>
        exfalso
        unfold op2 at ho2
        split at ho2
        · unfold lift1 at ho2
          split at ho2 <;> cases ho2
        · cases ho2
      | bad => rw [ho2] at q; exact q.elim
      | ok z s3 =>
        obtain rfl := op2_state ho2
        rw [ho2] at q
        have q : Po c.g B σ F W (rE c.g B σ) Q (z.blK fun k => if k = true then (fc s3).bind fun b3 s4 => op2 op' (b2.tr s4) (b3.tr s4) s4 else .ok (.val (.bl false)) s3) := q
        unfold R.blK at q
        split at q
        case h_2 => exact q.elim
        rename_i k q0
        intro v H3 F3 l3 x3 r3
        cases r3
        refine ⟨k, rfl, ?_⟩
        dsimp only at q
        cases k with
        | false =>
          rw [if_neg Bool.false_ne_true] at q ⊢
          exact q _ H3 F3 (l1.trans (l2.trans l3)) x3 (.bl false)
        | true =>
          rw [if_pos rfl] at q ⊢
          refine h3 r W ok tk B s3 σ H3 F3 x3 _ ?_
          cases hd : fc s3 with
          | exc y s4 => rw [hd] at q; exact fun cls d H' F' l => q cls d H' F' (l1.trans (l2.trans (l3.trans l)))
          | bad => rw [hd] at q; exact q
          | ok b3 s4 =>
            rw [hd] at q
            intro v3 H4 F4 l4 x4 r4
            exact op2_use ho' (W := W) x4 (fun t e => x4.look (RB1.mono (l3.trans l4) r2) e) (fun t e => x4.look r4 e) (l1.trans (l2.trans (l3.trans l4))) q
variable {o o' : CmpOp} {pos : Pos} {ρ ρ' : R2}
theorem SE.chain (hr : ∀ r, c.Ok r → OpR (c.cx r) (compareOp o) ρ) (ho : Op2 c.g ρ op) (hr' : ∀ r, c.Ok r → OpR (c.cx r) (compareOp o') ρ') (ho' : Op2 c.g ρ' op') (h1 : SB c a fa) (h2 : SB c b fb) (h3 : SB c d fc)
    (hm : lastMarks [o, o'] [b, d] = false := by with_unfolding_all rfl) : SE c (.Compare a [o, o'] [b, d] pos) (fChain op op' fa fb fc) :=
  fun r W ok tk B s σ H F x Q q => PE.w (pe_chain (hr r ok) (hr' r ok) pE pE pE hm) (chain_core h1 h2 h3 ho ho' ok tk x q)
theorem STs.chain (hr : ∀ r, c.Ok r → OpR (c.cx r) (compareOp o) ρ) (ho : Op2 c.g ρ op) (hr' : ∀ r, c.Ok r → OpR (c.cx r) (compareOp o') ρ') (ho' : Op2 c.g ρ' op') (h1 : SB c a fa) (h2 : SB c b fb) (h3 : SB c d fc)
    (hm : lastMarks [o, o'] [b, d] = false := by with_unfolding_all rfl) : STs c (.Compare a [o, o'] [b, d] pos) (asT (fChain op op' fa fb fc)) :=
  fun r W ok tk B s σ H F x Q q => PT.w (pt_chain (hr r ok) (hr' r ok) pE pE pE hm) (chain_core h1 h2 h3 ho ho' ok tk x (asT_po q))
end

/-! ### a, b = x, y -/
def envAt (sc : Scope) : Env := { scope := sc, locals := 0, globals := 0, cells := [], qual := "", func := none, code := .none, frame := none, builtins := 0 }
theorem sw_at (env : Env) (ts : List Expr) (v : Expr) : swappedStores ts v env = swappedStores ts v (envAt env.scope) := rfl
theorem sw_scope {env : Env} {sc : Scope} (h : env.scope = sc) (ts : List Expr) (v : Expr) : swappedStores ts v env = swappedStores ts v (envAt sc) := by
  subst h
  exact sw_at env ts v
def parR (i j : Nat) (b1 : Sl) (z : Out R) (own : Bool) : Out Fl := z.bind fun z2 s2 => match z2 with
  | .val u => .ok .nx ((s2.put i b1).put j (.sh u))
  | .frs u => .ok .nx ((s2.put i b1).put j (.ow u))
  | .bor k => if own = true then .bad else (frz k s2).bind fun u s3 => .ok .nx ((s3.put i b1).put j (.sh u))
def fPar (i j : Nat) (fa fb : S → Out R) : S → Out Fl := fun s => (fa s).bind fun z1 s1 => match z1 with
  | .val t => parR i j (.sh t) (fb s1) false
  | .bor k => (frz k s1).bind fun t s2 => parR i j (.sh t) (fb s2) false
  | .frs t => parR i j (.ow t) (fb s1) true
section
variable {c : C} {a b : Expr} {fa fb : S → Out R} {i j : Nat} {x y : Str}
theorem par_sh {r : Rn} {W : WX} (h2 : SE c b fb) (ok : c.Ok r) (tk : Takes (c.cx r) W) {B : Bs} {s1 : S} {σ : L2.St} {H1 F F1 : Hp} {D : Ends} {t : T} {v : V} (hi : i < σ.length) (hj : j < σ.length) (x1 : Rl c.g B s1 σ H1 F1) (l1 : LeF F F1) (r1 : Rep c.g F1 v t)
    (q : PoS c.g B F W D (parR i j (.sh t) (fb s1) false)) : wE (c.cx r) b σ H1 fun w H2 => D.nx ((σ.set i (some v)).set j (some w)) H2 := by
  refine h2 r W ok tk B s1 σ H1 F1 x1 _ ?_
  unfold parR at q
  have hj' : j < (σ.set i (some v)).length := by rw [List.length_set]; exact hj
  cases hf : fb s1 with
  | exc y s2 => rw [hf] at q; exact fun cls d H' F' l x' => q cls d σ H' F' (l1.trans l) x'
  | bad => rw [hf] at q; exact q
  | ok z s2 =>
    rw [hf] at q
    dsimp only [Out.bind] at q
    intro w H2 F2 l2 x2 r2
    cases z with
    | val u => exact q _ H2 F2 (l1.trans l2) ((x2.setSh hi (r1.mono l2)).setSh hj' r2)
    | frs u =>
      obtain ⟨p, xs, rfl, fr, ha, us, rfl, rs⟩ := r2
      refine q _ H2 F2 (l1.trans l2) ((x2.setSh hi (r1.mono l2)).setOw hj' ⟨fr.f, fr.b, fr.n, fun k t' e z => ?_⟩ (.lst ha rs))
      have e : (s2.env.set i (.sh t))[k]? = some (.ow t') := e
      by_cases hk : i = k
      · subst hk
        by_cases hl : i < s2.env.length
        · rw [List.getElem?_set_self hl] at e; cases e
        · rw [List.getElem?_eq_none (by rw [List.length_set]; omega)] at e; cases e
      · rw [List.getElem?_set_ne hk] at e z
        exact fr.s k t' e z
    | bor k =>
      dsimp only at q
      rw [if_neg Bool.false_ne_true] at q
      cases hz : frz k s2 with
      | exc y s3 =>
        exfalso
        unfold frz at hz
        split at hz <;> cases hz
      | bad => rw [hz] at q; exact q.elim
      | ok u s3 =>
        rw [hz] at q
        obtain ⟨F3, l3, x3, r3⟩ := x2.frz hz r2.1
        exact q _ H2 F3 (l1.trans (l2.trans l3)) ((x3.setSh hi (r1.mono (l2.trans l3))).setSh hj' r3)
theorem SS.par {px py pt pos : Pos} {kt k2 pt2} (h1 : SE c a fa) (h2 : SE c b fb) (hi : c.N[i]? = some x := by rfl) (hj : c.N[j]? = some y := by rfl) (hij : i ≠ j := by decide) (hx : c.sc.names.lookup x = some .local := by rfl) (hy : c.sc.names.lookup y = some .local := by rfl)
    (hw : swappedStores [.Tuple [.Name x px, .Name y py] kt pt] (.Tuple [a, b] k2 pt2) (envAt c.sc) = pure (some [x, y]) := by rfl)
    (hs : ∀ n env, swapsWithSole [.Tuple [.Name x px, .Name y py] kt pt] (.Tuple [a, b] k2 pt2) n env = pure false := by intro _ _; rfl) (hsa : NoStar a := by intro _ _; rfl) (hsb : NoStar b := by intro _ _; rfl) :
    SS c (.Assign [.Tuple [.Name x px, .Name y py] kt pt] (.Tuple [a, b] k2 pt2) pos) (fPar i j fa fb) := by
  intro r W ok tk B s σ H F x0 D q pins ss I
  have es : (c.cx r).env.scope = c.sc := ok.sc
  refine (ps_par (X := c.cx r) ok.calm ok.nd hi hj hij (by rw [es]; exact hx) (by rw [es]; exact hy) (pa_cons pE (pa_cons pE pa_nil (hsb _ _)) (hsa _ _)) ((sw_scope es _ _).trans hw) (hs _ _)).run pins ss σ H D I ?_
  have li := lt_of I hi
  have lj := lt_of I hj
  have fin : ∀ {v : V} {H1 : Hp}, (wE (c.cx r) b σ H1 fun w H2 => D.nx ((σ.set i (some v)).set j (some w)) H2) → tCons (wE (c.cx r) b) tNil σ H1 (fun xs H2 => ∃ v' w, v :: xs = [v', w] ∧ D.nx ((σ.set i (some v')).set j (some w)) H2) := fun {v H1} h pins s I =>
    thn (h pins s I) fun u s1 ⟨w, H2, I2, rw', q⟩ => ⟨w, H2, I2, rw', v, w, rfl, q⟩
  refine h1 r W ok tk B s σ H F x0 _ ?_
  unfold fPar at q
  cases hf : fa s with
  | exc y s1 => rw [hf] at q; exact fun cls d H' F' l x' => q cls d σ H' F' l x'
  | bad => rw [hf] at q; exact q
  | ok z s1 =>
    rw [hf] at q
    dsimp only [Out.bind] at q
    intro v H1 F1 l1 x1 r1
    refine fin ?_
    cases z with
    | val t => exact par_sh h2 ok tk li lj x1 l1 r1 q
    | bor k =>
      dsimp only at q
      cases hz : frz k s1 with
      | exc y s3 =>
        exfalso
        unfold frz at hz
        split at hz <;> cases hz
      | bad => rw [hz] at q; exact q.elim
      | ok u s3 =>
        rw [hz] at q
        obtain ⟨F3, l3, x3, r3⟩ := x1.frz hz r1.1
        exact par_sh h2 ok tk li lj x3 (l1.trans l3) r3 q
    | frs t =>
      obtain ⟨p, xs, rfl, fr, ha, us, rfl, rs⟩ := r1
      dsimp only at q
      have bF : B.F p = none := x1.old.free fr.f
      refine h2 r W ok tk ⟨upd B.H p (.lst xs), B.F, B.a⟩ s1 σ H1 F1 (x1.hold fr ha) _ ?_
      unfold parR at q
      cases hk : fb s1 with
      | exc y s2 => rw [hk] at q; exact fun cls d H' F' l x' => q cls d σ H' F' (l1.trans l) (x'.unhold fr.b bF fr.n).1
      | bad => rw [hk] at q; exact q
      | ok z2 s2 =>
        rw [hk] at q
        dsimp only [Out.bind] at q
        intro w H2 F2 l2 x2 r2
        obtain ⟨x3, f3, h3⟩ := x2.unhold fr.b bF fr.n
        have lj' : j < (σ.set i (some (.ref p))).length := by rw [List.length_set]; exact lj
        have y1 := x3.setOw li f3 (.lst h3 (rs.mono l2))
        cases z2 with
        | val u => exact q _ H2 F2 (l1.trans l2) (y1.setSh lj' r2)
        | frs u =>
          obtain ⟨p2, xs2, rfl, fr2, ha2, us2, rfl, rs2⟩ := r2
          have ne : p2 ≠ p := fun e => by
            have z := fr2.b
            rw [e] at z
            exact absurd (z.symm.trans upd_same) (fun z => nomatch z)
          refine q _ H2 F2 (l1.trans l2) (y1.setOw lj' ⟨fr2.f, ?_, fr2.n, fun k t' e z => ?_⟩ (.lst ha2 rs2))
          · have z := fr2.b
            exact (upd_ne ne).symm.trans z
          · have e : (s2.env.set i (.ow (.lst us)))[k]? = some (.ow t') := e
            by_cases hk : i = k
            · subst hk
              rw [List.getElem?_set_self li] at z
              cases z
              exact ne rfl
            · rw [List.getElem?_set_ne hk] at e z
              exact fr2.s k t' e z
        | bor k => dsimp only at q; rw [if_pos rfl] at q; exact q.elim
end
end Tv
namespace Tv
open PySem PySem.Spec PyProof.Rows L2

/-! ### fields -/
def putT (f : Str) (t : T) : List (Str × T) → List (Str × T)
  | [] => [(f, t)]
  | (g, x) :: r => if g = f then (g, t) :: r else (g, x) :: putT f t r
theorem RepF.put {g : G} {F : Hp} {f : Str} {v : V} {t : T} (r : Rep g F v t) : ∀ {fs : List (Str × V)} {ts : List (Str × T)}, RepF g F fs ts → RepF g F (putF f v fs) (putT f t ts)
  | _, _, .nil => .cons r .nil
  | _, _, .cons (n := n) q qs => by
    unfold putF putT
    by_cases h : n = f
    · rw [if_pos h, if_pos h]; exact .cons r qs
    · rw [if_neg h, if_neg h]; exact .cons q (RepF.put r qs)
theorem ins_no {g : G} {H : Hp} {a C dx : Addr} {fs : List (Str × V)} (h : H a = some (.ins C dx fs)) : ∀ c q, H a ≠ some (LamX.CodeO c q) := fun c q z => by
  rw [h] at z
  have z := Option.some.inj z
  unfold LamX.CodeO at z
  cases z
section
variable {g : G} {B : Bs} {s : S} {σ : L2.St} {H F : Hp} {a dx : Addr} {i c : Nat} {fs ys : List (Str × V)} {ts us : List (Str × T)}
theorem Rl.writeI (x : Rl g B s σ H F) (e : s.env[i]? = some (.ow (.obj c ts))) (ea : σ[i]? = some (some (.ref a))) (h : H a = some (.ins (g.cl c) dx fs)) (hd : H dx = some (.own a)) (fd : F dx = none) (dd : dx + 1 = a) (r : RepF g F ys us) (fa : F a = none) (ba : B.H a = none) (n : Ne3 g a) :
    Rl g B (s.put i (.ow (.obj c us))) σ (upd H a (.ins (g.cl c) dx ys)) F := by
  have hl : i < s.env.length := (List.getElem?_eq_some_iff.mp e).1
  have k : ∀ b o, b ≠ a → H b = some o → upd H a (.ins (g.cl c) dx ys) b = some o := fun b o hb q => by rw [upd_ne hb]; exact q
  have da : dx ≠ a := fun z => by rw [z, h] at hd; cases hd
  have f : ∀ (m : Nat) (v : T), (s.env.set i (.ow (.obj c us)))[m]? = some (Sl.ow v) → ∃ v' : T, s.env[m]? = some (Sl.ow v') := fun m v q => by
    by_cases hm : i = m
    · subst hm; exact ⟨_, e⟩
    · rw [List.getElem?_set_ne hm] at q; exact ⟨_, q⟩
  refine ⟨fun b u q => k b u (fun z => by subst z; rw [fa] at q; cases q) (x.sub _ _ q), x.new, x.old, fun b u q => k b u (fun z => by subst z; rw [ba] at q; cases q) (x.keep _ _ q), fun j => ?_, fun j k u w b h1 h2 h3 h4 => ?_, x.dr.other k n (ins_no (g := g) h), x.bd, fun j c' fs' hh => ?_⟩
  · show SlOk g B _ F _ ((s.env.set i (.ow (.obj c us)))[j]?)
    by_cases hj : i = j
    · subst hj
      rw [List.getElem?_set_self hl]
      exact ⟨a, ea, fa, ba, n, .ins upd_same (k _ _ da hd) fd dd r⟩
    · rw [List.getElem?_set_ne hj]
      have z := x.slot j
      unfold SlOk at z ⊢
      split at z
      · exact z
      · rename_i t ht
        obtain ⟨b, h1, h2, h3, h4, h5⟩ := z
        have hb : b ≠ a := fun q => hj (x.dis i j _ _ a e ht ea (by rw [h1, q]))
        refine ⟨b, h1, h2, h3, h4, ?_⟩
        cases h5 with
        | lst q r => exact .lst (k _ _ hb q) r
        | ins q q2 q3 qd r => exact .ins (k _ _ hb q) (k _ _ (fun z => by rw [z, h] at q2; cases q2) q2) q3 qd r
      · trivial
  · obtain ⟨u', h1'⟩ := f _ _ h1
    obtain ⟨w', h2'⟩ := f _ _ h2
    exact x.dis j k u' w' b h1' h2' h3 h4
  · by_cases hj : i = j
    · subst hj
      exact x.mkd i c ts e
    · have hh : (s.env.set i (.ow (.obj c us)))[j]? = some (.ow (.obj c' fs')) := hh
      rw [List.getElem?_set_ne hj] at hh
      exact x.mkd j c' fs' hh
end

/-! ### e.f -/
/-- what is known of a class -/
def opFld (is : List Nat) (f : Str) : T → Option T
  | .obj c fs => if is.contains c = true then fs.lookup f else none
  | _ => none
def fFld (is : List Nat) (f : Str) (fe : S → Out Bv) : S → Out R := fun s => (fe s).bind fun b s1 => match (b.tr s1).bind (opFld is f) with
  | some t => .ok (.val t) s1
  | none => .bad
section
variable {c : C} {e : Expr} {pos : Pos} {fe : S → Out Bv}
theorem SE.fld {is : List Nat} {f : Str} (hc : ∀ i ∈ is, Cls c.g.K (c.g.cl i) ∧ NoAttr c.g.K (c.g.cl i) f) (he : SB c e fe) (hb : ∀ env, attributeBase e f env (eval e env) = eval e env := by intro _; rfl) : SE c (.Attribute e f pos) (fFld is f fe) := by
  intro r W ok tk B s σ H F x Q q
  refine PE.w (pe_fld pE (hb _)) (he r W ok tk B s σ H F x _ ?_)
  unfold fFld at q
  cases hf : fe s with
  | exc y s1 => rw [hf] at q; exact q
  | bad => rw [hf] at q; exact q
  | ok b s1 =>
    rw [hf] at q
    dsimp only [Out.bind] at q
    intro v H1 F1 l1 x1 r1
    split at q
    case h_2 => exact q.elim
    rename_i t ht
    obtain ⟨o, ho1, ho2⟩ := Option.bind_eq_some_iff.mp ht
    have rb := x1.look r1 ho1
    unfold opFld at ho2
    split at ho2
    case h_2 => cases ho2
    rename_i i fs
    split at ho2
    case isFalse => cases ho2
    rename_i hi
    obtain ⟨k1, k2⟩ := hc i (by simpa using hi)
    cases rb with
    | fr rb =>
      cases rb with
      | obj h k rr =>
        obtain ⟨w, hw, rw'⟩ := rr.look ho2
        exact ⟨_, _, _, _, w, rfl, x1.sub _ _ h, k1, k2, hw, q w H1 F1 l1 x1 rw'⟩
    | ow rb =>
      cases rb with
      | ins h k k3 kd rr =>
        obtain ⟨w, hw, rw'⟩ := rr.look ho2
        exact ⟨_, _, _, _, w, rfl, h, k1, k2, hw, q w H1 F1 l1 x1 rw'⟩
/-- self.f = e -/
def fSetA (j i : Nat) (f : Str) (fe : S → Out T) : S → Out Fl := fun s => (fe s).bind fun t s1 => match s1.env[i]? with
  | some (.ow (.obj c fs)) => if c = j ∧ fs.length < 1000 then .ok .nx (s1.put i (.ow (.obj c (putT f t fs)))) else .bad
  | _ => .bad
theorem SS.setA {i j : Nat} {f x : Str} {p p' : Pos} {f' : S → Out T} (hk : Cls c.g.K (c.g.cl j) ∧ NoAttr c.g.K (c.g.cl j) f) (he : SV c e f') (hN : c.N[i]? = some x := by rfl) (hv : Vis c.sc x := by first | exact Or.inl rfl | exact Or.inr (Or.inl rfl) | exact Or.inr (Or.inr rfl))
    (hd : (x == ("__debug__" : Str)) = false := by decide) (hcd : (x == ("__classdict__" : Str)) = false := by decide) (hs : ∀ n env, swapsWith e (some (.Attribute (.Name x p) f p')) n env = pure false := by intro _ _; rfl) :
    SS c (.Assign [.Attribute (.Name x p) f p'] e pos) (fSetA j i f f') := by
  intro r W ok tk B s σ H F x0 D q
  have hv' : Vis (c.cx r).env.scope x := by rw [show (c.cx r).env.scope = c.sc from ok.sc]; exact hv
  refine PS.w (ps_fld (pe_var (X := c.cx r) (i := i) hN hv' hd hcd) pE (hs _ _)) (he r W ok tk B s σ H F x0 _ ?_)
  unfold fSetA at q
  cases hf : f' s with
  | exc y s1 => rw [hf] at q; exact fun cls d H' F' l x' => q cls d σ H' F' l x'
  | bad => rw [hf] at q; exact q
  | ok t s1 =>
    rw [hf] at q
    dsimp only [Out.bind] at q
    intro y H1 F1 l1 x1 r1
    split at q
    case h_2 => exact q.elim
    rename_i c' fs h0
    split at q
    case isFalse => exact q.elim
    rename_i hh
    obtain ⟨rfl, hlen⟩ := hh
    have z := x1.slot i
    rw [h0] at z
    obtain ⟨a, h1, h2, h3, h4, h5⟩ := z
    cases h5 with
    | ins h k k3 kd rr => exact ⟨.ref a, h1, a, _, _, _, rfl, h, hk.1, hk.2, by rw [rr.length]; exact hlen, q σ _ F1 l1 (x1.writeI h0 h1 h k k3 kd (rr.put r1) h2 h3 h4)⟩
end

/-! ### a property, a method -/
structure Pg (g : G) (k i : Nat) (f : Str) (φ : Phi) : Prop where
  cls : Cls g.K (g.cl i)
  ex : ∃ (p fa : Addr) (fd : FuncData) (ps : List Str), PropOf g.K (g.cl i) f p fa ∧ FnG g k fa fd ps (spT g 1 φ) ∧ Binds g.K fd ps []
structure Mth (g : G) (k i : Nat) (m : Str) (n : Nat) (φ : Phi) : Prop where
  cls : Cls g.K (g.cl i)
  ex : ∃ (fa : Addr) (fd : FuncData) (ps : List Str), Meth g.K (g.cl i) m fa ∧ FnG g k fa fd ps (spT g n φ) ∧ Binds g.K fd ps []
def resR (z : Res) (s1 : S) : Out R := match z with
  | .ok t false D => .ok (.val t) { s1 with D := D }
  | .ok t true D => .ok (.frs t) { s1 with D := D }
  | .exc x D => .exc x { s1 with D := D }
  | .bad => .bad
def Res.calm : Res → Res
  | .exc _ _ => .bad
  | r => r
theorem spT_calm {g : G} {n : Nat} {φ : Phi} {vs : List V} {H : Hp} {Q : VK} {E E' : XK} (h : spT g n (fun ts D => (φ ts D).calm) vs H Q E) : spT g n φ vs H Q E' := by
  obtain ⟨F, ts, D, a, b, c, d, q⟩ := h
  refine ⟨F, ts, D, a, b, c, d, ?_⟩
  cases hφ : φ ts D with
  | ok t fr D' => dsimp only at q; rw [hφ] at q; exact q
  | exc x D' => dsimp only at q; rw [hφ] at q; exact q.elim
  | bad => dsimp only at q; rw [hφ] at q; exact q.elim
def fProp (i : Nat) (φ : Phi) (fe : S → Out T) : S → Out R := fun s => (fe s).bind fun t s1 => match t with
  | .obj c fs => if c = i then resR (φ [.obj c fs] s1.D).calm s1 else .bad
  | _ => .bad
/-- o.m(..), m no attribute of the object -/
def fMeth (i : Nat) (m : Str) (n : Nat) (φ : Phi) (fe : S → Out T) (fa : S → Out (List T)) : S → Out R := fun s => (fe s).bind fun t s1 => match t with
  | .obj c fs => if c = i ∧ fs.lookup m = none then (fa s1).bind fun ts s2 => (if (T.obj c fs :: ts).length = n then resR (φ (.obj c fs :: ts) s2.D) s2 else .bad) else .bad
  | _ => .bad
section
variable {c : C} {e : Expr} {pos apos : Pos} {k i n : Nat} {f m : Str} {φ : Phi} {fe : S → Out T}
theorem SE.prop (h : Pg c.g k i f φ) (he : SV c e fe) (hk : k + 1 ≤ c.k := by exact Nat.le_of_ble_eq_true rfl) (hb : ∀ env, attributeBase e f env (eval e env) = eval e env := by intro _; rfl) : SE c (.Attribute e f pos) (fProp i φ fe) := by
  intro r W ok tk B s σ H F x Q q pins ss I
  obtain ⟨p, fa, fd, ps, hp, hF, hb2⟩ := h.ex
  have hr : Room (k + 1) r.A := ok.room.mono hk
  refine attr_of (hb _) (thn (he r W ok tk B s σ H F x (fun v H1 => spT c.g 1 φ [v] H1 Q E0 ∧ ∃ a dx fs, v = .ref a ∧ H1 a = some (.ins (c.g.cl i) dx fs)) ?_ pins ss I) fun u s1 hu => ?_)
  · unfold fProp at q
    cases hf : fe s with
    | exc y s1 => rw [hf] at q; exact q
    | bad => rw [hf] at q; exact q
    | ok t s1 =>
      rw [hf] at q
      dsimp only [Out.bind] at q
      intro v H1 F1 l1 x1 r1
      split at q
      case h_2 => exact q.elim
      rename_i c' fs
      split at q
      case isFalse => exact q.elim
      rename_i hc
      subst hc
      refine ⟨spT_calm (E := WE W σ) (call_post (φ := fun ts D => (φ ts D).calm) x1 (.cons r1 .nil) l1 rfl q), ?_⟩
      cases r1 with
      | obj h k rr => exact ⟨_, _, _, rfl, x1.sub _ _ h⟩
  · obtain ⟨v, H1, I1, rv, hsp, a, dx, fs, rfl, ea⟩ := hu
    obtain rfl : u = Value.ref a := rv
    obtain ⟨mA, O, _, _, _, _⟩ := ins_get I1.hok ea
    obtain ⟨od, J, _⟩ := O.look
    obtain ⟨rest, hrec⟩ := hp.rec_
    have I2 := I1.tok (s1.toks + 1)
    have hl : ([Value.ref a] ++ ([] : List Value)).length = ps.length := by
      rw [← hF.len _ _ _ _ hsp]; rfl
    have hcd : (PySem.W.clsIn c.g.K (c.g.cl i)).isSome = true := by
      obtain ⟨cd, hc, _⟩ := PySem.W.any_some h.cls.hd
      rw [hc]; rfl
    refine PySem.W.get_bind I1.kIn J (PySem.W.plainGet_of (h.cls.get f)).1 (PySem.W.findObj_data hcd hp.at_ hp.get hp.tak) (PySem.W.plainGet_of (h.cls.get f)).2 (wpAny_call (PySem.W.prop_get (s := { s1 with toks := s1.toks + 1 }) I1.kIn hrec ?_))
    have bb := hb2 { s1 with toks := s1.toks + 1 } [.ref a] I2.kIn hl
    refine codeAny_mono (hF.run r.A.in1 r.stack { s1 with toks := s1.toks + 1 } H1 ⟨[.ref a], []⟩ [.ref a] [.ref a] Q E0 hr.in1 (by rw [Around.in1_guards]; exact ok.gd) I2.env0.in1 bb (.cons rfl .nil) hsp) fun rr s' hq => ?_
    cases rr with
    | error er =>
      exfalso
      obtain ⟨_, _, _, _, _, _, _, _, _, _, _, _, z⟩ := hq
      exact z
    | ok fl =>
      cases fl with
      | ret u =>
        obtain ⟨v, H', I3, rv, q3⟩ := I2.after hq
        show wpAny _ _ (handedOut u) _ _ _
        rw [PySem.W.handedOut_of (handed_of rv)]
        exact wpAny_pure ⟨v, H', I3, rv, q3⟩
      | next => exact False.elim hq
      | brk => exact False.elim hq
      | cont => exact False.elim hq
theorem SE.meth {e0 : Expr} {es : List Expr} {fa : S → Out (List T)} (h : Mth c.g k i m n φ) (he : SV c e fe) (ha : SA c (e0 :: es) fa) (hk : k ≤ c.k := by exact Nat.le_of_ble_eq_true rfl)
    (hs0 : NoStar e0 := by intro _ _; rfl) (hst : ∀ env, (backTo pos (starEach es env)).any (·.1) = false := by intro _; rfl)
    (ht : ∀ env, ∃ pl : Sem Bool, eval (.Call (.Attribute e m apos) (e0 :: es) [] pos) env = (do
      let ov ← eval e env
      standAt apos.atName
      let (f, first) ← holding [ov] (getMethod ov m pl)
      callWith pos f first (backTo pos (starEach (e0 :: es) env)) (backToKw pos (keywordEach [] env))) := by intro _; exact ⟨_, rfl⟩) :
    SE c (.Call (.Attribute e m apos) (e0 :: es) [] pos) (fMeth i m n φ fe fa) := by
  intro r W ok tk B s σ H F x Q q pins ss I
  obtain ⟨fd', fd, ps, hm, hF, hb⟩ := h.ex
  obtain ⟨pl, ht⟩ := ht (c.cx r).env
  refine PySem.W.methodCall_KW (pl := pl) (thn (he r W ok tk B s σ H F x (fun v H1 => ∃ a dx fs, v = .ref a ∧ H1 a = some (.ins (c.g.cl i) dx fs) ∧ fs.lookup m = none ∧ wA (c.cx r) (e0 :: es) σ H1 fun vs H2 => spT c.g n φ (.ref a :: vs) H2 Q (WE W σ)) ?_ pins ss I) fun u s1 hu => ?_) ht
  · unfold fMeth at q
    cases hf : fe s with
    | exc y s1 => rw [hf] at q; exact q
    | bad => rw [hf] at q; exact q
    | ok t s1 =>
      rw [hf] at q
      dsimp only [Out.bind] at q
      intro v H1 F1 l1 x1 r1
      split at q
      case h_2 => exact q.elim
      rename_i c' fs
      split at q
      case isFalse => exact q.elim
      rename_i hc
      obtain ⟨rfl, hlk⟩ := hc
      cases r1 with
      | obj h0 k0 rr =>
        rename_i a dx fs'
        refine ⟨a, dx, fs', rfl, x1.sub _ _ h0, rr.lookN hlk, ha r W ok tk B s1 σ H1 F1 x1 _ ?_⟩
        cases hg : fa s1 with
        | exc y s2 => rw [hg] at q; exact fun cls d H' F' l => q cls d H' F' (l1.trans l)
        | bad => rw [hg] at q; exact q
        | ok ts s2 =>
          rw [hg] at q
          dsimp only [Out.bind] at q
          intro vs H2 F2 l2 x2 r2
          split at q
          case isFalse => exact q.elim
          rename_i hn
          have r3 : Reps c.g F2 (.ref a :: vs) (.obj c' fs :: ts) := .cons (Rep.mono l2 (.obj h0 k0 rr)) r2
          exact call_post x2 r3 (l1.trans l2) (r3.length.trans hn) q
  · obtain ⟨v, H1, I1, rv, a, dx, fs, rfl, ea, hlk, hw⟩ := hu
    obtain rfl : u = Value.ref a := rv
    refine getmeth_ok I1 ea h.cls hm hlk ?_
    refine PySem.W.callWith_K (first := [.ref a]) (h₀ := c.g.base) I.ok.mod.kin hm.kp (thn (hw pos pins s1 I1) fun us s2 ⟨vs, H2, I2, rv, q2⟩ => ⟨I2.kIn, ?_⟩) (hs0 _ _) (hst _)
    exact run_fnG hF (ok.room.mono hk) ok.gd hb (passAt tk σ) I2 (us := .ref a :: us) (vs := .ref a :: vs) (.cons rfl rv) q2
theorem SE.meth0 (h : Mth c.g k i m n φ) (he : SV c e fe) (hk : k ≤ c.k := by exact Nat.le_of_ble_eq_true rfl)
    (ht : ∀ env, ∃ pl : Sem Bool, eval (.Call (.Attribute e m apos) [] [] pos) env = (do
      let ov ← eval e env
      standAt apos.atName
      let (f, first) ← holding [ov] (getMethod ov m pl)
      callWith pos f first (backTo pos (starEach [] env)) (backToKw pos (keywordEach [] env))) := by intro _; exact ⟨_, rfl⟩) :
    SE c (.Call (.Attribute e m apos) [] [] pos) (fMeth i m n φ fe aNil) := by
  intro r W ok tk B s σ H F x Q q pins ss I
  obtain ⟨fd', fd, ps, hm, hF, hb⟩ := h.ex
  obtain ⟨pl, ht⟩ := ht (c.cx r).env
  refine PySem.W.methodCall_KW (pl := pl) (thn (he r W ok tk B s σ H F x (fun v H1 => ∃ a dx fs, v = .ref a ∧ H1 a = some (.ins (c.g.cl i) dx fs) ∧ fs.lookup m = none ∧ spT c.g n φ [.ref a] H1 Q (WE W σ)) ?_ pins ss I) fun u s1 hu => ?_) ht
  · unfold fMeth at q
    cases hf : fe s with
    | exc y s1 => rw [hf] at q; exact q
    | bad => rw [hf] at q; exact q
    | ok t s1 =>
      rw [hf] at q
      dsimp only [Out.bind] at q
      intro v H1 F1 l1 x1 r1
      split at q
      case h_2 => exact q.elim
      rename_i c' fs
      split at q
      case isFalse => exact q.elim
      rename_i hc
      obtain ⟨rfl, hlk⟩ := hc
      cases r1 with
      | obj h0 k0 rr =>
        rename_i a dx fs'
        refine ⟨a, dx, fs', rfl, x1.sub _ _ h0, rr.lookN hlk, ?_⟩
        unfold aNil at q
        dsimp only at q
        split at q
        case isFalse => exact q.elim
        rename_i hn
        have r3 : Reps c.g F1 [.ref a] [.obj c' fs] := .cons (.obj h0 k0 rr) .nil
        exact call_post x1 r3 l1 (r3.length.trans hn) q
  · obtain ⟨v, H1, I1, rv, a, dx, fs, rfl, ea, hlk, hw⟩ := hu
    obtain rfl : u = Value.ref a := rv
    refine getmeth_ok I1 ea h.cls hm hlk ?_
    exact PySem.W.callWith_K0 (first := [.ref a]) I1.kIn hm.kp (run_fnG hF (ok.room.mono hk) ok.gd hb (passAt tk σ) I1 (us := [.ref a]) (vs := [.ref a]) (.cons rfl .nil) hw)
end
end Tv
namespace Tv
open PySem PySem.Spec PyProof.Rows L2

/-! ### __init__ -/
structure GrI (g : G) (a : Addr) (H F H' F' : Hp) : Prop where
  f : LeF F F'
  sub : LeF F' H'
  new : ∀ b o, F' b = some o → F b = some o ∨ H b = none ∨ b = a
  keep : ∀ b o, b ≠ a → Ne3 g b → H b = some o → H' b = some o
def PoI (g : G) (a : Addr) (H F : Hp) (Q : VK) (E : XK) : Res → Prop
  | .ok t _ D' => ∀ H' F', GrI g a H F H' F' → DrOk g H' F' D' → F' a = none → OwA g F' H' a t → Q .non H'
  | .exc x D' => ∀ cls d H' F', GrI g a H F H' F' → DrOk g H' F' D' → XRep g x cls d H' F' → E cls d H'
  | .bad => False
def spI (g : G) (i n : Nat) (φ : Phi) : Sp := fun vs H Q E => ∃ (a dx : Addr) (ws : List V) (F : Hp) (ts : List T) (D : Dr), vs = .ref a :: ws ∧ ws.length = n ∧ H a = some (.ins (g.cl i) dx []) ∧ H dx = some (.own a) ∧ F a = none ∧ F dx = none ∧ Ne3 g a ∧ dx + 1 = a ∧
  LeF F H ∧ Reps g F ws ts ∧ DrOk g H F D ∧ PoI g a H F Q E (φ ts D)
def resI : Out Fl → Res
  | .ok .nx s => (match (s.env[0]? : Option Sl) with
    | some (.ow (.obj i fs)) => .ok (.obj i fs) false s.D
    | _ => .bad)
  | .ok _ _ => .bad
  | .exc x s => .exc x s.D
  | .bad => .bad
def entI (N : List Str) (i : Nat) (ts : List T) (D : Dr) : S := ⟨.ow (.obj i []) :: (ts.map Sl.sh ++ List.replicate (N.length - (ts.length + 1)) .no), D⟩
def phiI (N : List Str) (i : Nat) (f : S → Out Fl) : Phi := fun ts D => resI (f (entI N i ts D))
open Classical in
noncomputable def cutI (g : G) (a : Addr) (H : Hp) : Hp := fun b => if b = a then none else cut g H b
theorem cutI_le {g : G} {a : Addr} {H : Hp} : LeF (cutI g a H) H := fun b o e => by
  unfold cutI at e
  split at e
  · cases e
  · exact cut_le b o e
theorem cutI_a {g : G} {a : Addr} {H : Hp} : cutI g a H a = none := by
  unfold cutI
  rw [if_pos rfl]
theorem cutI_ne {g : G} {a b : Addr} {H : Hp} (h : b ≠ a) : cutI g a H b = cut g H b := by
  unfold cutI
  rw [if_neg h]
theorem Rl.startI {g : G} {N : List Str} {i : Nat} {a dx : Addr} {ws : List V} {ts : List T} {H F : Hp} {D : Dr} (ha : H a = some (.ins (g.cl i) dx [])) (hd : H dx = some (.own a)) (fa : F a = none) (fd : F dx = none) (na : Ne3 g a) (dd : dx + 1 = a) (le : LeF F H) (r : Reps g F ws ts) (d : DrOk g H F D) :
    Rl g ⟨cutI g a H, F, a⟩ (entI N i ts D) (L2.start N (.ref a :: ws)) H F := by
  have hl := r.length
  have nw : ∀ (j : Nat) (t : T), (entI N i ts D).env[j]? = some (.ow t) → j = 0 ∧ t = .obj i [] := fun j t e => by
    cases j with
    | zero => exact ⟨rfl, by cases e; rfl⟩
    | succ j =>
      exfalso
      have e : (ts.map Sl.sh ++ List.replicate (N.length - (ts.length + 1)) .no)[j]? = some (.ow t) := e
      by_cases hi : j < ts.length
      · rw [List.getElem?_append_left (by simpa using hi), List.getElem?_map] at e
        cases q : ts[j]? with
        | none => rw [q] at e; cases e
        | some u => rw [q] at e; cases e
      · rw [List.getElem?_append_right (by simpa using hi), List.getElem?_replicate] at e
        split at e <;> cases e
  have s0 : (L2.start N (.ref a :: ws))[0]? = some (some (.ref a)) := rfl
  refine ⟨le, fun a o e => .inl e, LeF.refl F, cutI_le, fun j => ?_, fun j k t u b h1 h2 _ _ => ?_, d, ?_, fun j c fs h => ?_⟩
  · cases j with
    | zero => exact ⟨a, s0, fa, cutI_a, na, .ins ha hd fd dd .nil⟩
    | succ j =>
      show SlOk g _ H F ((ws.map some ++ List.replicate (N.length - (ws.length + 1)) none)[j]?) ((ts.map Sl.sh ++ List.replicate (N.length - (ts.length + 1)) .no)[j]?)
      by_cases hi : j < ts.length
      · rw [List.getElem?_append_left (by rw [List.length_map]; omega), List.getElem?_append_left (by rw [List.length_map]; omega), List.getElem?_map, List.getElem?_map]
        obtain ⟨v, h1, h2⟩ := r.get (List.getElem?_eq_getElem hi)
        rw [h1, List.getElem?_eq_getElem hi]
        exact ⟨v, rfl, h2⟩
      · rw [List.getElem?_append_right (l₁ := ts.map Sl.sh) (by simpa using hi), List.getElem?_replicate]
        split <;> trivial
  · rw [(nw j t h1).1, (nw k u h2).1]
  · have e : ∀ b, ¬ Ne3 g b → cutI g a H b = none := fun b n => by
      by_cases hb : b = a
      · rw [hb]; exact cutI_a
      · rw [cutI_ne hb]; exact cut_no n
    exact ⟨e _ fun n => n.da rfl, e _ fun n => n.la rfl, e _ fun n => n.ca rfl, fun p hp => e _ fun n => n.tb p hp rfl⟩
  · rw [(nw j _ h).1]
    exact s0
theorem Rl.grI {g : G} {s : S} {σ : L2.St} {a : Addr} {H F H' F' : Hp} (x : Rl g ⟨cutI g a H, F, a⟩ s σ H' F') : GrI g a H F H' F' := by
  refine ⟨x.old, x.sub, fun b o e => (x.new b o e).imp id fun z => ?_, fun b o hb n e => x.keep b o ?_⟩
  · by_cases hb : b = a
    · exact .inr hb
    · have z : cutI g a H b = none := z
      rw [cutI_ne hb] at z
      by_cases n : Ne3 g b
      · exact .inl ((cut_ne n).symm.trans z)
      · exact absurd ((x.dr.fno n).symm.trans e) (fun z => nomatch z)
  · show cutI g a H b = some o
    rw [cutI_ne hb]
    exact (cut_ne n).trans e
theorem fnI_body {g : G} {k i : Nat} {f : Addr} {name qual : Str} {params : Arguments} {body : List Stmt} {scope : Scope} {dV kV doc pm cdv ct oc : Value} {an od : Option Addr} {osl : Array (Option Value)} {N ps : List Str} {φ : S → Out Fl} {self : Str}
    (lk : g.K.lookup f = some ⟨oc, od, .func (PySem.W.fnOf name qual params body scope dV kV doc pm an cdv ct), osl⟩) (hcd : PySem.W.codeIn g.K cdv qual = true) (S : FnScope N (self :: ps) scope)
    (h : SSs ⟨g, N, scope, k, fun _ => true, none⟩ body φ) : FnG g (k + 1) f (PySem.W.fnOf name qual params body scope dV kV doc pm an cdv ct) (self :: ps) (spI g i ps.length (phiI N i φ)) := by
  refine fnG_of lk hcd S (fun vs H Q E ⟨a, dx, ws, F, ts, D, e, hl, _⟩ => by rw [e, List.length_cons, hl]; rfl) fun A outer s H vs Q E hr hg ⟨a, dx, ws, F, ts, D, e, hl, ha, hd, fa, fd, na, dd, le, rs, dr, q⟩ => ?_
  subst e
  let c : C := ⟨g, N, scope, k, fun _ => true, none⟩
  let r : Rn := ⟨A.deeper (envOfC qual scope s.heap.objs.size f cdv), s, H, envOfC qual scope s.heap.objs.size f cdv, outer, envOfC qual scope s.heap.objs.size f cdv :: outer, [], fun _ => true, true, [], (cxOf (L2.CX g.P g.w) g.P g.w g.K g.mg g.base N qual scope f cdv A outer s H E).xe⟩
  have okc : c.Ok r := ⟨rfl, S.nd, rfl, hr, (by
    show (A.deeper _).guards = some []
    exact hg), fun x _ => rfl, passes_of (X := c.cx r) rfl, fun l z => nomatch z⟩
  have tk : Takes (c.cx r) (fun cls d _ H => E cls d H) := takes_of rfl rfl rfl rfl
  refine ⟨wSs (c.cx r) body, pSs, h r _ okc tk ⟨cutI g a H, F, a⟩ (entI N i ts D) (L2.start N (.ref a :: ws)) H F (Rl.startI ha hd fa fd na dd le rs dr) _ ?_⟩
  unfold phiI resI at q
  split at q
  · rename_i s1 e
    rw [e]
    intro σ' H' F' l x
    split at q
    case h_2 => exact q.elim
    rename_i j fs h0
    have m := x.mkd 0 j fs h0
    have z := x.slot 0
    rw [h0] at z
    obtain ⟨b, h1, h2, h3, h4, h5⟩ := z
    rw [m] at h1
    cases h1
    exact q H' F' x.grI x.dr h2 h5
  · exact q.elim
  · rename_i y s1 e
    rw [e]
    exact fun cls d σ' H' F' l x hx => q cls d H' F' x.grI x.dr hx
  · exact q.elim

/-! ### C(..) -/
/-- a class that is made: n: all its parameters; dts: the defaults of those that lack -/
structure Mg (g : G) (k i : Nat) (x : Str) (n : Nat) (dts : List T) (φ : Phi) : Prop where
  mg : g.mg x = some (.ref (g.cl i))
  ex : ∃ (f : Addr) (fd : FuncData) (ps : List Str) (dvs : List V) (ds : List Value), Mk g.K (g.cl i) f ∧ FnG g k f fd ps (spI g i n φ) ∧ Vals dvs ds ∧ Binds g.K fd ps ds ∧ ∀ F, Reps g F dvs dts
def resM (i : Nat) (z : Res) (s1 : S) : Out R := match z with
  | .ok (.obj c fs) _ D => if c = i then .ok (.val (.obj c fs)) { s1 with D := D } else .bad
  | .ok _ _ _ => .bad
  | .exc x D => .exc x { s1 with D := D }
  | .bad => .bad
def fMake (i n : Nat) (dts : List T) (φ : Phi) (fa : S → Out (List T)) : S → Out R := fun s => (fa s).bind fun ts s1 => if (ts ++ dts).length = n then resM i (φ (ts ++ dts) s1.D) s1 else .bad
section
variable {g : G} {B : Bs} {s s1 : S} {σ : L2.St} {H F H1 F1 : Hp} {vs : List V} {ts : List T} {Q : VK} {W : WX} {φ : Phi} {n i : Nat} {a dx : Addr}
theorem Gr.ofI {H' F' : Hp} (e1 : H1 a = none) (ne : dx ≠ a) (e2 : H1 dx = none) (r : GrI g a (upd (upd H1 dx (.own a)) a (.ins (g.cl i) dx [])) F1 H' F') : Gr g H1 F1 H' F' :=
  ⟨r.f, r.sub, fun b o e => by
    rcases r.new b o e with z | z | z
    · exact .inl z
    · refine .inr ?_
      by_cases hb : b = a
      · rw [hb]; exact e1
      · rw [upd_ne hb] at z
        by_cases hd : b = dx
        · rw [hd]; exact e2
        · rw [upd_ne hd] at z; exact z
    · rw [z]; exact .inr e1, fun b o n e => r.keep b o (fun z => by rw [z, e1] at e; cases e) n (by rw [upd_ne (fun z => by rw [z, e1] at e; cases e), upd_ne (fun z => by rw [z, e2] at e; cases e)]; exact e)⟩
/-- an instance and its dict are frozen -/
theorem Rl.freezeI {c : Nat} {fs : List (Str × V)} (x : Rl g B s σ H F) (f : Fr g B s σ F a) (h : H a = some (.ins (g.cl c) dx fs)) (hd : H dx = some (.own a)) (fd : F dx = none) (bd : B.H dx = none) (nd : Ne3 g dx) (ne : dx ≠ a) : Rl g B s σ H (upd (upd F dx (.own a)) a (.ins (g.cl c) dx fs)) := by
  have le : LeF F (upd (upd F dx (.own a)) a (.ins (g.cl c) dx fs)) := (LeF.upd fd).trans (LeF.upd (by rw [upd_ne (Ne.symm ne)]; exact f.f))
  have cs : ∀ b o, upd (upd F dx (.own a)) a (.ins (g.cl c) dx fs) b = some o → (b = a ∧ o = .ins (g.cl c) dx fs) ∨ (b = dx ∧ o = .own a) ∨ F b = some o := fun b o e => by
    by_cases hb : b = a
    · rw [hb, upd_same] at e; cases e; exact .inl ⟨hb, rfl⟩
    · rw [upd_ne hb] at e
      by_cases hb2 : b = dx
      · rw [hb2, upd_same] at e; cases e; exact .inr (.inl ⟨hb2, rfl⟩)
      · rw [upd_ne hb2] at e; exact .inr (.inr e)
  refine ⟨fun b u e => ?_, fun b u e => ?_, x.old.trans le, x.keep, fun i => ?_, x.dis, ?_, x.bd, x.mkd⟩
  · rcases cs b u e with ⟨rfl, rfl⟩ | ⟨rfl, rfl⟩ | z
    · exact h
    · exact hd
    · exact x.sub _ _ z
  · rcases cs b u e with ⟨rfl, rfl⟩ | ⟨rfl, rfl⟩ | z
    · exact .inr f.b
    · exact .inr bd
    · exact x.new _ _ z
  · have z := x.slot i
    unfold SlOk at z ⊢
    split at z
    · obtain ⟨v, h1, h2⟩ := z
      exact ⟨v, h1, h2.mono le⟩
    · rename_i t ht
      obtain ⟨b, h1, h2, h3, h4, h5⟩ := z
      have hb : b ≠ a := fun e => by subst e; exact f.s i t ht h1
      have hb2 : b ≠ dx := fun e => by
        subst e
        obtain ⟨o, ho⟩ := h5.there
        cases h5 with
        | lst q r => rw [hd] at q; cases q
        | ins q q2 q3 qd r => rw [hd] at q; cases q
      refine ⟨b, h1, by rw [upd_ne hb, upd_ne hb2]; exact h2, h3, h4, h5.freeze le fun d h6 h7 => ?_⟩
      have e1 : d ≠ a := fun e => by rw [e, h] at h7; cases h7
      have e2 : d ≠ dx := fun e => by
        rw [e, hd] at h7
        exact hb (HO.own.inj (Option.some.inj h7)).symm
      rw [upd_ne e1, upd_ne e2]
      exact h6
    · trivial
  · have d1 := x.dr.freeze (o := .own a) nd
    exact d1.freeze f.n
theorem make_post (x1 : Rl g B s1 σ H1 F1) (r1 : Reps g F1 vs ts) (l1 : LeF F F1) (hn : vs.length = n) (q : Po g B σ F W (rE g B σ) Q (resM i (φ ts s1.D) s1)) (ha : H1 a = none) (hd : H1 dx = none) (dd : dx + 1 = a) :
    spI g i n φ (.ref a :: vs) (upd (upd H1 dx (.own a)) a (.ins (g.cl i) dx [])) (fun v H2 => v = .non ∧ Q (.ref a) H2) (WE W σ) := by
  have ne : dx ≠ a := fun z => Nat.succ_ne_self dx (dd.trans z.symm)
  have up : LeF H1 (upd (upd H1 dx (.own a)) a (.ins (g.cl i) dx [])) := (LeF.upd hd).trans (LeF.upd (by rw [upd_ne (Ne.symm ne)]; exact ha))
  have na : Ne3 g a := x1.dr.ne ha
  refine ⟨a, dx, vs, F1, ts, s1.D, rfl, hn, upd_same, by rw [upd_ne ne, upd_same], x1.sub.free ha, x1.sub.free hd, na, dd, x1.sub.trans up, r1, x1.dr.up up, ?_⟩
  unfold resM at q
  cases hφ : φ ts s1.D with
  | bad => rw [hφ] at q; exact q
  | exc y D =>
    rw [hφ] at q
    intro cls d H' F' gr dd hx
    have gr2 := Gr.ofI ha ne hd gr
    exact q cls d H' F' (l1.trans gr2.f) (x1.call gr2 dd) hx
  | ok t fr D =>
    rw [hφ] at q
    intro H' F' gr dk fa ow
    refine ⟨rfl, ?_⟩
    have gr2 := Gr.ofI ha ne hd gr
    have x2 := x1.call gr2 dk
    split at q
    case h_2 => exact q.elim
    case h_3 z => cases z
    case h_4 z => cases z
    rename_i c fs fr0 D' e
    cases e
    split at q
    case isFalse => exact q.elim
    rename_i hc
    subst hc
    cases ow with
    | ins h k k3 kd rr =>
      rename_i dx' fs'
      have fr : Fr g B { s1 with D := D } σ F' a := ⟨fa, x1.keep.free ha, na, fun j t e z => by
        have w := x1.slot j
        rw [show s1.env[j]? = some (.ow t) from e] at w
        obtain ⟨b, k1, _, _, _, k5⟩ := w
        rw [z] at k1
        cases k1
        obtain ⟨o, ho⟩ := k5.there
        rw [ha] at ho; cases ho⟩
      have edx : dx' = dx := Nat.succ.inj (kd.trans dd.symm)
      subst edx
      have ndx : Ne3 g dx' := x1.dr.ne hd
      have bdx : B.H dx' = none := x1.keep.free hd
      have le2 : LeF F' (upd (upd F' dx' (.own a)) a (.ins (g.cl c) dx' fs')) := (LeF.upd k3).trans (LeF.upd (by rw [upd_ne (Ne.symm ne)]; exact fa))
      have x3 := x2.freezeI fr h k k3 bdx ndx ne
      exact q (.ref a) H' _ (l1.trans (gr2.f.trans le2)) x3 (.obj upd_same (by rw [upd_ne ne, upd_same]) (rr.mono le2))
end
section
variable {c : C} {x : Str} {p pos : Pos} {e : Expr} {es : List Expr} {k n i : Nat} {dts : List T} {φ : Phi} {f : S → Out (List T)}
theorem run_makeG {r : Rn} {k n i : Nat} {fI : Addr} {fd : FuncData} {ps : List Str} {dvs : List V} {ds us : List Value} {vs : List V} {W : WX} (ok : c.Ok r) (tk : Takes (c.cx r) W) {pins : List (Addr × Obj)} {σ : L2.St} {H : Hp} {s : Shared} {Q : VK} (M : Mk c.g.K (c.g.cl i) fI) (F : FnG c.g k fI fd ps (spI c.g i n φ)) (hr : Room (k + 1) r.A)
    (hb : Binds c.g.K fd ps ds) (hd : Vals dvs ds) (I : Inv (c.cx r) pins σ H s) (rv : Vals vs us)
    (h : ∀ a dx, H a = none → H dx = none → dx + 1 = a → spI c.g i n φ (.ref a :: (vs ++ dvs)) (upd (upd H dx (.own a)) a (.ins (c.g.cl i) dx [])) (fun v H2 => v = .non ∧ Q (.ref a) H2) (WE W σ)) :
    wpAny (model c.g.P c.g.w) r.A (call (.ref (c.g.cl i)) us) (EP (c.cx r) pins σ Q) r.xe s := by
  have hq := h (s.heap.objs.size + 1) s.heap.objs.size (I.hok.fresh (Nat.le_succ _)) (I.hok.fresh (Nat.le_refl _)) rfl
  have I2 := Inv.made (C := c.g.cl i) I
  have r2 : Vals (V.ref (s.heap.objs.size + 1) :: (vs ++ dvs)) (Value.ref (s.heap.objs.size + 1) :: (us ++ ds)) := .cons rfl (rv.append hd)
  have hl : (Value.ref (s.heap.objs.size + 1) :: us ++ ds).length = ps.length := by
    have e := r2.length
    rw [F.len _ _ _ _ hq] at e
    exact e.symm
  refine wpAny_call (make_map (f := fI) I.kIn M.makes M.init (beq_iff_eq.mp M.fn) (codeAny_mono (F.run _ r.stack _ _ ⟨Value.ref (s.heap.objs.size + 1) :: us, []⟩ (Value.ref (s.heap.objs.size + 1) :: (us ++ ds)) _ _ (WE W σ) (hr.make (c.g.cl i) us [])
    (by
      have e : (r.A.under (.builtin "type.__call__" ⟨.ref (c.g.cl i) :: us, []⟩)).guards = r.A.guards := by
        first | rfl | simp [Around.under, pushGuards, Code.guards, Code.isGuard, guardIds]
      rw [e]; exact ok.gd) (I2.env0.make (c.g.cl i) us []) (hb _ (Value.ref (s.heap.objs.size + 1) :: us) I2.kIn hl) r2 hq) fun rr s' hq' => ?_))
  cases rr with
  | error er => exact passAt (X := c.cx r) tk σ pins _ _ er s' I2 hq'
  | ok fl =>
    cases fl with
    | ret u =>
      obtain ⟨v, H', I3, rv, ev, q3⟩ := I2.after hq'
      subst ev
      exact ⟨rv, ⟨V.ref (s.heap.objs.size + 1), H', I3, rfl, q3⟩⟩
    | next => exact False.elim hq'
    | brk => exact False.elim hq'
    | cont => exact False.elim hq'
theorem SE.make (h : Mg c.g k i x n dts φ) (ha : SA c (e :: es) f) (hk : k + 1 ≤ c.k := by exact Nat.le_of_ble_eq_true rfl) (hg : c.sc.names.lookup x = some .globalImplicit := by rfl) (hdb : (x == ("__debug__" : Str)) = false := by decide)
    (hs : NoStar e := by intro _ _; rfl) (hpl : ∀ env, (backTo pos (starEach es env)).any (·.1) = false := by intro _; rfl) : SE c (.Call (.Name x p) (e :: es) [] pos) (fMake i n dts φ f) := by
  intro r W ok tk B s σ H F x0 Q q pins ss I
  obtain ⟨fI, fd, ps, dvs, ds, hM, hF, hv, hb, hrep⟩ := h.ex
  refine wpAny_Call_Name_kw (ld_glob (X := c.cx r) I (by show r.env.scope.names.lookup x = _; rw [ok.sc]; exact hg) h.mg ?_ hdb)
  refine PySem.W.callWith_K (h₀ := c.g.base) I.ok.mod.kin hM.kp (thn (ha r W ok tk B s σ H F x0 (fun vs H1 => ∀ a dx, H1 a = none → H1 dx = none → dx + 1 = a → spI c.g i n φ (.ref a :: (vs ++ dvs)) (upd (upd H1 dx (.own a)) a (.ins (c.g.cl i) dx [])) (fun v H2 => v = .non ∧ Q (.ref a) H2) (WE W σ)) ?_ pos pins ss I) fun us s1 ⟨vs, H1, I1, rv, q⟩ => ⟨I1.kIn, ?_⟩) (hs _ _) (hpl _)
  · unfold fMake at q
    cases hf : f s with
    | exc y s1 => rw [hf] at q; exact q
    | bad => rw [hf] at q; exact q
    | ok ts s1 =>
      rw [hf] at q
      dsimp only [Out.bind] at q
      intro vs H1 F1 l1 x1 r1
      split at q
      case isFalse => exact q.elim
      rename_i hl
      have r2 := r1.append (hrep F1)
      exact fun a dx ha hd dd => make_post x1 r2 l1 (r2.length.trans hl) q ha hd dd
  · exact run_makeG ok tk hM hF (ok.room.mono hk) hb hv I1 rv q
end
end Tv
namespace Tv
open PySem PySem.Spec PyProof.Rows L2

/-! ### built-ins by name: the module has none of these names -/
structure Gd (g : G) : Prop where
  f_len : g.mg "len" = none
  f_isinstance : g.mg "isinstance" = none
  f_all : g.mg "all" = none
  f_any : g.mg "any" = none
  f_sum : g.mg "sum" = none
  f_min : g.mg "min" = none
  f_max : g.mg "max" = none
  f_abs : g.mg "abs" = none
  f_sorted : g.mg "sorted" = none
  f_repr : g.mg "repr" = none
  f_divmod : g.mg "divmod" = none
  f_range : g.mg "range" = none
  f_enumerate : g.mg "enumerate" = none
  f_zip : g.mg "zip" = none
  f_list : g.mg "list" = none
  f_tuple : g.mg "tuple" = none
  f_int : g.mg "int" = none
  f_str : g.mg "str" = none
  f_bool : g.mg "bool" = none
  f_set : g.mg "set" = none
  f_dict : g.mg "dict" = none
section
variable {c : C}
theorem Gd.len (G : Gd c.g) (hg : c.sc.names.lookup ("len" : Str) = some .globalImplicit := by rfl) : Blt c "len" (.builtin "len") := ⟨hg, G.f_len, PyProof.Rows.Boot.«len», by decide, by decide⟩
theorem Gd.isinstance (G : Gd c.g) (hg : c.sc.names.lookup ("isinstance" : Str) = some .globalImplicit := by rfl) : Blt c "isinstance" (.builtin "isinstance") := ⟨hg, G.f_isinstance, PyProof.Rows.Boot.«isinstance», by decide, by decide⟩
theorem Gd.all (G : Gd c.g) (hg : c.sc.names.lookup ("all" : Str) = some .globalImplicit := by rfl) : Blt c "all" (.builtin "all") := ⟨hg, G.f_all, PyProof.Rows.Boot.«all», by decide, by decide⟩
theorem Gd.any (G : Gd c.g) (hg : c.sc.names.lookup ("any" : Str) = some .globalImplicit := by rfl) : Blt c "any" (.builtin "any") := ⟨hg, G.f_any, PyProof.Rows.Boot.«any», by decide, by decide⟩
theorem Gd.sum (G : Gd c.g) (hg : c.sc.names.lookup ("sum" : Str) = some .globalImplicit := by rfl) : Blt c "sum" (.builtin "sum") := ⟨hg, G.f_sum, PyProof.Rows.Boot.«sum», by decide, by decide⟩
theorem Gd.min (G : Gd c.g) (hg : c.sc.names.lookup ("min" : Str) = some .globalImplicit := by rfl) : Blt c "min" (.builtin "min") := ⟨hg, G.f_min, PyProof.Rows.Boot.«min», by decide, by decide⟩
theorem Gd.max (G : Gd c.g) (hg : c.sc.names.lookup ("max" : Str) = some .globalImplicit := by rfl) : Blt c "max" (.builtin "max") := ⟨hg, G.f_max, PyProof.Rows.Boot.«max», by decide, by decide⟩
theorem Gd.abs (G : Gd c.g) (hg : c.sc.names.lookup ("abs" : Str) = some .globalImplicit := by rfl) : Blt c "abs" (.builtin "abs") := ⟨hg, G.f_abs, PyProof.Rows.Boot.«abs», by decide, by decide⟩
theorem Gd.sorted (G : Gd c.g) (hg : c.sc.names.lookup ("sorted" : Str) = some .globalImplicit := by rfl) : Blt c "sorted" (.builtin "sorted") := ⟨hg, G.f_sorted, PyProof.Rows.Boot.«sorted», by decide, by decide⟩
theorem Gd.repr (G : Gd c.g) (hg : c.sc.names.lookup ("repr" : Str) = some .globalImplicit := by rfl) : Blt c "repr" (.builtin "repr") := ⟨hg, G.f_repr, PyProof.Rows.Boot.«repr», by decide, by decide⟩
theorem Gd.divmod (G : Gd c.g) (hg : c.sc.names.lookup ("divmod" : Str) = some .globalImplicit := by rfl) : Blt c "divmod" (.builtin "divmod") := ⟨hg, G.f_divmod, PyProof.Rows.Boot.«divmod», by decide, by decide⟩
theorem Gd.range (G : Gd c.g) (hg : c.sc.names.lookup ("range" : Str) = some .globalImplicit := by rfl) : Blt c "range" (.type "range") := ⟨hg, G.f_range, PyProof.Rows.Boot.«range», by decide, by decide⟩
theorem Gd.enumerate (G : Gd c.g) (hg : c.sc.names.lookup ("enumerate" : Str) = some .globalImplicit := by rfl) : Blt c "enumerate" (.type "enumerate") := ⟨hg, G.f_enumerate, PyProof.Rows.Boot.«enumerate», by decide, by decide⟩
theorem Gd.zip (G : Gd c.g) (hg : c.sc.names.lookup ("zip" : Str) = some .globalImplicit := by rfl) : Blt c "zip" (.type "zip") := ⟨hg, G.f_zip, PyProof.Rows.Boot.«zip», by decide, by decide⟩
theorem Gd.list (G : Gd c.g) (hg : c.sc.names.lookup ("list" : Str) = some .globalImplicit := by rfl) : Blt c "list" (.type "list") := ⟨hg, G.f_list, PyProof.Rows.Boot.«list», by decide, by decide⟩
theorem Gd.tuple (G : Gd c.g) (hg : c.sc.names.lookup ("tuple" : Str) = some .globalImplicit := by rfl) : Blt c "tuple" (.type "tuple") := ⟨hg, G.f_tuple, PyProof.Rows.Boot.«tuple», by decide, by decide⟩
theorem Gd.int (G : Gd c.g) (hg : c.sc.names.lookup ("int" : Str) = some .globalImplicit := by rfl) : Blt c "int" (.type "int") := ⟨hg, G.f_int, PyProof.Rows.Boot.«int», by decide, by decide⟩
theorem Gd.str (G : Gd c.g) (hg : c.sc.names.lookup ("str" : Str) = some .globalImplicit := by rfl) : Blt c "str" (.type "str") := ⟨hg, G.f_str, PyProof.Rows.Boot.«str», by decide, by decide⟩
theorem Gd.bool (G : Gd c.g) (hg : c.sc.names.lookup ("bool" : Str) = some .globalImplicit := by rfl) : Blt c "bool" (.type "bool") := ⟨hg, G.f_bool, PyProof.Rows.Boot.«bool», by decide, by decide⟩
theorem Gd.set (G : Gd c.g) (hg : c.sc.names.lookup ("set" : Str) = some .globalImplicit := by rfl) : Blt c "set" (.type "set") := ⟨hg, G.f_set, PyProof.Rows.Boot.«set», by decide, by decide⟩
theorem Gd.dict (G : Gd c.g) (hg : c.sc.names.lookup ("dict" : Str) = some .globalImplicit := by rfl) : Blt c "dict" (.type "dict") := ⟨hg, G.f_dict, PyProof.Rows.Boot.«dict», by decide, by decide⟩
end
section
variable {c : C} {e e2 : Expr} {p pos : Pos} {f : S → Out (List Bv)}
abbrev HG (c : C) (x : Str) : Prop := c.sc.names.lookup x = some .globalImplicit
theorem SE.c_len (G : Gd c.g) (h : SAb c [e] f) (hg : HG c "len" := by rfl) (he : NoStar e := by intro _ _; rfl) : SE c (.Call (.Name "len" p) [e] [] pos) (fCall opLen f) := SE.callB (G.len hg) (fun r ok => call_len_seq) OpN.len h he
theorem SE.c_list (G : Gd c.g) (h : SAb c [e] f) (hg : HG c "list" := by rfl) (he : NoStar e := by intro _ _; rfl) : SE c (.Call (.Name "list" p) [e] [] pos) (fCall opList f) := SE.callTy (G.list hg) (fun r ok => call_list_of) OpN.list h he
theorem SE.c_tuple (G : Gd c.g) (h : SAb c [e] f) (hg : HG c "tuple" := by rfl) (he : NoStar e := by intro _ _; rfl) : SE c (.Call (.Name "tuple" p) [e] [] pos) (fCall opTuple f) := SE.callTy (G.tuple hg) (fun r ok => call_tuple_of) OpN.tuple h he
theorem SE.c_int (G : Gd c.g) (h : SAb c [e] f) (hg : HG c "int" := by rfl) (he : NoStar e := by intro _ _; rfl) : SE c (.Call (.Name "int" p) [e] [] pos) (fCall opInt f) := SE.callTy (G.int hg) (fun r ok => call_int1) OpN.int h he
theorem SE.c_abs (G : Gd c.g) (h : SAb c [e] f) (hg : HG c "abs" := by rfl) (he : NoStar e := by intro _ _; rfl) : SE c (.Call (.Name "abs" p) [e] [] pos) (fCall opAbs f) := SE.callB (G.abs hg) (fun r ok => call_abs) OpN.abs h he
theorem SE.c_sum (G : Gd c.g) (h : SAb c [e] f) (hg : HG c "sum" := by rfl) (he : NoStar e := by intro _ _; rfl) : SE c (.Call (.Name "sum" p) [e] [] pos) (fCall opSum f) := SE.callB (G.sum hg) (fun r ok => cr_sum ok.calm) OpN.sum h he
theorem SE.c_any (G : Gd c.g) (h : SAb c [e] f) (hg : HG c "any" := by rfl) (he : NoStar e := by intro _ _; rfl) : SE c (.Call (.Name "any" p) [e] [] pos) (fCall opAny f) := SE.callB (G.any hg) (fun r ok => cr_any ok.calm) OpN.any h he
theorem SE.c_all (G : Gd c.g) (h : SAb c [e] f) (hg : HG c "all" := by rfl) (he : NoStar e := by intro _ _; rfl) : SE c (.Call (.Name "all" p) [e] [] pos) (fCall opAll f) := SE.callB (G.all hg) (fun r ok => cr_all ok.calm) OpN.all h he
theorem SE.c_max (G : Gd c.g) (h : SAb c [e] f) (hg : HG c "max" := by rfl) (he : NoStar e := by intro _ _; rfl) : SE c (.Call (.Name "max" p) [e] [] pos) (fCall opMax f) := SE.callB (G.max hg) (fun r ok => (call_max2 ok.calm).or (cr_max ok.calm)) OpN.max h he
theorem SE.c_min (G : Gd c.g) (h : SAb c [e] f) (hg : HG c "min" := by rfl) (he : NoStar e := by intro _ _; rfl) : SE c (.Call (.Name "min" p) [e] [] pos) (fCall opMin f) := SE.callB (G.min hg) (fun r ok => (call_min2 ok.calm).or (cr_min ok.calm)) OpN.min h he
theorem SE.c_max2 (G : Gd c.g) (h : SAb c [e, e2] f) (hg : HG c "max" := by rfl) (he : NoStar e := by intro _ _; rfl) (hpl : ∀ env, (backTo pos (starEach [e2] env)).any (·.1) = false := by intro _; rfl) : SE c (.Call (.Name "max" p) [e, e2] [] pos) (fCall opMax f) := SE.callB (G.max hg) (fun r ok => (call_max2 ok.calm).or (cr_max ok.calm)) OpN.max h he hpl
theorem SE.c_min2 (G : Gd c.g) (h : SAb c [e, e2] f) (hg : HG c "min" := by rfl) (he : NoStar e := by intro _ _; rfl) (hpl : ∀ env, (backTo pos (starEach [e2] env)).any (·.1) = false := by intro _; rfl) : SE c (.Call (.Name "min" p) [e, e2] [] pos) (fCall opMin f) := SE.callB (G.min hg) (fun r ok => (call_min2 ok.calm).or (cr_min ok.calm)) OpN.min h he hpl
end
end Tv
namespace Tv
open PySem PySem.Spec PyProof.Rows L2
/-- a def somewhere: a method, a getter -/
structure FnAt (g : G) (f : Addr) (x qual : Str) (params : Arguments) (body : List Stmt) (scope : Scope) : Prop where
  ex : ∃ (oc : Value) (od : Option Addr) (kV doc pm : Value) (an : Option Addr) (cdv ct : Value) (osl : Array (Option Value)),
    g.K.lookup f = some ⟨oc, od, .func (PySem.W.fnOf x qual params body scope .none kV doc pm an cdv ct), osl⟩ ∧ PySem.W.codeIn g.K cdv qual = true
theorem Pg.of {g : G} {k i : Nat} {p fa : Addr} {f x qual : Str} {params : Arguments} {body : List Stmt} {scope : Scope} {N : List Str} {self : Str} {φ : S → Out Fl} (cl : Cls g.K (g.cl i)) (hp : PropOf g.K (g.cl i) f p fa) (D : FnAt g fa x qual params body scope)
    (h : SSs ⟨g, N, scope, k, fun _ => true, none⟩ body φ) (sc : FnScope N [self] scope)
    (hb : ∀ (kV doc pm : Value) (an : Option Addr) (cdv ct : Value) (us : List Value), us.length = 1 → bindArgs (PySem.W.fnOf x qual params body scope .none kV doc pm an cdv ct) ⟨us, []⟩ = pure ([self].zip us)) : Pg g (k + 1) i f (phi N φ) := by
  obtain ⟨oc, od, kV, doc, pm, an, cdv, ct, osl, lk, hcd⟩ := D.ex
  exact ⟨cl, p, fa, _, [self], hp, fnG_body lk hcd sc h, .all (hb kV doc pm an cdv ct)⟩
theorem Mth.of {g : G} {k i : Nat} {fa : Addr} {m x qual : Str} {params : Arguments} {body : List Stmt} {scope : Scope} {N ps : List Str} {φ : S → Out Fl} (cl : Cls g.K (g.cl i)) (hm : Meth g.K (g.cl i) m fa) (D : FnAt g fa x qual params body scope)
    (h : SSs ⟨g, N, scope, k, fun _ => true, none⟩ body φ) (sc : FnScope N ps scope)
    (hb : ∀ (kV doc pm : Value) (an : Option Addr) (cdv ct : Value) (us : List Value), us.length = ps.length → bindArgs (PySem.W.fnOf x qual params body scope .none kV doc pm an cdv ct) ⟨us, []⟩ = pure (ps.zip us)) : Mth g (k + 1) i m ps.length (phi N φ) := by
  obtain ⟨oc, od, kV, doc, pm, an, cdv, ct, osl, lk, hcd⟩ := D.ex
  exact ⟨cl, fa, _, ps, hm, fnG_body lk hcd sc h, .all (hb kV doc pm an cdv ct)⟩
/-- keyword-only defaults, none of them given -/
theorem Mg.ofK {g : G} {k i n : Nat} {f : Addr} {fd : FuncData} {x nm qual self : Str} {params : Arguments} {body : List Stmt} {scope : Scope} {N ps : List Str} {φ : S → Out Fl} {kws : List (Str × V)} {dts : List T} (hm : g.mg x = some (.ref (g.cl i))) (M : Mk g.K (g.cl i) f)
    (D : FunD g.K nm qual params body scope [] kws f fd) (h : SSs ⟨g, N, scope, k, fun _ => true, none⟩ body φ) (sc : FnScope N (self :: ps) scope) (hk : kws ≠ []) (hn : n + kws.length = (self :: ps).length)
    (hb : ∀ (D : Addr) (doc pm : Value) (an : Option Addr) (cdv ct : Value) (us ks : List Value), us.length = n → ks.length = kws.length →
      KwChain D ((kws.map (·.1)).zip ks) (bindArgs (PySem.W.fnOf nm qual params body scope .none (.ref D) doc pm an cdv ct) ⟨us, []⟩) ((self :: ps).zip (us ++ ks)))
    (hr : ∀ F, Reps g F (kws.map (·.2)) dts) : Mg g (k + 1) i x ps.length dts (phiI N i φ) := by
  obtain ⟨ds, hv, hB⟩ := D.binds0 n hk hn hb
  obtain ⟨oc, od, dV, kV, doc, pm, an, cdv, ct, osl, rfl, lk, hcd, _, _⟩ := D.ex
  exact ⟨hm, f, _, self :: ps, _, ds, M, fnI_body lk hcd sc h, hv, hB, hr⟩
end Tv
namespace Tv
open PySem PySem.Spec PyProof.Rows L2
section
open LamX
variable {X : Cx} {pins : List (Addr × Obj)} {σ : L2.St} {H HZ : Hp} {s s1 : Shared}
/-- the lambda is made: all but the table at P is kept -/
theorem lam_make3 {T : List (Addr × Str)} {c P : Addr} {params : Arguments} {body : Expr} {scope : Scope} {pos : Pos} {E : Value → Shared → Prop} {Q : Value → Shared → Prop} (I : Inv X pins σ H s) (TB : TabB X.base X.mg c P) (hcode : X.env.code = .ref c)
    (hm : (P, X.env.qual ++ "<lambda>") ∈ T) (hu : ∀ p ∈ T, p.1 = P → p.2 = X.env.qual ++ "<lambda>") (hT : Tabs T H) (hdef : defaultsOf params X.env = ([], [])) (hfree : ∀ y ∈ scope.names, y.2 = .free → ∃ c, X.env.cells.lookup y.1 = some c)
    (h : ∀ (f c' : Addr) (pm ctv : Value) (H1 : Hp) (s' : Shared), Inv X pins σ H1 s' → (∀ b o, b ≠ P → H b = some o → H1 b = some o) → Tabs T H1 →
      s'.heap.get? f = some (PySem.W.kla_obj "<lambda>" (X.env.qual ++ "<lambda>") params body scope (cloFrom X.env.cells scope.names []) pm c' ctv) → H1 f = none → f ∉ frs X.stack → H1 c' = some (CodeO c' (X.env.qual ++ "<lambda>")) → Q (.ref f) s') :
    wpAny (model X.prog X.w) X.A (eval (.Lambda params body scope pos) X.env) Q E s := by
  obtain ⟨ps, hP, ht, ha⟩ := hT _ hm
  refine PySem.W.kla_eval hdef ?_
  have bP : s.heap.BuiltinsAt X.mg P := TB.bm.keeps I.bk
  have hP' : s.heap.get? P = some { cls := .none, data := .fields ps } := I.hok P _ hP
  have nofr : ∀ f, s.heap.objs.size ≤ f → f ∉ frs X.stack := fun f hf z => by
    rcases List.mem_cons.mp (I.stkSub _ z) with e | e
    · have h1 := I.lt
      rw [← e] at h1
      exact Nat.lt_irrefl _ (Nat.lt_of_lt_of_le h1 hf)
    · exact I.nofs hf e
  cases hc : codeAmong pos ps.toList with
  | none =>
    refine PySem.W.kla_makeFunction (mg := X.mg) (c := c) (P := P) (ps := ps) (closure_ok hfree) I.ok.glob (I.mod.glob.keeps I.bk) hcode (TB.code.keeps I.bk) hP' ht hc TB.gP bP fun c' ctv h' tk hx hge hlt hrec htb => ?_
    obtain ⟨c2, oc, vs, t, e2, hoc, hd, hv⟩ := hrec
    cases e2
    have hsz : s.heap.objs.size ≤ h'.objs.size := Nat.le_trans hge (Nat.le_of_lt hlt)
    have nC : H c' = none := I.hok.fresh hge
    have I1 := inv_table (t' := tk) (more := #[rawInt pos.line, rawInt pos.col, .ref c']) (h' := h'.push (PySem.W.kla_obj "<lambda>" (X.env.qual ++ "<lambda>") params body scope (cloFrom X.env.cells scope.names []) ((X.mg "__name__").getD .none) c' ctv)) I hP
      (fun b o hb e => Heap.get?_push_of_some _ (hx b o hb e)) (Heap.get?_push_of_some _ htb) hge ⟨oc, vs, t, Heap.get?_push_of_some _ hoc, hd, hv⟩
    have hE : ∀ b o, b ≠ P → H b = some o → upd (upd H P (.tbl (ps ++ #[rawInt pos.line, rawInt pos.col, .ref c']))) c' (CodeO c' (X.env.qual ++ "<lambda>")) b = some o := fun b o n e => by
      rw [upd_ne (ne_of_none e nC), upd_ne n]
      exact e
    have nPx : ∀ {b q}, H b = some (CodeO b q) → b ≠ P := fun {b q} e z => by
      rw [z, hP] at e
      exact codeO_ne _ (Option.some.inj e).symm
    have eL : (ps ++ #[rawInt pos.line, rawInt pos.col, .ref c']).toList = ps.toList ++ [rawInt pos.line, rawInt pos.col, .ref c'] := by simp
    refine h h'.objs.size c' ((X.mg "__name__").getD .none) ctv _ _ I1 hE (fun p hp => ?_) (Heap.get?_push_size _ rfl) ?_ (nofr _ hsz) upd_same
    · by_cases hb : p.1 = P
      · rw [hu p hp hb, hb]
        refine ⟨_, by rw [upd_ne (ne_of_none hP nC), upd_same], by rw [eL]; exact PySem.TriplesOk_snoc _ _ _ _ ht, fun p' cv hcv => ?_⟩
        rw [eL] at hcv
        rcases among_app _ ht hcv with z | z
        · obtain ⟨c0, e1, e2⟩ := ha p' cv z
          exact ⟨c0, e1, hE _ _ (nPx e2) e2⟩
        · exact ⟨c', z, upd_same⟩
      · obtain ⟨ps', a1, a2, a3⟩ := hT p hp
        refine ⟨ps', by rw [upd_ne (ne_of_none a1 nC), upd_ne hb]; exact a1, a2, fun p' cv hcv => ?_⟩
        obtain ⟨c0, e1, e2⟩ := a3 p' cv hcv
        exact ⟨c0, e1, hE _ _ (nPx e2) e2⟩
    · have n1 : h'.objs.size ≠ c' := Nat.ne_of_gt hlt
      have n2 : h'.objs.size ≠ P := Nat.ne_of_gt (Nat.lt_of_lt_of_le (Heap.lt_size hP') hsz)
      rw [upd_ne n1, upd_ne n2]
      exact I.hok.fresh hsz
  | some cv =>
    obtain ⟨c', e, hco⟩ := ha pos cv hc
    subst e
    refine PySem.W.kla_makeFunctionHit (mg := X.mg) (c := c) (P := P) (ps := ps) (closure_ok hfree) I.ok.glob (I.mod.glob.keeps I.bk) hcode (TB.code.keeps I.bk) hP' ht hc bP fun ctv h' tk hx hsz => ?_
    have I1 : Inv X pins σ H { s with heap := h'.push (PySem.W.kla_obj "<lambda>" (X.env.qual ++ "<lambda>") params body scope (cloFrom X.env.cells scope.names []) ((X.mg "__name__").getD .none) c' ctv), toks := tk } := I.kept fun b o e => Heap.get?_push_of_some _ (hx b o e)
    exact h h'.objs.size c' ((X.mg "__name__").getD .none) ctv H _ I1 (fun _ _ _ e => e) hT (Heap.get?_push_size _ rfl) (I.hok.fresh hsz) (nofr _ hsz) hco
/-- x(), in the def that got the lambda -/
theorem act3 {CXg : CXT} {Eg : XK} {Ng : List Str} {qg : Str} {sg : Scope} {g f c' : Addr} {cdg pm ctv : Value} {params : Arguments} {body : Expr} {scope : Scope} {k i : Nat} {a : Str} {pn : List (Addr × Obj)} {xe : Value → Shared → Prop} {W : WX} {tb : XK → TE} {p1 p2 : Pos}
    (I : Inv X pins σ H s) (L : LamS X.env.scope scope) (hf : s.heap.get? f = some (PySem.W.kla_obj "<lambda>" (X.env.qual ++ "<lambda>") params body scope (cloFrom X.env.cells scope.names []) pm c' ctv)) (hfn : H f = none) (hfr : f ∉ frs X.stack)
    (hbind : bindArgs (PySem.W.kla_fn "<lambda>" (X.env.qual ++ "<lambda>") params body scope (cloFrom X.env.cells scope.names []) pm (.ref c') ctv) ⟨[], []⟩ = pure [])
    (tk : Takes ((cxOf CXg X.prog X.w X.K X.mg X.base Ng qg sg g cdg X.A X.stack s H Eg).tr pn xe) W) (hr : Room (k + 1) (X.A.deeper (envOfC qg sg s.heap.objs.size g cdg)))
    (hbody : ∀ (A : Around) (outer : List Env) (s : Shared) (H : Hp) (E : XK), A.guards = X.A.guards → Room k (A.deeper (lamEnv X scope s.heap.objs.size f c')) → PE (lamCx X A outer s H E scope f c') body (tb E))
    (hN : Ng[i]? = some a) (hv : Vis sg a) (hd : (a == ("__debug__" : Str)) = false := by decide) (hcd : (a == ("__classdict__" : Str)) = false := by decide) :
    PE ((cxOf CXg X.prog X.w X.K X.mg X.base Ng qg sg g cdg X.A X.stack s H Eg).tr pn xe) (.Call (.Name a p1) [] [] p2)
      (fun σZ HZ Q => σZ[i]? = some (some (.ref f)) ∧ HZ c' = some (CodeO c' (X.env.qual ++ "<lambda>")) ∧ tb (WE W σZ) σ HZ Q) := by
  refine ⟨fun pinsZ sZ σZ HZ Q IZ h => ?_⟩
  obtain ⟨hs, hc, ht⟩ := h
  refine wpAny_Call_Name_kw (thn ((pe_var (pos := p1) (i := i) hN hv hd hcd).run pinsZ sZ σZ HZ (fun v H1 => v = .ref f ∧ H1 = HZ) IZ ⟨.ref f, hs, rfl, rfl⟩) fun u s1 ⟨v, H1, I1, r1, q1⟩ => ?_)
  obtain ⟨ev, eH⟩ := q1
  subst ev
  rw [eH] at I1
  obtain rfl : u = Value.ref f := r1
  have of1 : s1.heap.get? f = some (PySem.W.kla_obj "<lambda>" (X.env.qual ++ "<lambda>") params body scope (cloFrom X.env.cells scope.names []) pm c' ctv) := I1.base.keep f _ hf hfn hfr (fun z => nomatch (show f ∈ ([] : List Addr) from z))
  refine PySem.W.callWith_F0 ⟨_, _, _, _, of1⟩ ?_
  have un : Un (frs X.stack) [] H HZ s.heap s1.heap := I1.base
  obtain ⟨⟨oc, vs, t, hoc, hdc, hvc⟩, _, _⟩ := I1.hok c' _ hc
  have rc : codeAny (model X.prog X.w) (X.A.deeper (envOfC qg sg s.heap.objs.size g cdg)) (.call (.ref f) ⟨[], []⟩) (CR (L2.CX X.prog X.w) (envOfC qg sg s.heap.objs.size g cdg :: X.stack) X.prog X.w HZ s1 Q (WE W σZ)) s1 := by
    refine PySem.W.kla_callFunE hr.depth of1 rfl L.co L.gen rfl ⟨c', oc, vs, t, rfl, hoc, hdc, hvc⟩ ?_
    rw [hbind]
    refine wpAny_pure (wpAny_newFunctionEnv (fun y hy => (L.own y hy).2) (fun y hy => absurd hy (by simp)) (fun h₁ hns hsb => ⟨I1.nolimit.fresh _ hsb, ?_⟩) L.kind)
    show codeAny _ _ (.expr body (lamEnv X scope s1.heap.objs.size f c')) _ _
    have kp : ∀ b o, s1.heap.get? b = some o → h₁.get? b = some o := fun b o e => hsb.extBut b o (Nat.ne_of_lt (Heap.lt_size e)) (Heap.get?_push_of_some _ e)
    have J : Inv (lamCx X (X.A.deeper (envOfC qg sg s.heap.objs.size g cdg)) (envOfC qg sg s.heap.objs.size g cdg :: X.stack) s1 HZ (WE W σZ) scope f c') [] σ HZ { s1 with heap := h₁, toks := s1.toks + ([] : List (Str × Value)).length } :=
      lam_start2 I L I1.env0 hr.hd un hns kp
    refine PySem.W.kla_codeExpr (wpAny_mono ((hbody (X.A.deeper (envOfC qg sg s.heap.objs.size g cdg)) _ s1 HZ (WE W σZ) rfl (hr.deeper _)).run [] _ _ HZ Q J ht) (fun v s' hq => ?_) fun e s' hq => hq)
    obtain ⟨w', H', J', rv, q⟩ := hq
    exact ⟨w', H', J'.os, J'.bare, J'.base, J'.hok, rv, q⟩
  have hx := passAt tk σZ
  refine wpAny_call (codeAny_mono rc fun r s' hq => ?_)
  cases r with
  | error e => exact hx pinsZ HZ s1 e s' I1 hq
  | ok fl =>
    cases fl with
    | ret u => exact I1.after hq
    | next => exact False.elim hq
    | brk => exact False.elim hq
    | cont => exact False.elim hq
end

/-! ### told(lambda: e): the answer or what an own exception tells, as a tuple -/
/-- the body of the def that calls it -/
def toldBody (w1 w2 x par : Str) (q : Nat → Pos) (j1 j2 : Nat) : List Stmt :=
  [.Assign [.Name "found" (q 1)] (.List [] (q 2)) (q 3),
   .Try [.Assign [.Name "found" (q 4)] (.List [.Constant (.str w1) j1 (q 5), .Call (.Name "work" (q 6)) [] [] (q 7)] (q 8)) (q 9)]
     [.ExceptHandler (some (.Name x (q 10))) (some "error") [.Assign [.Name "found" (q 11)] (.List [.Constant (.str w2) j2 (q 12), .Attribute (.Name "error" (q 13)) par (q 14)] (q 15)) (q 16)] (q 17)] [] [] (q 18),
   .Return (some (.Call (.Name "tuple" (q 19)) [.Name "found" (q 20)] [] (q 21))) (q 22)]
structure ToldScope (sc : Scope) (x : Str) : Prop where
  fs : FnScope ["work", "found", "error"] ["work"] sc
  work : sc.names.lookup ("work" : Str) = some .local
  found : sc.names.lookup ("found" : Str) = some .local
  error : sc.names.lookup ("error" : Str) = some .local
  ex : sc.names.lookup x = some .globalImplicit
  tup : sc.names.lookup ("tuple" : Str) = some .globalImplicit
/-- what is known of the def and of the exception's class -/
structure Told (g : G) (i : Nat) (told x par w1 w2 : Str) : Prop where
  fn : ∃ (f : Addr) (oc : Value) (od : Option Addr) (pa : Arguments) (sg : Scope) (q : Nat → Pos) (j1 j2 : Nat) (kV doc pm : Value) (an : Option Addr) (cdv ct : Value) (osl : Array (Option Value)),
    g.K.lookup f = some ⟨oc, od, .func (PySem.W.fnOf told told pa (toldBody w1 w2 x par q j1 j2) sg .none kV doc pm an cdv ct), osl⟩ ∧ PySem.W.codeIn g.K cdv told = true ∧ g.mg told = some (.ref f) ∧ PySem.W.keepIn g.K (.ref f) = true ∧ ToldScope sg x ∧
    (∀ us : List Value, us.length = 1 → bindArgs (PySem.W.fnOf told told pa (toldBody w1 w2 x par q j1 j2) sg .none kV doc pm an cdv ct) ⟨us, []⟩ = pure ((["work"] : List Str).zip us))
  mg : g.mg x = some (.ref (g.cl i))
  xf : XfC g.K (g.cl i)
  no : PySem.W.findIn g.K (.ref (g.cl i)) par = some none
  ex : PySem.W.exmOne g.K (.ref (g.cl i)) (.ref (g.cl i)) = some true
  nd : (x == ("__debug__" : Str)) = false
  gd : Gd g
def fTold (i : Nat) (par w1 w2 : Str) (fb : S → Out T) : S → Out R := fun s => match fb s with
  | .ok t s1 => .ok (.val (.tup [.str w1, t])) s1
  | .exc x s1 => if x.cls = i then (match x.fs.lookup par with
    | some t => .ok (.val (.tup [.str w2, t])) s1
    | none => .bad) else .bad
  | .bad => .bad
abbrev C.lamC (c : C) (scope : Scope) (k : Nat) : C := { c with sc := scope, k := k, fnl := fun _ => false, lam := none }
/-- the body's reading in every frame -/
def lamE (X : Cx) (scope : Scope) (f c' : Addr) (k : Nat) (body : Expr) (E : XK) : TE := fun σ H Q => ∀ (A : Around) (outer : List Env) (s : Shared) (H0 : Hp), A.guards = X.A.guards → Room k (A.deeper (LamX.lamEnv X scope s.heap.objs.size f c')) → wE (LamX.lamCx X A outer s H0 E scope f c') body σ H Q
theorem lamE_ok {X : Cx} {scope : Scope} {f c' : Addr} {k : Nat} {body : Expr} : ∀ (A : Around) (outer : List Env) (s : Shared) (H : Hp) (E : XK), A.guards = X.A.guards → Room k (A.deeper (LamX.lamEnv X scope s.heap.objs.size f c')) → PE (LamX.lamCx X A outer s H E scope f c') body (lamE X scope f c' k body E) :=
  fun A outer s H E hg hr => ⟨fun pins s' σ H' Q I h => h A outer s H hg hr pins s' I⟩
theorem Rl.tables {g : G} {B : Bs} {s : S} {σ : L2.St} {H H1 F : Hp} {P : Addr} {q : Str} (x : Rl g B s σ H F) (hP : (P, q) ∈ g.tb) (k : ∀ b o, b ≠ P → H b = some o → H1 b = some o) (t : LamX.Tabs g.tb H1) : Rl g B s σ H1 F := by
  have nP : ∀ b, Ne3 g b → b ≠ P := fun b n => n.tb _ hP
  obtain ⟨ps, hps, _⟩ := x.dr.tb _ hP
  have no : ∀ {b o}, H b = some o → (∀ ps, o ≠ .tbl ps) → b ≠ P := fun {b o} e n z => by
    rw [z, hps] at e
    exact n _ (Option.some.inj e).symm
  refine ⟨fun b o e => k b o (fun z => ?_) (x.sub b o e), x.new, x.old, fun b o e => k b o (fun z => ?_) (x.keep b o e), fun i => ?_, x.dis, ⟨k _ _ (no x.dr.da (fun _ z => nomatch z)) x.dr.da, k _ _ (no x.dr.la (fun _ z => nomatch z)) x.dr.la, k _ _ (no x.dr.ca (fun _ z => nomatch z)) x.dr.ca, x.dr.fda, x.dr.fla, x.dr.fca, x.dr.dl, x.dr.dc, x.dr.lc, t, x.dr.ftb⟩, x.bd, x.mkd⟩
  · rw [z, x.dr.ftb _ hP] at e; cases e
  · rw [z, x.bd.tb _ hP] at e; cases e
  · have z := x.slot i
    unfold SlOk at z ⊢
    split at z
    · exact z
    · obtain ⟨a, h1, h2, h3, h4, h5⟩ := z
      refine ⟨a, h1, h2, h3, h4, ?_⟩
      cases h5 with
      | lst h r => exact .lst (k _ _ (no h (fun _ z => nomatch z)) h) r
      | ins h q f d r => exact .ins (k _ _ (no h (fun _ z => nomatch z)) h) (k _ _ (no q (fun _ z => nomatch z)) q) f d r
    · trivial
section
variable {c : C} {i k : Nat} {tld x par w1 w2 : Str} {l : LamI} {params : Arguments} {body : Expr} {scope : Scope} {lpos p pos : Pos} {fb : S → Out T}
theorem two_le : 2 ≤ sizeLine := by rw [sizeLine_eq]; omega
theorem lamE_of {r : Rn} {E : XK} {B : Bs} {s : S} {σ : L2.St} {H F : Hp} {Q : VK} {f c' : Addr} (ok : c.Ok r) (hb : SV (c.lamC scope k) body fb) (x : Rl c.g B s σ H F) (q : Po c.g B σ F (fun cls d _ H => E cls d H) (rV c.g) Q (fb s)) : lamE (c.cx r) scope f c' k body E σ H Q := by
  intro A outer s0 H0 hgu hroom
  let cL : C := c.lamC scope k
  let rL : Rn := ⟨A.deeper (LamX.lamEnv (c.cx r) scope s0.heap.objs.size f c'), s0, H0, LamX.lamEnv (c.cx r) scope s0.heap.objs.size f c', outer, LamX.lamEnv (c.cx r) scope s0.heap.objs.size f c' :: outer, [], fun _ => false, true, [], (LamX.lamCx (c.cx r) A outer s0 H0 E scope f c').xe⟩
  have okL : cL.Ok rL := {
    sc := rfl
    nd := ok.nd
    calm := rfl
    room := hroom
    gd := by
      show (A.deeper _).guards = some []
      exact hgu.trans ok.gd
    fnc := fun _ z => absurd z Bool.false_ne_true
    pass := passes_of (X := cL.cx rL) rfl
    lam := fun l z => by
      have z : (none : Option LamI) = some l := z
      cases z }
  exact hb rL _ okL (takes_of rfl rfl rfl rfl) B s σ H F x Q q
theorem SE.toldLam (G : Told c.g i tld x par w1 w2) (hl : c.lam = some l) (L : LamX.LamS c.sc scope) (hdef : ∀ env, defaultsOf params env = ([], []))
    (hbind : ∀ (q : Str) (cl : List (Str × Addr)) (pm cv ctv : Value), bindArgs (PySem.W.kla_fn "<lambda>" q params body scope cl pm cv ctv) ⟨[], []⟩ = pure []) (hb : SV (c.lamC scope k) body fb) (hk : k + 2 ≤ c.k := by exact Nat.le_of_ble_eq_true rfl)
    (hg : c.sc.names.lookup tld = some .globalImplicit := by rfl) (hdb : (tld == ("__debug__" : Str)) = false := by decide) : SE c (.Call (.Name tld p) [.Lambda params body scope lpos] [] pos) (fTold i par w1 w2 fb) := by
  intro r W ok tk B s σ H F x0 Q q pins ss I
  obtain ⟨gf, oc, od, pa, sg, qp, j1, j2, kV, doc, pm, an, cdv, ct, osl, lk, hcd, hm, hkp, SC, hbd⟩ := G.fn
  obtain ⟨hcode, hq1, TB, hmT, hu⟩ := ok.lam l hl
  have es : (c.cx r).env.scope = c.sc := ok.sc
  have L' : LamX.LamS (c.cx r).env.scope scope := by rw [es]; exact L
  refine wpAny_Call_Name_kw (ld_glob (X := c.cx r) I (by show r.env.scope.names.lookup tld = _; rw [ok.sc]; exact hg) hm ?_ hdb)
  refine PySem.W.callWith_K (h₀ := c.g.base) I.ok.mod.kin hkp ?_ (by rfl) (by rfl)
  show wpAny _ _ (spliced ((false, eval (.Lambda params body scope lpos) (c.cx r).env) :: backTo pos (starEach [] (c.cx r).env))) _ _ ss
  have hr2 : Room (k + 2) r.A := ok.room.mono hk
  refine Calls.spliced_cons (lam_make3 (X := c.cx r) I TB hcode (by rw [show (c.cx r).env.qual ++ "<lambda>" = l.q from hq1]; exact hmT) (fun p hp e => (hu p hp e).trans hq1.symm) x0.dr.tb (hdef _) (L'.has I.ok) fun f c' pm' ctv H1 s' I1 hkeep T1 hf hfn hfr hco => ?_)
  refine Calls.spliced_nil ⟨I1.kIn, ?_⟩
  have x1 : Rl c.g B s σ H1 F := x0.tables hmT hkeep T1
  have nf : ∀ {X : Cx} {u : Value} {s2 : Shared}, True := trivial
  have rc : codeAny (model c.g.P c.g.w) r.A (.call (.ref gf) ⟨[.ref f], []⟩) (CR (L2.CX c.g.P c.g.w) r.stack c.g.P c.g.w H1 s' Q (WE W σ)) s' := by
    refine LamX.run_ofS (CX := L2.CX c.g.P c.g.w) (N := ["work", "found", "error"]) (ps := ["work"]) (us := [.ref f]) (vs := [.ref f]) lk hcd SC.fs hr2 I1.env0 (.of_eq (hbd [.ref f] rfl)) (.cons rfl .nil) rfl fun hr' => ?_
    have nm : Names (cxOf (L2.CX c.g.P c.g.w) c.g.P c.g.w c.g.K c.g.mg c.g.base ["work", "found", "error"] tld sg gf cdv r.A r.stack s' H1 (WE W σ)) x (.ref (c.g.cl i)) := ⟨SC.ex, G.nd, .inl G.mg⟩
    refine ⟨_, pss_cons (ps_set (i := 1) SC.fs.nd rfl (.inl SC.found) (pe_lst pa_nil)) (pss_cons (ps_try_as (i := 2) (Wout := fun _ _ _ _ => False)
      (tb := fun W' => tAsg (tLst (tCons (tC (.str w1)) (tCons (fun σZ HZ Q => σZ[0]? = some (some (.ref f)) ∧ HZ c' = some (LamX.CodeO c' ((c.cx r).env.qual ++ "<lambda>")) ∧ lamE (c.cx r) scope f c' k body (WE W' σZ) σ HZ Q) tNil))) (gName 1))
      (ts := fun a cls d => tAsg (tLst (tCons (tC (.str w2)) (tCons (tXf a cls d (c.g.cl i) par (tVar 2)) tNil))) (gName 1))
      rfl rfl SC.fs.nd rfl SC.error nm takes0 (fun W' pn xe tk' _ => ?_) (fun a oe cls d pn hz hfl => ?_)) (pss_one (ps_ret (pe_callTy call_tuple_of SC.tup G.gd.f_tuple PyProof.Rows.Boot.«tuple» (pa_cons (pe_var (i := 1) rfl (.inl SC.found)) pa_nil))))), ?_⟩
    · exact pss_one (ps_set (i := 1) SC.fs.nd rfl (.inl SC.found) (pe_lst (pa_cons pe_str (pa_cons (act3 (X := c.cx r) (i := 0) I1 L' hf hfn hfr (hbind _ _ _ _ _) tk' hr' lamE_ok rfl (.inl SC.work)) pa_nil))) rfl (.inr SC.found))
    · exact pss_one (ps_set (i := 1) SC.fs.nd rfl (.inl SC.found) (pe_lst (pa_cons pe_str (pa_cons (pe_xf G.xf G.no hz hfl (pe_var (i := 2) rfl (.inl SC.error))) pa_nil))) rfl (.inr SC.found))
    · refine ⟨Nat.zero_le _, fun p1 hp1 => ?_⟩
      have e1 : (L2.start ["work", "found", "error"] [V.ref f]) = [some (.ref f), none, none] := rfl
      rw [e1]
      have nc : c' ≠ p1 := fun z => by rw [z, hp1] at hco; cases hco
      refine ⟨rfl, by rw [upd_ne nc]; exact hco, ?_⟩
      refine lamE_of ok hb (x1.alloc hp1) ?_
      have tupEnd : ∀ {a : Str} {v : V} {t : T} {s1 : S} {H3 F3 : Hp} {p2 : Addr} {σ2 : L2.St}, LeF F F3 → Rl c.g B s1 σ H3 F3 → Rep c.g F3 v t → H3 p2 = none → σ2[1]? = some (some (.ref p2)) →
          (∀ v H' F', LeF F F' → Rl c.g B s1 σ H' F' → Rep c.g F' v (.tup [.str a, t]) → Q v H') →
          tCB (fun xs H Q => ∃ p ys, xs = [V.ref p] ∧ ((SqL c.g.K H p ys ∧ ∀ l, H l = none → Q (.ref l) (upd H l (.tup ys))) ∨ (SqT c.g.K H p ys ∧ Q (.ref p) H))) (tCons (tVar 1) tNil) σ2 (upd H3 p2 (.lst [.str a, v])) Q := by
        intro a v t s1 H3 F3 p2 σ2 l3 x3 rv hp2 e2 hQ
        refine ⟨.ref p2, e2, p2, [.str a, v], rfl, .inl ⟨SqL.of upd_same, fun l hl => ?_⟩⟩
        have x4 := x3.alloc (o := .lst [.str a, v]) hp2
        obtain ⟨y1, y2, y3⟩ := x4.newTup hl (.cons (.str a) (.cons rv .nil))
        exact hQ _ _ _ (l3.trans y2) y1 y3
      unfold fTold at q
      cases hfb : fb s with
      | bad => rw [hfb] at q; exact q
      | ok t s1 =>
        rw [hfb] at q
        intro v H3 F3 l3 x3 rv
        refine ⟨two_le, fun p2 hp2 => ?_⟩
        exact tupEnd l3 x3 rv hp2 rfl fun v H' F' l x r => q v H' F' l x r
      | exc y s1 =>
        rw [hfb] at q
        dsimp only at q
        split at q
        case isFalse => exact q.elim
        rename_i hy
        split at q
        case h_2 => exact q.elim
        rename_i t ht
        intro cls d H3 F3 l3 x3 hx
        obtain ⟨rfl, hx⟩ := hx
        cases d with
        | none => rw [show y.fs = [] from hx] at ht; cases ht
        | some dd =>
          obtain ⟨fs, hd1, hd2, rf⟩ := hx
          obtain ⟨v, hv1, hv2⟩ := rf.look ht
          refine ⟨true, by rw [hy]; exact G.ex, fun _ a ha => ?_, fun z => nomatch z⟩
          refine ⟨.ref a, rfl, rfl, by rw [hy], dd, fs, v, rfl, hd1, hv1, two_le, fun p2 hp2 => ?_⟩
          exact tupEnd l3 x3 hv2 hp2 rfl fun v H' F' l x r => q v H' F' l x r
  refine wpAny_call (codeAny_mono rc fun rr s2 hq => ?_)
  cases rr with
  | error e => exact passAt (X := c.cx r) tk σ pins H1 s' e s2 I1 hq
  | ok fl =>
    cases fl with
    | ret u => exact I1.after hq
    | next => exact False.elim hq
    | brk => exact False.elim hq
    | cont => exact False.elim hq
end
/-- a def that makes lambdas -/
structure DefAtL (g : G) (x qual : Str) (params : Arguments) (body : List Stmt) (scope : Scope) (l : LamI) : Prop where
  ex : ∃ (f : Addr) (oc : Value) (od : Option Addr) (kV doc pm : Value) (an : Option Addr) (ct : Value) (osl : Array (Option Value)),
    g.K.lookup f = some ⟨oc, od, .func (PySem.W.fnOf x qual params body scope .none kV doc pm an (.ref l.c) ct), osl⟩ ∧ PySem.W.codeIn g.K (.ref l.c) qual = true ∧ g.mg x = some (.ref f) ∧ PySem.W.keepIn g.K (.ref f) = true
  q : qual ++ ".<locals>." ++ "<lambda>" = l.q
  TB : LamX.TabB g.base g.mg l.c l.P
  mem : (l.P, l.q) ∈ g.tb
  uniq : ∀ p ∈ g.tb, p.1 = l.P → p.2 = l.q
theorem Fg.ofL {g : G} {k : Nat} {x qual : Str} {params : Arguments} {body : List Stmt} {scope : Scope} {N ps : List Str} {f : S → Out Fl} {l : LamI} (D : DefAtL g x qual params body scope l) (h : SSs ⟨g, N, scope, k, fun _ => true, some l⟩ body f) (sc : FnScope N ps scope)
    (hb : ∀ (kV doc pm : Value) (an : Option Addr) (cdv ct : Value) (us : List Value), us.length = ps.length → bindArgs (PySem.W.fnOf x qual params body scope .none kV doc pm an cdv ct) ⟨us, []⟩ = pure (ps.zip us)) : Fg g (k + 1) x ps.length (phi N f) := by
  obtain ⟨fa, oc, od, kV, doc, pm, an, ct, osl, lk, hcd, hm, hk⟩ := D.ex
  exact ⟨fa, _, ps, fnG_body lk hcd sc h (fun l' e => by cases e; exact ⟨rfl, D.q, D.TB, D.mem, D.uniq⟩), hm, hk, .all (hb kV doc pm an _ ct)⟩
end Tv
namespace Tv
open PySem PySem.Spec PyProof.Rows L2

/-! ### the drawing changes -/
abbrev drK (g : G) (D : Dr) : List (Key × V) := [(.inr "large", .ref g.la), (.inr "cells", .ref g.ca), (.inr "rest", .int D.rest), (.inr "turn", .int D.turn), (.inr "mix", .int D.mix)]
section
variable {g : G} {B : Bs} {s : S} {σ : L2.St} {H F : Hp} {a : Addr} {o : HO} {D' : Dr}
theorem Rl.mut (x : Rl g B s σ H F) (na : ¬ Ne3 g a) (no : ∀ y, H a ≠ some (.own y)) (d : DrOk g (upd H a o) F D') : Rl g B { s with D := D' } σ (upd H a o) F := by
  have k : ∀ b u, b ≠ a → H b = some u → upd H a o b = some u := fun b u hb e => by rw [upd_ne hb]; exact e
  refine ⟨fun b u e => k b u (fun z => ?_) (x.sub b u e), x.new, x.old, fun b u e => k b u (fun z => ?_) (x.keep b u e), fun i => ?_, x.dis, d, x.bd, x.mkd⟩
  · rw [z, x.dr.fno na] at e; cases e
  · rw [z, x.bd.no na] at e; cases e
  · have z := x.slot i
    show SlOk g B _ F (σ[i]?) (s.env[i]?)
    unfold SlOk at z ⊢
    split at z
    · exact z
    · obtain ⟨b, h1, h2, h3, h4, h5⟩ := z
      have hb : b ≠ a := fun e => na (e ▸ h4)
      refine ⟨b, h1, h2, h3, h4, ?_⟩
      cases h5 with
      | lst h r => exact .lst (k _ _ hb h) r
      | ins h q f dd r => exact .ins (k _ _ hb h) (k _ _ (fun e => no _ (e ▸ q)) q) f dd r
    · trivial
theorem Rl.setD (x : Rl g B s σ H F) (h1 : D'.large = s.D.large) (h2 : D'.cells = s.D.cells) : Rl g B { s with D := D' } σ (upd H g.da (.dK (drK g D'))) F := by
  have d := x.dr
  refine x.mut (fun n => n.da rfl) (fun y e => by rw [d.da] at e; cases e) ⟨upd_same, by rw [upd_ne (Ne.symm d.dl), h1]; exact d.la, by rw [upd_ne (Ne.symm d.dc), h2]; exact d.ca, d.fda, d.fla, d.fca, d.dl, d.dc, d.lc, fun p hp => ?_, d.ftb⟩
  obtain ⟨ps, h3, h4, h5⟩ := d.tb p hp
  exact ⟨ps, by rw [upd_ne (fun e => by rw [e, d.da] at h3; cases h3)]; exact h3, h4, fun pos cv hc => by
    obtain ⟨c, e1, e2⟩ := h5 pos cv hc
    have nc : c ≠ g.da := fun e => by
      rw [e, d.da] at e2
      have z := Option.some.inj e2
      unfold LamX.CodeO at z
      cases z
    exact ⟨c, e1, by rw [upd_ne nc]; exact e2⟩⟩
theorem Rl.setLa {l : List Int} (x : Rl g B s σ H F) : Rl g B { s with D := { s.D with large := l } } σ (upd H g.la (.lst (l.map V.int))) F := by
  have d := x.dr
  refine x.mut (fun n => n.la rfl) (fun y e => by rw [d.la] at e; cases e) ⟨by rw [upd_ne d.dl]; exact d.da, upd_same, by rw [upd_ne (Ne.symm d.lc)]; exact d.ca, d.fda, d.fla, d.fca, d.dl, d.dc, d.lc, fun p hp => ?_, d.ftb⟩
  obtain ⟨ps, h3, h4, h5⟩ := d.tb p hp
  exact ⟨ps, by rw [upd_ne (fun e => by rw [e, d.la] at h3; cases h3)]; exact h3, h4, fun pos cv hc => by
    obtain ⟨c, e1, e2⟩ := h5 pos cv hc
    exact ⟨c, e1, by rw [upd_ne (fun e => lst_no d.la _ _ (e ▸ e2))]; exact e2⟩⟩
end
inductive DKey where
  | rest | turn | mix
def DKey.name : DKey → Str
  | .rest => "rest" | .turn => "turn" | .mix => "mix"
def Dr.get (D : Dr) : DKey → Int
  | .rest => D.rest | .turn => D.turn | .mix => D.mix
def Dr.put (D : Dr) (k : DKey) (i : Int) : Dr := match k with
  | .rest => { D with rest := i } | .turn => { D with turn := i } | .mix => { D with mix := i }
theorem drK_get (g : G) (D : Dr) (k : DKey) : valV (drK g D) (.inr k.name) = some (.int (D.get k)) := by cases k <;> rfl
theorem drK_put (g : G) (D : Dr) (k : DKey) (i : Int) : putK (drK g D) (.inr k.name) (.int i) = drK g (D.put k i) := by cases k <;> rfl
def isDr (i : Nat) (s : S) : Bool := match s.env[i]? with
  | some (.sh .drw) => true
  | _ => false
theorem isDr_slot {g : G} {B : Bs} {s : S} {σ : L2.St} {H F : Hp} {i : Nat} (x : Rl g B s σ H F) (h : isDr i s = true) : σ[i]? = some (some (.ref g.da)) := by
  unfold isDr at h
  split at h
  · rename_i e
    have z := x.slot i
    rw [e] at z
    obtain ⟨v, h1, h2⟩ := z
    cases h2
    exact h1
  · cases h
def fDr (i : Nat) (k : DKey) : S → Out R := fun s => if isDr i s = true then .ok (.val (.int (s.D.get k))) s else .bad
def fDrSet (i : Nat) (k : DKey) (f : S → Out R) : S → Out Fl := fun s => (f s).bind fun z s1 => match z with
  | .val (.int n) => if isDr i s1 = true then .ok .nx { s1 with D := s1.D.put k n } else .bad
  | _ => .bad
section
variable {c : C} {x y z : Str} {p p2 p3 p4 p5 p6 pos pos' : Pos} {i j j2 : Nat} {e : Expr}
abbrev VisC (c : C) (x : Str) : Prop := Vis c.sc x
theorem SE.dr (i : Nat) (k : DKey) (hN : c.N[i]? = some x := by rfl) (hv : Vis c.sc x := by first | exact Or.inl rfl | exact Or.inr (Or.inl rfl) | exact Or.inr (Or.inr rfl)) (hd : (x == ("__debug__" : Str)) = false := by decide) (hcd : (x == ("__classdict__" : Str)) = false := by decide) :
    SE c (.Subscript (.Name x p) (.Constant (.str k.name) j p2) pos) (fDr i k) := by
  intro r W ok tk B s σ H F x0 Q q
  have hv' : Vis (c.cx r).env.scope x := by rw [show (c.cx r).env.scope = c.sc from ok.sc]; exact hv
  refine PE.w (pe_dget (X := c.cx r) (Nat.lt_of_le_of_lt (by omega) ok.hu) (pe_var (i := i) hN hv' hd hcd) pe_str (fun _ _ => rfl)) ?_
  unfold fDr at q
  split at q
  · rename_i hi
    refine ⟨.ref c.g.da, isDr_slot x0 hi, c.g.da, .int (s.D.get k), rfl, ?_, q _ H F (LeF.refl F) x0 (.int _)⟩
    rw [← drK_get c.g s.D k]
    exact DGet.k (k := .inr k.name) x0.dr.da
  · exact q.elim
theorem SS.drSet (i : Nat) (k : DKey) {f : S → Out R} (h : SE c e f) (hN : c.N[i]? = some x := by rfl) (hv : Vis c.sc x := by first | exact Or.inl rfl | exact Or.inr (Or.inl rfl) | exact Or.inr (Or.inr rfl)) (hd : (x == ("__debug__" : Str)) = false := by decide) (hcd : (x == ("__classdict__" : Str)) = false := by decide)
    (hs : ∀ n env, swapsWith e (some (.Subscript (.Name x p) (.Constant (.str k.name) j p2) p3)) n env = pure false := by intro _ _; rfl) :
    SS c (.Assign [.Subscript (.Name x p) (.Constant (.str k.name) j p2) p3] e pos) (fDrSet i k f) := by
  intro r W ok tk B s σ H F x0 D q
  have hv' : Vis (c.cx r).env.scope x := by rw [show (c.cx r).env.scope = c.sc from ok.sc]; exact hv
  refine PS.w (ps_dput (X := c.cx r) (Nat.lt_of_le_of_lt (by omega) ok.hu) (pe_var (i := i) hN hv' hd hcd) pe_str pE (hs _ _)) (h r W ok tk B s σ H F x0 _ ?_)
  unfold fDrSet at q
  cases hf : f s with
  | exc y s1 => rw [hf] at q; exact fun cls d H' F' l x' => q cls d σ H' F' l x'
  | bad => rw [hf] at q; exact q
  | ok z s1 =>
    rw [hf] at q
    dsimp only [Out.bind] at q
    intro v H1 F1 l1 x1 r1
    split at q
    case h_2 => exact q.elim
    rename_i n
    split at q
    case isFalse => exact q.elim
    rename_i hi
    cases r1
    refine ⟨.ref c.g.da, isDr_slot x1 hi, c.g.da, _, rfl, DPut.k (k := .inr k.name) (v := .int n) x1.dr.da (by show 5 < sizeLine; rw [sizeLine_eq]; omega), ?_⟩
    have e := drK_put c.g s1.D k n
    have y := x1.setD (D' := s1.D.put k n) (by cases k <;> rfl) (by cases k <;> rfl)
    rw [← e] at y
    exact q σ _ F1 l1 y
/-- draw['large'] != [] -/
def fDrL (i : Nat) : S → Out Bool := fun s => if isDr i s = true then (match opEq true (.lst (s.D.large.map T.int)) (.lst []) with
  | some (.val (.bl b)) => .ok b s
  | _ => .bad) else .bad
theorem reps_ints {g : G} {F : Hp} : ∀ l : List Int, Reps g F (l.map V.int) (l.map T.int)
  | [] => .nil
  | i :: l => .cons (.int i) (reps_ints l)
theorem STs.drL (i : Nat) (hN : c.N[i]? = some x := by rfl) (hv : Vis c.sc x := by first | exact Or.inl rfl | exact Or.inr (Or.inl rfl) | exact Or.inr (Or.inr rfl)) (hd : (x == ("__debug__" : Str)) = false := by decide) (hcd : (x == ("__classdict__" : Str)) = false := by decide) :
    STs c (.Compare (.Subscript (.Name x p) (.Constant (.str "large") j p2) p3) [.NotEq] [.List [] pos] pos') (fDrL i) := by
  intro r W ok tk B s σ H F x0 Q q
  have hv' : Vis (c.cx r).env.scope x := by rw [show (c.cx r).env.scope = c.sc from ok.sc]; exact hv
  refine PT.w (pt_cmpR (X := c.cx r) (op_neD ok.hu64) (pe_dget (X := c.cx r) ok.hu1 (pe_var (i := i) hN hv' hd hcd) pe_str (fun _ _ => rfl)) (pe_lst pa_nil) (nomark _)) ?_
  unfold fDrL at q
  split at q
  case isFalse => exact q.elim
  rename_i hi
  refine ⟨.ref c.g.da, isDr_slot x0 hi, c.g.da, .ref c.g.la, rfl, DGet.k (k := .inr "large") x0.dr.da, Nat.zero_le _, fun a ha => ?_⟩
  split at q
  case h_2 => exact q.elim
  rename_i b hb
  have x1 := x0.alloc (o := .lst []) ha
  have ala : (upd H a (.lst []) : Hp) c.g.la = some (.lst (s.D.large.map V.int)) := x1.dr.la
  refine Op2.ne (g := c.g) _ _ _ hb B s σ (upd H a (.lst [])) F (.ref c.g.la) (.ref a) x1 (.ow (.lst ala (reps_ints _))) (.ow (.lst upd_same .nil)) _ fun v H' F' l x' rr => ?_
  cases rr
  exact ⟨b, rfl, q b H' F' l x' rfl⟩
/-- draw['large'].pop(0) -/
def fDrPop (i : Nat) : S → Out R := fun s => if isDr i s = true then (match s.D.large with
  | n :: l => .ok (.val (.int n)) { s with D := { s.D with large := l } }
  | [] => .bad) else .bad
theorem SE.drPop (i : Nat) {apos : Pos} (hN : c.N[i]? = some x := by rfl) (hv : Vis c.sc x := by first | exact Or.inl rfl | exact Or.inr (Or.inl rfl) | exact Or.inr (Or.inr rfl)) (hd : (x == ("__debug__" : Str)) = false := by decide) (hcd : (x == ("__classdict__" : Str)) = false := by decide)
    (hbase : ∀ env, attributeBase (.Subscript (.Name x p) (.Constant (.str "large") j p2) p3) "pop" env (eval (.Subscript (.Name x p) (.Constant (.str "large") j p2) p3) env) = eval (.Subscript (.Name x p) (.Constant (.str "large") j p2) p3) env := by intro _; rfl)
    (hline : (apos.endLine == pos.line) = true := by rfl)
    (hfew : ∀ env, ((backTo pos (starEach [(.Constant (.int 0) j2 p4 : Expr)] env)).all (fun x => !x.1) && (backToKw pos (keywordEach [] env)).all (fun x => x.1.isSome)
      && decide ([(.Constant (.int 0) j2 p4 : Expr)].length + ([] : List Keyword).length + (if ([] : List Keyword).isEmpty then 0 else 1) < 30)) = true := by intro _; rfl) :
    SE c (.Call (.Attribute (.Subscript (.Name x p) (.Constant (.str "large") j p2) p3) "pop" apos) [.Constant (.int 0) j2 p4] [] pos) (fDrPop i) := by
  intro r W ok tk B s σ H F x0 Q q
  have hv' : Vis (c.cx r).env.scope x := by rw [show (c.cx r).env.scope = c.sc from ok.sc]; exact hv
  refine PE.w (pe_bm (X := c.cx r) PySem.F.plainAttrs_list PySem.F.slot_list_pop PySem.F.type_list_pop mt_popAt (pe_dget (X := c.cx r) ok.hu1 (pe_var (i := i) hN hv' hd hcd) pe_str (fun _ _ => rfl)) (pa_cons pe_int pa_nil) (hbase _) (hfew _) hline rfl rfl) ?_
  unfold fDrPop at q
  split at q
  case isFalse => exact q.elim
  rename_i hi
  split at q
  case h_2 => exact q.elim
  rename_i n l hl
  have hla := x0.dr.la
  rw [hl] at hla
  refine ⟨.ref c.g.da, isDr_slot x0 hi, c.g.da, .ref c.g.la, rfl, DGet.k (k := .inr "large") x0.dr.da, .inl ⟨rfl, _, SqL.of hla⟩, c.g.la, (n :: l).map V.int, 0, 0, .int n, rfl, rfl, hla, by omega, by omega, by simp [seqIndex?], rfl, ?_⟩
  exact q _ _ F (LeF.refl F) (x0.setLa (l := l)) (.int n)
/-- [draw['turn']] + draw['cells'] -/
def fDrCells (i : Nat) (f : S → Out (List T)) : S → Out R := fun s => (f s).bind fun ts s1 => if isDr i s1 = true ∧ ts.length + s1.D.cells.length ≤ 16777216 then .ok (.frs (.lst (ts ++ s1.D.cells.map T.int))) s1 else .bad
theorem SE.drCells (i : Nat) {es : List Expr} {f : S → Out (List T)} (h : SA c es f) (hN : c.N[i]? = some x := by rfl) (hv : Vis c.sc x := by first | exact Or.inl rfl | exact Or.inr (Or.inl rfl) | exact Or.inr (Or.inr rfl)) (hd : (x == ("__debug__" : Str)) = false := by decide) (hcd : (x == ("__classdict__" : Str)) = false := by decide) :
    SE c (.BinOp (.List es p4) .Add (.Subscript (.Name x p) (.Constant (.str "cells") j p2) p3) pos) (fDrCells i f) := by
  intro r W ok tk B s σ H F x0 Q q
  have hv' : Vis (c.cx r).env.scope x := by rw [show (c.cx r).env.scope = c.sc from ok.sc]; exact hv
  refine PE.w (pe_op (X := c.cx r) op_cat (pe_lst pA) (pe_dget (X := c.cx r) ok.hu1 (pe_var (i := i) hN hv' hd hcd) pe_str (fun _ _ => rfl))) (h r W ok tk B s σ H F x0 _ ?_)
  unfold fDrCells at q
  cases hf : f s with
  | exc y s1 => rw [hf] at q; exact q
  | bad => rw [hf] at q; exact q
  | ok ts s1 =>
    rw [hf] at q
    dsimp only [Out.bind] at q
    intro vs H1 F1 l1 x1 r1
    split at q
    case isFalse => exact q.elim
    rename_i hc
    obtain ⟨hi, hlen⟩ := hc
    have hz : vs.length + s1.D.cells.length ≤ sizeLine := by rw [r1.length]; exact szl hlen
    refine ⟨Nat.le_trans (Nat.le_add_right _ _) hz, fun a ha => ?_⟩
    have x2 := x1.alloc (o := .lst vs) ha
    refine ⟨.ref c.g.da, isDr_slot x1 hi, c.g.da, .ref c.g.ca, rfl, DGet.k (k := .inr "cells") x2.dr.da, a, c.g.ca, vs, _, rfl, rfl, upd_same, x2.dr.ca, by rw [List.length_map]; exact hz, fun b hb => ?_⟩
    exact q (.ref b) _ F1 l1 (x2.alloc hb) ⟨b, _, rfl, x2.fresh hb, upd_same, _, rfl, r1.append (reps_ints _)⟩
/-- draw['rest'], y = divmod(draw['rest'], z) -/
def fDrDiv (i k m : Nat) : S → Out Fl := fun s => if isDr i s = true then (match s.env[m]? with
  | some (.sh (.int n)) => if 0 < n ∧ n < 1073741824 then .ok .nx (({ s with D := { s.D with rest := s.D.rest / n } } : S).put k (.sh (.int (s.D.rest % n)))) else .bad
  | _ => .bad) else .bad
theorem SS.drDiv (i k m : Nat) {q1 q2 q3 q4 q5 q6 q7 : Pos} {kk j1 : Nat} (G : Gd c.g) (hN : c.N[i]? = some x := by rfl) (hNk : c.N[k]? = some y := by rfl) (hNm : c.N[m]? = some z := by rfl) (hv : c.sc.names.lookup x = some .local := by rfl) (hvk : c.sc.names.lookup y = some .local := by rfl) (hvm : c.sc.names.lookup z = some .local := by rfl)
    (hd : (x == ("__debug__" : Str)) = false := by decide) (hcd : (x == ("__classdict__" : Str)) = false := by decide) (hdm : (z == ("__debug__" : Str)) = false := by decide) (hcdm : (z == ("__classdict__" : Str)) = false := by decide) (hg : c.sc.names.lookup ("divmod" : Str) = some .globalImplicit := by rfl) (hik : i ≠ k := by decide) :
    SS c (.Assign [.Tuple [.Subscript (.Name x p) (.Constant (.str "rest") j p2) p3, .Name y p4] kk q1] (.Call (.Name "divmod" q2) [.Subscript (.Name x q3) (.Constant (.str "rest") j1 q4) q5, .Name z q6] [] q7) pos) (fDrDiv i k m) := by
  intro r W ok tk B s σ H F x0 D q pins ss I
  have es : (c.cx r).env.scope = c.sc := ok.sc
  have lv : Vis (c.cx r).env.scope x := by rw [es]; exact .inl hv
  have lm : Vis (c.cx r).env.scope z := by rw [es]; exact .inl hvm
  refine (ps_asg (X := c.cx r) (pe_callB call_divmodW (by show r.env.scope.names.lookup _ = _; rw [ok.sc]; exact hg) G.f_divmod PyProof.Rows.Boot.«divmod» (pa_cons (pe_dget (X := c.cx r) ok.hu1 (pe_var (i := i) hN lv hd hcd) pe_str (fun _ _ => rfl)) (pa_cons (pe_var (i := m) hNm lm hdm hcdm) pa_nil)))
    (pg_tup ok.calm (pgs_cons (pg_sub (pe_var (i := i) hN lv hd hcd) pe_str (set_dict ok.hu1)) (pgs_cons (pg_name (i := k) ok.nd hNk (by rw [es]; exact .inl hvk) (.inr (by rw [es]; exact hvk))) pgs_nil)))).run pins ss σ H D I ?_
  unfold fDrDiv at q
  split at q
  case isFalse => exact q.elim
  rename_i hi
  split at q
  case h_2 => exact q.elim
  rename_i n hm
  split at q
  case isFalse => exact q.elim
  rename_i hn
  have e1 := isDr_slot x0 hi
  have e2 : σ[m]? = some (some (.int n)) := by
    have z := x0.slot m
    rw [hm] at z
    obtain ⟨v, h1, h2⟩ := z
    cases h2
    exact h1
  refine ⟨.ref c.g.da, e1, c.g.da, .int s.D.rest, rfl, DGet.k (k := .inr "rest") x0.dr.da, .int n, e2, s.D.rest, n, rfl, ⟨hn.1, PyProof.noPylong_small (by omega)⟩, fun a ha => ?_⟩
  obtain ⟨y1, y2, y3⟩ := x0.newTup ha (.cons (.int (s.D.rest / n)) (.cons (.int (s.D.rest % n)) .nil))
  refine ⟨a, _, rfl, SqT.of upd_same, rfl, _, _, rfl, .ref c.g.da, e1, c.g.da, _, rfl, DPut.k (k := .inr "rest") (v := .int (s.D.rest / n)) y1.dr.da (by show 5 < sizeLine; rw [sizeLine_eq]; omega), _, _, rfl, rfl, ?_⟩
  have e := drK_put c.g s.D .rest (s.D.rest / n)
  have w := y1.setD (D' := s.D.put .rest (s.D.rest / n)) rfl rfl
  rw [← e] at w
  exact q _ _ _ y2 (w.setSh (lt_of I hNk) (.int _))
end
end Tv
namespace Tv
open PySem PySem.Spec PyProof.Rows L2

/-! ### zip of two sequences, each a list or a tuple (true: a tuple) -/
def SqB (K : PySem.W.Frag) (b : Bool) (H : Hp) (a : Addr) (xs : List V) : Prop := match b with
  | true => SqT K H a xs
  | false => SqL K H a xs
def IsItB (b : Bool) (h : Heap) (it a : Addr) (i : Nat) : Prop := match b with
  | true => h.IsTupleIter it a i
  | false => h.IsListIter it a i
def IsSqB (b : Bool) (h : Heap) (a : Addr) (items : Array Value) : Prop := match b with
  | true => h.IsTuple a items
  | false => h.IsList a items
theorem Inv.sqB {X : Cx} {pins : List (Addr × Obj)} {σ : L2.St} {H : Hp} {s : Shared} {b : Bool} {a : Addr} {xs : List V} (I : Inv X pins σ H s) (h : SqB X.K b H a xs) : ∃ its : List Value, Vals xs its ∧ IsSqB b s.heap a its.toArray ∧ a < s.heap.objs.size := by
  cases b with
  | true =>
    obtain ⟨its, rv, p, _⟩ := I.tuple h
    obtain ⟨o, ho, _⟩ := id p
    exact ⟨its, rv, p, Heap.lt_size ho⟩
  | false =>
    obtain ⟨its, rv, p, _⟩ := I.list h
    exact ⟨its, rv, p.isList, p.lt⟩
theorem Inv.sqB_inj {X : Cx} {pins : List (Addr × Obj)} {σ : L2.St} {H : Hp} {s : Shared} {b : Bool} {a : Addr} {xs ys : List V} (I : Inv X pins σ H s) (h : SqB X.K b H a xs) (h' : SqB X.K b H a ys) : xs = ys := by
  cases b with
  | true => exact I.tuple_inj h h'
  | false => exact I.list_inj h h'
theorem drawsB {prog : Program} {w : World} {A : Around} (b : Bool) (hh : A.handled = none) (it l : Addr) (hne : l ≠ it) (items : Array Value) :
    Draws prog w A it [it, l] items.size (fun i v => items[i]? = some v) (fun i h => IsItB b h it l i ∧ IsSqB b h l items) := by
  cases b with
  | true => exact Draws.tuple hh it l hne items
  | false => exact Draws.list hh it l hne items
abbrev itO (b : Bool) (a : Addr) : Obj := match b with
  | true => { cls := .type "tuple_iterator", data := .fields #[.ref a, .int 0 0] }
  | false => { cls := .type "list_iterator", data := .fields #[.ref a, .int 0 0] }
theorem beginsB (b : Bool) (l : Addr) (items : Array Value) : Begins (.ref l) (itO b l) fun h => IsSqB b h l items := by
  cases b with
  | true => exact begins_tuple l items
  | false => exact begins_list l items
theorem itB_of {b : Bool} {h : Heap} {it a : Addr} (e : h.get? it = some (itO b a)) : IsItB b h it a 0 := by
  cases b with
  | true => exact ⟨_, e, rfl, rfl⟩
  | false => exact ⟨_, e, rfl, rfl⟩
theorem itB_there {b : Bool} {h : Heap} {it a : Addr} {i : Nat} (x : IsItB b h it a i) : ∃ o, h.get? it = some o ∧ ∀ v, o.data ≠ .cell v := by
  cases b with
  | true =>
    obtain ⟨o, e, _, d⟩ := x
    exact ⟨o, e, fun v q => by rw [d] at q; cases q⟩
  | false =>
    obtain ⟨o, e, _, d⟩ := x
    exact ⟨o, e, fun v q => by rw [d] at q; cases q⟩
theorem itB_at {b : Bool} {h h' : Heap} {it a : Addr} {i : Nat} (x : IsItB b h it a i) (k : ∀ o, h.get? it = some o → h'.get? it = some o) : IsItB b h' it a i := by
  cases b with
  | true => exact Heap.IsTupleIter.at x k
  | false => exact Heap.IsListIter.at x k
/-- the sequences at a and b as they stand at each turn -/
def ItzM (K : PySem.W.Frag) (b1 b2 : Bool) (a b : Addr) : It :=
  ⟨fun i H => ∃ (xs ys : List V) (x y : V), SqB K b1 H a xs ∧ SqB K b2 H b ys ∧ xs[i]? = some x ∧ ys[i]? = some y,
    fun i H v H' => ∃ T x y, v = .ref T ∧ H T = none ∧ H' = upd H T (.tup [x, y]) ∧ (∀ xs, SqB K b1 H a xs → xs[i]? = some x) ∧ ∀ ys, SqB K b2 H b ys → ys[i]? = some y,
    fun i H => ∃ xs ys : List V, SqB K b1 H a xs ∧ SqB K b2 H b ys ∧ i ≤ xs.length ∧ i ≤ ys.length ∧ (i = xs.length ∨ i = ys.length)⟩
theorem turn_zipM {P : Program} {w : World} {K : PySem.W.Frag} {elts : List Expr} {kk : Nat} {tpos : Pos} {b1 b2 : Bool} {a b z TI TO i1 i2 : Addr} (S : ZipSep2 z TI TO i1 i2 [i1, a] [i2, b]) (n1 : a ≠ i1) (n2 : b ≠ i2) :
    Turn P w K (.Tuple elts kk tpos) (ItzM K b1 b2 a b) [z, TI, TO, i1, i2] z (fun i h => IsZip h z TI TO .none ∧ IsTupOf2 h TI (.ref i1) (.ref i2) ∧ (∃ x y, IsTupOf2 h TO x y) ∧ IsItB b1 h i1 a i ∧ IsItB b2 h i2 b i) where
  mem := by simp
  obj := fun i h st c hc => by
    obtain ⟨hz, hTI, ⟨x, y, hTO⟩, h1, h2⟩ := st
    have e' : c = z ∨ c = TI ∨ c = TO ∨ c = i1 ∨ c = i2 := by simpa using hc
    rcases e' with q | q | q | q | q
    · rw [q]; exact ⟨_, hz, fun v q => nomatch q⟩
    · rw [q]; exact ⟨_, hTI, fun v q => nomatch q⟩
    · rw [q]; exact ⟨_, hTO, fun v q => nomatch q⟩
    · rw [q]; exact itB_there h1
    · rw [q]; exact itB_there h2
  keep := fun i h h' st k => by
    obtain ⟨hz, hTI, ⟨x, y, hTO⟩, h1, h2⟩ := st
    exact ⟨k z (by simp) _ hz, k TI (by simp) _ hTI, ⟨x, y, k TO (by simp) _ hTO⟩, itB_at h1 fun o q => k i1 (by simp) o q, itB_at h2 fun o q => k i2 (by simp) o q⟩
  item := by
    intro X hP hw hK hc i pins s σ H E I hf st hg
    subst hP hw hK
    obtain ⟨hz, hTI, ⟨x0, y0, hTO⟩, h1, h2⟩ := st
    obtain ⟨xs, ys, x, y, hqx, hqy, hx, hy⟩ := hg
    obtain ⟨its, rv, p, _⟩ := Inv.sqB I hqx
    obtain ⟨its2, rv2, p2, _⟩ := Inv.sqB I hqy
    obtain ⟨u, hu, ru⟩ := rv.get hx
    obtain ⟨u2, hu2, ru2⟩ := rv2.get hy
    have hzl : z < s.heap.objs.size := Heap.lt_size hz
    have l1 : i < its.toArray.size := by simpa using (List.getElem?_eq_some_iff.mp hu).1
    have l2 : i < its2.toArray.size := by simpa using (List.getElem?_eq_some_iff.mp hu2).1
    have D1 := drawsB (prog := X.prog) (w := X.w) (A := X.A.in1) b1 (I.ok.hd hc) i1 a n1 its.toArray
    have D2 := drawsB (prog := X.prog) (w := X.w) (A := X.A.in1) b2 (I.ok.hd hc) i2 b n2 its2.toArray
    refine wpAny_pyNext_zipD2_item S D1 D2 hz hTI hTO ⟨h1, p⟩ ⟨h2, p2⟩ l1 l2 fun v1 v2 h' tk e1 e2 z' TO' s1' s2' hT hsz hk => ?_
    have hv1 : v1 = u := by
      have e1 : its.toArray[i]? = some v1 := e1
      rw [List.getElem?_toArray, hu] at e1
      exact (Option.some.inj e1).symm
    have hv2 : v2 = u2 := by
      have e2 : its2.toArray[i]? = some v2 := e2
      rw [List.getElem?_toArray, hu2] at e2
      exact (Option.some.inj e2).symm
    subst hv1 hv2
    refine ⟨_, rfl, wpAny_letOwnedTupleGo_zip (s := { s with heap := h', toks := tk }) z' fun h'' z'' sb => ?_⟩
    have hT2 : h''.get? s.heap.objs.size = some { cls := .type "tuple", data := .seq #[v1, v2] } := (sb.2 _ (Nat.ne_of_gt hzl)).trans hT
    have new : ObjOk X.prog X.w (upd H s.heap.objs.size (.tup [x, y])) h'' s.heap.objs.size (.tup [x, y]) :=
      ⟨by show 2 ≤ sizeLine; decide, [v1, v2], .cons ru (.cons ru2 .nil), ⟨_, hT2, rfl, _, rfl⟩⟩
    have I1 : Inv X pins σ (upd H s.heap.objs.size (.tup [x, y])) { s with heap := h'', toks := tk } :=
      I.turnedNew (t' := tk) (ch := [z, TI, TO, i1, i2]) (fun c o hb q => (sb.2 c (fun q' => hb (by simp [q']))).trans (hk c o (fun q' => hb (by simp [q'])) (fun q' => hb (by simp [q'])) (fun q' => hb (by simp [q'])) (fun q' => hb (by simp [q'])) q)) hf (Nat.le_refl _) new
    refine ⟨.ref s.heap.objs.size, _, I1, rfl, ⟨_, x, y, rfl, I.hok.fresh (Nat.le_refl _), rfl, fun l hl => by rw [Inv.sqB_inj I hl hqx]; exact hx, fun l hl => by rw [Inv.sqB_inj I hl hqy]; exact hy⟩, ⟨z'', ?_, ⟨v1, v2, ?_⟩, ?_, ?_⟩, fun c hcm => ?_⟩
    · exact (sb.2 _ S.TIz).trans (hk _ _ S.TIz S.TITO S.TIi1 S.TIi2 hTI)
    · exact (sb.2 _ S.TOz).trans TO'
    · exact itB_at s1'.1 fun o q => (sb.2 _ (Ne.symm S.zi1)).trans q
    · exact itB_at s2'.1 fun o q => (sb.2 _ (Ne.symm S.zi2)).trans q
    · have hlt : c < s.heap.objs.size := by
        have e' : c = z ∨ c = TI ∨ c = TO ∨ c = i1 ∨ c = i2 := by simpa using hcm
        rcases e' with q | q | q | q | q
        · rw [q]; exact hzl
        · rw [q]; exact Heap.lt_size hTI
        · rw [q]; exact Heap.lt_size hTO
        · rw [q]; obtain ⟨_, e1, _⟩ := itB_there h1; exact Heap.lt_size e1
        · rw [q]; obtain ⟨_, e2, _⟩ := itB_there h2; exact Heap.lt_size e2
      rw [upd_ne (Nat.ne_of_lt hlt)]
      exact (hf c hcm).1
  done := by
    intro X hP hw hK hc i pins s σ H E I hf st hg
    subst hP hw hK
    obtain ⟨hz, hTI, ⟨x0, y0, hTO⟩, h1, h2⟩ := st
    obtain ⟨xs, ys, hqx, hqy, le1, le2, hend⟩ := hg
    obtain ⟨its, rv, p, _⟩ := Inv.sqB I hqx
    obtain ⟨its2, rv2, p2, _⟩ := Inv.sqB I hqy
    have l1 := rv.length
    have l2 := rv2.length
    have z1 : its.toArray.size = xs.length := by simp [l1]
    have z2 : its2.toArray.size = ys.length := by simp [l2]
    have D1 := drawsB (prog := X.prog) (w := X.w) (A := X.A.in1) b1 (I.ok.hd hc) i1 a n1 its.toArray
    have D2 := drawsB (prog := X.prog) (w := X.w) (A := X.A.in1) b2 (I.ok.hd hc) i2 b n2 its2.toArray
    exact wpAny_pyNext_zipD2_end S D1 D2 hz hTI hTO ⟨h1, p⟩ ⟨h2, p2⟩ (by rw [z1]; exact le1) (by rw [z2]; exact le2) (by rw [z1, z2]; exact hend) fun h' tk hk => ⟨rfl, I.turnedL (t' := tk) (ch := [z, TI, TO, i1, i2]) (fun c o hb q =>
      hk c o (fun q' => hb (by simp [q'])) (fun q' => hb (by simp [q'])) (fun q' => hb (by simp [q'])) (fun q' => hb (by simp [q'])) q) hf⟩
  self := fun A i s Q E st h => wpAny_pyIter_zip st.1 h
theorem nm2 {x a b : Addr} (h1 : x ≠ a) (h2 : x ≠ b) : x ∉ [a, b] := fun m => by
  rcases List.mem_cons.mp m with e | m
  · exact h1 e
  · rcases List.mem_cons.mp m with e | m
    · exact h2 e
    · cases m
def iZipM (K : PySem.W.Frag) (ta : TA) : TI := fun σ H R => ta σ H fun vs H1 => ∃ b1 b2 a b xs ys, vs = [.ref a, .ref b] ∧ SqB K b1 H1 a xs ∧ SqB K b2 H1 b ys ∧ R (ItzM K b1 b2 a b) H1
theorem pi_zipM {X : Cx} {e e2 : Expr} {ta : TA} {p pos tpos : Pos} {elts : List Expr} {kk : Nat} (hg : Gl X "zip") (hm : X.mg "zip" = none) (ha : PA X [e, e2] ta)
    (hs : starEach [e, e2] X.env = (false, eval e X.env) :: starEach [e2] X.env := by rfl) (hpl : (backTo pos (starEach [e2] X.env)).any (·.1) = false := by rfl) :
    PI X (.Tuple elts kk tpos) (.Call (.Name "zip" p) [e, e2] [] pos) (iZipM X.K ta) := by
  refine ⟨fun pins s σ H R I h => ?_⟩
  refine Call_ (ld_blt I hg hm PyProof.Rows.boot_zip (PyProof.Rows.callWith_type1 (thn (ha.run pos pins s σ H _ I h) fun us s1 ⟨vs, H1, I1, r1, q1⟩ => ?_) hs hpl))
  obtain ⟨b1, b2, a, b, xs, ys, ex, hqx, hqy, q⟩ := q1
  subst ex
  cases r1 with
  | cons r rr =>
    cases rr with
    | cons r' rr =>
      cases rr
      cases r
      cases r'
      have fresh5 : ∀ c, c ∈ [s1.heap.objs.size + 4, s1.heap.objs.size + 2, s1.heap.objs.size + 3, s1.heap.objs.size, s1.heap.objs.size + 1] → FpOk X pins H1 c := fun c hcm => by
        have e' : c = s1.heap.objs.size + 4 ∨ c = s1.heap.objs.size + 2 ∨ c = s1.heap.objs.size + 3 ∨ c = s1.heap.objs.size ∨ c = s1.heap.objs.size + 1 := by simpa using hcm
        have hle : s1.heap.objs.size ≤ c := by
          rcases e' with z | z | z | z | z
          · rw [z]; exact Nat.le_add_right _ _
          · rw [z]; exact Nat.le_add_right _ _
          · rw [z]; exact Nat.le_add_right _ _
          · rw [z]; exact Nat.le_refl _
          · rw [z]; exact Nat.le_add_right _ _
        exact I1.fpOk hle (I1.hok.fresh hle)
      obtain ⟨its, rv, p1, la⟩ := Inv.sqB I1 hqx
      obtain ⟨its2, rv2, p2, lb⟩ := Inv.sqB I1 hqy
      refine zip_begins2 (beginsB b1 a its.toArray) (beginsB b2 b its2.toArray) p1 p2 fun h' hz hTI hTO h1 h2 hsz hk => wpAny_pyIter_zip hz ?_
      have I2 : Inv X pins σ H1 { s1 with heap := h' } := I1.kept (t' := s1.toks) hk
      have la' : a < s1.heap.objs.size := la
      have lb' : b < s1.heap.objs.size := lb
      have ne : ∀ (j k : Nat), j ≠ k → s1.heap.objs.size + j ≠ s1.heap.objs.size + k := fun j k h e => h (Nat.add_left_cancel e)
      have nz : ∀ (j : Nat), j ≠ 0 → s1.heap.objs.size + j ≠ s1.heap.objs.size := fun j h e => h (Nat.add_left_cancel (e.trans (Nat.add_zero _).symm))
      have gt : ∀ {c : Addr} (j : Nat), c < s1.heap.objs.size → s1.heap.objs.size + j ≠ c := fun {c} j h e => Nat.ne_of_gt (Nat.lt_of_lt_of_le h (Nat.le_add_right _ j)) e
      have S : ZipSep2 (s1.heap.objs.size + 4) (s1.heap.objs.size + 2) (s1.heap.objs.size + 3) s1.heap.objs.size (s1.heap.objs.size + 1) [s1.heap.objs.size, a] [s1.heap.objs.size + 1, b] :=
        ⟨ne 2 4 (by decide), ne 3 4 (by decide), ne 2 3 (by decide), nz 2 (by decide), by simp, nm2 (nz 4 (by decide)) (gt 4 la'), nm2 (nz 3 (by decide)) (gt 3 la'), ne 2 1 (by decide), by simp, nm2 (ne 4 1 (by decide)) (gt 4 lb'), nm2 (ne 3 1 (by decide)) (gt 3 lb'), nm2 (Ne.symm (nz 1 (by decide))) (gt 0 lb'), nm2 (nz 1 (by decide)) (gt 1 la')⟩
      exact ⟨s1.heap.objs.size + 4, [s1.heap.objs.size + 4, s1.heap.objs.size + 2, s1.heap.objs.size + 3, s1.heap.objs.size, s1.heap.objs.size + 1], _, _, H1, rfl, I2, turn_zipM S (Nat.ne_of_lt la') (fun e => gt 1 lb' e.symm), ⟨hz, hTI, ⟨_, _, hTO⟩, itB_of h1, itB_of h2⟩, fresh5, q⟩

def T.seqB : T → Option (Bool × List T)
  | .lst ts => some (false, ts)
  | .tup ts => some (true, ts)
  | _ => none
def itZ2 (f k : S → Out T) : S → Out (List T) := fun s => (f s).bind fun t s1 => (k s1).bind fun u s2 => match t.seqB, u.seqB with
  | some (_, ts), some (_, us) => .ok (zipT ts us) s2
  | _, _ => .bad
theorem Rep.seqB {g : G} {F : Hp} {v : V} {t : T} {b : Bool} {ts : List T} (r : Rep g F v t) (h : t.seqB = some (b, ts)) : ∃ a xs, v = .ref a ∧ SqB g.K b F a xs ∧ Reps g F xs ts := by
  cases r with
  | lst h1 h2 => cases h; exact ⟨_, _, rfl, SqL.of h1, h2⟩
  | tup h1 h2 => cases h; exact ⟨_, _, rfl, h1, h2⟩
  | _ => cases h
theorem LeF.sqB {K : PySem.W.Frag} {F F' : Hp} {b : Bool} {a : Addr} {xs : List V} (e : LeF F F') (h : SqB K b F a xs) : SqB K b F' a xs := by
  cases b with
  | true => exact e.sqT h
  | false => exact e.sqL h
theorem Src.zipM {g : G} {F0 : Hp} {b1 b2 : Bool} {a b : Addr} {xs ys : List V} {ts us : List T} (h : SqB g.K b1 F0 a xs) (k : SqB g.K b2 F0 b ys) (r : Reps g F0 xs ts) (q : Reps g F0 ys us) : Src g F0 (ItzM g.K b1 b2 a b) (zipT ts us) where
  go := fun i H le hi => by
    rw [zipT_length] at hi
    have hx : i < xs.length := by rw [r.length]; omega
    have hy : i < ys.length := by rw [q.length]; omega
    exact ⟨xs, ys, xs[i], ys[i], le.sqB h, le.sqB k, by simp [hx], by simp [hy]⟩
  stop := fun H le => ⟨xs, ys, le.sqB h, le.sqB k, by rw [zipT_length, r.length]; omega, by rw [zipT_length, q.length]; omega, by rw [zipT_length, r.length, q.length]; omega⟩
  yld := fun i x H H' t le et y B s σ F l0 x1 => by
    obtain ⟨p, z, w, rfl, hp, rfl, y1, y2⟩ := y
    obtain ⟨u, v, e1, e2, rfl⟩ := zipT_get ts us i t et
    obtain ⟨v1, h1, h2⟩ := r.get e1
    obtain ⟨v2, h3, h4⟩ := q.get e2
    have z1 := y1 xs (le.sqB h)
    have z2 := y2 ys (le.sqB k)
    rw [h1] at z1
    rw [h3] at z2
    cases z1
    cases z2
    exact yld_pair x1 hp (h2.mono l0) (h4.mono l0)
theorem SI.zip2 {c : C} {e e2 : Expr} {p pos tpos : Pos} {f k : S → Out T} {elts : List Expr} {kk : Nat} (b : Blt c "zip" (.type "zip")) (h : SV c e f) (h2 : SV c e2 k) (hs : NoStar e := by intro _ _; rfl) (hs2 : NoStar e2 := by intro _ _; rfl) (hpl : ∀ env, (backTo pos (starEach [e2] env)).any (·.1) = false := by intro _; rfl) :
    SI c (.Tuple elts kk tpos) (.Call (.Name "zip" p) [e, e2] [] pos) (itZ2 f k) := by
  intro r W ok tk B s σ H F x Q q
  refine PI.w (pi_zipM (b.isGl ok) b.mg (pa_cons pE (pa_cons pE pa_nil (hs2 _ _)) (hs _ _)) (hs _ _) (hpl _)) (h r W ok tk B s σ H F x _ ?_)
  unfold itZ2 at q
  cases hf : f s with
  | exc y s1 => rw [hf] at q; exact q
  | bad => rw [hf] at q; exact q
  | ok t s1 =>
    rw [hf] at q
    intro v H' F' l x' hr
    refine h2 r W ok tk B s1 σ H' F' x' _ ?_
    dsimp only [Out.bind] at q
    cases hk : k s1 with
    | exc y s2 => rw [hk] at q; exact fun cls d H2 F2 l2 => q cls d H2 F2 (l.trans l2)
    | bad => rw [hk] at q; exact q
    | ok u s2 =>
      rw [hk] at q
      dsimp only at q
      split at q
      · rename_i e1 e2
        intro v2 H2 F2 l2 x2 hr2
        obtain ⟨a, xs, rfl, k1, k2⟩ := Rep.seqB hr e1
        obtain ⟨b', ys, rfl, k3, k4⟩ := Rep.seqB hr2 e2
        exact ⟨_, _, a, b', xs, ys, rfl, x2.sub.sqB (l2.sqB k1), x2.sub.sqB k3, q _ H2 F2 (l.trans l2) x2 (Src.zipM (l2.sqB k1) k3 (k2.mono l2) k4)⟩
      · exact q.elim
end Tv
namespace Tv
open PySem PySem.Spec PyProof.Rows L2

/-! ### repr -/
def opRepr : List T → Option R
  | [t] => if pl t = true ∧ (toD t).showable = true ∧ (toD t).hasDict = false ∧ (toD t).shown.length ≤ 16777216 ∧ (toD t).depth ≤ 60 then some (.val (.str (toD t).shown)) else none
  | _ => none
def ρRepr (g : G) : List V → Hp → VK → Prop := fun xs H Q => ∃ x d, xs = [x] ∧ Dp g.K H x d ∧ d.showable = true ∧ d.hasDict = false ∧ d.shown.length ≤ sizeLine ∧ d.depth ≤ 60 ∧ Q (.str d.shown) H
theorem cr_repr {c : C} {r : Rn} (ok : c.Ok r) : CallR (c.cx r) (.builtin "repr") (ρRepr c.g) := by
  intro pins s σ H xs us Q I rv h
  obtain ⟨x, d, rfl, hd, h1, h2, h3, h4, q⟩ := h
  obtain ⟨u, rfl, ru⟩ := vals1 rv
  obtain ⟨as, hr⟩ := Dp.reads I d x u hd ru
  have hu : r.A.units + (d.depth + 1) < cLine := by
    have h := ok.hu64
    have h : r.A.units + 64 < cLine := h
    omega
  cases hd with
  | non =>
    cases ru
    exact PySem.P.repr_of_none ⟨.str _, H, I.tok _, ⟨_, rfl⟩, q⟩
  | bl b =>
    cases ru
    exact PySem.P.repr_of_bool ⟨.str _, H, I.tok _, ⟨_, by cases b <;> rfl⟩, q⟩
  | int i =>
    obtain ⟨t, rfl⟩ := ru
    exact PySem.P.repr_of_int (of_decide_eq_true h1) ⟨.str _, H, I.tok _, ⟨_, rfl⟩, q⟩
  | str y =>
    obtain ⟨t, rfl⟩ := ru
    exact PySem.P.repr_of_str ⟨.str _, H, I.tok _, ⟨_, rfl⟩, q⟩ h3
  | lst h' _ =>
    cases ru
    exact PySem.repr_of_reads' hr h1 (PyData.noDict_hsm h2) ok.gd hu (fun _ _ e => e) (fun h' u tk hk => ⟨.str _, H, I.kept hk, ⟨_, rfl⟩, q⟩) h3
  | tup h' _ =>
    cases ru
    exact PySem.repr_of_reads' hr h1 (PyData.noDict_hsm h2) ok.gd hu (fun _ _ e => e) (fun h' u tk hk => ⟨.str _, H, I.kept hk, ⟨_, rfl⟩, q⟩) h3
theorem OpN.repr {g : G} : OpN g (ρRepr g) opRepr := by
  intro ts r h B s σ H F vs x rv Q q
  unfold opRepr at h
  split at h
  · split at h
    · rename_i t hc
      cases h
      obtain ⟨h1, h2, h3, h4, h5⟩ := hc
      cases rv with
      | cons r1 rn =>
        cases rn
        exact ⟨_, _, rfl, r1.dp x.sub h1, h2, h3, szl h4, h5, q _ H F (LeF.refl F) x (.str _)⟩
    · cases h
  · cases h
section
variable {c : C} {e a b : Expr} {p p2 apos pos p3 : Pos} {x : Str}
theorem SE.c_repr {f : S → Out (List Bv)} (G : Gd c.g) (h : SAb c [e] f) (hg : HG c "repr" := by rfl) (he : NoStar e := by intro _ _; rfl) : SE c (.Call (.Name "repr" p) [e] [] pos) (fCall opRepr f) := SE.callB (G.repr hg) (fun r ok => cr_repr ok) OpN.repr h he
end

/-! ### TABLE.get(key, default), a key that is there -/
def Tab := List (Str × T)
structure HTab (g : G) (x : Str) (t : Tab) : Prop where
  ex : ∃ (p : Addr) (es : Array DictEntry) (n : Nat), g.mg x = some (.ref p) ∧ g.K.lookup p = some ⟨.type "dict", none, .dict es n, #[]⟩ ∧ PySem.W.KeysLit g.w.params es.toList ∧ (p == sysModules) = false ∧
    ∀ z tt, List.lookup z t = some tt → ∃ (u : Value) (v : V), PySem.W.nsIn g.K p z = some (some u) ∧ RelV v u ∧ ∀ F, Rep g F v tt
def fGet (t : Tab) (fa fb : S → Out R) : S → Out R := fun s => (fa s).bind fun z1 s1 => (fb s1).bind fun _ s2 => match z1 with
  | .val (.str z) => (match List.lookup z t with
    | some tt => .ok (.val tt) s2
    | none => .bad)
  | _ => .bad
section
variable {c : C} {e a b : Expr} {p p2 apos pos p3 : Pos} {x : Str}
theorem SE.getTab {fa fb : S → Out R} {t : Tab} (G : HTab c.g x t) (ha : SE c a fa) (hb : SE c b fb) (hg : c.sc.names.lookup x = some .globalImplicit := by rfl) (hdb : (x == ("__debug__" : Str)) = false := by decide)
    (m1 : ∀ env, attributeBase (.Name x p) "get" env (eval (.Name x p) env) = eval (.Name x p) env := by intro _; rfl)
    (m2 : ∀ env, ((backTo pos (starEach [a, b] env)).all (fun x => !x.1) && (backToKw pos (keywordEach [] env)).all (fun x => x.1.isSome)
      && decide (([a, b] : List Expr).length + ([] : List Keyword).length + (if ([] : List Keyword).isEmpty then 0 else 1) < 30)) = true := by intro _; rfl)
    (m3 : (apos.endLine == pos.line) = true := by rfl) (m4 : ∀ env, backTo pos (starEach [a, b] env) = [(false, eval a env), (false, eval b env)] := by intro _; rfl) :
    SE c (.Call (.Attribute (.Name x p) "get" apos) [a, b] [] pos) (fGet t fa fb) := by
  intro r W ok tk B s σ H F x0 Q q pins ss I
  obtain ⟨pp, es, n, hm, hl, hk, hs, ht⟩ := G.ex
  refine wpAny_Call_method (m1 _) (m2 _) m3 PySem.F.plainAttrs_dict PySem.F.slot_dict_get PySem.F.type_dict_get (ld_glob (X := c.cx r) I (by show r.env.scope.names.lookup x = _; rw [ok.sc]; exact hg) hm ?_ hdb)
  have hm0 := PySem.W.mapOf_K (prog := c.g.P) (w := c.g.w) I.kIn hl hk
  refine ⟨hm0.typeIs, fun bb e => ?_, ?_⟩
  · cases e
    exact ⟨_, I.kIn _ _ hl, rfl⟩
  rw [m4]
  refine Calls.callWith_builtin rfl (Calls.evalArgs_plain (Calls.spliced_cons ?_))
  refine thn (ha r W ok tk B s σ H F x0 (fun v H1 => wE (c.cx r) b σ H1 fun w H2 => ∃ z v', v = .str z ∧ (∃ u, PySem.W.nsIn c.g.K pp z = some (some u) ∧ RelV v' u) ∧ Q v' H2) ?_ pins ss I) fun u s1 ⟨v, H1, I1, rv, q1⟩ => Calls.spliced_cons (thn (q1 pins s1 I1) fun u2 s2 ⟨w, H2, I2, rw', z, v', ez, ⟨u3, hz, ru3⟩, q2⟩ => Calls.spliced_nil ?_)
  · unfold fGet at q
    cases hf : fa s with
    | exc y s1 => rw [hf] at q; exact q
    | bad => rw [hf] at q; exact q
    | ok z1 s1 =>
      rw [hf] at q
      dsimp only [Out.bind] at q
      intro v H1 F1 l1 x1 r1
      refine hb r W ok tk B s1 σ H1 F1 x1 _ ?_
      cases hk2 : fb s1 with
      | exc y s2 => rw [hk2] at q; exact fun cls d H2 F2 l2 => q cls d H2 F2 (l1.trans l2)
      | bad => rw [hk2] at q; exact q
      | ok z2 s2 =>
        rw [hk2] at q
        dsimp only at q
        intro w H2 F2 l2 x2 r2
        split at q
        case h_2 => exact q.elim
        rename_i z
        split at q
        case h_2 => exact q.elim
        rename_i tt htt
        cases r1
        obtain ⟨u, v', h1, h2, h3⟩ := ht _ _ htt
        exact ⟨z, v', rfl, ⟨u, h1, h2⟩, q v' H2 F2 (l1.trans l2) x2 (h3 F2)⟩
  · subst ez
    obtain ⟨t', rfl⟩ := rv
    have hm2 := PySem.W.mapOf_K (prog := c.g.P) (w := c.g.w) I2.kIn hl hk
    refine call_meetsIn PySem.F.slot_dict_get hm2.typeIs PySem.F.entry_dict_get (PySem.F.args_dict_get_3 _ _ _) (meets_dict_get_default (strKind c.g.P c.g.w) pp (strKind_is c.g.P c.g.w z t') hs u2) ⟨_, hm2, ?_⟩
    rw [PySem.W.find_K hl hz]
    exact ⟨v', H2, I2.tok _, ru3, q2⟩
end
end Tv
namespace L2
open PySem PySem.Spec PyProof.Rows
section
variable {P : Program} {w : World} {A : Around} {E : Value → Shared → Prop} {s : Shared}
/-- set(l) of a list of ints (turned from the hand layer's proof for tuples) -/
theorem call_set_lstI {l : Addr} {items : Array Value} (ns : List Int) {Q : Value → Shared → Prop} (hh : A.handled = none) (hl : s.heap.IsList l items) (hit : IntsAre items.toList ns) (hb : ns.length + 1 < scanBound)
    (h : ∀ (h' : Heap) (tk c : Nat), SetR w h' s.heap.objs.size (fun j => decide (j ∈ ns)) c → c ≤ ns.length → (∀ b o, s.heap.get? b = some o → h'.get? b = some o) → Q (.ref s.heap.objs.size) { s with heap := h', toks := tk }) :
    wpAny (model P w) A (call (.type "set") [.ref l]) Q E s := by
  have hisz : items.size = ns.length := by
    have q := IntsAre.length hit
    rw [Array.length_toList] at q
    exact q
  obtain ⟨c, tl, hmro⟩ := F.called_set.mro
  have hmade := F.called_set.made
  have hsub := F.called_set.sub
  refine wpAny_call (codeAny_of_tree ?_)
  show wpAny _ _ (callAny (.type "set") _) _ _ _
  refine wpAny_pure ⟨Code.quiet_builtin _ (by decide +kernel), codeAny_builtin F.entry_type_call ?_⟩
  rw [Around.under_plain (weight_type_call_type "set" [.ref l] []) rfl]
  have h1 := F.called_set.notType
  have h2 := F.called_set.canCreate
  have hct := F.typeCall_set_1 (.ref l)
  repeat (any_goals (first | assumption | wp_step))

  refine codeAny_mono (code_set_led1 (.ref l) (E := E) (Q₁ := fun obj s₁ => obj = .ref s.heap.objs.size ∧ s₁ = { s with heap := s.heap.push { cls := .type "set", dict := none, data := .set #[] 0 (.fresh 0 0 (!w.params.followText "set-order")) } }) ⟨rfl, rfl⟩) fun r s₁ hr => ?_
  cases r with
  | error e => exact hr
  | ok fl =>
    cases fl with
    | ret obj =>
      obtain ⟨rfl, rfl⟩ := hr
      have hS : (s.heap.push { cls := .type "set", dict := none, data := .set #[] 0 (.fresh 0 0 (!w.params.followText "set-order")) }).get? s.heap.objs.size = some { cls := .type "set", dict := none, data := .set #[] 0 (.fresh 0 0 (!w.params.followText "set-order")) } := Heap.get?_push_size _ rfl
      have hT : Shared.TypeIs { s with heap := s.heap.push { cls := .type "set", dict := none, data := .set #[] 0 (.fresh 0 0 (!w.params.followText "set-order")) } } (.ref s.heap.objs.size) "set" := ⟨_, hS, rfl⟩
      have hli := F.called_set.init.lookup
      have hbi := F.called_set.init.bind (.ref s.heap.objs.size)
      repeat (any_goals (first | assumption | wp_step))

      refine codeAny_mono (codeAny_call_builtin (R := wants (fun r s₂ => r = .none ∧ ∃ h' tk c, s₂ = { s with heap := h', toks := tk } ∧ SetR w h' s.heap.objs.size (fun j => decide (j ∈ ns)) c ∧ c ≤ ns.length ∧
          (∀ b o, s.heap.get? b = some o → h'.get? b = some o)) E) F.called_set.init.plain F.entry_set_init (check_set_init_1 hT ?_)) fun r₂ s₂ hr₂ => ?_
      · obtain ⟨ol, hol, hcl, nl, hdl⟩ := hl
        obtain ⟨ocls, odict, odata, oslots⟩ := ol
        simp only at hcl hdl
        subst hcl; subst hdl
        have hol' : (s.heap.push { cls := .type "set", dict := none, data := .set #[] 0 (.fresh 0 0 (!w.params.followText "set-order")) }).get? l = some { cls := .type "list", dict := odict, data := .seq items nl, slots := oslots } := Heap.get?_push_of_some _ hol
        have hsls := F.sub_list_set
        have hslf := F.sub_list_frozenset
        have hne : (Value.type "list" == Value.type "dict") = false := by decide
        have hl1 : (s.heap.push { cls := .type "set", dict := none, data := .set #[] 0 (.fresh 0 0 (!w.params.followText "set-order")) }).IsList l items := ⟨_, hol', rfl, nl, rfl⟩
        unfold Builtin.«set.__init__» noKeywords Builtin.Frozenset.updateFrom
        generalize hPI : pyIter = PI
        wp_walk
        subst hPI

        refine wpAny_pyIter_list hl1 ?_
        refine wpAny_bind (wpAny_runValue ?_)
        have hlS : l < s.heap.objs.size := Heap.lt_size hol
        have hh3 : A.in1.in1.in1.handled = none := by simp [hh]
        have hz1 : (s.heap.push { cls := .type "set", dict := none, data := .set #[] 0 (.fresh 0 0 (!w.params.followText "set-order")) }).objs.size = s.heap.objs.size + 1 := Heap.size_push ..
        have hneI : l ≠ (s.heap.push { cls := .type "set", dict := none, data := .set #[] 0 (.fresh 0 0 (!w.params.followText "set-order")) }).objs.size := by
          rw [Heap.size_push]; exact Nat.ne_of_lt (Nat.lt_succ_of_lt hlS)
        have hSf : s.heap.objs.size ∉ [(s.heap.push { cls := .type "set", dict := none, data := .set #[] 0 (.fresh 0 0 (!w.params.followText "set-order")) }).objs.size, l] := by
          rw [Heap.size_push]; simp only [List.mem_cons, List.mem_singleton, List.not_mem_nil, or_false, not_or]
          exact ⟨Nat.ne_of_lt (Nat.lt_succ_self _), Nat.ne_of_gt hlS⟩
        have hval : ∀ (i : Nat) (v : Value), items[i]? = some v → ∃ k t, ns[i]? = some k ∧ v = .int k t := fun i v hv => by
          have hi : i < ns.length := by rw [← hisz]; exact (Array.getElem?_eq_some_iff.mp hv).1
          obtain ⟨t, e⟩ := PyProof.Rows.IntsAre.int_at hit i v (by rw [Array.getElem?_toList]; exact hv)
          refine ⟨ns[i], t, List.getElem?_eq_getElem hi, ?_⟩
          rw [e, List.getD_eq_getElem?_getD, List.getElem?_eq_getElem hi] <;> rfl
        refine set_update_ints ((Walks.list hh3 _ l hneI items).toS) s.heap.objs.size
          hSf ns hisz hb hval (items.size - 0) 0 _ (by omega) (Nat.zero_le _)
          ⟨⟨_, Heap.get?_push_size _ rfl, rfl, rfl⟩, (hl1.push _)⟩ ?hS0 ?hR
        case hS0 =>
          have hget : ((s.heap.push { cls := .type "set", dict := none, data := .set #[] 0 (.fresh 0 0 (!w.params.followText "set-order")) }).push { cls := .type "list_iterator", data := .fields #[.ref l, .int 0 0] }).get? s.heap.objs.size
              = some { cls := .type "set", dict := none, data := .set #[] 0 (.fresh 0 0 (!w.params.followText "set-order")) } := Heap.get?_push_of_some _ hS
          exact ⟨0, Nat.le_refl 0, setR_new_at hget⟩
        case hR =>
          intro s' c' hm hc' hS'
          obtain ⟨h', g2, d', tk', os'⟩ := s'
          have eg : g2 = s.gens := hm.gens
          have ed : d' = s.drawn := hm.drawn
          have eo : os' = s.os := hm.os
          subst eg; subst ed; subst eo
          show wpAny _ _ _ _ _ _
          refine wpAny_pure ?_
          show wpAny _ _ (ret Value.none) _ _ _
          rw [hisz] at hc'
          refine wpAny_pure ⟨rfl, h', tk', c', rfl, hS', hc', fun b o e => ?_⟩
          have hb0 : b < s.heap.objs.size := Heap.lt_size e
          have hb1 : b ≠ s.heap.objs.size := Nat.ne_of_lt hb0
          have hb2 : b ≠ (s.heap.push { cls := .type "set", dict := none, data := .set #[] 0 (.fresh 0 0 (!w.params.followText "set-order")) }).objs.size := by
            rw [Heap.size_push]; exact Nat.ne_of_lt (Nat.lt_succ_of_lt hb0)
          exact hm.heap b o (by simp only [List.mem_cons, List.mem_singleton, List.not_mem_nil, or_false, not_or]; exact ⟨hb1, hb2⟩) (Heap.get?_push_of_some _ (Heap.get?_push_of_some _ e))

      · cases r₂ with
        | error e => exact hr₂
        | ok fl₂ =>
          cases fl₂ with
          | ret r =>
            obtain ⟨rfl, h', tk, c', rfl, hS', hc', hk'⟩ := hr₂
            repeat (any_goals (first | assumption | wp_step))
            exact h _ _ _ hS' hc' hk'
          | _ => exact hr₂.elim
    | _ => exact hr.elim
end
end L2
namespace Tv
open PySem PySem.Spec PyProof.Rows L2
/-! ### sorted(set(xs)), ints -/
def insI (i : Int) : List Int → List Int
  | [] => [i]
  | j :: l => if i < j then i :: j :: l else if i = j then j :: l else j :: insI i l
def sortI : List Int → List Int
  | [] => []
  | i :: l => insI i (sortI l)
theorem insI_mem {i k : Int} : ∀ l : List Int, k ∈ insI i l ↔ k = i ∨ k ∈ l
  | [] => by simp [insI]
  | j :: l => by
    unfold insI
    split
    · simp
    · split
      · rename_i h; subst h; simp
      · simp [insI_mem l, or_left_comm]
theorem insI_pw {i : Int} : ∀ l : List Int, l.Pairwise (· < ·) → (insI i l).Pairwise (· < ·)
  | [], _ => by simp [insI]
  | j :: l, h => by
    obtain ⟨h1, h2⟩ := List.pairwise_cons.mp h
    unfold insI
    split
    · rename_i hij
      refine List.pairwise_cons.mpr ⟨fun y hy => ?_, h⟩
      rcases List.mem_cons.mp hy with e | e
      · rw [e]; exact hij
      · exact Int.lt_trans hij (h1 y e)
    · split
      · exact h
      · rename_i h3 h4
        refine List.pairwise_cons.mpr ⟨fun y hy => ?_, insI_pw l h2⟩
        rcases (insI_mem l).mp hy with e | e
        · rw [e]; omega
        · exact h1 y e
theorem sortI_mem {k : Int} : ∀ l : List Int, k ∈ sortI l ↔ k ∈ l
  | [] => by simp [sortI]
  | i :: l => by rw [sortI, insI_mem, sortI_mem l]; simp
theorem sortI_pw : ∀ l : List Int, (sortI l).Pairwise (· < ·)
  | [] => by simp [sortI]
  | i :: l => insI_pw _ (sortI_pw l)
theorem pw_ext : ∀ {l m : List Int}, l.Pairwise (· < ·) → m.Pairwise (· < ·) → (∀ k, k ∈ l ↔ k ∈ m) → l = m
  | [], [], _, _, _ => rfl
  | [], j :: m, _, _, h => absurd ((h j).mpr (by simp)) (by simp)
  | i :: l, [], _, _, h => absurd ((h i).mp (by simp)) (by simp)
  | i :: l, j :: m, h1, h2, h => by
    obtain ⟨a1, a2⟩ := List.pairwise_cons.mp h1
    obtain ⟨b1, b2⟩ := List.pairwise_cons.mp h2
    have e : i = j := by
      have x1 := (h i).mp (by simp)
      have x2 := (h j).mpr (by simp)
      rcases List.mem_cons.mp x1 with e | e
      · exact e
      · rcases List.mem_cons.mp x2 with e' | e'
        · exact e'.symm
        · have y1 := b1 i e
          have y2 := a1 j e'
          omega
    subst e
    rw [pw_ext a2 b2 fun k => ?_]
    have z := h k
    constructor
    · intro hk
      rcases List.mem_cons.mp (z.mp (List.mem_cons_of_mem _ hk)) with e | e
      · exact absurd (a1 k hk) (by rw [e]; exact Int.lt_irrefl _)
      · exact e
    · intro hk
      rcases List.mem_cons.mp (z.mpr (List.mem_cons_of_mem _ hk)) with e | e
      · exact absurd (b1 k hk) (by rw [e]; exact Int.lt_irrefl _)
      · exact e
def opSortSet : List T → Option R
  | [.lst ts] => (match intsOf ts with
    | some ns => if ns.length < 60 then some (.frs (.lst ((sortI ns).map T.int))) else none
    | none => none)
  | _ => none

def setX (w : World) (p : Addr) (ns : List Int) : HO := .ext fun h => ∃ c, c ≤ ns.length ∧ SetR w h p (fun j => decide (j ∈ ns)) c
def ρSetL (K : PySem.W.Frag) (w : World) : List V → Hp → VK → Prop := fun vs H Q => ∃ a ns, vs = [V.ref a] ∧ SqL K H a (ns.map V.int) ∧ ns.length < 60 ∧ ∀ p, H p = none → Q (.ref p) (upd H p (setX w p ns))
def ρSortSet (w : World) : List V → Hp → VK → Prop := fun vs H Q => ∃ p ns, vs = [V.ref p] ∧ H p = some (setX w p ns) ∧ ns.length < 60 ∧ ∀ (ns' : List Int) (q : Addr), ns'.Pairwise (· < ·) → (∀ k, k ∈ ns' ↔ k ∈ ns) → H q = none → Q (.ref q) (upd H q (.lst (ns'.map V.int)))
section
variable {X : Cx}
theorem setX_ok {P : Program} {w : World} {H : Hp} {h : Heap} {p : Addr} {ns : List Int} {c : Nat} (hc : c ≤ ns.length) (R : SetR w h p (fun j => decide (j ∈ ns)) c) : ObjOk P w H h p (setX w p ns) :=
  ⟨⟨c, hc, R⟩, by obtain ⟨o, _, _, _, ho, _⟩ := R; exact ⟨o, ho⟩, fun h1 h2 ⟨c, hc, R⟩ k => ⟨c, hc, R.at k⟩⟩
theorem cr_setL (hc : X.calm = true) : CallR X (.type "set") (ρSetL X.K X.w) := by
  intro pins s σ H vs us Q I r h
  obtain ⟨a, ns, rfl, hs, h60, q⟩ := h
  obtain ⟨its, rv, hl, _⟩ := I.list hs
  rw [Vals.ref1 r]
  refine call_set_lstI ns (I.ok.hd hc) hl.isList (by simpa using rv.ints) (by unfold scanBound; omega) fun h' tk c hS hle k => ?_
  exact ⟨.ref _, _, I.laid (t' := tk) k (Nat.le_refl _) (setX_ok hle hS), rfl, q _ (I.hok.fresh (Nat.le_refl _))⟩
theorem cr_sortSet (hc : X.calm = true) : CallR X (.builtin "sorted") (ρSortSet X.w) := by
  intro pins s σ H vs us Q I r h
  obtain ⟨p, ns, rfl, hp, h60, q⟩ := h
  rw [Vals.ref1 r]
  obtain ⟨⟨c, hle, R⟩, _, _⟩ := I.hok p _ hp
  refine sorted_set R (I.ok.hd hc) (by omega) fun s' p' out c' ns' k g o hle' hp' hi hpw hm hlen => ?_
  have hlen : (ns'.map V.int).length ≤ sizeLine := by rw [List.length_map, hlen, sizeLine_eq]; omega
  have hn : H p' = none := I.hok.fresh hle'
  have J : Inv X pins σ (upd H p' (.lst (ns'.map V.int))) { s with heap := s'.heap, gens := s'.gens, drawn := s'.drawn, toks := s'.toks } :=
    I.call (ch := []) (Un.laid k hle' hn) (I.hok.laid k hle' ⟨hlen, out.toList, c', vals_of_ints hi, hp'⟩) (by rw [g]; exact I.bare) (fun _ z => nomatch z)
  have e : s' = { s with heap := s'.heap, gens := s'.gens, drawn := s'.drawn, toks := s'.toks } := by
    cases s'
    cases s
    cases o
    rfl
  rw [e]
  exact ⟨.ref p', _, J, rfl, q ns' p' hpw (fun k => (hm k).trans (by simp)) hn⟩
end
section
variable {c : C} {e : Expr} {p p2 p3 pos : Pos}
theorem SE.c_sortedSet {f : S → Out (List Bv)} (G : Gd c.g) (h : SAb c [e] f) (hg : HG c "sorted" := by rfl) (hg2 : HG c "set" := by rfl) (he : NoStar e := by intro _ _; rfl) : SE c (.Call (.Name "sorted" p) [.Call (.Name "set" p2) [e] [] p3] [] pos) (fCall opSortSet f) := by
  intro r W ok tk B s σ H F x Q q
  refine PE.w (pe_callB (X := c.cx r) (cr_sortSet ok.calm) ((G.sorted hg).isGl ok) G.f_sorted PyProof.Rows.Boot.«sorted» (pa_cons (pe_callTy (cr_setL ok.calm) ((G.set hg2).isGl ok) G.f_set PyProof.Rows.Boot.«set» pA (by decide) (by decide) (he _ _)) pa_nil)) ?_
  refine h r W ok tk B s σ H F x _ ?_
  unfold fCall at q
  cases hf : f s with
  | exc y s1 => rw [hf] at q; exact q
  | bad => rw [hf] at q; exact q
  | ok bs s1 =>
    rw [hf] at q
    intro vs H1 F1 l1 x1 r1
    have q : Po c.g B σ F W (rE c.g B σ) Q (opN opSortSet (trs s1 bs) s1) := q
    unfold opN lift1 at q
    cases e1 : trs s1 bs with
    | none => rw [e1] at q; exact q.elim
    | some ts =>
      rw [e1] at q
      dsimp only at q
      cases e2 : opSortSet ts with
      | none => rw [e2] at q; exact q.elim
      | some z =>
        rw [e2] at q
        have rv := x1.looks r1 e1
        unfold opSortSet at e2
        split at e2
        case h_2 => cases e2
        rename_i us
        split at e2
        case h_2 => cases e2
        rename_i ns hns
        split at e2
        case isFalse => cases e2
        rename_i h60
        cases e2
        cases rv with
        | cons r2 rn =>
          cases rn
          obtain ⟨a, xs, rfl, h3, q1⟩ := r2.lst x1.sub
          have exs := q1.intsOf hns
          subst exs
          refine ⟨a, ns, rfl, SqL.of h3, h60, fun p1 hp1 => ?_⟩
          have x2 := x1.alloc (o := setX c.g.w p1 ns) hp1
          refine ⟨p1, ns, rfl, upd_same, h60, fun ns' q1' hpw hm hq1 => ?_⟩
          have en : ns' = sortI ns := pw_ext hpw (sortI_pw ns) fun k => (hm k).trans (sortI_mem ns).symm
          subst en
          exact q (.ref q1') _ F1 l1 (x2.alloc hq1) ⟨q1', _, rfl, x2.fresh hq1, upd_same, _, rfl, reps_ints _⟩
end
end Tv
namespace Tv
open PySem PySem.Spec PyProof.Rows L2

/-! ### the law's drawing, begun -/
def bgN : List Str := ["script", "large", "cell"]
def bgSc : Scope := { kind := .function, names := [("script", .local), ("large", .local), ("list", .globalImplicit)], isGenerator := false, isCoroutine := false, more := [("fast", .str "script"), ("fast", .str "cell"), ("fast", .str "large")] }
def bgBl : Scope := { kind := .function, names := [(".0", .local), ("cell", .local), ("abs", .globalImplicit)], isGenerator := false, isCoroutine := false, more := [] }
def absI (i : Int) : Int := if i < 0 then -i else i
def lgs : List Int → List Int
  | [] => []
  | i :: is => if (10 : Int) ^ 18 ≤ absI i then absI i :: lgs is else lgs is
theorem lgs_snoc (i : Int) : ∀ is : List Int, lgs (is ++ [i]) = if (10 : Int) ^ 18 ≤ absI i then lgs is ++ [absI i] else lgs is
  | [] => by simp only [List.nil_append, lgs]
  | j :: js => by
    rw [List.cons_append, lgs, lgs_snoc i js, lgs]
    split <;> split <;> rfl
theorem lgs_le : ∀ is : List Int, (lgs is).length ≤ is.length
  | [] => Nat.le_refl _
  | i :: is => by
    have := lgs_le is
    rw [lgs]; split <;> simp only [List.length_cons] <;> omega
def bgC (g : G) (k : Nat) : C := ⟨g, bgN, bgSc, k, fun _ => true, none⟩
section
variable {g : G} {r : Rn} {k : Nat} {p1 p2 p3 p4 p5 p6 p7 p8 p9 p10 p11 p12 p13 p14 p15 p16 p17 p18 p19 p20 p21 p22 p23 p24 p25 p26 p27 p28 p29 : Pos} {j1 j2 j3 j4 j5 j6 j7 j8 j9 j10 : Nat}
def tAb : TE := tCB (fun xs H Q => ∃ i, xs = [.int i] ∧ Q (.int (if i < 0 then -i else i)) H) (tCons (tVar 2) tNil)
theorem pe_ab {X : Cx} (hN : X.N[2]? = some ("cell" : Str)) (hs : X.env.scope = bgBl) (hm : X.mg "abs" = none) : PE X (.Call (.Name "abs" p1) [.Name "cell" p2] [] p3) tAb :=
  pe_callB call_abs (by show X.env.scope.names.lookup _ = _; rw [hs]; rfl) hm PyProof.Rows.Boot.«abs» (pa_cons (pe_var hN (by rw [hs]; exact Or.inl rfl)) pa_nil)
theorem begin_large (G : Gd g) (ok : (bgC g k).Ok r) (hl : (p1.line == p14.line) = true) {a : Addr} {is : List Int} {H : Hp} {D : Ends} (ha : SqL g.K H a (is.map V.int)) (hz : is.length ≤ sizeLine)
    (q : ∀ la, H la = none → D.nx [some (.ref a), some (.ref la), none] (upd H la (.lst ((lgs is).map V.int)))) :
    wS ((bgC g k).cx r) (.Assign [.Name "large" p1] (.ListComp (.Call (.Name "abs" p2) [.Name "cell" p3] [] p4) [⟨.Name "cell" p5, .Name "script" p6,
      [.Compare (.Call (.Name "abs" p7) [.Name "cell" p8] [] p9) [.GtE] [.BinOp (.Constant (.int 10) j1 p10) .Pow (.Constant (.int 18) j2 p11) p12] p13], 0⟩] bgBl p14) p15) D (L2.start bgN [.ref a]) H := by
  have es : ((bgC g k).cx r).env.scope = bgSc := ok.sc
  have bo : BlkOk ((bgC g k).cx r).N ((bgC g k).cx r).env.scope bgBl [("cell", 2)] := by rw [es]; exact blkOk_by rfl
  refine PS.w (ps_setLc (X := (bgC g k).cx r) (i := 1) ok.calm ok.nd rfl (by rw [es]; rfl) (sw_true (by rw [es]; rfl) (by rw [es]; rfl) hl rfl) (pi_list (pe_var (i := 0) rfl (by rw [es]; exact Or.inl rfl))) bo
    (fun s H C cl fp => pg_name (i := 2) ok.nd rfl (Or.inl rfl) (.inr rfl))
    (fun s H C cl fp => pts_one (pt_cmpR op_ge (pe_ab rfl rfl G.f_abs) (pe_op op_pow pe_int pe_int) (nomark _)))
    (fun s H C cl fp => pe_ab rfl rfl G.f_abs) (fun _ => rfl)) ?_
  refine ⟨.ref a, rfl, a, rfl, ⟨_, ha⟩, fun Dl hD => ?_⟩
  have keep : ∀ l, SqL g.K (upd H Dl (.lst l)) a (is.map V.int) := fun l => (LeF.upd hD).sqL ha
  refine ⟨fun i m H1 => i ≤ is.length ∧ m = is.length - i ∧ H1 = upd H Dl (.lst ((lgs (is.take i)).map V.int)), ⟨is.length, Nat.zero_le _, rfl, rfl⟩, fun i m H1 ⟨h1, h2, h3⟩ => ?_⟩
  subst h2 h3
  by_cases hi : i = is.length
  · subst hi
    refine .inl ⟨⟨_, keep _, by rw [List.length_map]; exact Nat.le_refl _⟩, ?_⟩
    rw [List.take_length]
    exact q Dl hD
  · have hlt : i < is.length := by omega
    refine .inr ⟨⟨_, _, keep _, List.getElem?_eq_getElem (by rw [List.length_map]; exact hlt)⟩, fun H2 => H2 = upd H Dl (.lst ((lgs (is.take (i + 1))).map V.int)), fun H2 e => ⟨is.length - (i + 1), by omega, by omega, rfl, e⟩, fun x H2 ⟨e1, e2⟩ => ?_⟩
    subst e1
    have e3 := e2 _ (keep _)
    rw [List.getElem?_map, List.getElem?_eq_getElem hlt] at e3
    cases e3
    have hs : lgs (is.take (i + 1)) = if (10 : Int) ^ 18 ≤ absI is[i] then lgs (is.take i) ++ [absI is[i]] else lgs (is.take i) := by
      rw [List.take_succ, List.getElem?_eq_getElem hlt]; exact lgs_snoc _ _
    refine ⟨rfl, _, rfl, _, rfl, 10, 18, rfl, rfl, by unfold CPow; decide, _, _, rfl, rfl, _, rfl, ?_⟩
    have hp : ((10 : Int) ^ (18 : Int).toNat) = 10 ^ 18 := rfl
    by_cases hc : (10 : Int) ^ 18 ≤ absI is[i]
    · rw [hp]
      dsimp only
      have hc2 : (10 : Int) ^ 18 ≤ if is[i] < 0 then -is[i] else is[i] := hc
      rw [if_pos (decide_eq_true hc2)]
      refine ⟨_, rfl, _, rfl, _, upd_same, ?_, ?_⟩
      · have := lgs_le (is.take i)
        rw [List.length_take] at this
        rw [List.length_map]; omega
      · rw [hs, if_pos hc, List.map_append, upd_upd]; rfl
    · rw [hp]
      dsimp only
      have hc2 : ¬ (10 : Int) ^ 18 ≤ if is[i] < 0 then -is[i] else is[i] := hc
      rw [if_neg fun z => hc2 (of_decide_eq_true z), hs, if_neg hc]
theorem begin_walk (G : Gd g) (ok : (bgC g k).Ok r) (hl : (p1.line == p14.line) = true) {a : Addr} {is : List Int} {H : Hp} {D : Ends} (ha : SqL g.K H a (is.map V.int)) (hz : is.length ≤ sizeLine)
    (q : ∀ la da ca H', H la = none → H da = none → H ca = none → da ≠ la → da ≠ ca → la ≠ ca → LeF H H' → H' da = some (.dK [(.inr "large", .ref la), (.inr "cells", .ref ca), (.inr "rest", .int 0), (.inr "turn", .int 0), (.inr "mix", .int 7)]) →
      H' la = some (.lst ((lgs is).map V.int)) → H' ca = some (.lst (is.map V.int)) → D.rt (.ref da) H') :
    wSs ((bgC g k).cx r) [.Assign [.Name "large" p1] (.ListComp (.Call (.Name "abs" p2) [.Name "cell" p3] [] p4) [⟨.Name "cell" p5, .Name "script" p6,
      [.Compare (.Call (.Name "abs" p7) [.Name "cell" p8] [] p9) [.GtE] [.BinOp (.Constant (.int 10) j1 p10) .Pow (.Constant (.int 18) j2 p11) p12] p13], 0⟩] bgBl p14) p15,
      .Return (some (.Dict [some (.Constant (.str "large") j3 p16), some (.Constant (.str "cells") j4 p17), some (.Constant (.str "rest") j5 p18), some (.Constant (.str "turn") j6 p19), some (.Constant (.str "mix") j7 p20)]
        [.Name "large" p21, .Call (.Name "list" p22) [.Name "script" p23] [] p24, .Constant (.int 0) j8 p25, .Constant (.int 0) j9 p26, .Constant (.int 7) j10 p27] p28)) p29] D (L2.start bgN [.ref a]) H := by
  have es : ((bgC g k).cx r).env.scope = bgSc := ok.sc
  refine PSs.w (pss_cons pS (pss_one (ps_ret (pe_disp (X := (bgC g k).cx r)
    (pps_cons pe_str (pe_var (i := 1) rfl (by rw [es]; exact Or.inl rfl)) (pps_cons pe_str (pe_callTy call_list_of (by show ((bgC g k).cx r).env.scope.names.lookup _ = _; rw [es]; rfl) G.f_list PyProof.Rows.Boot.«list» (pa_cons (pe_var (i := 0) rfl (by rw [es]; exact Or.inl rfl)) pa_nil))
      (pps_cons pe_str pe_int (pps_cons pe_str pe_int (pps_cons pe_str pe_int pps_nil))))) rfl rfl (by intro z; cases z) (by show (5 : Nat) ≤ 15; decide))))) ?_
  refine begin_large G ok hl ha hz fun la hla => ?_
  intro da hda
  have hda0 : H da = none := (LeF.upd hla).free hda
  have n1 : da ≠ la := fun z => by rw [z, upd_same] at hda; cases hda
  refine ⟨_, rfl, _, rfl, a, _, rfl, .inl ((LeF.upd hda).sqL ((LeF.upd hla).sqL ha)), fun ca hca => ?_⟩
  have n2 : ca ≠ da := fun z => by rw [z, upd_same] at hca; cases hca
  rw [upd_ne n2] at hca
  have n3 : ca ≠ la := fun z => by rw [z, upd_same] at hca; cases hca
  have hca0 := hca
  rw [upd_ne n3] at hca0
  refine ⟨by rw [upd_ne (Ne.symm n2)]; exact upd_same, [(.inr "large", .ref la), (.inr "cells", .ref ca), (.inr "rest", .int 0), (.inr "turn", .int 0), (.inr "mix", .int 7)], rfl, (by show (5 : Nat) ≤ 15; decide), ?_⟩
  refine q la da ca _ hla hda0 hca0 n1 (Ne.symm n2) (Ne.symm n3) (fun b o e => ?_) upd_same ?_ ?_
  · rw [upd_ne (ne_of_none e hda0), upd_ne (ne_of_none e hca0), upd_ne (ne_of_none e hda0), upd_ne (ne_of_none e hla)]; exact e
  · rw [upd_ne (Ne.symm n1), upd_ne (Ne.symm n3), upd_ne (Ne.symm n1)]; exact upd_same
  · rw [upd_ne n2]; exact upd_same
end
end Tv
namespace Tv
open PySem PySem.Spec PyProof.Rows L2

/-! ### the law's own run: the drawing begun, then the rest -/
def spBg (K : PySem.W.Frag) : Sp := fun vs H Q _ => ∃ (a : Addr) (is : List Int), vs = [.ref a] ∧ SqL K H a (is.map V.int) ∧ is.length ≤ sizeLine ∧
  ∀ la da ca H', H la = none → H da = none → H ca = none → da ≠ la → da ≠ ca → la ≠ ca → LeF H H' → H' da = some (.dK [(.inr "large", .ref la), (.inr "cells", .ref ca), (.inr "rest", .int 0), (.inr "turn", .int 0), (.inr "mix", .int 7)]) →
    H' la = some (.lst ((lgs is).map V.int)) → H' ca = some (.lst (is.map V.int)) → Q (.ref da) H'
structure BgAt (g : G) : Prop where
  ex : ∃ (f : Addr) (fd : FuncData), FnG g 1 f fd ["script"] (spBg g.K) ∧ g.mg "_law_begin" = some (.ref f) ∧ PySem.W.keepIn g.K (.ref f) = true ∧ Binds g.K fd ["script"] []
theorem bgScope : FnScope bgN ["script"] bgSc := C8.fnScope_by (by decide)
section
variable {g : G} {p1 p2 p3 p4 p5 p6 p7 p8 p9 p10 p11 p12 p13 p14 p15 p16 p17 p18 p19 p20 p21 p22 p23 p24 p25 p26 p27 p28 p29 : Pos} {j1 j2 j3 j4 j5 j6 j7 j8 j9 j10 : Nat}
theorem BgAt.of {params : Arguments} {body : List Stmt} (G : Gd g) (D : DefAt g "_law_begin" "_law_begin" params body bgSc) (hbody : body = [.Assign [.Name "large" p1] (.ListComp (.Call (.Name "abs" p2) [.Name "cell" p3] [] p4) [⟨.Name "cell" p5, .Name "script" p6,
      [.Compare (.Call (.Name "abs" p7) [.Name "cell" p8] [] p9) [.GtE] [.BinOp (.Constant (.int 10) j1 p10) .Pow (.Constant (.int 18) j2 p11) p12] p13], 0⟩] bgBl p14) p15,
      .Return (some (.Dict [some (.Constant (.str "large") j3 p16), some (.Constant (.str "cells") j4 p17), some (.Constant (.str "rest") j5 p18), some (.Constant (.str "turn") j6 p19), some (.Constant (.str "mix") j7 p20)]
        [.Name "large" p21, .Call (.Name "list" p22) [.Name "script" p23] [] p24, .Constant (.int 0) j8 p25, .Constant (.int 0) j9 p26, .Constant (.int 7) j10 p27] p28)) p29]) (hl : (p1.line == p14.line) = true)
    (hb : ∀ (kV doc pm : Value) (an : Option Addr) (cdv ct : Value) (us : List Value), us.length = 1 → bindArgs (PySem.W.fnOf "_law_begin" "_law_begin" params body bgSc .none kV doc pm an cdv ct) ⟨us, []⟩ = pure ((["script"] : List Str).zip us)) : BgAt g := by
  obtain ⟨fa, oc, od, kV, doc, pm, an, cdv, ct, osl, lk, hcd, hm, hk⟩ := D.ex
  refine ⟨fa, _, fnG_of lk hcd bgScope (fun vs H Q E ⟨a, is, e, _⟩ => by rw [e]; rfl) (fun A outer s H vs Q E hr hg ⟨a, is, e, ha, hz, q⟩ => ?_), hm, hk, .all (hb _ _ _ _ _ _)⟩
  subst e hbody
  let r : Rn := ⟨A.deeper (envOfC "_law_begin" bgSc s.heap.objs.size fa cdv), s, H, envOfC "_law_begin" bgSc s.heap.objs.size fa cdv, outer, envOfC "_law_begin" bgSc s.heap.objs.size fa cdv :: outer, [], fun _ => true, true, [], (cxOf (L2.CX g.P g.w) g.P g.w g.K g.mg g.base bgN "_law_begin" bgSc fa cdv A outer s H E).xe⟩
  have okc : (bgC g 0).Ok r := ⟨rfl, bgScope.nd, rfl, hr, (by
    show (A.deeper _).guards = some []
    exact hg), fun x _ => rfl, passes_of (X := (bgC g 0).cx r) rfl, fun l z => nomatch z⟩
  exact ⟨wSs ((bgC g 0).cx r) _, pSs, begin_walk (k := 0) G okc hl ha hz q⟩
end

def spLaw (g : G) (P : List Int → Prop) : Sp := fun vs H Q _ => ∃ (a : Addr) (is : List Int), vs = [.ref a] ∧ SqL g.K H a (is.map V.int) ∧ is.length ≤ sizeLine ∧ P is ∧ LamX.Tabs g.tb H ∧ ∀ H', Q (.bl true) H'
def withDr (g : G) (da la ca : Addr) : G := ⟨g.P, g.w, g.K, g.mg, g.base, g.cl, da, la, ca, g.tb⟩
def lawEnt (N : List Str) (is : List Int) : S := ⟨.sh (.scr is) :: .sh .drw :: List.replicate (N.length - 2) .no, ⟨lgs is, is, 0, 0, 7⟩⟩
theorem lawFn {g : G} {k : Nat} {f : Addr} {name qual : Str} {params : Arguments} {rest : List Stmt} {scope : Scope} {dV kV doc pm cdv ct oc : Value} {an od : Option Addr} {osl : Array (Option Value)} {N : List Str} {φ : S → Out Fl} {P : List Int → Prop} {pd p1 p2 p3 p4 : Pos}
    (lk : g.K.lookup f = some ⟨oc, od, .func (PySem.W.fnOf name qual params (.Assign [.Name "draw" p1] (.Call (.Name "_law_begin" p2) [.Name "script" p3] [] p4) pd :: rest) scope dV kV doc pm an cdv ct), osl⟩)
    (hcd : PySem.W.codeIn g.K cdv qual = true) (sc : FnScope ("script" :: "draw" :: N) ["script"] scope) (Bg : BgAt g) (hk : 1 ≤ k) (hg1 : scope.names.lookup ("_law_begin" : Str) = some .globalImplicit) (hg2 : scope.names.lookup ("draw" : Str) = some .local) (hg3 : scope.names.lookup ("script" : Str) = some .local)
    (h : ∀ da la ca, SSs ⟨withDr g da la ca, "script" :: "draw" :: N, scope, k, fun _ => true, none⟩ rest φ) (hans : ∀ is, P is → ∃ s, φ (lawEnt ("script" :: "draw" :: N) is) = .ok (.rt (.bl true) false) s) :
    FnG g (k + 1) f (PySem.W.fnOf name qual params (.Assign [.Name "draw" p1] (.Call (.Name "_law_begin" p2) [.Name "script" p3] [] p4) pd :: rest) scope dV kV doc pm an cdv ct) ["script"] (spLaw g P) := by
  refine fnG_of lk hcd sc (fun vs H Q E ⟨a, is, e, _⟩ => by rw [e]; rfl) fun A outer s H vs Q E hr hg ⟨a, is, e, ha, hz, hP, ht, q⟩ => ?_
  subst e
  let c : C := ⟨g, "script" :: "draw" :: N, scope, k, fun _ => true, none⟩
  let r : Rn := ⟨A.deeper (envOfC qual scope s.heap.objs.size f cdv), s, H, envOfC qual scope s.heap.objs.size f cdv, outer, envOfC qual scope s.heap.objs.size f cdv :: outer, [], fun _ => true, true, [], (cxOf (L2.CX g.P g.w) g.P g.w g.K g.mg g.base ("script" :: "draw" :: N) qual scope f cdv A outer s H E).xe⟩
  have okc : c.Ok r := ⟨rfl, sc.nd, rfl, hr, (by
    show (A.deeper _).guards = some []
    exact hg), fun x _ => rfl, passes_of (X := c.cx r) rfl, fun l z => nomatch z⟩
  refine ⟨wSs (c.cx r) _, pSs, PSs.w (pss_cons pS pSs) ?_⟩
  let D : Ends := { nx := fun _ H' => Q .non H', rt := Q }
  let σ0 : L2.St := L2.start ("script" :: "draw" :: N) [.ref a]
  show wS (c.cx r) _ { D with nx := wSs (c.cx r) rest D } σ0 H
  refine PS.w (ps_set (X := c.cx r) (i := 1) sc.nd rfl (Or.inl hg2) pE rfl (.inl rfl)) ?_
  show wE (c.cx r) _ σ0 H fun v H1 => wSs (c.cx r) rest D (σ0.set 1 (some v)) H1
  intro pins ss I
  obtain ⟨fb, fd, hF, hm, hkp, hb⟩ := Bg.ex
  have tk : Takes (c.cx r) (fun cls d _ H => E cls d H) := takes_of rfl rfl rfl rfl
  refine wpAny_Call_Name_kw (ld_glob (X := c.cx r) I hg1 hm ?_ (by decide))
  refine PySem.W.callWith_K (h₀ := g.base) I.ok.mod.kin hkp (thn ((pa_cons (X := c.cx r) (pe_var (i := 0) rfl (Or.inl hg3)) pa_nil).run _ pins ss σ0 H
    (fun vs H1 => spBg g.K vs H1 (fun v H1 => wSs (c.cx r) rest D (σ0.set 1 (some v)) H1) (WE (fun cls d _ H => E cls d H) σ0)) I ?_) fun us s1 ⟨vs, H1, I1, rv, q⟩ => ⟨I1.kIn, run_fnG (c := c) hF (okc.room.mono hk) okc.gd hb (passAt tk σ0) I1 rv q⟩) rfl rfl
  refine ⟨.ref a, rfl, a, is, rfl, ha, hz, fun la da ca H' hla hda hca n1 n2 n3 le hd1 hl1 hc1 => ?_⟩
  obtain ⟨F, hF1, hF2, hF3⟩ : ∃ F : Hp, LeF F H ∧ SqL g.K F a (is.map V.int) ∧ ∀ p ∈ g.tb, F p.1 = none := by
    rcases ha with ha | ha
    · refine ⟨fun b => if b = a then H b else none, fun b o e => ?_, .inl ?_, fun p hp => ?_⟩
      · dsimp only at e
        split at e
        · exact e
        · cases e
      · unfold Rd at ha ⊢
        dsimp only
        rw [if_pos rfl]
        exact ha
      · dsimp only
        split
        · rename_i e
          obtain ⟨ps, h1, _⟩ := ht p hp
          rw [e] at h1
          rcases ha with ha | ⟨o, ha⟩ <;> (rw [h1] at ha; cases ha)
        · rfl
    · exact ⟨fun _ => none, fun b o e => (nomatch e), .inr ha, fun _ _ => rfl⟩
  obtain ⟨s1, ha1⟩ := hans is hP
  have dr : DrOk (withDr g da la ca) H' F (lawEnt ("script" :: "draw" :: N) is).D := ⟨hd1, hl1, hc1, hF1.free hda, hF1.free hla, hF1.free hca, n1, n2, n3, ht.ext le, hF3⟩
  have x : Rl (withDr g da la ca) ⟨fun _ => none, F, 0⟩ (lawEnt ("script" :: "draw" :: N) is) (σ0.set 1 (some (.ref da))) H' F := by
    have nw : ∀ (i : Nat) (t : T), (lawEnt ("script" :: "draw" :: N) is).env[i]? ≠ some (.ow t) := fun i t e => by
      match i, e with
      | 0, e => cases e
      | 1, e => cases e
      | i + 2, e =>
        have e : (List.replicate N.length Sl.no)[i]? = some (.ow t) := e
        rw [List.getElem?_replicate] at e
        split at e <;> cases e
    refine ⟨hF1.trans le, fun b o e => .inl e, LeF.refl F, fun b o e => (nomatch e), fun i => ?_, fun i j t u b h1 h2 => absurd h1 (nw i t), dr, ⟨rfl, rfl, rfl, fun _ _ => rfl⟩, fun i cc fs z => absurd z (nw i _)⟩
    match i with
    | 0 => exact ⟨.ref a, rfl, .scr hF2⟩
    | 1 => exact ⟨.ref da, rfl, .drw⟩
    | i + 2 =>
      show SlOk _ _ H' F _ ((List.replicate N.length Sl.no)[i]?)
      rw [List.getElem?_replicate]
      split <;> trivial
  refine h da la ca r _ ⟨okc.sc, okc.nd, okc.calm, okc.room, okc.gd, okc.fnc, okc.pass, fun l z => nomatch z⟩ tk ⟨fun _ => none, F, 0⟩ _ _ H' F x D ?_
  rw [ha1]
  intro v σ' H2 F2 l x2 hr2
  cases hr2
  exact q H2
end Tv
/-! ### the law's call, for a promise that asks where the caller stands -/
namespace Tv
open PySem PySem.Spec PyProof.Rows L2
section
variable {P : Program} {w : World} {K : PySem.W.Frag} {mg mb : Str → Option Value} {a : Addr} {cs : List (Addr × Addr)} {st : Shared} {vs : List Value} {is : List Int}
abbrev listO (vs : List Value) : Obj := { cls := .type "list", data := .seq vs.toArray }
abbrev tabO : Obj := { cls := .none, data := .fields #[] }
/-- the script's object, unless it is in K; the empty tables; else nothing -/
noncomputable def hSc (K : PySem.W.Frag) (a : Addr) (cs : List (Addr × Addr)) (vs : List Value) (is : List Int) : Hp := fun b =>
  if b ∈ cs.map (·.2) then some (.tbl #[]) else if b = a ∧ K.lookup a = none then some (.frz (listO vs) (.lst (is.map V.int))) else none
structure Fnd (K : PySem.W.Frag) (cs : List (Addr × Addr)) (st : Shared) (a : Addr) (vs : List Value) (is : List Int) : Prop where
  kin : K.In st.heap
  tab : ∀ p ∈ cs, st.heap.get? p.2 = some tabO
  out : ∀ p ∈ cs, K.lookup p.2 = none
  scr : st.heap.get? a = some (listO vs)
  its : IntsAre vs is
  len : is.length ≤ sizeLine
theorem Fnd.tabAt (F : Fnd K cs st a vs is) {b : Addr} (h : b ∈ cs.map (·.2)) : st.heap.get? b = some tabO ∧ K.lookup b = none := by
  obtain ⟨p, hp, rfl⟩ := List.mem_map.mp h
  exact ⟨F.tab p hp, F.out p hp⟩
theorem Fnd.ne (F : Fnd K cs st a vs is) : a ∉ cs.map (·.2) := fun h => by
  have h1 := (F.tabAt h).1
  rw [F.scr] at h1
  have h2 : Data.seq vs.toArray = Data.fields #[] := congrArg Obj.data (Option.some.inj h1)
  cases h2
theorem hSc_tab {b : Addr} (h : b ∈ cs.map (·.2)) : hSc K a cs vs is b = some (.tbl #[]) := if_pos h
/-- what is tracked is a list or an empty table -/
theorem Fnd.kinds (F : Fnd K cs st a vs is) {b : Addr} {u : HO} (h : hSc K a cs vs is b = some u) : (b ∈ cs.map (·.2) ∧ u = .tbl #[] ∧ st.heap.get? b = some tabO ∧ K.lookup b = none) ∨ (b = a ∧ u = .frz (listO vs) (.lst (is.map V.int)) ∧ st.heap.get? b = some (listO vs) ∧ K.lookup b = none) := by
  unfold hSc at h
  split at h
  · rename_i hb
    cases h
    exact .inl ⟨hb, rfl, F.tabAt hb⟩
  · split at h
    · rename_i hb
      cases h
      obtain ⟨rfl, hk⟩ := hb
      exact .inr ⟨rfl, rfl, F.scr, hk⟩
    · cases h
theorem Fnd.free (F : Fnd K cs st a vs is) {b : Addr} {o : Obj} (e : st.heap.get? b = some o) (h1 : o ≠ listO vs) (h2 : o ≠ tabO) : hSc K a cs vs is b = none := by
  cases q : hSc K a cs vs is b with
  | none => rfl
  | some u =>
    rcases F.kinds q with ⟨_, _, e2, _⟩ | ⟨_, _, e2, _⟩
    · rw [e] at e2; exact absurd (Option.some.inj e2) h2
    · rw [e] at e2; exact absurd (Option.some.inj e2) h1
theorem Fnd.at (F : Fnd K cs st a vs is) {b : Addr} {o : Obj} (e : st.heap.get? b = some o) (h1 : o ≠ listO vs) (h2 : o ≠ tabO) : (hidT st.heap (hSc K a cs vs is)).get? b = some o := hidT_get e (F.free e h1 h2)
theorem Fnd.ok (F : Fnd K cs st a vs is) : HOk P w (hSc K a cs vs is) st.heap := by
  intro b u e
  have rv := vals_ints F.its
  rcases F.kinds e with ⟨_, rfl, e2, _⟩ | ⟨rfl, rfl, e2, _⟩
  · exact e2
  · refine ⟨e2, ?_, vs, _, rv, e2⟩
    rw [List.length_map]; exact F.len
theorem Fnd.seq (F : Fnd K cs st a vs is) : SqL K (hSc K a cs vs is) a (is.map V.int) := by
  cases hk : K.lookup a with
  | none => exact .inl (.inr ⟨listO vs, (if_neg F.ne).trans (if_pos ⟨rfl, hk⟩)⟩)
  | some o =>
    have e := F.kin a o hk
    rw [F.scr] at e
    cases e
    refine .inr ⟨_, vs.toArray, _, hk, rfl, rfl, rfl, ?_, by simpa using vals_ints F.its⟩
    rw [List.size_toArray, F.its.length]; exact F.len
theorem Fnd.ns (F : Fnd K cs st a vs is) {b : Addr} {m : Str → Option Value} (h : st.heap.Ns b m) : (hidT st.heap (hSc K a cs vs is)).Ns b m := by
  obtain ⟨o, es, ep, e, d, r⟩ := h
  refine ⟨o, es, ep, F.at e (fun z => ?_) (fun z => ?_), d, r⟩
  · rw [z] at d; cases d
  · rw [z] at d; cases d
theorem Fnd.kb (F : Fnd K cs st a vs is) : K.In (hidT st.heap (hSc K a cs vs is)) := fun b o e => hidT_get (F.kin b o e) (by
  cases q : hSc K a cs vs is b with
  | none => rfl
  | some u =>
    rcases F.kinds q with ⟨_, _, _, n⟩ | ⟨_, _, _, n⟩ <;> (rw [e] at n; cases n))
/-- what the module's names say of builtins -/
def BmAt (mg : Str → Option Value) (st : Shared) : Prop := ∃ (bm : Addr) (ob : Obj), mg "__builtins__" = some (.ref bm) ∧ bm ≠ builtinsNs ∧ st.heap.get? bm = some ob ∧ ob.cls = .type "module" ∧ ob.dict = some builtinsNs ∧ ob.data = .plain
theorem Fnd.tb (F : Fnd K cs st a vs is) (hns : st.heap.Ns mainGlobals mg) (hbm : BmAt mg st) {p : Addr × Addr} (hp : p ∈ cs) (C : PySem.W.CodeHd st.heap p.1 p.2) : LamX.TabB (hidT st.heap (hSc K a cs vs is)) mg p.1 p.2 := by
  have et := F.tab p hp
  obtain ⟨bm, ob, m1, m2, m3, m4, m5, m6⟩ := hbm
  obtain ⟨og, eg, ng, gg, dg, _⟩ := hns
  refine ⟨?_, ⟨bm, ob, m1, m2, fun z => ?_, fun z => ?_, F.at m3 (fun z => ?_) (fun z => ?_), m4, m5, m6⟩, fun z => ?_⟩
  · obtain ⟨o, us, file, tf, flags, tg, inF, text, tt, c1, c2, c3, cr⟩ := C
    refine ⟨o, us, file, tf, flags, tg, inF, text, tt, F.at c1 (fun z => ?_) (fun z => ?_), c2, c3, cr⟩
    · rw [z] at c2; exact absurd (Value.type.inj c2) (by decide)
    · rw [z] at c2; cases c2
  · rw [z, gg] at m3; cases m3; rw [dg] at m6; cases m6
  · rw [z, et] at m3; cases m3; cases m6
  · rw [z] at m6; cases m6
  · rw [z] at m6; cases m6
  · rw [z, et] at gg; cases gg; cases dg
theorem noCX {P : Program} {w : World} {H : Hp} {s : Shared} {e : Value} {s' : Shared} (h : L2.CX P w [] H s (fun _ _ _ => False) e s') : False := by
  obtain ⟨_, _, _, _, _, _, _, _, _, _, _, _, z⟩ := h
  exact z
end
/-- the law is called: its promise holds over the base in which the script and the tables are hidden -/
theorem law_callG {P : Program} {w : World} {K : PySem.W.Frag} {mg mb : Str → Option Value} {k : Nat} {fa a : Addr} {cs : List (Addr × Addr)} {fd : FuncData} {x : Str} {sp : Sp} {st : Shared} {vs : List Value} {is : List Int}
    (F : Fnd K cs st a vs is) (hns : st.heap.Ns mainGlobals mg) (hb : st.heap.Ns builtinsNs mb) (hbb : ∀ x : Str, x ≠ "__name__" → mb x = bootBuiltins x) (hlim : st.heap.NoLimit) (hg : st.gens = #[])
    (C : ∀ p ∈ cs, PySem.W.CodeHd st.heap p.1 p.2) (hbm : BmAt mg st) (hr : Room k callerA)
    (G : ∀ base : Heap, K.In base → base.Ns mainGlobals mg → (∀ p ∈ cs, LamX.TabB base mg p.1 p.2) → ∃ g : G, g.P = P ∧ g.w = w ∧ g.K = K ∧ g.mg = mg ∧ g.base = base ∧ FnG g k fa fd [x] sp) (hbind : ∀ (s : Shared) (u : Value), BindsTo s fd ⟨[u], []⟩ [(x, u)])
    (hsp : ∀ H : Hp, (∀ p ∈ cs, H p.2 = some (.tbl #[])) → SqL K H a (is.map V.int) → sp [.ref a] H (fun v _ => v = .bl true) fun _ _ _ => False) :
    codeAny (model P w) callerA (.call (.ref fa) ⟨[.ref a], []⟩) (fun r s' => r = .ok (.ret (.bool true)) ∧ OldK st.heap s'.heap ∧ s'.os = st.os ∧ AllBare s'.gens) st := by
  obtain ⟨g, rfl, rfl, rfl, rfl, hgb, FG⟩ := G _ F.kb (F.ns hns) fun p hp => F.tb hns hbm hp (C p hp)
  have hM : L2.Mod g.K g.mg (hidT st.heap (hSc g.K a cs vs is)) := by
    obtain ⟨mc, l1, l2⟩ := hlim
    exact ⟨F.kb, F.ns hns, ⟨mb, F.ns hb, hbb⟩, ⟨mc, F.ns l1, l2⟩⟩
  have e0 : Env0 g.P g.w g.K g.mg g.base callerA [] st (hSc g.K a cs vs is) := by
    rw [hgb]
    exact ⟨rfl, hM, fun b o e => of_hidT e, Nat.le_of_eq (hidT_size _ _), trivial, fun b hb => (by cases hb), F.ok, .of_eq hg⟩
  have run := FG.run callerA [] st (hSc g.K a cs vs is) ⟨[.ref a], []⟩ [.ref a] [.ref a] _ _ hr rfl e0 (hbind st (.ref a)) (.cons rfl .nil) (hsp _ (fun p hp => hSc_tab (List.mem_map.mpr ⟨p, hp, rfl⟩)) F.seq)
  refine codeAny_mono run fun r s' h => ?_
  match r, h with
  | .error e, h => exact (noCX h).elim
  | .ok .next, h => exact h.elim
  | .ok .brk, h => exact h.elim
  | .ok .cont, h => exact h.elim
  | .ok (.ret u), ⟨v, H', os, bare, un, ok', rel, q⟩ =>
    have q : v = .bl true := q
    subst q
    have rel : u = Value.bool true := rel
    subst rel
    have keep : ∀ b o, b ∉ cs.map (·.2) → st.heap.get? b = some o → s'.heap.get? b = some o := fun b o nb e => by
      cases hq : hSc g.K a cs vs is b with
      | none => exact un.keep b o e hq (fun z => by cases z) (by simp)
      | some y =>
        rcases F.kinds hq with ⟨z, _⟩ | ⟨_, rfl, e2, _⟩
        · exact absurd z nb
        · obtain ⟨e3, _⟩ := ok' b _ (un.frzs b _ _ hq)
          rw [e] at e2
          cases e2
          exact e3
    have tabs : ∀ p ∈ cs, ∃ more : Array Value, s'.heap.get? p.2 = some { cls := .none, data := .fields more } := fun p hp => by
      obtain ⟨more, z⟩ := un.tbls p.2 #[] (hSc_tab (List.mem_map.mpr ⟨p, hp, rfl⟩))
      exact ⟨_, ok' p.2 _ z⟩
    refine ⟨rfl, ⟨fun b o e => ?_, fun b o e => ?_⟩, os, bare⟩
    · by_cases hm : b ∈ cs.map (·.2)
      · obtain ⟨p, hp, rfl⟩ := List.mem_map.mp hm
        obtain ⟨more, z⟩ := tabs p hp
        rw [F.tab p hp] at e
        cases e
        refine .inr (.inl ⟨((C p hp).tab (F.tab p hp)).isCodeTable, rfl, #[], more, rfl, ?_⟩)
        rw [Array.empty_append]; exact z
      · exact .inl (keep b o hm e)
    · by_cases hm : b ∈ cs.map (·.2)
      · obtain ⟨p, hp, rfl⟩ := List.mem_map.mp hm
        obtain ⟨more, z⟩ := tabs p hp
        exact ⟨_, z⟩
      · exact ⟨o, keep b o hm e⟩
/-- what is known of the law at the head's heap -/
def LawAtG (l : PySem.W.OpenLaw) (w : World) (K : PySem.W.Frag) (k n : Nat) (x : Str) (mg : Str → Option Value) (fa : Addr) (h : Heap) : Prop :=
  ∃ (fd : FuncData) (cs : List (Addr × Addr)) (sp : Sp), (∀ p ∈ cs, h.get? p.2 = some tabO) ∧ (∀ p ∈ cs, K.lookup p.2 = none) ∧ (∀ p ∈ cs, PySem.W.CodeHd h p.1 p.2) ∧ (∀ (s : Shared) (u : Value), BindsTo s fd ⟨[u], []⟩ [(x, u)]) ∧
    (∀ (H : Hp) (a : Addr) (is : List Int), is.length ≤ n → (∀ z ∈ is, Builtin.Int.intBits z ≤ 1048576) → (∀ p ∈ cs, H p.2 = some (.tbl #[])) → SqL K H a (is.map V.int) → sp [.ref a] H (fun v _ => v = .bl true) fun _ _ _ => False) ∧
    ∀ base : Heap, K.In base → base.Ns mainGlobals mg → (∀ p ∈ cs, LamX.TabB base mg p.1 p.2) → ∃ g : G, g.P = l.prog ∧ g.w = w ∧ g.K = K ∧ g.mg = mg ∧ g.base = base ∧ FnG g k fa fd [x] sp
theorem walk_ofG {l : PySem.W.OpenLaw} {n k : Nat} {q : Program} {loose : List Str} {XP : (Str → Option Value) → Heap → Prop} {YP : World → Heap → Prop} {d : DefRec} {x : Str} (hn : l.most = some n) (hn2 : n ≤ sizeLine) (hdf : d.params.defaults = []) (hr : Room k callerA)
    (F : ∀ (w : World) (mg : Str → Option Value) (fa : Addr) (h : Heap), YP w h → h.Ns mainGlobals mg → mg d.name = some (.ref fa) → ∃ K : PySem.W.Frag, K.In h ∧ LawAtG l w K k n x mg fa h) :
    PySem.W.WalkO q loose XP YP l.row.toRowW d [] (fun f vs => PySem.call f vs) := by
  refine Att.attach_callB hn hdf fun w s₀ st mg mb fa o pm cd doc a vs is Gr Y ho hd hcd hmg hobj hints hlen hbits hg => ?_
  obtain ⟨K, KX, fd, cs, sp, t1, t2, t3, hb, hsp, hF⟩ := F w mg fa _ Y Gr.T.g hmg
  exact law_callG ⟨KX, t1, t2, hobj, hints, Nat.le_trans hlen hn2⟩ Gr.T.g Gr.T.b Gr.T.builtins Gr.T.nolimit hg t3 Gr.T.bmain hr hF hb fun H hH hS => hsp H a is hlen hbits hH hS
end Tv
/-! ### the head's facts, over a written list of addresses -/
namespace Tv
open PySem PySem.Spec PyProof.Rows L2
abbrev KF := PySem.W.Frag
/-- a function at an address, its closure left out -/
def fnA (K : KF) (a : Addr) : He.FnW := match K.lookup a with
  | some ⟨_, _, .func fd, _⟩ => some (fd.name, fd.qualname, fd.params, fd.body, fd.scope, fd.globals, [], fd.builtins)
  | _ => none
structure HkA where
  as : List Addr
  fa : List He.Fa
  fn : List He.DefD
  ts : List He.Tab
  tf : List He.Defn
  xf : List ((KF → Addr) × He.DefD)
  ex : KF → Bool
abbrev AlA : Type := He.AlT × (Bool × List He.FnW)
def obsA (c : HkA) (g : Addr → Option Obj) : AlA := (He.obsT c.fa c.fn c.ts (He.frT g c.as), (c.ex (He.frT g c.as) && He.tabsB g c.tf (He.frT g c.as), c.xf.map fun p => fnA (He.frT g c.as) (p.1 (He.frT g c.as))))
def valA (c : HkA) (w : World) : AlA := (He.valT c.fn c.ts w, (true, c.xf.map fun p => p.2.val))
structure SaysA (c : HkA) (w : World) (h : Heap) (K : KF) : Prop where
  t : He.SaysT c.fa c.fn c.ts w K
  ex : c.ex K = true
  xf : c.xf.map (fun p => fnA K (p.1 K)) = c.xf.map fun p => p.2.val
  tab : ∀ p ∈ c.tf, PySem.W.codeHdIn K (He.cT K p).1 (He.cT K p).2 = true ∧ K.lookup (He.cT K p).2 = none ∧ h.get? (He.cT K p).2 = some tabO
theorem saysA_of {c : HkA} {w : World} {h : Heap} (e : obsA c h.get? = valA c w) : SaysA c w h (He.frT h.get? c.as) := by
  have e1 : He.obsT c.fa c.fn c.ts (He.frT h.get? c.as) = He.valT c.fn c.ts w := congrArg (·.1) e
  have e2 : (c.ex (He.frT h.get? c.as) && He.tabsB h.get? c.tf (He.frT h.get? c.as)) = true := congrArg (·.2.1) e
  have e3 : c.xf.map (fun p => fnA (He.frT h.get? c.as) (p.1 (He.frT h.get? c.as))) = c.xf.map fun p => p.2.val := congrArg (·.2.2) e
  rw [Bool.and_eq_true] at e2
  refine ⟨e1, e2.1, e3, fun p hp => ?_⟩
  have z := List.all_eq_true.mp e2.2 p hp
  rw [Bool.and_eq_true] at z
  obtain ⟨z1, z2⟩ := z
  cases q : h.get? (He.cT (He.frT h.get? c.as) p).2 with
  | none => rw [q] at z2; cases z2
  | some o =>
    rw [q] at z2
    have z3 : He.emptyTab o = true := z2
    exact ⟨z1, He.frT_none q z3, congrArg some (He.emptyTab_eq z3)⟩
def hookA (c : HkA) : PySem.W.Hook where
  α := AlA
  obs := fun s => obsA c s.heap.get?
  val := valA c
  says := fun w h => ∃ K : KF, K.In h ∧ SaysA c w h K
  of := fun _ _ e => ⟨_, He.frT_in, saysA_of e⟩
  keeps := fun _ _ _ ⟨K, hK, s⟩ k => ⟨K, PySem.W.Frag.In.keeps hK k, ⟨s.t, s.ex, s.xf, fun p hp => ⟨(s.tab p hp).1, (s.tab p hp).2.1, k _ _ (s.tab p hp).2.2⟩⟩⟩
def obA (c : HkA) (s : PySem.W.SharedT) : AlA := obsA c (HandSHeadRun.getT s)
theorem obA_eq (c : HkA) (s : PySem.W.SharedT) : obA c s = (hookA c).obs s.abs := by
  have e : HandSHeadRun.getT s = s.abs.heap.get? := funext (HandSHeadRun.getT_eq s)
  show obsA c _ = obsA c _
  rw [e]
/-! ### defs -/
section
variable {g : G} {x qual : Str} {params : Arguments} {body : List Stmt} {scope : Scope} {f : Addr} {fd : FuncData}
theorem dfl0 {K : KF} {dV : Value} (h : DflV K dV []) : dV = .none := by
  rcases h with ⟨_, h⟩ | ⟨h, _⟩
  · exact h
  · exact absurd rfl h
theorem DefAt.ofD (F : FunD g.K x qual params body scope [] [] f fd) (hm : g.mg x = some (.ref f)) : DefAt g x qual params body scope := by
  obtain ⟨oc, od, dV, kV, doc, pm, an, cdv, ct, osl, rfl, lk, hc, hd, _⟩ := F.ex
  obtain rfl := dfl0 hd
  exact ⟨f, oc, od, kV, doc, pm, an, cdv, ct, osl, lk, hc, hm, F.kp⟩
/-- the lambdas of a def -/
def lamOf (K : KF) (p : He.Defn) (qual : Str) : LamI := ⟨(He.cT K p).1, (He.cT K p).2, qual ++ ".<locals>." ++ "<lambda>"⟩
theorem DefAtL.ofD {p : He.Defn} (F : FunD g.K x qual params body scope [] [] (He.fAd g.K p) fd) (hm : g.mg x = some (.ref (He.fAd g.K p))) (TB : LamX.TabB g.base g.mg (He.cT g.K p).1 (He.cT g.K p).2)
    (hmem : ((lamOf g.K p qual).P, (lamOf g.K p qual).q) ∈ g.tb) (hu : ∀ z ∈ g.tb, z.1 = (lamOf g.K p qual).P → z.2 = (lamOf g.K p qual).q) : DefAtL g x qual params body scope (lamOf g.K p qual) := by
  obtain ⟨oc, od, dV, kV, doc, pm, an, cdv, ct, osl, e, lk, hc, hd, _⟩ := F.ex
  subst e
  obtain rfl := dfl0 hd
  obtain ⟨c, rfl⟩ := He.codeIn_ref hc
  have hcc : He.codeOf g.K p = c := He.codeOf_eq lk rfl
  refine ⟨⟨He.fAd g.K p, oc, od, kV, doc, pm, an, ct, osl, ?_, ?_, hm, F.kp⟩, rfl, TB, hmem, hu⟩
  · show _ = some (⟨oc, od, .func (PySem.W.fnOf x qual params body scope .none kV doc pm an (.ref (He.codeOf g.K p)) ct), osl⟩ : Obj)
    rw [hcc]; exact lk
  · show PySem.W.codeIn g.K (.ref (He.codeOf g.K p)) qual = true
    rw [hcc]; exact hc
/-- a getter: no defaults, no closure -/
def plB (K : KF) (a : Addr) (qual : Str) : Bool := match K.lookup a with
  | some ⟨_, _, .func fd, _⟩ => (match fd.closure with
    | [] => true
    | _ => false) && ((match fd.defaults with
    | .none => true
    | _ => false) && PySem.W.codeIn K fd.code qual)
  | _ => false
theorem FnAt.of {d : He.DefD} {a : Addr} (e : fnA g.K a = d.val) (c : plB g.K a d.qual = true) : FnAt g a d.name d.qual d.params d.body d.scope := by
  unfold fnA at e
  unfold plB at c
  cases q : g.K.lookup a with
  | none => rw [q] at c; cases c
  | some o =>
    obtain ⟨oc, od, dt, osl⟩ := o
    rw [q] at c e
    cases dt with
    | func fd =>
      obtain ⟨n1, n2, n3, n4, n5, n6, n7, n8, n9, n10, n11, n12, n13, n14, n15⟩ := fd
      dsimp only at c e
      unfold He.DefD.val at e
      simp only [Option.some.injEq, Prod.mk.injEq] at e
      obtain ⟨rfl, rfl, rfl, rfl, rfl, rfl, _, rfl⟩ := e
      rw [Bool.and_eq_true, Bool.and_eq_true] at c
      obtain ⟨c1, c2, c3⟩ := c
      cases n7 with
      | cons _ _ => cases c1
      | nil =>
        cases n8 with
        | none => exact ⟨oc, od, n9, n10, n11, n12, n13, n14, osl, q, c3⟩
        | _ => cases c2
    | _ => cases c
end
/-! ### properties -/
def prA (K : KF) (x f : Str) : Addr := He.ma K (He.ga K x) f
def pgA (K : KF) (x f : Str) : Addr := match PySem.W.recIn K (prA K x f) "property" with
  | some (.ref b :: _) => b
  | _ => 0
def prB (K : KF) (x f : Str) : Bool := He.eqO (PySem.W.findIn K (.ref (He.ga K x)) f) (some (some (.ref (prA K x f)))) && (He.eqO (PySem.W.specialIn K (.ref (prA K x f)) "__get__") (some (some (.builtin "property.__get__"))) && (decide (PySem.W.takesIn K (.ref (prA K x f)) = some true) && (match PySem.W.recIn K (prA K x f) "property" with
  | some (.ref _ :: _) => true
  | _ => false)))
theorem prB_ok {K : KF} {x f : Str} (h : prB K x f = true) : PropOf K (He.ga K x) f (prA K x f) (pgA K x f) := by
  unfold prB at h
  rw [Bool.and_eq_true, Bool.and_eq_true, Bool.and_eq_true] at h
  obtain ⟨h1, h2, h3, h4⟩ := h
  refine ⟨He.eqO_ok h1, He.eqO_ok h2, of_decide_eq_true h3, ?_⟩
  unfold pgA
  cases e : PySem.W.recIn K (prA K x f) "property" with
  | none => rw [e] at h4; cases h4
  | some l =>
    rw [e] at h4
    match l, h4 with
    | .ref b :: r, _ => exact ⟨r, rfl⟩
/-! ### tables of ints -/
def szB (K : KF) (x : Str) (l : List (Str × Int)) : Bool := l.all fun p => match PySem.W.nsIn K (He.ga K x) p.1 with
  | some (some (.int j _)) => decide (j = p.2)
  | _ => false
theorem HTab.of {g : G} {x : Str} {l : List (Str × Int)} {es : Array DictEntry} {n : Nat} (hm : g.mg x = some (.ref (He.ga g.K x))) (D : KDict g.K g.w (He.ga g.K x) es n) (h : szB g.K x l = true) : HTab g x (l.map fun p => (p.1, T.int p.2)) := by
  refine ⟨_, es, n, hm, D.at_, D.lit, D.low, fun z tt e => ?_⟩
  unfold szB at h
  induction l with
  | nil => cases e
  | cons p l ih =>
    rw [List.all_cons, Bool.and_eq_true] at h
    rw [List.map_cons, List.lookup_cons] at e
    cases q : (z == p.1) with
    | true =>
      rw [q] at e
      cases e
      have hz : z = p.1 := beq_iff_eq.mp q
      obtain ⟨h1, _⟩ := h
      cases r : PySem.W.nsIn g.K (He.ga g.K x) p.1 with
      | none => rw [r] at h1; cases h1
      | some o =>
        rw [r] at h1
        match o, h1 with
        | some (.int j t), h1 =>
          have hj : j = p.2 := of_decide_eq_true h1
          rw [hz, r]
          exact ⟨_, .int p.2, rfl, ⟨t, by rw [hj]⟩, fun F => .int _⟩
    | false =>
      rw [q] at e
      exact ih h.2 e
/-! ### own exceptions -/
def oexB (K : KF) (C : Addr) : Bool := (match K.lookup C with
  | some ⟨.type t, _, .cls cd, ⟨[_, _, _, _, some (.builtin id), _]⟩⟩ => decide (t = "type") && (decide (id = "ValueError.__new__") && (cd.hasDict && (!cd.hasDel && (match cd.mro with
    | .ref c :: bm => decide (c = C) && PySem.HandSPX.refsVE bm
    | _ => false))))
  | _ => false) && (He.eqO (PySem.W.findIn K (.ref C) "__setattr__") (some (some (.builtin "object.__setattr__"))) && (decide (PySem.W.subIn K (.ref C) (.type "BaseException") = some true) && (decide (PySem.W.typeIn K (.ref C) = some (.type "type")) && PySem.W.keepIn K (.ref C))))
theorem oexB_ok {K : KF} {C : Addr} (h : oexB K C = true) : OexC K C := by
  unfold oexB at h
  rw [Bool.and_eq_true, Bool.and_eq_true, Bool.and_eq_true, Bool.and_eq_true] at h
  obtain ⟨h1, h2, h3, h4, h5⟩ := h
  refine ⟨?_, He.eqO_ok h2, of_decide_eq_true h3, of_decide_eq_true h4, h5⟩
  split at h1
  · rename_i t dd cd k0 k1 k2 k3 id k5 q
    rw [Bool.and_eq_true, Bool.and_eq_true, Bool.and_eq_true, Bool.and_eq_true] at h1
    obtain ⟨a1, a2, a3, a4, a5⟩ := h1
    have e1 : t = "type" := of_decide_eq_true a1
    have e2 : id = "ValueError.__new__" := of_decide_eq_true a2
    subst e1 e2
    obtain ⟨n1, n2, n3, n4, n5, n6, n7, n8, n9, n10, n11⟩ := cd
    dsimp only at a3 a4 a5
    cases n11 with
    | true => cases a4
    | false =>
      subst a3
      match n3, a5 with
      | .ref c :: bm, a5 =>
        rw [Bool.and_eq_true] at a5
        have e3 : c = C := of_decide_eq_true a5.1
        subst e3
        exact ⟨n1, n5, n4, n2, bm, n7, n8, n9, n10, dd, k0, k1, k2, k3, k5, q, a5.2⟩
  · cases h1
def xiA (K : KF) (x : Str) : Addr := He.ma K (He.ga K x) "__init__"
def xiB (P : Program) (K : KF) (x qual : Str) : Bool := match K.lookup (xiA K x) with
  | some ⟨_, _, .func fd, _⟩ => (match fd.closure with
    | [(n, cc)] => decide (n = "__class__") && (match K.lookup cc with
      | some ⟨_, _, .cell (some (.ref D)), _⟩ => decide (D = He.ga K x)
      | _ => false)
    | _ => false) && ((match fd.defaults with
    | .none => true
    | _ => false) && (match fd.code with
    | .ref cda => PySem.W.codeIn K (.ref cda) qual && (match K.lookup cda with
      | some ⟨_, _, .fields vs, _⟩ => (match (vs[2]? : Option Value) with
        | some (.str file _) => (P.main.file : Str) == file
        | _ => false)
      | _ => false)
    | _ => false))
  | _ => false
theorem xiB_ok {P : Program} {K : KF} {x : Str} {d : He.DefD} (e : fnA K (xiA K x) = d.val) (h : xiB P K x d.qual = true) :
    ∃ (oc : Value) (od : Option Addr) (kV doc pm : Value) (an : Option Addr) (cda cc : Addr) (ct : Value) (osl : Array (Option Value)), K.lookup (xiA K x) = some ⟨oc, od, .func (PySem.W.fnX d.name d.qual d.params d.body d.scope [(("__class__" : Str), cc)] .none kV doc pm an (.ref cda) ct), osl⟩ ∧
      PySem.W.codeIn K (.ref cda) d.qual = true ∧ (∃ (ccl : Value) (cdd : Option Addr) (vs : Array Value) (ccs : Array (Option Value)) (file : Str) (tf : Tok), K.lookup cda = some ⟨ccl, cdd, .fields vs, ccs⟩ ∧ vs[2]? = some (.str file tf) ∧ ((P.main.file : Str) == file) = true) ∧
      ∃ (cl : Value) (cld : Option Addr) (csl : Array (Option Value)), K.lookup cc = some ⟨cl, cld, .cell (some (.ref (He.ga K x))), csl⟩ := by
  unfold fnA at e
  unfold xiB at h
  cases q : K.lookup (xiA K x) with
  | none => rw [q] at h; cases h
  | some o =>
    obtain ⟨oc, od, dt, osl⟩ := o
    rw [q] at h e
    cases dt with
    | func fd =>
      obtain ⟨n1, n2, n3, n4, n5, n6, n7, n8, n9, n10, n11, n12, n13, n14, n15⟩ := fd
      dsimp only at h e
      unfold He.DefD.val at e
      simp only [Option.some.injEq, Prod.mk.injEq] at e
      obtain ⟨rfl, rfl, rfl, rfl, rfl, rfl, _, rfl⟩ := e
      rw [Bool.and_eq_true, Bool.and_eq_true] at h
      obtain ⟨h1, h2, h3⟩ := h
      match n7, h1 with
      | [(n, cc)], h1 =>
        rw [Bool.and_eq_true] at h1
        have en : n = "__class__" := of_decide_eq_true h1.1
        subst en
        cases n8 with
        | none =>
          match n13, h3 with
          | .ref cda, h3 =>
            rw [Bool.and_eq_true] at h3
            refine ⟨oc, od, n9, n10, n11, n12, cda, cc, n14, osl, rfl, h3.1, ?_, ?_⟩
            · have z := h3.2
              split at z
              · rename_i ccl cdd vs ccs q2
                split at z
                · rename_i file tf q3
                  exact ⟨_, _, vs, _, file, tf, q2, q3, z⟩
                · cases z
              · cases z
            · have z := h1.2
              split at z
              · rename_i cl cld D csl q2
                have eD : D = He.ga K x := of_decide_eq_true z
                subst eD
                exact ⟨_, _, _, q2⟩
              · cases z
        | _ => cases h2
    | _ => cases h
end Tv
namespace Tv
open PySem PySem.Spec PyProof.Rows L2
theorem lawFnC {g : G} {k : Nat} {f : Addr} {name qual : Str} {params : Arguments} {rest : List Stmt} {scope : Scope} {dV kV doc pm cdv ct oc : Value} {an od : Option Addr} {osl : Array (Option Value)} {N : List Str} {φ : S → Out Fl} {P : List Int → Prop} {pd p1 p2 p3 p4 : Pos}
    (lk : g.K.lookup f = some ⟨oc, od, .func (PySem.W.fnOf name qual params (.Assign [.Name "draw" p1] (.Call (.Name "_law_begin" p2) [.Name "script" p3] [] p4) pd :: rest) scope dV kV doc pm an cdv ct), osl⟩)
    (hcd : PySem.W.codeIn g.K cdv qual = true) (sc : FnScope ("script" :: "draw" :: N) ["script"] scope) (Bg : BgAt g) (hk : 1 ≤ k) (hg1 : scope.names.lookup ("_law_begin" : Str) = some .globalImplicit) (hg2 : scope.names.lookup ("draw" : Str) = some .local ∨ scope.names.lookup ("draw" : Str) = some .cell) (hg3 : scope.names.lookup ("script" : Str) = some .local)
    (h : ∀ da la ca, SSs ⟨withDr g da la ca, "script" :: "draw" :: N, scope, k, fun _ => true, none⟩ rest φ) (hans : ∀ is, P is → ∃ s, φ (lawEnt ("script" :: "draw" :: N) is) = .ok (.rt (.bl true) false) s) :
    FnG g (k + 1) f (PySem.W.fnOf name qual params (.Assign [.Name "draw" p1] (.Call (.Name "_law_begin" p2) [.Name "script" p3] [] p4) pd :: rest) scope dV kV doc pm an cdv ct) ["script"] (spLaw g P) := by
  refine fnG_of lk hcd sc (fun vs H Q E ⟨a, is, e, _⟩ => by rw [e]; rfl) fun A outer s H vs Q E hr hg ⟨a, is, e, ha, hz, hP, ht, q⟩ => ?_
  subst e
  let c : C := ⟨g, "script" :: "draw" :: N, scope, k, fun _ => true, none⟩
  let r : Rn := ⟨A.deeper (envOfC qual scope s.heap.objs.size f cdv), s, H, envOfC qual scope s.heap.objs.size f cdv, outer, envOfC qual scope s.heap.objs.size f cdv :: outer, [], fun _ => true, true, [], (cxOf (L2.CX g.P g.w) g.P g.w g.K g.mg g.base ("script" :: "draw" :: N) qual scope f cdv A outer s H E).xe⟩
  have okc : c.Ok r := ⟨rfl, sc.nd, rfl, hr, (by
    show (A.deeper _).guards = some []
    exact hg), fun x _ => rfl, passes_of (X := c.cx r) rfl, fun l z => nomatch z⟩
  refine ⟨wSs (c.cx r) _, pSs, PSs.w (pss_cons pS pSs) ?_⟩
  let D : Ends := { nx := fun _ H' => Q .non H', rt := Q }
  let σ0 : L2.St := L2.start ("script" :: "draw" :: N) [.ref a]
  show wS (c.cx r) _ { D with nx := wSs (c.cx r) rest D } σ0 H
  refine PS.w (ps_set (X := c.cx r) (i := 1) sc.nd rfl hg2 pE rfl (.inl rfl)) ?_
  show wE (c.cx r) _ σ0 H fun v H1 => wSs (c.cx r) rest D (σ0.set 1 (some v)) H1
  intro pins ss I
  obtain ⟨fb, fd, hF, hm, hkp, hb⟩ := Bg.ex
  have tk : Takes (c.cx r) (fun cls d _ H => E cls d H) := takes_of rfl rfl rfl rfl
  refine wpAny_Call_Name_kw (ld_glob (X := c.cx r) I hg1 hm ?_ (by decide))
  refine PySem.W.callWith_K (h₀ := g.base) I.ok.mod.kin hkp (thn ((pa_cons (X := c.cx r) (pe_var (i := 0) rfl (Or.inl hg3)) pa_nil).run _ pins ss σ0 H
    (fun vs H1 => spBg g.K vs H1 (fun v H1 => wSs (c.cx r) rest D (σ0.set 1 (some v)) H1) (WE (fun cls d _ H => E cls d H) σ0)) I ?_) fun us s1 ⟨vs, H1, I1, rv, q⟩ => ⟨I1.kIn, run_fnG (c := c) hF (okc.room.mono hk) okc.gd hb (passAt tk σ0) I1 rv q⟩) rfl rfl
  refine ⟨.ref a, rfl, a, is, rfl, ha, hz, fun la da ca H' hla hda hca n1 n2 n3 le hd1 hl1 hc1 => ?_⟩
  obtain ⟨F, hF1, hF2, hF3⟩ : ∃ F : Hp, LeF F H ∧ SqL g.K F a (is.map V.int) ∧ ∀ p ∈ g.tb, F p.1 = none := by
    rcases ha with ha | ha
    · refine ⟨fun b => if b = a then H b else none, fun b o e => ?_, .inl ?_, fun p hp => ?_⟩
      · dsimp only at e
        split at e
        · exact e
        · cases e
      · unfold Rd at ha ⊢
        dsimp only
        rw [if_pos rfl]
        exact ha
      · dsimp only
        split
        · rename_i e
          obtain ⟨ps, h1, _⟩ := ht p hp
          rw [e] at h1
          rcases ha with ha | ⟨o, ha⟩ <;> (rw [h1] at ha; cases ha)
        · rfl
    · exact ⟨fun _ => none, fun b o e => (nomatch e), .inr ha, fun _ _ => rfl⟩
  obtain ⟨s1, ha1⟩ := hans is hP
  have dr : DrOk (withDr g da la ca) H' F (lawEnt ("script" :: "draw" :: N) is).D := ⟨hd1, hl1, hc1, hF1.free hda, hF1.free hla, hF1.free hca, n1, n2, n3, ht.ext le, hF3⟩
  have x : Rl (withDr g da la ca) ⟨fun _ => none, F, 0⟩ (lawEnt ("script" :: "draw" :: N) is) (σ0.set 1 (some (.ref da))) H' F := by
    have nw : ∀ (i : Nat) (t : T), (lawEnt ("script" :: "draw" :: N) is).env[i]? ≠ some (.ow t) := fun i t e => by
      match i, e with
      | 0, e => cases e
      | 1, e => cases e
      | i + 2, e =>
        have e : (List.replicate N.length Sl.no)[i]? = some (.ow t) := e
        rw [List.getElem?_replicate] at e
        split at e <;> cases e
    refine ⟨hF1.trans le, fun b o e => .inl e, LeF.refl F, fun b o e => (nomatch e), fun i => ?_, fun i j t u b h1 h2 => absurd h1 (nw i t), dr, ⟨rfl, rfl, rfl, fun _ _ => rfl⟩, fun i cc fs z => absurd z (nw i _)⟩
    match i with
    | 0 => exact ⟨.ref a, rfl, .scr hF2⟩
    | 1 => exact ⟨.ref da, rfl, .drw⟩
    | i + 2 =>
      show SlOk _ _ H' F _ ((List.replicate N.length Sl.no)[i]?)
      rw [List.getElem?_replicate]
      split <;> trivial
  refine h da la ca r _ ⟨okc.sc, okc.nd, okc.calm, okc.room, okc.gd, okc.fnc, okc.pass, fun l z => nomatch z⟩ tk ⟨fun _ => none, F, 0⟩ _ _ H' F x D ?_
  rw [ha1]
  intro v σ' H2 F2 l x2 hr2
  cases hr2
  exact q H2
end Tv
namespace K67
open PySem PySem.Spec PyProof.Rows L2 Tv
def top (i : Nat) : Stmt := PySem.Challenge.pw_allloads_k67_whole_marks_told_back_in_pa.main.body.getD i (.Pass ⟨0, 0, 0, 0⟩)
end K67
set_option Elab.async false
set_option linter.all false
set_option maxRecDepth 100000
set_option maxHeartbeats 0
namespace K67
open PySem PySem.Spec PyProof.Rows L2 Tv

def hNm0 : List Str := ["LoadError", "BadLoad", "BadRule", "NoPlace", "BadServers", "BadShape", "BadSeen", "NoMarks", "is_integer", "divisor", "is_load", "need_load"]
def hNm1 : List Str := ["MOST_SHAPES", "MOST_SERVERS_marks", "MOST_MARK", "is_shape", "need_shapes", "is_seen", "need_seen", "greatest_applying", "least_applying", "applying", "idle", "change_of"]
def hNm2 : List Str := ["met", "narrowed", "ranges_or_tick", "needed_ranges", "ranges", "fitting", "is_fitting", "outcomes", "sure", "HIGHEST_MARK", "MOST_SERVERS_rules", "MOST_PARTS"]
def hNm3 : List Str := ["LONGEST_WINDOW", "SIZES", "is_between", "is_part", "are_parts", "is_limit", "need_limits", "raised", "Rule", "is_below_times", "is_above_times", "wish_of"]
def hNm4 : List Str := ["first_wish", "wish", "_law_begin", "_law_take", "_law_pick", "_law_fraction", "_law_shapes", "_law_made", "_law_ticks", "_law_far", "_law_bent", "_law_told"]
def hNm5 : List Str := ["_law_met", "_law_many", "_law_mixed", "_law_ranges_right", "_law_wishes", "_law_parted_right"]
def hNm : List Str := hNm0 ++ hNm1 ++ hNm2 ++ hNm3 ++ hNm4 ++ hNm5
def hd10 : He.DefD := ⟨("is_integer", none), "is_integer", "is_integer", defArgs (top 10), defBody (top 10), defScope (top 10), [], []⟩
def hd11 : He.DefD := ⟨("divisor", none), "divisor", "divisor", defArgs (top 11), defBody (top 11), defScope (top 11), [], []⟩
def hd12 : He.DefD := ⟨("is_load", none), "is_load", "is_load", defArgs (top 12), defBody (top 12), defScope (top 12), [], []⟩
def hd13 : He.DefD := ⟨("need_load", none), "need_load", "need_load", defArgs (top 13), defBody (top 13), defScope (top 13), [], []⟩
def hd18 : He.DefD := ⟨("is_shape", none), "is_shape", "is_shape", defArgs (top 18), defBody (top 18), defScope (top 18), [], []⟩
def hd19 : He.DefD := ⟨("need_shapes", none), "need_shapes", "need_shapes", defArgs (top 19), defBody (top 19), defScope (top 19), [], []⟩
def hd20 : He.DefD := ⟨("is_seen", none), "is_seen", "is_seen", defArgs (top 20), defBody (top 20), defScope (top 20), [], []⟩
def hd21 : He.DefD := ⟨("need_seen", none), "need_seen", "need_seen", defArgs (top 21), defBody (top 21), defScope (top 21), [], []⟩
def hd22 : He.DefD := ⟨("greatest_applying", none), "greatest_applying", "greatest_applying", defArgs (top 22), defBody (top 22), defScope (top 22), [], []⟩
def hd23 : He.DefD := ⟨("least_applying", none), "least_applying", "least_applying", defArgs (top 23), defBody (top 23), defScope (top 23), [], []⟩
def hd24 : He.DefD := ⟨("applying", none), "applying", "applying", defArgs (top 24), defBody (top 24), defScope (top 24), [], []⟩
def hd25 : He.DefD := ⟨("idle", none), "idle", "idle", defArgs (top 25), defBody (top 25), defScope (top 25), [], []⟩
def hd26 : He.DefD := ⟨("change_of", none), "change_of", "change_of", defArgs (top 26), defBody (top 26), defScope (top 26), [], []⟩
def hd27 : He.DefD := ⟨("met", none), "met", "met", defArgs (top 27), defBody (top 27), defScope (top 27), [], []⟩
def hd28 : He.DefD := ⟨("narrowed", none), "narrowed", "narrowed", defArgs (top 28), defBody (top 28), defScope (top 28), [], []⟩
def hd29 : He.DefD := ⟨("ranges_or_tick", none), "ranges_or_tick", "ranges_or_tick", defArgs (top 29), defBody (top 29), defScope (top 29), [], []⟩
def hd30 : He.DefD := ⟨("needed_ranges", none), "needed_ranges", "needed_ranges", defArgs (top 30), defBody (top 30), defScope (top 30), [], []⟩
def hd31 : He.DefD := ⟨("ranges", none), "ranges", "ranges", defArgs (top 31), defBody (top 31), defScope (top 31), [], []⟩
def hd32 : He.DefD := ⟨("fitting", none), "fitting", "fitting", defArgs (top 32), defBody (top 32), defScope (top 32), [], []⟩
def hd33 : He.DefD := ⟨("is_fitting", none), "is_fitting", "is_fitting", defArgs (top 33), defBody (top 33), defScope (top 33), [], []⟩
def hd34 : He.DefD := ⟨("outcomes", none), "outcomes", "outcomes", defArgs (top 34), defBody (top 34), defScope (top 34), [], []⟩
def hd35 : He.DefD := ⟨("sure", none), "sure", "sure", defArgs (top 35), defBody (top 35), defScope (top 35), [], []⟩
def hd42 : He.DefD := ⟨("is_between", none), "is_between", "is_between", defArgs (top 42), defBody (top 42), defScope (top 42), [], []⟩
def hd43 : He.DefD := ⟨("is_part", none), "is_part", "is_part", defArgs (top 43), defBody (top 43), defScope (top 43), [], []⟩
def hd44 : He.DefD := ⟨("are_parts", none), "are_parts", "are_parts", defArgs (top 44), defBody (top 44), defScope (top 44), [], []⟩
def hd45 : He.DefD := ⟨("is_limit", none), "is_limit", "is_limit", defArgs (top 45), defBody (top 45), defScope (top 45), [], []⟩
def hd46 : He.DefD := ⟨("need_limits", none), "need_limits", "need_limits", defArgs (top 46), defBody (top 46), defScope (top 46), [], []⟩
def hd47 : He.DefD := ⟨("raised", none), "raised", "raised", defArgs (top 47), defBody (top 47), defScope (top 47), [], []⟩
def hd49 : He.DefD := ⟨("is_below_times", none), "is_below_times", "is_below_times", defArgs (top 49), defBody (top 49), defScope (top 49), [], []⟩
def hd50 : He.DefD := ⟨("is_above_times", none), "is_above_times", "is_above_times", defArgs (top 50), defBody (top 50), defScope (top 50), [], []⟩
def hd51 : He.DefD := ⟨("wish_of", none), "wish_of", "wish_of", defArgs (top 51), defBody (top 51), defScope (top 51), [], []⟩
def hd52 : He.DefD := ⟨("first_wish", none), "first_wish", "first_wish", defArgs (top 52), defBody (top 52), defScope (top 52), [], []⟩
def hd53 : He.DefD := ⟨("wish", none), "wish", "wish", defArgs (top 53), defBody (top 53), defScope (top 53), [], []⟩
def hd55 : He.DefD := ⟨("_law_begin", none), "_law_begin", "_law_begin", defArgs (top 55), defBody (top 55), defScope (top 55), [], []⟩
def hd56 : He.DefD := ⟨("_law_take", none), "_law_take", "_law_take", defArgs (top 56), defBody (top 56), defScope (top 56), [], []⟩
def hd57 : He.DefD := ⟨("_law_pick", none), "_law_pick", "_law_pick", defArgs (top 57), defBody (top 57), defScope (top 57), [], []⟩
def hd58 : He.DefD := ⟨("_law_fraction", none), "_law_fraction", "_law_fraction", defArgs (top 58), defBody (top 58), defScope (top 58), [], []⟩
def hd59 : He.DefD := ⟨("_law_shapes", none), "_law_shapes", "_law_shapes", defArgs (top 59), defBody (top 59), defScope (top 59), [], []⟩
def hd60 : He.DefD := ⟨("_law_made", none), "_law_made", "_law_made", defArgs (top 60), defBody (top 60), defScope (top 60), [], []⟩
def hd61 : He.DefD := ⟨("_law_ticks", none), "_law_ticks", "_law_ticks", defArgs (top 61), defBody (top 61), defScope (top 61), [], []⟩
def hd62 : He.DefD := ⟨("_law_far", none), "_law_far", "_law_far", defArgs (top 62), defBody (top 62), defScope (top 62), [], []⟩
def hd63 : He.DefD := ⟨("_law_bent", none), "_law_bent", "_law_bent", defArgs (top 63), defBody (top 63), defScope (top 63), [], []⟩
def hd64 : He.DefD := ⟨("_law_told", none), "_law_told", "_law_told", defArgs (top 64), defBody (top 64), defScope (top 64), [], []⟩
def hd65 : He.DefD := ⟨("_law_met", none), "_law_met", "_law_met", defArgs (top 65), defBody (top 65), defScope (top 65), [], []⟩
def hd66 : He.DefD := ⟨("_law_many", none), "_law_many", "_law_many", defArgs (top 66), defBody (top 66), defScope (top 66), [], []⟩
def hd67 : He.DefD := ⟨("_law_mixed", none), "_law_mixed", "_law_mixed", defArgs (top 67), defBody (top 67), defScope (top 67), [], []⟩
def hd68 : He.DefD := ⟨("_law_ranges_right", none), "_law_ranges_right", "_law_ranges_right", defArgs (top 68), defBody (top 68), defScope (top 68), [], []⟩
def hd69 : He.DefD := ⟨("_law_wishes", none), "_law_wishes", "_law_wishes", defArgs (top 69), defBody (top 69), defScope (top 69), [], []⟩
def hd70 : He.DefD := ⟨("_law_parted_right", none), "_law_parted_right", "_law_parted_right", defArgs (top 70), defBody (top 70), defScope (top 70), [], []⟩
def hd71 : He.DefD := ⟨("law", none), "law", "law", defArgs (top 71), defBody (top 71), defScope (top 71), [], []⟩
def hdR : He.DefD := ⟨("Rule", some "__init__"), "__init__", "Rule.__init__", defArgs (inClass (top 48) 0), defBody (inClass (top 48) 0), defScope (inClass (top 48) 0), [], [("least", .int 1), ("most", .int 8), ("rise", .non), ("fall", .non), ("up", .int 1), ("down", .int 1)]⟩
def hFn0 : List He.DefD := [hd10, hd11, hd12, hd13, hd18, hd19, hd20, hd21, hd22, hd23, hd24, hd25]
def hFn1 : List He.DefD := [hd26, hd27, hd28, hd29, hd30, hd31, hd32, hd33, hd34, hd35, hd42, hd43]
def hFn2 : List He.DefD := [hd44, hd45, hd46, hd47, hd49, hd50, hd51, hd52, hd53, hd55, hd56, hd57]
def hFn3 : List He.DefD := [hd58, hd59, hd60, hd61, hd62, hd63, hd64, hd65, hd66, hd67, hd68, hd69]
def hFn4 : List He.DefD := [hd70, hd71, hdR]
def hFn : List He.DefD := hFn0 ++ hFn1 ++ hFn2 ++ hFn3 ++ hFn4
def hdP : He.DefD := ⟨("Rule", none), "parts", "Rule.parts", defArgs (inClass (top 48) 1), defBody (inClass (top 48) 1), defScope (inClass (top 48) 1), [], []⟩
def hdX : He.DefD := ⟨("NoMarks", none), "__init__", "NoMarks.__init__", defArgs (inClass (top 8) 0), defBody (inClass (top 8) 0), defScope (inClass (top 8) 0), [], []⟩
def hFa0 : List He.Fa := [.free "len", .free "isinstance", .free "all", .free "any", .free "sum", .free "min", .free "max", .free "abs", .free "sorted", .free "repr", .free "divmod", .free "range"]
def hFa1 : List He.Fa := [.free "enumerate", .free "zip", .free "list", .free "tuple", .free "int", .free "str", .free "bool", .free "set", .free "dict", .free "super", .int "HIGHEST_MARK" 60, .int "LONGEST_WINDOW" 3]
def hFa2 : List He.Fa := [.int "MOST_MARK" 60, .int "MOST_PARTS" 4, .int "MOST_SERVERS_marks" 8, .int "MOST_SERVERS_rules" 8, .int "MOST_SHAPES" 4, .glo "is_integer", .glo "divisor", .glo "is_load", .glo "need_load", .glo "is_shape", .glo "need_shapes", .glo "is_seen"]
def hFa3 : List He.Fa := [.glo "need_seen", .glo "greatest_applying", .glo "least_applying", .glo "applying", .glo "idle", .glo "change_of", .glo "met", .glo "narrowed", .glo "ranges_or_tick", .glo "needed_ranges", .glo "ranges", .glo "fitting"]
def hFa4 : List He.Fa := [.glo "is_fitting", .glo "outcomes", .glo "sure", .glo "is_between", .glo "is_part", .glo "are_parts", .glo "is_limit", .glo "need_limits", .glo "raised", .glo "is_below_times", .glo "is_above_times", .glo "wish_of"]
def hFa5 : List He.Fa := [.glo "first_wish", .glo "wish", .glo "_law_begin", .glo "_law_take", .glo "_law_pick", .glo "_law_fraction", .glo "_law_shapes", .glo "_law_made", .glo "_law_ticks", .glo "_law_far", .glo "_law_bent", .glo "_law_told"]
def hFa6 : List He.Fa := [.glo "_law_met", .glo "_law_many", .glo "_law_mixed", .glo "_law_ranges_right", .glo "_law_wishes", .glo "_law_parted_right", .glo "law", .glo "Rule", .glo "NoMarks", .glo "SIZES", .cls "Rule", .noat "Rule" "r_parts"]
def hFa7 : List He.Fa := [.noat "Rule" "r_bounds", .noat "Rule" "r_limits", .mkr "Rule", .exm "NoMarks" "NoMarks" true, .noat "NoMarks" "at"]
def hFa : List He.Fa := hFa0 ++ hFa1 ++ hFa2 ++ hFa3 ++ hFa4 ++ hFa5 ++ hFa6 ++ hFa7
def hTf : List He.Defn := [("_law_met", none), ("_law_ranges_right", none), ("_law_parted_right", none)]
def hSz : List (Str × Int) := [("over", 3), ("under", 3), ("aim", 4)]
abbrev hR : PySem.W.OpenRow := PySem.W.OpenLaw.row PySem.Challenge.rw_allloads_k67_whole_marks_told_back_in_pa
abbrev hP : Program := PySem.Challenge.pw_allloads_k67_whole_marks_told_back_in_pa
def hEx0 (K : KF) : Bool := szB K "SIZES" hSz && (prB K "Rule" "parts" && plB K (pgA K "Rule" "parts") "Rule.parts")
def hEx1 (K : KF) : Bool := oexB K (He.ga K "NoMarks") && (xiB hP K "NoMarks" "NoMarks.__init__" && xfB K (He.ga K "NoMarks"))
def hEx2 (K : KF) : Bool := decide (PySem.W.typeIn K (.ref (xiA K "NoMarks")) = some (.type "function")) && (He.eqO (PySem.W.findIn K (.ref (He.ga K "NoMarks")) "__init__") (some (some (.ref (xiA K "NoMarks")))) && decide (PySem.W.mroIn K (He.ga K "NoMarks") (.ref (He.ga K "NoMarks")) = some true))
def hEx3 (K : KF) : Bool := He.eqO (PySem.W.nsIn K cStatics "thirdparty.any") (some none) && (He.eqO (PySem.W.ks_superIn K (He.ga K "NoMarks") (He.ga K "NoMarks") "__init__") (some (some (.builtin "ValueError.__init__"))) && decide (PySem.W.subIn K (.ref (He.ga K "NoMarks")) (.type "ValueError") = some true))
def hEx4 (K : KF) : Bool := decide ((hTf.map fun p => (He.cT K p).2).Nodup)
def hEx (K : KF) : Bool := hEx0 K && (hEx1 K && (hEx2 K && (hEx3 K && hEx4 K)))
def hC : HkA := ⟨List.range 660, hFa, hFn, [(fun K => He.ga K "SIZES", ["over", "under", "aim"])], hTf, [(fun K => pgA K "Rule" "parts", hdP), (fun K => xiA K "NoMarks", hdX)], hEx⟩
abbrev hQ : Program := PySem.W.view hR.prog [71]
def qT : Nat → Pos := fun n => match n with

  | 1 => ⟨329, 4, 329, 9⟩
  | 2 => ⟨329, 12, 329, 14⟩
  | 3 => ⟨329, 4, 329, 14⟩
  | 4 => ⟨331, 8, 331, 13⟩
  | 5 => ⟨331, 17, 331, 23⟩
  | 6 => ⟨331, 25, 331, 29⟩
  | 7 => ⟨331, 25, 331, 31⟩
  | 8 => ⟨331, 16, 331, 32⟩
  | 9 => ⟨331, 8, 331, 32⟩
  | 10 => ⟨332, 11, 332, 18⟩
  | 11 => ⟨333, 8, 333, 13⟩
  | 12 => ⟨333, 17, 333, 23⟩
  | 13 => ⟨333, 25, 333, 30⟩
  | 14 => ⟨333, 25, 333, 33⟩
  | 15 => ⟨333, 16, 333, 34⟩
  | 16 => ⟨333, 8, 333, 34⟩
  | 17 => ⟨332, 4, 333, 34⟩
  | 18 => ⟨330, 4, 333, 34⟩
  | 19 => ⟨334, 11, 334, 16⟩
  | 20 => ⟨334, 17, 334, 22⟩
  | 21 => ⟨334, 11, 334, 23⟩
  | 22 => ⟨334, 4, 334, 23⟩
  | _ => ⟨0, 0, 0, 0⟩
end K67
set_option Elab.async false
set_option linter.all false
set_option maxRecDepth 100000
set_option maxHeartbeats 0
namespace K67
open PySem PySem.Spec PyProof.Rows L2 Tv
theorem runF (w : World) : HandSHeadRun.RunEq hR hQ (hookA hC) (obA hC) 6000 hNm (w.withFollow "special-get-raises" false) := by
  intro os
  kernel_rfl
theorem runT (w : World) : HandSHeadRun.RunEq hR hQ (hookA hC) (obA hC) 6000 hNm (w.withFollow "special-get-raises" true) := by
  intro os
  kernel_rfl
theorem run (w : World) : HandSHeadRun.RunEq hR hQ (hookA hC) (obA hC) 6000 hNm w := PySem.W.byRow2 "special-get-raises" runF runT w
end K67
/-! ### rules by which the pure functions are run -/
namespace Tv
open PySem PySem.Spec PyProof.Rows L2
def S.withD (s : S) (D : Dr) : S := ⟨s.env, D⟩
theorem withD_mk {e : List Sl} {D D' : Dr} : (⟨e, D⟩ : S).withD D' = ⟨e, D'⟩ := rfl
theorem D_mk {e : List Sl} {D : Dr} : (⟨e, D⟩ : S).D = D := rfl
theorem set0E {α : Type} {a b : α} {l : List α} : (a :: l).set 0 b = b :: l := rfl
theorem setSE {α : Type} {a b : α} {l l' : List α} {n : Nat} (h : l.set n b = l') : (a :: l).set (n + 1) b = a :: l' := by rw [← h]; rfl
theorem putE {l l' : List Sl} {D : Dr} {i : Nat} {b : Sl} (h : l.set i b = l') : S.put ⟨l, D⟩ i b = ⟨l', D⟩ := by rw [← h]; rfl
theorem wipeE0 {l : List Sl} : wipeE l [] = l := rfl
theorem wipeEC {l l1 l2 : List Sl} {v : Nat} {vs : List Nat} (h1 : wipeE l vs = l1) (h2 : l1.set v .no = l2) : wipeE l (v :: vs) = l2 := by rw [← h2, ← h1]; rfl
theorem wipeS {l l' : List Sl} {D : Dr} {vs : List Nat} (h : wipeE l vs = l') : S.wipe ⟨l, D⟩ vs = ⟨l', D⟩ := by rw [← h]; rfl
def seqK (a : Fl) (k : S → Out Fl) (s : S) : Out Fl := match a with
  | .nx => k s
  | a => .ok a s
theorem eSeq {f k : S → Out Fl} {s s1 : S} {a : Fl} {o : Out Fl} (h1 : f s = .ok a s1) (h2 : seqK a k s1 = o) : fSeq f k s = o := by
  unfold fSeq; rw [h1]; exact h2
theorem seqK_nx {k : S → Out Fl} {s : S} {o : Out Fl} (h : k s = o) : seqK .nx k s = o := h
theorem seqK_rt {k : S → Out Fl} {s : S} {t : T} {b : Bool} : seqK (.rt t b) k s = .ok (.rt t b) s := rfl
theorem seqK_bk {k : S → Out Fl} {s : S} : seqK .bk k s = .ok .bk s := rfl
theorem seqK_ct {k : S → Out Fl} {s : S} : seqK .ct k s = .ok .ct s := rfl
def iteK {α : Type} (b : Bool) (f k : S → Out α) (s : S) : Out α := if b = true then f s else k s
theorem iteT {α : Type} {b : Bool} {f k : S → Out α} {s : S} {o : Out α} (hb : b = true) (h : f s = o) : iteK b f k s = o := by
  unfold iteK; rw [if_pos hb]; exact h
theorem iteF {α : Type} {b : Bool} {f k : S → Out α} {s : S} {o : Out α} (hb : b = false) (h : k s = o) : iteK b f k s = o := by
  unfold iteK; rw [hb, if_neg Bool.false_ne_true]; exact h
theorem eIf {t : S → Out Bool} {f k : S → Out Fl} {s s1 : S} {b : Bool} {o : Out Fl} (h1 : t s = .ok b s1) (h2 : iteK b f k s1 = o) : fIf t f k s = o := by
  unfold fIf; rw [h1]; exact h2
theorem eVIf {t : S → Out Bool} {f k : S → Out R} {s s1 : S} {b : Bool} {o : Out R} (h1 : t s = .ok b s1) (h2 : iteK b f k s1 = o) : vIf t f k s = o := by
  unfold vIf; rw [h1]; exact h2
def retK (r : R) (s : S) : Out Fl := match r with
  | .val t => .ok (.rt t false) s
  | .frs t => .ok (.rt t true) s
  | .bor i => match s.env[i]? with
    | some (.ow (.lst ts)) => .ok (.rt (.lst ts) true) s
    | some (.sh t) => .ok (.rt t false) s
    | _ => .bad
theorem eRet {f : S → Out R} {s s1 : S} {r : R} {o : Out Fl} (h1 : f s = .ok r s1) (h2 : retK r s1 = o) : fRet f s = o := by
  unfold fRet; rw [h1]; exact h2
theorem retK_v {t : T} {s : S} : retK (.val t) s = .ok (.rt t false) s := rfl
theorem retK_f {t : T} {s : S} : retK (.frs t) s = .ok (.rt t true) s := rfl
theorem retK_b {i : Nat} {ts : List T} {s : S} (h : s.env[i]? = some (.ow (.lst ts))) : retK (.bor i) s = .ok (.rt (.lst ts) true) s := by
  unfold retK; dsimp only; rw [h]
theorem eRetN {s : S} : fRetN s = .ok (.rt .non false) s := rfl
theorem eNilS {s : S} : fNil s = .ok .nx s := rfl
theorem eDrop {f : S → Out R} {s s1 : S} {r : R} (h : f s = .ok r s1) : fDrop f s = .ok .nx s1 := by
  unfold fDrop; rw [h]; rfl
def setK (i : Nat) (r : R) (s1 : S) : Out Fl := match r with
  | .val t => .ok .nx (s1.put i (.sh t))
  | .frs t => .ok .nx (s1.put i (.ow t))
  | .bor j => (frz j s1).bind fun t s2 => .ok .nx (s2.put i (.sh t))
theorem eSet {i : Nat} {f : S → Out R} {s s1 : S} {r : R} {o : Out Fl} (h1 : f s = .ok r s1) (h2 : setK i r s1 = o) : fSet i f s = o := by
  unfold fSet; rw [h1]; exact h2
theorem setK_v {i : Nat} {t : T} {s s2 : S} (h : s.put i (.sh t) = s2) : setK i (.val t) s = .ok .nx s2 := by rw [← h]; rfl
theorem setK_f {i : Nat} {t : T} {s s2 : S} (h : s.put i (.ow t) = s2) : setK i (.frs t) s = .ok .nx s2 := by rw [← h]; rfl
theorem setK_b {i j : Nat} {ts : List T} {s s1 s2 : S} (h : s.env[j]? = some (.ow (.lst ts))) (h1 : s.put j (.sh (.lst ts)) = s1) (h2 : s1.put i (.sh (.lst ts)) = s2) : setK i (.bor j) s = .ok .nx s2 := by
  unfold setK frz; rw [← h2, ← h1]; dsimp only; rw [h]; rfl
theorem eVar {i : Nat} {t : T} {s : S} (h : s.env[i]? = some (.sh t)) : fVar i s = .ok (.val t) s := by unfold fVar; rw [h]
theorem eVarO {i : Nat} {t : T} {s : S} (h : s.env[i]? = some (.ow t)) : fVar i s = .ok (.bor i) s := by unfold fVar; rw [h]
theorem eK {t : T} {s : S} : fK t s = .ok (.val t) s := rfl
def bK : R → Bv
  | .val t => .val t
  | .frs t => .val t
  | .bor i => .bor i
theorem eB {f : S → Out R} {s s1 : S} {r : R} {b : Bv} (h1 : f s = .ok r s1) (h2 : bK r = b) : fB f s = .ok b s1 := by
  unfold fB; rw [h1, ← h2]; cases r <;> rfl
theorem bK_v {t : T} : bK (.val t) = .val t := rfl
theorem bK_f {t : T} : bK (.frs t) = .val t := rfl
theorem bK_b {i : Nat} : bK (.bor i) = .bor i := rfl
def vK (r : R) (s : S) : Out T := Out.toV (.ok r s)
theorem eV {f : S → Out R} {s s1 : S} {r : R} {o : Out T} (h1 : f s = .ok r s1) (h2 : vK r s1 = o) : fV f s = o := by
  unfold fV; rw [h1]; exact h2
theorem vK_v {t : T} {s : S} : vK (.val t) s = .ok t s := rfl
theorem vK_f {t : T} {s : S} : vK (.frs t) s = .ok t s := rfl
theorem vK_b {i : Nat} {ts : List T} {s s1 : S} (h : s.env[i]? = some (.ow (.lst ts))) (h1 : s.put i (.sh (.lst ts)) = s1) : vK (.bor i) s = .ok (.lst ts) s1 := by
  show frz i s = _
  unfold frz; rw [h, ← h1]; rfl
theorem eNil {α : Type} {s : S} : (aNil : S → Out (List α)) s = .ok [] s := rfl
theorem eCons {α : Type} {f : S → Out α} {k : S → Out (List α)} {t : α} {ts : List α} {s s1 s2 : S} (e1 : f s = .ok t s1) (e2 : k s1 = .ok ts s2) : aCons f k s = .ok (t :: ts) s2 := by
  unfold aCons; rw [e1]; dsimp only [Out.bind]; rw [e2]
theorem trV {t : T} {s : S} : (Bv.val t).tr s = some t := rfl
theorem trO {i : Nat} {t : T} {s : S} (h : s.env[i]? = some (.ow t)) : (Bv.bor i).tr s = some t := by unfold Bv.tr; dsimp only; rw [h]
theorem eBin {op : T → T → Option R} {fa fb : S → Out Bv} {s s1 s2 : S} {b1 b2 : Bv} {t1 t2 : T} {z : R} (h1 : fa s = .ok b1 s1) (h2 : fb s1 = .ok b2 s2) (h3 : b1.tr s2 = some t1) (h4 : b2.tr s2 = some t2) (h5 : op t1 t2 = some z) : fBin op fa fb s = .ok z s2 := by
  unfold fBin; rw [h1]; dsimp only [Out.bind]; rw [h2]; dsimp only; rw [h3, h4]; unfold op2 lift1; dsimp only; rw [h5]
theorem trs0 {s : S} : trs s [] = some [] := rfl
theorem trsC {s : S} {b : Bv} {bs : List Bv} {t : T} {ts : List T} (h1 : b.tr s = some t) (h2 : trs s bs = some ts) : trs s (b :: bs) = some (t :: ts) := by
  unfold trs; rw [h1, h2]
theorem eCall {op : List T → Option R} {f : S → Out (List Bv)} {s s1 : S} {bs : List Bv} {ts : List T} {z : R} (h1 : f s = .ok bs s1) (h2 : trs s1 bs = some ts) (h3 : op ts = some z) : fCall op f s = .ok z s1 := by
  unfold fCall; rw [h1]; dsimp only [Out.bind]; rw [h2]; unfold opN lift1; dsimp only; rw [h3]
def defK (t : T) : Bool → R
  | false => .val t
  | true => .frs t
theorem defK_v {t : T} : defK t false = .val t := rfl
theorem defK_f {t : T} : defK t true = .frs t := rfl
theorem eDef {n : Nat} {φ : Phi} {f : S → Out (List T)} {s s1 s2 : S} {ts : List T} {D D' : Dr} {t : T} {fr : Bool} {r : R} (h1 : f s = .ok ts s1) (h2 : ts.length = n) (hD : s1.D = D) (h3 : φ ts D = .ok t fr D') (h4 : defK t fr = r) (h5 : s1.withD D' = s2) : fDef n φ f s = .ok r s2 := by
  subst hD h4 h5
  unfold fDef; rw [h1]; dsimp only [Out.bind]; rw [if_pos h2, h3]; cases fr <;> rfl
theorem eDefX {n : Nat} {φ : Phi} {f : S → Out (List T)} {s s1 s2 : S} {ts : List T} {D D' : Dr} {x : Ex} (h1 : f s = .ok ts s1) (h2 : ts.length = n) (hD : s1.D = D) (h3 : φ ts D = .exc x D') (h5 : s1.withD D' = s2) : fDef n φ f s = .exc x s2 := by
  subst hD h5
  unfold fDef; rw [h1]; dsimp only [Out.bind]; rw [if_pos h2, h3]; rfl
theorem eTup {f : S → Out (List T)} {ts : List T} {s s1 : S} (h1 : f s = .ok ts s1) (h2 : ts.length ≤ 1000) : fTup f s = .ok (.val (.tup ts)) s1 := by
  unfold fTup; rw [h1]; exact if_pos h2
theorem eLst {f : S → Out (List T)} {ts : List T} {s s1 : S} (h1 : f s = .ok ts s1) (h2 : ts.length ≤ 1000) : fLst f s = .ok (.frs (.lst ts)) s1 := by
  unfold fLst; rw [h1]; exact if_pos h2
theorem eNeg {f : S → Out R} {i : Int} {s s1 : S} (h : f s = .ok (.val (.int i)) s1) : fNeg f s = .ok (.val (.int (-i))) s1 := by
  unfold fNeg; rw [h]; rfl
theorem eONone {s : S} : oNone s = .ok none s := rfl
theorem eOInt {f : S → Out R} {i : Int} {s s1 : S} (h : f s = .ok (.val (.int i)) s1) : oInt f s = .ok (some i) s1 := by
  unfold oInt; rw [h]; rfl
theorem eSl {f : S → Out Bv} {fl fh : S → Out (Option Int)} {s s1 s2 s3 : S} {b : Bv} {lo hi : Option Int} {t : T} {z : R} (h1 : f s = .ok b s1) (h2 : fl s1 = .ok lo s2) (h3 : fh s2 = .ok hi s3) (h4 : b.tr s3 = some t) (h5 : opSl lo hi t = some z) : fSl f fl fh s = .ok z s3 := by
  unfold fSl; rw [h1]; dsimp only [Out.bind]; rw [h2]; dsimp only; rw [h3]; dsimp only; rw [h4]; unfold op1 lift1; dsimp only; rw [h5]
theorem eAsT {f : S → Out R} {b : Bool} {s s1 : S} (h : f s = .ok (.val (.bl b)) s1) : asT f s = .ok b s1 := by
  unfold asT; rw [h]; rfl
theorem eTNot {f : S → Out Bool} {b c : Bool} {s s1 : S} (h : f s = .ok b s1) (h2 : (!b) = c) : tNotF f s = .ok c s1 := by
  unfold tNotF; rw [h, ← h2]; rfl
theorem eTAnd {f k : S → Out Bool} {b : Bool} {s s1 : S} {o : Out Bool} (h : f s = .ok b s1) (h2 : iteK b k (fun s => .ok false s) s1 = o) : tAndF f k s = o := by
  unfold tAndF; rw [h]; exact h2
theorem eTOr {f k : S → Out Bool} {b : Bool} {s s1 : S} {o : Out Bool} (h : f s = .ok b s1) (h2 : iteK b (fun s => .ok true s) k s1 = o) : tOrF f k s = o := by
  unfold tOrF; rw [h]; exact h2
theorem eAnd {f k : S → Out R} {b : Bool} {s s1 : S} {o : Out R} (h : f s = .ok (.val (.bl b)) s1) (h2 : iteK b k (fun s => .ok (.val (.bl false)) s) s1 = o) : vAnd f k s = o := by
  unfold vAnd; rw [h]; exact h2
theorem eOr {f k : S → Out R} {b : Bool} {s s1 : S} {o : Out R} (h : f s = .ok (.val (.bl b)) s1) (h2 : iteK b (fun s => .ok (.val (.bl true)) s) k s1 = o) : vOr f k s = o := by
  unfold vOr; rw [h]; exact h2
theorem eNot {f : S → Out R} {b c : Bool} {s s1 : S} (h : f s = .ok (.val (.bl b)) s1) (h2 : (!b) = c) : vNot f s = .ok (.val (.bl c)) s1 := by
  unfold vNot; rw [h, ← h2]; rfl
theorem eOk {α : Type} {a : α} {s : S} : (fun s => Out.ok a s) s = .ok a s := rfl
theorem notT : (!true) = false := rfl
theorem notF : (!false) = true := rfl
theorem notS {b : Bool} : (!b) = (!b) := rfl
theorem notD {p : Prop} [Decidable p] (h : p) : (!decide p) = false := by simp [h]
theorem notD' {p : Prop} [Decidable p] (h : ¬ p) : (!decide p) = true := by simp [h]
theorem notTe {b : Bool} (h : b = true) : (!b) = false := by simp [h]
theorem notFe {b : Bool} (h : b = false) : (!b) = true := by simp [h]
theorem tYes {s : S} : tYesF s = .ok true s := rfl
theorem eIsi {f : S → Out Bv} {y : Ty} {s s1 : S} {b : Bv} {t : T} {z : Bool} (h1 : f s = .ok b s1) (h2 : b.tr s1 = some t) (h3 : t.isi y = some z) : fIsi f y s = .ok (.val (.bl z)) s1 := by
  unfold fIsi; rw [h1]; dsimp only [Out.bind]; rw [h2]; unfold op1 lift1; dsimp only; rw [h3]; rfl
theorem eIsi2 {f : S → Out Bv} {y y' : Ty} {s s1 : S} {b : Bv} {t : T} {z : Bool} (h1 : f s = .ok b s1) (h2 : b.tr s1 = some t) (h3 : isi2 t y y' = some z) : fIsi2 f y y' s = .ok (.val (.bl z)) s1 := by
  unfold fIsi2; rw [h1]; dsimp only [Out.bind]; rw [h2]; unfold op1 lift1; dsimp only; rw [h3]; rfl
def chK (b : Bool) (op' : T → T → Option R) (b2 : Bv) (fc : S → Out Bv) (s : S) : Out R := if b = true then (fc s).bind fun b3 s4 => op2 op' (b2.tr s4) (b3.tr s4) s4 else .ok (.val (.bl false)) s
theorem eChain {op op' : T → T → Option R} {fa fb fc : S → Out Bv} {s s1 s2 : S} {b1 b2 : Bv} {t1 t2 : T} {b : Bool} {o : Out R} (h1 : fa s = .ok b1 s1) (h2 : fb s1 = .ok b2 s2) (h3 : b1.tr s2 = some t1) (h4 : b2.tr s2 = some t2) (h5 : op t1 t2 = some (.val (.bl b)))
    (h6 : chK b op' b2 fc s2 = o) : fChain op op' fa fb fc s = o := by
  unfold fChain; rw [h1]; dsimp only [Out.bind]; rw [h2]; dsimp only; rw [h3, h4]; unfold op2 lift1; dsimp only; rw [h5]; exact h6
theorem chT {b : Bool} {op' : T → T → Option R} {b2 b3 : Bv} {fc : S → Out Bv} {s s4 : S} {t2 t3 : T} {z : R} (hb : b = true) (h1 : fc s = .ok b3 s4) (h2 : b2.tr s4 = some t2) (h3 : b3.tr s4 = some t3) (h4 : op' t2 t3 = some z) : chK b op' b2 fc s = .ok z s4 := by
  unfold chK; rw [if_pos hb, h1]; dsimp only [Out.bind]; rw [h2, h3]; unfold op2 lift1; dsimp only; rw [h4]
theorem chF {b : Bool} {op' : T → T → Option R} {b2 : Bv} {fc : S → Out Bv} {s : S} (hb : b = false) : chK b op' b2 fc s = .ok (.val (.bl false)) s := by
  unfold chK; rw [hb, if_neg Bool.false_ne_true]
theorem eAsg {gf : T → S → Option S} {f : S → Out T} {s s1 s2 : S} {t : T} (h1 : f s = .ok t s1) (h2 : gf t s1 = some s2) : fAsg gf f s = .ok .nx s2 := by
  unfold fAsg; rw [h1]; dsimp only [Out.bind]; rw [h2]
theorem gNmE {i : Nat} {t : T} {s s1 : S} (h : s.put i (.sh t) = s1) : gNm i t s = some s1 := by rw [← h]; rfl
theorem gNlE {s : S} : gNl [] s = some s := rfl
theorem gCnE {g : T → S → Option S} {k : List T → S → Option S} {t : T} {ts : List T} {s s1 s2 : S} (h1 : g t s = some s1) (h2 : k ts s1 = some s2) : gCn g k (t :: ts) s = some s2 := by
  unfold gCn; dsimp only; rw [h1]; exact h2
theorem gTpE {n : Nat} {k : List T → S → Option S} {ts : List T} {s s2 : S} (h1 : ts.length = n) (h2 : k ts s = some s2) : gTp n k (.tup ts) s = some s2 := by
  show (if ts.length = n then k ts s else none) = _
  rw [if_pos h1]; exact h2
theorem eFor {it : S → Out (List T)} {gf : T → S → Option S} {f : S → Out Fl} {s s1 : S} {ts : List T} {o : Out Fl} (h1 : it s = .ok ts s1) (h2 : forL gf f ts s1 = o) : fFor it gf f s = o := by
  unfold fFor; rw [h1]; exact h2
theorem eItS {f : S → Out T} {s s1 : S} {ts : List T} (h : f s = .ok (.lst ts) s1) : itS f s = .ok ts s1 := by unfold itS; rw [h]; rfl
theorem eItSt {f : S → Out T} {s s1 : S} {ts : List T} (h : f s = .ok (.tup ts) s1) : itS f s = .ok ts s1 := by unfold itS; rw [h]; rfl
theorem eItE {f : S → Out T} {s s1 : S} {ts : List T} (h : f s = .ok (.lst ts) s1) : itE f s = .ok (enumT 0 ts) s1 := by unfold itE; rw [h]; rfl
theorem eItR1 {f : S → Out R} {s s1 : S} {n : Int} (h : f s = .ok (.val (.int n)) s1) (h2 : -(2 ^ 62) ≤ n ∧ n < 2 ^ 62) : itR1 f s = .ok (rngT 0 n.toNat) s1 := by
  unfold itR1; rw [h]; exact if_pos h2
theorem eItZ {f k : S → Out T} {s s1 s2 : S} {t u : T} {b c : Bool} {ts us : List T} (h1 : f s = .ok t s1) (h2 : k s1 = .ok u s2) (h3 : t.seqB = some (b, ts)) (h4 : u.seqB = some (c, us)) : itZ2 f k s = .ok (zipT ts us) s2 := by
  unfold itZ2; rw [h1]; dsimp only [Out.bind]; rw [h2]; dsimp only; rw [h3, h4]
theorem eIsOw {i : Nat} {ts : List T} {f : S → Out R} {s : S} {o : Out R} (h : s.env[i]? = some (.ow (.lst ts))) (h2 : f s = o) : isOw i f s = o := by
  unfold isOw; rw [h]; exact h2
theorem eMut {i : Nat} {op : List T → List T → Option (T × List T)} {f : S → Out (List T)} {s s1 s2 : S} {us ts ts' : List T} {t : T} (h1 : f s = .ok us s1) (h2 : s1.env[i]? = some (.ow (.lst ts))) (h3 : op ts us = some (t, ts')) (h4 : s1.put i (.ow (.lst ts')) = s2) : fMut i op f s = .ok (.val t) s2 := by
  subst h4
  unfold fMut; rw [h1]; dsimp only [Out.bind]; rw [h2]; dsimp only; rw [h3]
theorem mAppE {ts : List T} {u : T} (h : ts.length < 16777216) : mApp ts [u] = some (.non, ts ++ [u]) := if_pos h
theorem eSetIx {i : Nat} {f : S → Out T} {k : S → Out R} {s s1 s2 s3 : S} {t : T} {ts0 ts : List T} {n : Int} {j : Nat} (h1 : f s = .ok t s1) (h2 : s1.env[i]? = some (.ow (.lst ts0))) (h3 : k s1 = .ok (.val (.int n)) s2) (h4 : s2.env[i]? = some (.ow (.lst ts))) (h5 : ixN ts.length n = some j) (h6 : s2.put i (.ow (.lst (ts.set j t))) = s3) : fSetIx i f k s = .ok .nx s3 := by
  subst h6
  unfold fSetIx; rw [h1]; dsimp only [Out.bind]; rw [h2]; dsimp only; rw [h3]; dsimp only; rw [h4]; dsimp only; rw [h5]
theorem eAug {i : Nat} {op : T → T → Option R} {f : S → Out R} {s s1 s2 : S} {u t w : T} (h0 : s.env[i]? = some (.sh u)) (h1 : f s = .ok (.val t) s1) (h2 : op u t = some (.val w)) (h3 : s1.put i (.sh w) = s2) : fAug i op f s = .ok .nx s2 := by
  subst h3
  unfold fAug; rw [h0]; dsimp only; rw [h1]; dsimp only [Out.bind]; rw [h2]
theorem ePar {i j : Nat} {fa fb : S → Out R} {s s1 s2 s3 s4 : S} {t u : T} (h1 : fa s = .ok (.val t) s1) (h2 : fb s1 = .ok (.val u) s2) (h3 : s2.put i (.sh t) = s3) (h4 : s3.put j (.sh u) = s4) : fPar i j fa fb s = .ok .nx s4 := by
  subst h3 h4
  unfold fPar; rw [h1]; dsimp only [Out.bind]; rw [h2]; rfl
theorem eParF {i j : Nat} {fa fb : S → Out R} {s s1 s2 s3 s4 : S} {t u : T} (h1 : fa s = .ok (.frs t) s1) (h2 : fb s1 = .ok (.frs u) s2) (h3 : s2.put i (.ow t) = s3) (h4 : s3.put j (.ow u) = s4) : fPar i j fa fb s = .ok .nx s4 := by
  subst h3 h4
  unfold fPar; rw [h1]; dsimp only [Out.bind]; rw [h2]; rfl
theorem eParFV {i j : Nat} {fa fb : S → Out R} {s s1 s2 s3 s4 : S} {t u : T} (h1 : fa s = .ok (.frs t) s1) (h2 : fb s1 = .ok (.val u) s2) (h3 : s2.put i (.ow t) = s3) (h4 : s3.put j (.sh u) = s4) : fPar i j fa fb s = .ok .nx s4 := by
  subst h3 h4
  unfold fPar; rw [h1]; dsimp only [Out.bind]; rw [h2]; rfl
theorem eProp {i : Nat} {φ : Phi} {fe : S → Out T} {s s1 s2 : S} {fs : List (Str × T)} {D D' : Dr} {t : T} {fr : Bool} {r : R} (h1 : fe s = .ok (.obj i fs) s1) (hD : s1.D = D) (h3 : φ [.obj i fs] D = .ok t fr D') (h4 : defK t fr = r) (h5 : s1.withD D' = s2) : fProp i φ fe s = .ok r s2 := by
  subst hD h4 h5
  unfold fProp; rw [h1]; dsimp only [Out.bind]; rw [if_pos rfl, h3]; cases fr <;> rfl
theorem eMake {i n : Nat} {dts : List T} {φ : Phi} {fa : S → Out (List T)} {s s1 s2 : S} {ts : List T} {fs : List (Str × T)} {D D' : Dr} {fr : Bool} (h1 : fa s = .ok ts s1) (h2 : (ts ++ dts).length = n) (hD : s1.D = D) (h3 : φ (ts ++ dts) D = .ok (.obj i fs) fr D') (h5 : s1.withD D' = s2) : fMake i n dts φ fa s = .ok (.val (.obj i fs)) s2 := by
  subst hD h5
  unfold fMake; rw [h1]; dsimp only [Out.bind]; rw [if_pos h2, h3]; exact if_pos rfl
theorem eFld {is : List Nat} {f : Str} {fe : S → Out Bv} {s s1 : S} {b : Bv} {t u : T} (h1 : fe s = .ok b s1) (h2 : b.tr s1 = some t) (h3 : opFld is f t = some u) : fFld is f fe s = .ok (.val u) s1 := by
  unfold fFld; rw [h1]; dsimp only [Out.bind]; rw [h2, Option.bind_some, h3]
theorem eSetA {j i : Nat} {f : Str} {fe : S → Out T} {s s1 s2 : S} {t : T} {fs : List (Str × T)} (h1 : fe s = .ok t s1) (h2 : s1.env[i]? = some (.ow (.obj j fs))) (h3 : fs.length < 1000) (h4 : s1.put i (.ow (.obj j (putT f t fs))) = s2) : fSetA j i f fe s = .ok .nx s2 := by
  subst h4
  unfold fSetA; rw [h1]; dsimp only [Out.bind]; rw [h2]; exact if_pos ⟨rfl, h3⟩
theorem eGet {tb : Tab} {fa fb : S → Out R} {s s1 s2 : S} {z : Str} {r : R} {tt : T} (h1 : fa s = .ok (.val (.str z)) s1) (h2 : fb s1 = .ok r s2) (h3 : List.lookup z tb = some tt) : fGet tb fa fb s = .ok (.val tt) s2 := by
  unfold fGet; rw [h1]; dsimp only [Out.bind]; rw [h2]; dsimp only; rw [h3]
theorem eToldT {i : Nat} {par w1 w2 : Str} {fb : S → Out T} {s s1 : S} {t : T} (h : fb s = .ok t s1) : fTold i par w1 w2 fb s = .ok (.val (.tup [.str w1, t])) s1 := by
  unfold fTold; rw [h]
theorem eToldN {i : Nat} {par w1 w2 : Str} {fb : S → Out T} {s s1 : S} {fs : List (Str × T)} {t : T} (h : fb s = .exc ⟨i, fs⟩ s1) (h2 : fs.lookup par = some t) : fTold i par w1 w2 fb s = .ok (.val (.tup [.str w2, t])) s1 := by
  unfold fTold; rw [h]; dsimp only; rw [if_pos rfl, h2]
/-- a comprehension over a typed list, its turn leaves all as it was -/
theorem lcRun {α : Type} {own : List Nat} {gf : T → S → Option S} {ft : S → Out Bool} {fe : S → Out T} {enc : α → T} {P : α → Bool} {F : α → T} {s0 : S} : ∀ (l : List α) (acc : List T),
    (∀ a ∈ l, ∃ s1 s2, gf (enc a) s0 = some s1 ∧ ft s1 = .ok (P a) s2 ∧ (P a = true → ∃ s3, fe s2 = .ok (F a) s3 ∧ s3.wipe own = s0) ∧ (P a = false → s2.wipe own = s0)) → acc.length + l.length ≤ 16777216 →
    lcL own gf ft fe (l.map enc) acc s0 = .ok (acc ++ (l.filter P).map F) s0
  | [], acc, _, _ => by simp [lcL]
  | a :: l, acc, h, hl => by
    obtain ⟨s1, s2, e1, e2, e3, e4⟩ := h a (by simp)
    rw [List.map_cons]
    unfold lcL
    rw [e1]; dsimp only; rw [e2]
    simp only [List.length_cons] at hl
    cases hp : P a with
    | true =>
      obtain ⟨s3, e5, e6⟩ := e3 hp
      dsimp only
      rw [e5]; dsimp only
      rw [if_pos (by omega), e6, lcRun l _ (fun b hb => h b (by simp [hb])) (by simp; omega), List.filter_cons_of_pos hp]
      simp
    | false =>
      dsimp only
      rw [e4 hp, lcRun l _ (fun b hb => h b (by simp [hb])) (by omega), List.filter_cons_of_neg (by simp [hp])]
theorem eLc {α : Type} {own : List Nat} {it : S → Out (List T)} {gf : T → S → Option S} {ft : S → Out Bool} {fe : S → Out T} {s s1 s0 : S} {ts : List T} {l : List α} (enc : α → T) (P : α → Bool) (F : α → T)
    (h1 : it s = .ok ts s1) (h2 : ts = l.map enc) (h3 : noOw s1 own = true) (h4 : s1.wipe own = s0) (h5 : l.length ≤ 16777216)
    (h : ∀ a ∈ l, ∃ s1 s2, gf (enc a) s0 = some s1 ∧ ft s1 = .ok (P a) s2 ∧ (P a = true → ∃ s3, fe s2 = .ok (F a) s3 ∧ s3.wipe own = s0) ∧ (P a = false → s2.wipe own = s0))
    (h6 : s0.back s1 own = s1) : fLc it own gf ft fe s = .ok (.frs (.lst ((l.filter P).map F))) s1 := by
  subst h2 h4
  unfold fLc; rw [h1]; dsimp only [Out.bind]; rw [if_pos h3, lcRun l [] h (by simpa using h5)]; dsimp only [List.nil_append]; rw [h6]
/-- .. of all items -/
theorem eLcA {α : Type} {own : List Nat} {it : S → Out (List T)} {gf : T → S → Option S} {fe : S → Out T} {s s1 s0 : S} {ts : List T} {l : List α} (enc : α → T) (F : α → T)
    (h1 : it s = .ok ts s1) (h2 : ts = l.map enc) (h3 : noOw s1 own = true) (h4 : s1.wipe own = s0) (h5 : l.length ≤ 16777216)
    (h : ∀ a ∈ l, ∃ s1 s3, gf (enc a) s0 = some s1 ∧ fe s1 = .ok (F a) s3 ∧ s3.wipe own = s0)
    (h6 : s0.back s1 own = s1) : fLc it own gf tYesF fe s = .ok (.frs (.lst (l.map F))) s1 := by
  have z := eLc (α := α) (own := own) (gf := gf) (ft := tYesF) (fe := fe) enc (fun _ => true) F h1 h2 h3 h4 h5 (fun a ha => by
    obtain ⟨s1, s3, e1, e2, e3⟩ := h a ha
    exact ⟨s1, s1, e1, rfl, fun _ => ⟨s3, e2, e3⟩, fun z => by cases z⟩) h6
  rw [List.filter_eq_self.mpr (by simp)] at z
  exact z
theorem lcTn {own : List Nat} {gf : T → S → Option S} {ft : S → Out Bool} {fe : S → Out T} {x v : T} {p : Bool} {s0 s1 s2 s3 : S} (h1 : gf x s0 = some s1) (h2 : ft s1 = .ok p s2) (h3 : fe s2 = .ok v s3) (h4 : s3.wipe own = s0) (h5 : s2.wipe own = s0) :
    ∃ s1 s2, gf x s0 = some s1 ∧ ft s1 = .ok p s2 ∧ (p = true → ∃ s3, fe s2 = .ok v s3 ∧ s3.wipe own = s0) ∧ (p = false → s2.wipe own = s0) := ⟨s1, s2, h1, h2, fun _ => ⟨s3, h3, h4⟩, fun _ => h5⟩
theorem lcTnA {own : List Nat} {gf : T → S → Option S} {fe : S → Out T} {x v : T} {s0 s1 s3 : S} (h1 : gf x s0 = some s1) (h3 : fe s1 = .ok v s3) (h4 : s3.wipe own = s0) :
    ∃ s1 s3, gf x s0 = some s1 ∧ fe s1 = .ok v s3 ∧ s3.wipe own = s0 := ⟨s1, s3, h1, h3, h4⟩
theorem forN {gf : T → S → Option S} {f : S → Out Fl} {t : T} {ts : List T} {s s1 s2 : S} {o : Out Fl} (h1 : gf t s = some s1) (h2 : f s1 = .ok .nx s2) (h3 : forL gf f ts s2 = o) : forL gf f (t :: ts) s = o := by
  unfold forL; rw [h1]; dsimp only; rw [h2]; exact h3
theorem forR {gf : T → S → Option S} {f : S → Out Fl} {t u : T} {b : Bool} {ts : List T} {s s1 s2 : S} (h1 : gf t s = some s1) (h2 : f s1 = .ok (.rt u b) s2) : forL gf f (t :: ts) s = .ok (.rt u b) s2 := by
  unfold forL; rw [h1]; dsimp only; rw [h2]
theorem for0 {gf : T → S → Option S} {f : S → Out Fl} {s : S} : forL gf f [] s = .ok .nx s := rfl
theorem whF {t : S → Out Bool} {f : S → Out Fl} {s s1 : S} (h : t s = .ok false s1) : fWh t f s = .ok .nx s1 := by
  rw [fWh_eq]; unfold whStep; rw [h]
theorem whT {t : S → Out Bool} {f : S → Out Fl} {s s1 s2 : S} {o : Out Fl} (h : t s = .ok true s1) (h2 : f s1 = .ok .nx s2) (h3 : fWh t f s2 = o) : fWh t f s = o := by
  rw [fWh_eq]; unfold whStep; rw [h]; dsimp only; rw [h2]; exact h3
theorem eRes {F : S → Out Fl} {s s1 : S} {t t' : T} {fr : Bool} {D : Dr} (h : F s = .ok (.rt t fr) s1) (h1 : t = t') (h2 : s1.D = D) : resOf (F s) = .ok t' fr D := by
  rw [h, ← h1, ← h2]; rfl
theorem eRes0 {F : S → Out Fl} {s s1 : S} {D : Dr} (h : F s = .ok .nx s1) (h2 : s1.D = D) : resOf (F s) = .ok .non false D := by
  rw [h, ← h2]; rfl
theorem cmpI {p : Int → Int → Bool} {i j : Int} : opCmp p (.int i) (.int j) = some (.val (.bl (p i j))) := rfl
theorem addI {i j : Int} : opAdd (.int i) (.int j) = some (.val (.int (i + j))) := rfl
theorem subI {i j : Int} : opSub (.int i) (.int j) = some (.val (.int (i - j))) := rfl
theorem modI {i j : Int} (h : 0 < j) : opMod (.int i) (.int j) = some (.val (.int (i % j))) := if_pos h
theorem ixT0 {a : T} {l : List T} : opIx (.tup (a :: l)) (.int 0) = some (.val a) := by
  show (atI (a :: l) 0).map R.val = _
  unfold atI ixN
  rw [if_pos (Int.le_refl 0), if_pos (by simp only [List.length_cons]; omega)]; rfl
theorem ixT1 {a b : T} {l : List T} : opIx (.tup (a :: b :: l)) (.int 1) = some (.val b) := by
  show (atI (a :: b :: l) 1).map R.val = _
  unfold atI ixN
  rw [if_pos (by decide), if_pos (by simp only [List.length_cons]; omega)]; rfl
theorem ixT2 {a b c : T} {l : List T} : opIx (.tup (a :: b :: c :: l)) (.int 2) = some (.val c) := by
  show (atI (a :: b :: c :: l) 2).map R.val = _
  unfold atI ixN
  rw [if_pos (by decide), if_pos (by simp only [List.length_cons]; omega)]; rfl
theorem lenT {l : List T} : opLen [.tup l] = some (.val (.int l.length)) := rfl
theorem lenL {l : List T} : opLen [.lst l] = some (.val (.int l.length)) := rfl
theorem maxL2 {i j : Int} : opMax [.lst [.int i, .int j]] = some (.val (.int (if i < j then j else i))) := rfl
theorem minL2 {i j : Int} : opMin [.lst [.int i, .int j]] = some (.val (.int (if j < i then j else i))) := rfl
theorem isF {t : T} : opIs false t .non = some (.val (.bl t.isNon)) := rfl
theorem isT {t : T} : opIs true t .non = some (.val (.bl !t.isNon)) := rfl
theorem log2_lt {i : Int} {n : Nat} (h : i.natAbs < 2 ^ n) (hn : 0 < n) : i.natAbs.log2 < n := by
  by_cases e : i.natAbs = 0
  · rw [e]; exact hn
  · exact (Nat.log2_lt e).2 h
theorem mulI {i j : Int} (h1 : i.natAbs < 2 ^ 1000) (h2 : j.natAbs < 2 ^ 1000) : opMul (.int i) (.int j) = some (.val (.int (i * j))) := by
  have := log2_lt h1 (by decide)
  have := log2_lt h2 (by decide)
  exact if_pos (by omega)
theorem fdvI {i j : Int} (h1 : 0 < j) (h2 : j < 2 ^ 1000) : opFdv (.int i) (.int j) = some (.val (.int (i / j))) := by
  have := log2_lt (i := j) (n := 1000) (by omega) (by decide)
  exact if_pos ⟨h1, by omega⟩
theorem atI_get {ts : List T} {k : Nat} {t : T} (h : ts[k]? = some t) : atI ts (k : Int) = some t := by
  have hk : k < ts.length := by
    rw [List.getElem?_eq_some_iff] at h
    exact h.1
  unfold atI ixN
  rw [if_pos (by omega), if_pos (by omega)]
  show ts[(k : Int).toNat]? = _
  rw [Int.toNat_natCast, h]
theorem ixL {ts : List T} {k : Nat} {t : T} (h : ts[k]? = some t) : opIx (.lst ts) (.int (k : Nat)) = some (.val t) := by
  show (atI ts k).map R.val = _
  rw [atI_get h]; rfl
theorem andS {b c : Bool} {k : S → Out R} {s s1 : S} (h : k s = .ok (.val (.bl c)) s1) (h1 : s1 = s) : iteK b k (fun s => .ok (.val (.bl false)) s) s = .ok (.val (.bl (b && c))) s := by
  subst h1; unfold iteK; cases b
  · rfl
  · rw [if_pos rfl, h]; rfl
theorem chS {b c : Bool} {op' : T → T → Option R} {b2 b3 : Bv} {fc : S → Out Bv} {s s4 : S} {t2 t3 : T} (h1 : fc s = .ok b3 s4) (h2 : b2.tr s4 = some t2) (h3 : b3.tr s4 = some t3) (h4 : op' t2 t3 = some (.val (.bl c))) (hs : s4 = s) : chK b op' b2 fc s = .ok (.val (.bl (b && c))) s := by
  subst hs; unfold chK; cases b
  · rw [if_neg Bool.false_ne_true]; rfl
  · rw [if_pos rfl, h1]; dsimp only [Out.bind]; rw [h2, h3]; unfold op2 lift1; dsimp only; rw [h4]; rfl
theorem eRaise {i : Nat} {par : Str} {f : S → Out (List T)} {t : T} {s s1 : S} (h : f s = .ok [t] s1) : fRaise i par f s = .exc ⟨i, [(par, t)]⟩ s1 := by
  unfold fRaise; rw [h]; rfl
theorem eRetX {f : S → Out R} {x : Ex} {s s1 : S} (h : f s = .exc x s1) : fRet f s = .exc x s1 := by unfold fRet; rw [h]; rfl
theorem eSetX {i : Nat} {f : S → Out R} {x : Ex} {s s1 : S} (h : f s = .exc x s1) : fSet i f s = .exc x s1 := by unfold fSet; rw [h]; rfl
theorem eVX {f : S → Out R} {x : Ex} {s s1 : S} (h : f s = .exc x s1) : fV f s = .exc x s1 := by unfold fV; rw [h]; rfl
theorem eConsX {α : Type} {f : S → Out α} {k : S → Out (List α)} {x : Ex} {s s1 : S} (h : f s = .exc x s1) : aCons f k s = .exc x s1 := by unfold aCons; rw [h]; rfl
theorem eConsX2 {α : Type} {f : S → Out α} {k : S → Out (List α)} {t : α} {x : Ex} {s s1 s2 : S} (h : f s = .ok t s1) (h2 : k s1 = .exc x s2) : aCons f k s = .exc x s2 := by unfold aCons; rw [h]; dsimp only [Out.bind]; rw [h2]
theorem eDefA {n : Nat} {φ : Phi} {f : S → Out (List T)} {x : Ex} {s s1 : S} (h : f s = .exc x s1) : fDef n φ f s = .exc x s1 := by unfold fDef; rw [h]; rfl
theorem cutTake {ts : List T} {i : Nat} (h : i ≤ ts.length) : cutT ts none (some (i : Int)) = ts.take i := by
  unfold cutT
  rw [HT.sIx_none, HT.sIx_nat, List.drop_zero, Nat.sub_zero, Nat.min_eq_left h]
theorem cutDrop {ts : List T} {i : Nat} (h : i ≤ ts.length) : cutT ts (some (i : Int)) none = ts.drop i := by
  unfold cutT
  rw [HT.sIx_none, HT.sIx_nat, Nat.min_eq_left h, List.take_of_length_le (by rw [List.length_drop]; exact Nat.le_refl _)]
/-! ### the same at a def's end -/
theorem rSeq {f k : S → Out Fl} {s s1 : S} {r : Res} (h1 : f s = .ok .nx s1) (h2 : resOf (k s1) = r) : resOf (fSeq f k s) = r := by
  rw [← h2]; unfold fSeq; rw [h1]; rfl
theorem rSeqR {f k : S → Out Fl} {s s1 : S} {t : T} {b : Bool} {D : Dr} (h1 : f s = .ok (.rt t b) s1) (h2 : s1.D = D) : resOf (fSeq f k s) = .ok t b D := by
  rw [← h2]; unfold fSeq; rw [h1]; rfl
theorem rSeqX {f k : S → Out Fl} {s s1 : S} {x : Ex} {D : Dr} (h1 : f s = .exc x s1) (h2 : s1.D = D) : resOf (fSeq f k s) = .exc x D := by
  rw [← h2]; unfold fSeq; rw [h1]; rfl
theorem rX {f : S → Out Fl} {s s1 : S} {x : Ex} {D : Dr} (h1 : f s = .exc x s1) (h2 : s1.D = D) : resOf (f s) = .exc x D := by
  rw [← h2, h1]; rfl
theorem rFor {it : S → Out (List T)} {gf : T → S → Option S} {f k : S → Out Fl} {s s1 : S} {ts : List T} {r : Res} (h1 : it s = .ok ts s1) (h2 : resOf (fSeq (forL gf f ts) k s1) = r) : resOf (fSeq (fFor it gf f) k s) = r := by
  rw [← h2]; unfold fSeq fFor; rw [h1]; rfl
theorem rFor0 {gf : T → S → Option S} {f k : S → Out Fl} {s : S} {r : Res} (h : resOf (k s) = r) : resOf (fSeq (forL gf f []) k s) = r := by
  rw [← h]; rfl
theorem rForN {gf : T → S → Option S} {f k : S → Out Fl} {t : T} {ts : List T} {s s1 s2 : S} {r : Res} (h1 : gf t s = some s1) (h2 : f s1 = .ok .nx s2) (h3 : resOf (fSeq (forL gf f ts) k s2) = r) : resOf (fSeq (forL gf f (t :: ts)) k s) = r := by
  rw [← h3]; unfold fSeq; rw [forN h1 h2 rfl]
theorem rForR {gf : T → S → Option S} {f k : S → Out Fl} {t u : T} {b : Bool} {ts : List T} {s s1 s2 : S} {D : Dr} (h1 : gf t s = some s1) (h2 : f s1 = .ok (.rt u b) s2) (h3 : s2.D = D) : resOf (fSeq (forL gf f (t :: ts)) k s) = .ok u b D := by
  rw [← h3]; unfold fSeq; rw [forR h1 h2]; rfl
theorem rIfT {t : S → Out Bool} {f k j : S → Out Fl} {s s1 : S} {r : Res} (h1 : t s = .ok true s1) (h2 : resOf (fSeq f j s1) = r) : resOf (fSeq (fIf t f k) j s) = r := by
  rw [← h2]; unfold fSeq fIf; rw [h1]; rfl
theorem rWh0 {t : S → Out Bool} {f k : S → Out Fl} {s s1 : S} {r : Res} (h : t s = .ok false s1) (h2 : resOf (k s1) = r) : resOf (fSeq (fWh t f) k s) = r := rSeq (whF h) h2
theorem rWhN {t : S → Out Bool} {f k : S → Out Fl} {s s1 s2 : S} {r : Res} (h : t s = .ok true s1) (h2 : f s1 = .ok .nx s2) (h3 : resOf (fSeq (fWh t f) k s2) = r) : resOf (fSeq (fWh t f) k s) = r := by
  rw [← h3]; unfold fSeq; rw [whT h h2 rfl]
end Tv
set_option linter.all false
namespace P67
/-! ### the plain law of k67 -/
abbrev Sh := Bool × Int
abbrev Bx := List (Int × Int)
structure Tk where
  p : Int
  q : Int
  k : Int
  w : Int
def gApp (p q k : Int) : Int := -(-p / (q * k)) - 1
def lApp (p q k : Int) : Int := p / (q * k) + 1
/-- the marks to which a shape applies, those to which it does not -/
def app (s : Sh) (p q k : Int) : Int × Int := if s.1 = true then (1, gApp p q k) else (lApp p q k, 60)
def idl (s : Sh) (p q k : Int) : Int × Int := if s.1 = true then (gApp p q k + 1, 60) else (1, lApp p q k - 1)
def chg (s : Sh) : Int := if s.1 = true then s.2 else 0 - s.2
def met (x y : Int × Int) : Int × Int := (if y.1 > x.1 then y.1 else x.1, if y.2 < x.2 then y.2 else x.2)
def aps (s : Sh) (m p q k : Int) : Bool := if s.1 = true then decide (p > m * k * q) else decide (p < m * k * q)
def wishM (p q k : Int) : List Sh → List Int → Int
  | s :: ss, m :: ms => if aps s m p q k = true then k + chg s else wishM p q k ss ms
  | _, _ => k
def narL (d p q k : Int) : List Sh → Bx → Bx
  | s :: ss, b :: bs => if chg s = d then met b (app s p q k) :: bs else met b (idl s p q k) :: narL d p q k ss bs
  | _, bs => bs
def nar (ss : List Sh) (b : Bx) (t : Tk) : Option Bx := if (∀ s ∈ ss, chg s ≠ t.w - t.k) ∧ t.w ≠ t.k then none else some (narL (t.w - t.k) t.p t.q t.k ss b)
def emp (b : Bx) : Bool := b.any fun x => decide (x.1 > x.2)
def ror (ss : List Sh) : List Tk → Bx → Nat → Bx ⊕ Nat
  | [], b, _ => .inl b
  | t :: ts, b, i => match nar ss b t with
    | none => .inr i
    | some b' => if emp b' = true then .inr i else ror ss ts b' (i + 1)
def full (ss : List Sh) : Bx := List.replicate ss.length (1, 60)
def zmet : Bx → Bx → Bx
  | x :: b, y :: c => met x y :: zmet b c
  | _, _ => []
def lmet (ss : List Sh) : List Tk → Bx → Nat → Bx ⊕ Nat
  | [], b, _ => .inl b
  | t :: ts, b, i => match ror ss [t] (full ss) 0 with
    | .inr _ => .inr i
    | .inl a => if emp (zmet b a) = true then .inr i else lmet ss ts (zmet b a) (i + 1)
def wid : Bx → Int
  | [] => 1
  | x :: b => (x.2 - x.1 + 1) * wid b
def fit (ss : List Sh) (ts : List Tk) : Int := match ror ss ts (full ss) 0 with
  | .inl b => wid b
  | .inr _ => 0
def inB : List Int → Bx → Bool
  | [], [] => true
  | m :: ms, x :: b => decide (x.1 ≤ m) && decide (m ≤ x.2) && inB ms b
  | _, _ => false
def Sub60 (b : Bx) : Prop := ∀ x ∈ b, 1 ≤ x.1 ∧ x.2 ≤ 60
structure Gs (ss : List Sh) : Prop where
  nd : (ss.map chg).Nodup
  nz : ∀ s ∈ ss, chg s ≠ 0

theorem inB_len : ∀ {ms : List Int} {b : Bx}, inB ms b = true → ms.length = b.length
  | [], [], _ => rfl
  | m :: ms, x :: b, h => by
    simp only [inB, Bool.and_eq_true] at h
    simp [inB_len h.2]
theorem met_in {x y : Int × Int} {m : Int} : ((met x y).1 ≤ m ∧ m ≤ (met x y).2) ↔ (x.1 ≤ m ∧ m ≤ x.2) ∧ y.1 ≤ m ∧ m ≤ y.2 := by
  unfold met
  dsimp only
  split <;> split <;> omega
theorem div_lt {a d m : Int} (h : 0 < d) : m < -(-a / d) ↔ m * d < a := by
  have h1 := Int.mul_ediv_add_emod (-a) d
  have h2 := Int.emod_nonneg (-a) (show d ≠ 0 by omega)
  have h3 := Int.emod_lt_of_pos (-a) h
  generalize hq : -a / d = z at *
  generalize hr : -a % d = r at *
  constructor
  · intro hm
    have : m + z ≤ -1 := by omega
    have h5 : d * (m + z) ≤ d * (-1) := Int.mul_le_mul_of_nonneg_left this (by omega)
    have h6 : d * (m + z) = d * m + d * z := Int.mul_add d m z
    have h7 : m * d = d * m := Int.mul_comm m d
    omega
  · intro hm
    have h6 : d * (m + z) = d * m + d * z := Int.mul_add d m z
    have h7 : m * d = d * m := Int.mul_comm m d
    have : d * (m + z) < 0 := by omega
    have : m + z < 0 := by
      refine Int.not_le.mp fun hc => ?_
      have := Int.mul_nonneg (show 0 ≤ d by omega) hc
      omega
    omega
theorem div_ge {a d m : Int} (h : 0 < d) : a / d + 1 ≤ m ↔ a < m * d := by
  have := Int.ediv_lt_iff_lt_mul (a := a) (b := m) h
  omega
theorem aps_in {s : Sh} {p q k m : Int} (h : 0 < q * k) (h1 : 1 ≤ m) (h2 : m ≤ 60) : aps s m p q k = true ↔ (app s p q k).1 ≤ m ∧ m ≤ (app s p q k).2 := by
  have e : m * k * q = m * (q * k) := by rw [Int.mul_assoc, Int.mul_comm k q]
  have d1 := div_lt (a := p) (m := m) h
  have d2 := div_ge (a := p) (m := m) h
  unfold aps app gApp lApp
  rw [e]
  split
  · simp only [decide_eq_true_eq]; omega
  · simp only [decide_eq_true_eq]; omega
theorem idl_in {s : Sh} {p q k m : Int} (h : 0 < q * k) (h1 : 1 ≤ m) (h2 : m ≤ 60) : aps s m p q k = false ↔ (idl s p q k).1 ≤ m ∧ m ≤ (idl s p q k).2 := by
  have e : m * k * q = m * (q * k) := by rw [Int.mul_assoc, Int.mul_comm k q]
  have d1 := div_lt (a := p) (m := m) h
  have d2 := div_ge (a := p) (m := m) h
  unfold aps idl gApp lApp
  rw [e]
  split
  · simp only [decide_eq_false_iff_not]; omega
  · simp only [decide_eq_false_iff_not]; omega
theorem Sub60.tl {x : Int × Int} {b : Bx} (h : Sub60 (x :: b)) : Sub60 b := fun y hy => h y (List.mem_cons_of_mem _ hy)
theorem Gs.tl {s : Sh} {ss : List Sh} (h : Gs (s :: ss)) : Gs ss := ⟨(List.nodup_cons.mp h.nd).2, fun y hy => h.nz y (List.mem_cons_of_mem _ hy)⟩
theorem wishM_mem {p q k : Int} : ∀ (ss : List Sh) (ms : List Int), wishM p q k ss ms = k ∨ ∃ s ∈ ss, wishM p q k ss ms = k + chg s
  | [], ms => .inl (by simp [wishM])
  | s :: ss, [] => .inl (by simp [wishM])
  | s :: ss, m :: ms => by
    simp only [wishM]
    split
    · exact .inr ⟨s, by simp, rfl⟩
    · rcases wishM_mem ss ms with h | ⟨u, h1, h2⟩
      · exact .inl h
      · exact .inr ⟨u, by simp [h1], h2⟩
theorem narL_sub {d p q k : Int} : ∀ {ss : List Sh} {ms : List Int} {b : Bx}, inB ms (narL d p q k ss b) = true → inB ms b = true
  | [], ms, b, h => by simpa [narL] using h
  | s :: ss, ms, [], h => by simpa [narL] using h
  | s :: ss, [], x :: b, h => by
    simp only [narL] at h
    split at h <;> simp [inB] at h
  | s :: ss, m :: ms, x :: b, h => by
    simp only [narL] at h
    split at h
    · simp only [inB, Bool.and_eq_true, decide_eq_true_eq] at h ⊢
      exact ⟨(met_in.mp h.1).1, h.2⟩
    · simp only [inB, Bool.and_eq_true, decide_eq_true_eq] at h ⊢
      exact ⟨(met_in.mp h.1).1, narL_sub h.2⟩
theorem narL_wish {p q k d : Int} (hq : 0 < q * k) : ∀ {ss : List Sh} {ms : List Int} {b : Bx}, Gs ss → b.length = ss.length → Sub60 b → inB ms b = true →
    (wishM p q k ss ms = k + d ↔ inB ms (narL d p q k ss b) = true ∧ ¬ ((∀ s ∈ ss, chg s ≠ d) ∧ d ≠ 0))
  | [], ms, b, g, hl, h6, hi => by
    simp only [wishM, narL, hi, true_and]
    simp only [List.not_mem_nil, false_implies, implies_true, true_and]
    omega
  | s :: ss, [], x :: b, g, hl, h6, hi => by simp [inB] at hi
  | s :: ss, m :: ms, [], g, hl, h6, hi => by simp at hl
  | s :: ss, [], [], g, hl, h6, hi => by simp at hl
  | s :: ss, m :: ms, x :: b, g, hl, h6, hi => by
    simp only [inB, Bool.and_eq_true, decide_eq_true_eq] at hi
    have hx := h6 x (by simp)
    have a1 := aps_in (s := s) (p := p) (q := q) (k := k) (m := m) hq (by omega) (by omega)
    have a2 := idl_in (s := s) (p := p) (q := q) (k := k) (m := m) hq (by omega) (by omega)
    have nz := g.nz s (by simp)
    simp only [wishM, narL]
    by_cases hd : chg s = d
    · subst hd
      rw [if_pos rfl]
      have nn : ¬ ((∀ u ∈ s :: ss, chg u ≠ chg s) ∧ chg s ≠ 0) := fun z => z.1 s (by simp) rfl
      by_cases ha : aps s m p q k = true
      · rw [if_pos ha]
        simp only [inB, Bool.and_eq_true, decide_eq_true_eq, true_iff]
        exact ⟨⟨met_in.mpr ⟨hi.1, a1.mp ha⟩, hi.2⟩, nn⟩
      · rw [if_neg ha]
        refine ⟨fun e => ?_, fun e => ?_⟩
        · exfalso
          rcases wishM_mem (p := p) (q := q) (k := k) ss ms with h | ⟨u, h1, h2⟩
          · omega
          · have : chg u = chg s := by omega
            exact (List.nodup_cons.mp g.nd).1 (this ▸ List.mem_map_of_mem h1)
        · have := e.1
          simp only [inB, Bool.and_eq_true, decide_eq_true_eq] at this
          exact absurd (a1.mpr (met_in.mp this.1).2) ha
    · rw [if_neg hd]
      have ih := narL_wish (p := p) (q := q) (k := k) (d := d) hq (ss := ss) (ms := ms) (b := b) g.tl (by simpa using hl) h6.tl hi.2
      have nn : ((∀ u ∈ s :: ss, chg u ≠ d) ∧ d ≠ 0) ↔ ((∀ u ∈ ss, chg u ≠ d) ∧ d ≠ 0) := by
        simp [hd]
      rw [nn]
      by_cases ha : aps s m p q k = true
      · rw [if_pos ha]
        refine ⟨fun e => absurd (by omega) hd, fun e => ?_⟩
        have := e.1
        simp only [inB, Bool.and_eq_true, decide_eq_true_eq] at this
        have := a2.mpr (met_in.mp this.1).2
        rw [ha] at this; cases this
      · rw [if_neg ha, ih]
        have hf : aps s m p q k = false := by simpa using ha
        simp only [inB, Bool.and_eq_true, decide_eq_true_eq]
        constructor
        · exact fun z => ⟨⟨met_in.mpr ⟨hi.1, a2.mp hf⟩, z.1⟩, z.2⟩
        · exact fun z => ⟨z.1.2, z.2⟩
theorem met_sub {x y : Int × Int} (h : 1 ≤ x.1 ∧ x.2 ≤ 60) : 1 ≤ (met x y).1 ∧ (met x y).2 ≤ 60 := by
  unfold met
  dsimp only
  split <;> split <;> omega
theorem narL_60 {d p q k : Int} : ∀ {ss : List Sh} {b : Bx}, Sub60 b → Sub60 (narL d p q k ss b)
  | [], b, h => by simpa [narL] using h
  | s :: ss, [], h => by simpa [narL] using h
  | s :: ss, x :: b, h => by
    simp only [narL]
    split
    · intro y hy
      rcases List.mem_cons.mp hy with rfl | z
      · exact met_sub (h x (by simp))
      · exact h y (by simp [z])
    · intro y hy
      rcases List.mem_cons.mp hy with rfl | z
      · exact met_sub (h x (by simp))
      · exact narL_60 h.tl y z
theorem narL_len {d p q k : Int} : ∀ (ss : List Sh) (b : Bx), (narL d p q k ss b).length = b.length
  | [], b => by simp [narL]
  | s :: ss, [] => by simp [narL]
  | s :: ss, x :: b => by
    simp only [narL]
    split <;> simp [narL_len]
/-- the wish that the marks have at a tick is the one seen -/
def fits (ss : List Sh) (ms : List Int) (t : Tk) : Bool := decide (wishM t.p t.q t.k ss ms = t.w)
structure Tok (t : Tk) : Prop where
  q : 0 < t.q * t.k
theorem nar_some {ss : List Sh} {b b' : Bx} {t : Tk} (g : Gs ss) (ht : Tok t) (hl : b.length = ss.length) (h6 : Sub60 b) (e : nar ss b t = some b') :
    b'.length = ss.length ∧ Sub60 b' ∧ ∀ ms, inB ms b' = true ↔ inB ms b = true ∧ fits ss ms t = true := by
  unfold nar at e
  split at e
  · cases e
  · rename_i hn
    cases e
    refine ⟨by rw [narL_len]; exact hl, narL_60 h6, fun ms => ?_⟩
    unfold fits
    rw [decide_eq_true_eq]
    constructor
    · intro h
      have hb := narL_sub h
      have z := (narL_wish (d := t.w - t.k) ht.q g hl h6 hb).mpr ⟨h, fun c => hn ⟨c.1, by omega⟩⟩
      exact ⟨hb, by omega⟩
    · rintro ⟨hb, hw⟩
      exact ((narL_wish (d := t.w - t.k) ht.q g hl h6 hb).mp (by omega)).1
theorem nar_none {ss : List Sh} {b : Bx} {t : Tk} (g : Gs ss) (ht : Tok t) (hl : b.length = ss.length) (h6 : Sub60 b) (e : nar ss b t = none) :
    ∀ ms, inB ms b = true → fits ss ms t = false := by
  unfold nar at e
  split at e
  · rename_i hn
    intro ms hb
    unfold fits
    rw [decide_eq_false_iff_not]
    intro hw
    exact ((narL_wish (p := t.p) (d := t.w - t.k) ht.q g hl h6 hb).mp (by omega)).2 ⟨hn.1, by omega⟩
  · cases e
theorem emp_none {b : Bx} (h : emp b = true) : ∀ ms, inB ms b = false := by
  induction b with
  | nil => simp [emp] at h
  | cons x b ih =>
    intro ms
    cases ms with
    | nil => rfl
    | cons m ms =>
      simp only [emp, List.any_cons, Bool.or_eq_true, decide_eq_true_eq] at h
      rcases h with h | h
      · simp only [inB]
        have : ¬ (x.1 ≤ m ∧ m ≤ x.2) := by omega
        by_cases h1 : x.1 ≤ m
        · have : ¬ m ≤ x.2 := by omega
          simp [this]
        · simp [h1]
      · simp only [inB, ih h ms, Bool.and_false]
/-- a box with something in it in each place -/
def Good (b : Bx) : Prop := ∀ x ∈ b, x.1 ≤ x.2
theorem good_of {b : Bx} (h : emp b = false) : Good b := by
  intro x hx
  have := List.any_eq_false.mp h x hx
  simp only [decide_eq_true_eq] at this
  omega
theorem good_emp {b : Bx} (h : Good b) : emp b = false := by
  refine List.any_eq_false.mpr fun x hx => ?_
  have := h x hx
  simp only [decide_eq_true_eq]; omega
theorem low_in : ∀ {b : Bx}, Good b → inB (b.map (·.1)) b = true
  | [], _ => rfl
  | x :: b, h => by
    have := h x (by simp)
    simp only [List.map_cons, inB, Bool.and_eq_true, decide_eq_true_eq]
    exact ⟨⟨by omega, this⟩, low_in fun y hy => h y (List.mem_cons_of_mem _ hy)⟩
theorem box_ext : ∀ {b c : Bx}, Good b → Good c → (∀ ms, inB ms b = true ↔ inB ms c = true) → b = c
  | [], [], _, _, _ => rfl
  | [], y :: c, _, hc, h => by have := (h _).mpr (low_in hc); simp [inB] at this
  | x :: b, [], hb, _, h => by have := (h _).mp (low_in hb); simp [inB] at this
  | x :: b, y :: c, hb, hc, h => by
    have hb' : Good b := fun z hz => hb z (List.mem_cons_of_mem _ hz)
    have hc' : Good c := fun z hz => hc z (List.mem_cons_of_mem _ hz)
    have hx := hb x (by simp)
    have hy := hc y (by simp)
    have lb := low_in hb'
    have lc := low_in hc'
    have k1 := (h (x.1 :: b.map (·.1))).mp (by simp only [inB, Bool.and_eq_true, decide_eq_true_eq]; exact ⟨⟨by omega, hx⟩, lb⟩)
    have k2 := (h (x.2 :: b.map (·.1))).mp (by simp only [inB, Bool.and_eq_true, decide_eq_true_eq]; exact ⟨⟨hx, by omega⟩, lb⟩)
    have k3 := (h (y.1 :: c.map (·.1))).mpr (by simp only [inB, Bool.and_eq_true, decide_eq_true_eq]; exact ⟨⟨by omega, hy⟩, lc⟩)
    have k4 := (h (y.2 :: c.map (·.1))).mpr (by simp only [inB, Bool.and_eq_true, decide_eq_true_eq]; exact ⟨⟨hy, by omega⟩, lc⟩)
    simp only [inB, Bool.and_eq_true, decide_eq_true_eq] at k1 k2 k3 k4
    have e : x = y := Prod.ext (by omega) (by omega)
    subst e
    refine congrArg _ (box_ext hb' hc' fun ms => ?_)
    have z := h (x.1 :: ms)
    simp only [inB, Bool.and_eq_true, decide_eq_true_eq] at z
    constructor
    · exact fun k => (z.mp ⟨⟨by omega, hx⟩, k⟩).2
    · exact fun k => (z.mpr ⟨⟨by omega, hx⟩, k⟩).2
theorem ror_spec {ss : List Sh} (g : Gs ss) : ∀ (ts : List Tk) (b : Bx) (i : Nat), (∀ t ∈ ts, Tok t) → b.length = ss.length → Sub60 b → Good b →
    match ror ss ts b i with
    | .inl c => c.length = ss.length ∧ Sub60 c ∧ Good c ∧ ∀ ms, inB ms c = true ↔ inB ms b = true ∧ ∀ t ∈ ts, fits ss ms t = true
    | .inr _ => ∀ ms, inB ms b = true → ¬ ∀ t ∈ ts, fits ss ms t = true
  | [], b, i, _, hl, h6, hg => by
    simp only [ror]
    exact ⟨hl, h6, hg, fun ms => by simp⟩
  | t :: ts, b, i, ht, hl, h6, hg => by
    have t1 := ht t (by simp)
    simp only [ror]
    cases e : nar ss b t with
    | none =>
      dsimp only
      intro ms hb hf
      have := nar_none g t1 hl h6 e ms hb
      rw [hf t (by simp)] at this; cases this
    | some b' =>
      obtain ⟨l1, l2, l3⟩ := nar_some g t1 hl h6 e
      dsimp only
      cases he : emp b' with
      | true =>
        rw [if_pos rfl]
        intro ms hb hf
        have := (l3 ms).mpr ⟨hb, hf t (by simp)⟩
        rw [emp_none he ms] at this; cases this
      | false =>
        rw [if_neg Bool.false_ne_true]
        have ih := ror_spec g ts b' (i + 1) (fun u hu => ht u (by simp [hu])) l1 l2 (good_of he)
        cases er : ror ss ts b' (i + 1) with
        | inl c =>
          rw [er] at ih
          obtain ⟨c1, c2, c3, c4⟩ := ih
          refine ⟨c1, c2, c3, fun ms => ?_⟩
          rw [c4, l3]
          simp only [List.mem_cons, forall_eq_or_imp]
          exact and_assoc
        | inr j =>
          rw [er] at ih
          dsimp only at ih ⊢
          intro ms hb hf
          exact ih ms ((l3 ms).mpr ⟨hb, hf t (by simp)⟩) fun u hu => hf u (by simp [hu])
theorem full_len (ss : List Sh) : (full ss).length = ss.length := by simp [full]
theorem full_60 (ss : List Sh) : Sub60 (full ss) := fun x hx => by
  rw [full, List.mem_replicate] at hx
  rw [hx.2]; decide
theorem full_good (ss : List Sh) : Good (full ss) := fun x hx => by
  rw [full, List.mem_replicate] at hx
  rw [hx.2]; decide
theorem full_in {ss : List Sh} {ms : List Int} (h : ms.length = ss.length) (h6 : ∀ m ∈ ms, 1 ≤ m ∧ m ≤ 60) : inB ms (full ss) = true := by
  unfold full
  rw [← h]
  clear h
  induction ms with
  | nil => rfl
  | cons m ms ih =>
    have := h6 m (by simp)
    simp only [List.length_cons, List.replicate_succ, inB, Bool.and_eq_true, decide_eq_true_eq]
    exact ⟨this, ih fun x hx => h6 x (by simp [hx])⟩
end P67
set_option linter.all false
namespace P67
/-! ### told back in parts -/
theorem met_full {x y : Int × Int} (h : 1 ≤ x.1 ∧ x.2 ≤ 60) : met x (met (1, 60) y) = met x y := by
  unfold met
  refine Prod.ext ?_ ?_
  · dsimp only
    split <;> split <;> (try split) <;> omega
  · dsimp only
    split <;> split <;> (try split) <;> omega
theorem met_one {x : Int × Int} (h : 1 ≤ x.1 ∧ x.2 ≤ 60) : met x (1, 60) = x := by
  unfold met
  refine Prod.ext ?_ ?_
  · dsimp only
    split <;> omega
  · dsimp only
    split <;> omega
theorem zmet_full : ∀ {b : Bx} {n : Nat}, b.length = n → Sub60 b → zmet b (List.replicate n (1, 60)) = b
  | [], n, h, _ => by cases h; rfl
  | x :: b, 0, h, _ => by simp at h
  | x :: b, n + 1, h, h6 => by
    simp only [List.replicate_succ, zmet]
    rw [met_one (h6 x (by simp)), zmet_full (by simpa using h) h6.tl]
theorem narL_zmet {d p q k : Int} : ∀ {ss : List Sh} {b : Bx}, b.length = ss.length → Sub60 b → zmet b (narL d p q k ss (full ss)) = narL d p q k ss b
  | [], [], _, _ => rfl
  | s :: ss, [], h, _ => by simp at h
  | [], x :: b, h, _ => by simp at h
  | s :: ss, x :: b, h, h6 => by
    have hx := h6 x (by simp)
    have hl : b.length = ss.length := by simpa using h
    show zmet (x :: b) (narL d p q k (s :: ss) ((1, 60) :: full ss)) = _
    simp only [narL]
    split
    · simp only [zmet]
      rw [met_full hx]
      unfold full
      rw [zmet_full hl h6.tl]
    · simp only [zmet]
      rw [met_full hx, narL_zmet hl h6.tl]
theorem zmet_emp : ∀ {b c : Bx}, b.length = c.length → emp c = true → emp (zmet b c) = true
  | [], [], _, h => h
  | x :: b, [], h, _ => by simp at h
  | [], y :: c, h, _ => by simp at h
  | x :: b, y :: c, hl, h => by
    simp only [emp, List.any_cons, zmet, Bool.or_eq_true, decide_eq_true_eq] at h ⊢
    rcases h with h | h
    · left
      unfold met
      dsimp only
      split <;> split <;> omega
    · exact .inr (zmet_emp (by simpa using hl) h)
theorem nar_zmet {ss : List Sh} {b : Bx} {t : Tk} (hl : b.length = ss.length) (h6 : Sub60 b) : nar ss b t = (nar ss (full ss) t).map (zmet b) := by
  unfold nar
  split
  · rfl
  · rw [Option.map_some, narL_zmet hl h6]
theorem lmet_eq {ss : List Sh} (g : Gs ss) : ∀ (ts : List Tk) (b : Bx) (i : Nat), (∀ t ∈ ts, Tok t) → b.length = ss.length → Sub60 b → lmet ss ts b i = ror ss ts b i
  | [], b, i, _, _, _ => rfl
  | t :: ts, b, i, ht, hl, h6 => by
    have t1 := ht t (by simp)
    simp only [lmet, ror]
    rw [nar_zmet hl h6]
    cases e : nar ss (full ss) t with
    | none => rfl
    | some a =>
      obtain ⟨l1, l2, l3⟩ := nar_some g t1 (full_len ss) (full_60 ss) e
      have e2 : nar ss b t = some (zmet b a) := by rw [nar_zmet hl h6, e]; rfl
      obtain ⟨k1, k2, k3⟩ := nar_some g t1 hl h6 e2
      dsimp only [Option.map_some]
      cases he : emp a with
      | true =>
        rw [if_pos rfl]
        dsimp only
        rw [if_pos (zmet_emp (by omega) he)]
      | false =>
        rw [if_neg Bool.false_ne_true]
        dsimp only
        split
        · rfl
        · exact lmet_eq g ts _ _ (fun u hu => ht u (by simp [hu])) k1 k2
/-! ### how many marks -/
def ivl (x : Int × Int) : List Int := (List.range (x.2 + 1 - x.1).toNat).map fun i => x.1 + (i : Nat)
theorem mem_ivl {x : Int × Int} {m : Int} : m ∈ ivl x ↔ x.1 ≤ m ∧ m ≤ x.2 := by
  unfold ivl
  rw [List.mem_map]
  constructor
  · rintro ⟨i, hi, rfl⟩
    have := List.mem_range.mp hi
    omega
  · intro h
    exact ⟨(m - x.1).toNat, List.mem_range.mpr (by omega), by omega⟩
theorem nodup_map_inj {α β : Type} {f : α → β} : ∀ {l : List α}, (∀ a ∈ l, ∀ b ∈ l, f a = f b → a = b) → l.Nodup → (l.map f).Nodup
  | [], _, _ => List.nodup_nil
  | a :: l, h, n => by
    rw [List.map_cons, List.nodup_cons]
    refine ⟨fun hm => ?_, nodup_map_inj (fun x hx y hy => h x (by simp [hx]) y (by simp [hy])) (List.nodup_cons.mp n).2⟩
    obtain ⟨b, hb, e⟩ := List.mem_map.mp hm
    have := h b (by simp [hb]) a (by simp) e
    exact (List.nodup_cons.mp n).1 (this ▸ hb)
theorem ivl_nodup (x : Int × Int) : (ivl x).Nodup := nodup_map_inj (fun a _ b _ h => by omega) List.nodup_range
theorem ivl_len (x : Int × Int) : (ivl x).length = (x.2 + 1 - x.1).toNat := by simp [ivl]
def enB : Bx → List (List Int)
  | [] => [[]]
  | x :: b => (ivl x).flatMap fun m => (enB b).map (m :: ·)
theorem mem_enB : ∀ {b : Bx} {ms : List Int}, ms ∈ enB b ↔ inB ms b = true
  | [], [] => by simp [enB, inB]
  | [], m :: ms => by simp [enB, inB]
  | x :: b, [] => by simp [enB, inB]
  | x :: b, m :: ms => by
    simp only [enB, List.mem_flatMap, List.mem_map, inB, Bool.and_eq_true, decide_eq_true_eq]
    constructor
    · rintro ⟨a, ha, c, hc, e⟩
      cases e
      exact ⟨mem_ivl.mp ha, mem_enB.mp hc⟩
    · rintro ⟨h1, h2⟩
      exact ⟨m, mem_ivl.mpr h1, ms, mem_enB.mpr h2, rfl⟩
theorem nodup_flat {l : List Int} {k : List (List Int)} (hk : k.Nodup) : l.Nodup → (l.flatMap fun m => k.map (m :: ·)).Nodup := by
  induction l with
  | nil => exact fun _ => List.nodup_nil
  | cons a l ih =>
    intro h
    rw [List.flatMap_cons, List.nodup_append]
    refine ⟨nodup_map_inj (fun x _ y _ e => by cases e; rfl) hk, ih (List.nodup_cons.mp h).2, fun x hx y hy e => ?_⟩
    subst e
    obtain ⟨c, _, rfl⟩ := List.mem_map.mp hx
    obtain ⟨d, hd, hm⟩ := List.mem_flatMap.mp hy
    obtain ⟨c', _, e⟩ := List.mem_map.mp hm
    cases e
    exact (List.nodup_cons.mp h).1 hd
theorem enB_nodup : ∀ b : Bx, (enB b).Nodup
  | [] => by simp [enB]
  | x :: b => nodup_flat (enB_nodup b) (ivl_nodup x)
theorem flat_len {l : List Int} {k : List (List Int)} : (l.flatMap fun m => k.map (m :: ·)).length = l.length * k.length := by
  induction l with
  | nil => simp
  | cons a l ih =>
    rw [List.flatMap_cons, List.length_append, ih, List.length_map, List.length_cons, Nat.succ_mul, Nat.add_comm]
theorem enB_len : ∀ {b : Bx}, Good b → ((enB b).length : Int) = wid b
  | [], _ => rfl
  | x :: b, h => by
    have hx := h x (by simp)
    simp only [enB, wid, flat_len, ivl_len]
    rw [Int.natCast_mul, enB_len fun y hy => h y (List.mem_cons_of_mem _ hy)]
    congr 1
    omega
theorem len_eq {l k : List (List Int)} (h1 : l.Nodup) (h2 : k.Nodup) (h : ∀ x, x ∈ l ↔ x ∈ k) : l.length = k.length :=
  ((List.perm_ext_iff_of_nodup h1 h2).mpr h).length_eq
theorem fit_eq {ss : List Sh} (g : Gs ss) {ts : List Tk} (ht : ∀ t ∈ ts, Tok t) : fit ss ts = (((enB (full ss)).filter fun ms => ts.all (fits ss ms)).length : Int) := by
  have z := ror_spec g ts (full ss) 0 ht (full_len ss) (full_60 ss) (full_good ss)
  unfold fit
  cases e : ror ss ts (full ss) 0 with
  | inl c =>
    rw [e] at z
    obtain ⟨c1, c2, c3, c4⟩ := z
    dsimp only
    rw [← enB_len c3]
    refine congrArg Int.ofNat (len_eq (enB_nodup c) (List.Nodup.sublist List.filter_sublist (enB_nodup _)) fun ms => ?_)
    rw [mem_enB, c4, List.mem_filter, mem_enB, List.all_eq_true]
  | inr j =>
    rw [e] at z
    dsimp only at z ⊢
    have : ((enB (full ss)).filter fun ms => ts.all (fits ss ms)) = [] := by
      rw [List.filter_eq_nil_iff]
      intro ms hm hf
      exact z ms (mem_enB.mp hm) (List.all_eq_true.mp hf)
    rw [this]; rfl
/-- the number of those that have one of several different values -/
theorem sum_parts {α : Type} {f : α → Int} {l : List α} : ∀ {ws : List Int}, ws.Nodup → (∀ a ∈ l, f a ∈ ws) → ((ws.map fun w => ((l.filter fun a => decide (f a = w)).length : Int)).sum) = (l.length : Int) := by
  induction l with
  | nil =>
    intro ws _ _
    induction ws with
    | nil => rfl
    | cons w ws ih =>
      simp only [List.filter_nil, List.length_nil, List.map_cons, List.sum_cons] at ih ⊢
      have : ∀ vs : List Int, (vs.map fun _ => ((0 : Nat) : Int)).sum = 0 := fun vs => by
        induction vs with
        | nil => rfl
        | cons v vs ih => rw [List.map_cons, List.sum_cons, ih]; rfl
      rw [this]; rfl
  | cons a l ih =>
    intro ws hn hm
    have h1 := ih hn fun b hb => hm b (by simp [hb])
    have key : ∀ (vs : List Int), vs.Nodup → ((vs.map fun w => (((a :: l).filter fun a => decide (f a = w)).length : Int)).sum) = ((vs.map fun w => ((l.filter fun a => decide (f a = w)).length : Int)).sum) + (if f a ∈ vs then 1 else 0) := by
      intro vs
      induction vs with
      | nil => intro _; rfl
      | cons w vs ih2 =>
        intro hv
        have h3 := ih2 (List.nodup_cons.mp hv).2
        simp only [List.map_cons, List.sum_cons]
        rw [h3]
        by_cases e : f a = w
        · have : f a ∉ vs := e ▸ (List.nodup_cons.mp hv).1
          rw [if_neg this, if_pos (by simp [e]), List.filter_cons_of_pos (by simp [e]), List.length_cons]
          omega
        · rw [List.filter_cons_of_neg (by simpa using e)]
          by_cases e2 : f a ∈ vs
          · rw [if_pos e2, if_pos (by simp [e2])]; omega
          · rw [if_neg e2, if_neg (by simp [e, e2])]; omega
    rw [key ws hn, h1, if_pos (hm a (by simp)), List.length_cons]
    omega
/-! ### the outcomes of a further tick -/
def outc (p q k : Int) : List Int → List Sh → Bx → List (Int × List Int)
  | pre, s :: ss, x :: b => (if (met x (app s p q k)).1 ≤ (met x (app s p q k)).2 then [(k + chg s, pre ++ (met x (app s p q k)).1 :: b.map (·.1))] else []) ++
      (if (met x (idl s p q k)).1 > (met x (idl s p q k)).2 then [] else outc p q k (pre ++ [(met x (idl s p q k)).1]) ss b)
  | pre, _, _ => [(k, pre)]
theorem outc_w {p q k : Int} : ∀ {ss : List Sh} {b : Bx} {pre : List Int} {w : Int}, w ∈ (outc p q k pre ss b).map (·.1) → w = k ∨ ∃ s ∈ ss, w = k + chg s
  | [], b, pre, w, h => by simp [outc] at h; exact .inl h
  | s :: ss, [], pre, w, h => by simp [outc] at h; exact .inl h
  | s :: ss, x :: b, pre, w, h => by
    simp only [outc, List.map_append, List.mem_append] at h
    rcases h with h | h
    · split at h
      · simp at h; exact .inr ⟨s, by simp, h⟩
      · simp at h
    · split at h
      · simp at h
      · rcases outc_w h with z | ⟨u, h1, h2⟩
        · exact .inl z
        · exact .inr ⟨u, by simp [h1], h2⟩
theorem outc_nodup {p q k : Int} : ∀ {ss : List Sh} {b : Bx} {pre : List Int}, Gs ss → ((outc p q k pre ss b).map (·.1)).Nodup
  | [], b, pre, _ => by simp [outc]
  | s :: ss, [], pre, _ => by simp [outc]
  | s :: ss, x :: b, pre, g => by
    simp only [outc, List.map_append]
    rw [List.nodup_append]
    refine ⟨?_, ?_, fun a ha c hc e => ?_⟩
    · split <;> simp
    · split
      · simp
      · exact outc_nodup g.tl
    · subst e
      split at ha
      · simp at ha
        split at hc
        · simp at hc
        · have nz := g.nz s (by simp)
          rcases outc_w hc with z | ⟨u, h1, h2⟩
          · omega
          · have : chg u = chg s := by omega
            exact (List.nodup_cons.mp g.nd).1 (this ▸ List.mem_map_of_mem h1)
      · simp at ha
theorem outc_ok {p q k : Int} (hq : 0 < q * k) : ∀ {ss : List Sh} {b : Bx} {pre : List Int}, b.length = ss.length → Sub60 b → Good b → ∀ e ∈ outc p q k pre ss b, ∃ ms, e.2 = pre ++ ms ∧ inB ms b = true ∧ wishM p q k ss ms = e.1
  | [], b, pre, hl, _, _, e, he => by
    simp [outc] at he
    subst he
    cases b with
    | nil => exact ⟨[], by simp, rfl, rfl⟩
    | cons x b => simp at hl
  | s :: ss, [], pre, hl, _, _, e, he => by simp at hl
  | s :: ss, x :: b, pre, hl, h6, hg, e, he => by
    have hx := h6 x (by simp)
    have hg' : Good b := fun y hy => hg y (List.mem_cons_of_mem _ hy)
    simp only [outc, List.mem_append] at he
    rcases he with he | he
    · split at he
      · rename_i hle
        simp at he
        subst he
        have mi := met_in.mp ⟨Int.le_refl _, hle⟩
        refine ⟨(met x (app s p q k)).1 :: b.map (·.1), rfl, ?_, ?_⟩
        · simp only [inB, Bool.and_eq_true, decide_eq_true_eq]
          exact ⟨mi.1, low_in hg'⟩
        · simp only [wishM]
          rw [if_pos ((aps_in hq (by omega) (by omega)).mpr mi.2)]
      · simp at he
    · split at he
      · simp at he
      · rename_i hle
        obtain ⟨ms, e1, e2, e3⟩ := outc_ok hq (by simpa using hl) h6.tl hg' e he
        have mi := met_in.mp ⟨Int.le_refl _, Int.not_lt.mp hle⟩
        refine ⟨(met x (idl s p q k)).1 :: ms, by rw [e1, List.append_assoc]; rfl, ?_, ?_⟩
        · simp only [inB, Bool.and_eq_true, decide_eq_true_eq]
          exact ⟨mi.1, e2⟩
        · simp only [wishM]
          rw [if_neg (by rw [(idl_in hq (by omega) (by omega)).mpr mi.2]; exact Bool.false_ne_true), e3]
theorem outc_all {p q k : Int} (hq : 0 < q * k) : ∀ {ss : List Sh} {b : Bx} {pre ms : List Int}, b.length = ss.length → Sub60 b → inB ms b = true → wishM p q k ss ms ∈ (outc p q k pre ss b).map (·.1)
  | [], b, pre, ms, hl, _, h => by simp [outc, wishM]
  | s :: ss, [], pre, ms, hl, _, h => by simp at hl
  | s :: ss, x :: b, pre, [], hl, _, h => by simp [inB] at h
  | s :: ss, x :: b, pre, m :: ms, hl, h6, h => by
    have hx := h6 x (by simp)
    simp only [inB, Bool.and_eq_true, decide_eq_true_eq] at h
    simp only [outc, List.map_append, List.mem_append, wishM]
    by_cases ha : aps s m p q k = true
    · rw [if_pos ha]
      left
      have := met_in.mpr ⟨h.1, (aps_in hq (by omega) (by omega)).mp ha⟩
      rw [if_pos (by omega)]
      simp
    · rw [if_neg ha]
      right
      have := met_in.mpr ⟨h.1, (idl_in (s := s) (p := p) hq (by omega) (by omega)).mp (by simpa using ha)⟩
      rw [if_neg (by omega)]
      exact outc_all hq (by simpa using hl) h6.tl h.2
end P67
set_option linter.all false
namespace P67
def isf (ss : List Sh) (ts : List Tk) (ms : List Int) : Bool := match ror ss ts (full ss) 0 with
  | .inl b => inB ms b
  | .inr _ => false
theorem isf_eq {ss : List Sh} (g : Gs ss) {ts : List Tk} (ht : ∀ t ∈ ts, Tok t) {ms : List Int} (h : inB ms (full ss) = true) : isf ss ts ms = ts.all (fits ss ms) := by
  have z := ror_spec g ts (full ss) 0 ht (full_len ss) (full_60 ss) (full_good ss)
  unfold isf
  cases e : ror ss ts (full ss) 0 with
  | inl c =>
    rw [e] at z
    obtain ⟨c1, c2, c3, c4⟩ := z
    dsimp only
    rw [Bool.eq_iff_iff, c4, List.all_eq_true]
    exact ⟨fun z => z.2, fun z => ⟨h, z⟩⟩
  | inr j =>
    rw [e] at z
    dsimp only at z ⊢
    have := z ms h
    rw [Eq.comm, Bool.eq_false_iff]
    exact fun hf => this (List.all_eq_true.mp hf)
theorem isf_alone {ss : List Sh} (g : Gs ss) {ts : List Tk} (ht : ∀ t ∈ ts, Tok t) {ms : List Int} (h : inB ms (full ss) = true) : isf ss ts ms = (ts.map fun t => isf ss [t] ms).all id := by
  rw [isf_eq g ht h, List.all_map]
  rw [Bool.eq_iff_iff, List.all_eq_true, List.all_eq_true]
  constructor
  · intro z t ht'
    show isf ss [t] ms = true
    rw [isf_eq g (fun u hu => by rw [List.mem_singleton.mp hu]; exact ht t ht') h]
    simp [z t ht']
  · intro z t ht'
    have := z t ht'
    have : isf ss [t] ms = true := this
    rw [isf_eq g (fun u hu => by rw [List.mem_singleton.mp hu]; exact ht t ht') h] at this
    simpa using this
theorem ror_same {ss : List Sh} (g : Gs ss) {ts us : List Tk} (ht : ∀ t ∈ ts, Tok t) (h : ∀ t, t ∈ us ↔ t ∈ ts) :
    (∃ b, ror ss ts (full ss) 0 = .inl b ∧ ror ss us (full ss) 0 = .inl b) ∨ (∃ i j, ror ss ts (full ss) 0 = .inr i ∧ ror ss us (full ss) 0 = .inr j) := by
  have hu : ∀ t ∈ us, Tok t := fun t hu => ht t ((h t).mp hu)
  have z1 := ror_spec g ts (full ss) 0 ht (full_len ss) (full_60 ss) (full_good ss)
  have z2 := ror_spec g us (full ss) 0 hu (full_len ss) (full_60 ss) (full_good ss)
  have ha : ∀ ms, (∀ t ∈ us, fits ss ms t = true) ↔ ∀ t ∈ ts, fits ss ms t = true := fun ms => ⟨fun z t ht => z t ((h t).mpr ht), fun z t ht => z t ((h t).mp ht)⟩
  cases e1 : ror ss ts (full ss) 0 with
  | inl b =>
    rw [e1] at z1
    obtain ⟨b1, b2, b3, b4⟩ := z1
    cases e2 : ror ss us (full ss) 0 with
    | inl c =>
      rw [e2] at z2
      obtain ⟨c1, c2, c3, c4⟩ := z2
      have : b = c := box_ext b3 c3 fun ms => by rw [b4, c4, ha]
      exact .inl ⟨b, rfl, by rw [this]⟩
    | inr j =>
      rw [e2] at z2
      have := (b4 _).mp (low_in b3)
      exact absurd ((ha _).mpr this.2) (z2 _ this.1)
  | inr i =>
    rw [e1] at z1
    cases e2 : ror ss us (full ss) 0 with
    | inl c =>
      rw [e2] at z2
      obtain ⟨c1, c2, c3, c4⟩ := z2
      have := (c4 _).mp (low_in c3)
      exact absurd ((ha _).mp this.2) (z1 _ this.1)
    | inr j => exact .inr ⟨i, j, rfl, rfl⟩
theorem fit_same {ss : List Sh} (g : Gs ss) {ts us : List Tk} (ht : ∀ t ∈ ts, Tok t) (h : ∀ t, t ∈ us ↔ t ∈ ts) : fit ss us = fit ss ts := by
  unfold fit
  rcases ror_same g ht h with ⟨b, e1, e2⟩ | ⟨i, j, e1, e2⟩ <;> rw [e1, e2]
/-- the wishes that there can be -/
structure Wok (ss : List Sh) (k : Int) (ws : List Int) : Prop where
  nd : ws.Nodup
  kk : k ∈ ws
  s : ∀ s ∈ ss, k + chg s ∈ ws
section
variable {ss : List Sh} (g : Gs ss) {ts : List Tk} (ht : ∀ t ∈ ts, Tok t) {p q k : Int} (hq : 0 < q * k)
include g ht hq
theorem tok_add {w : Int} : ∀ t ∈ ts ++ [⟨p, q, k, w⟩], Tok t := fun t h => by
  rcases List.mem_append.mp h with z | z
  · exact ht t z
  · rw [List.mem_singleton.mp z]; exact ⟨hq⟩
theorem parts_sum {ws : List Int} (hw : Wok ss k ws) : (ws.map fun w => fit ss (ts ++ [⟨p, q, k, w⟩])).sum = fit ss ts := by
  rw [fit_eq g ht, ← sum_parts (f := fun ms => wishM p q k ss ms) hw.nd (fun ms _ => ?_)]
  · congr 1
    refine List.map_congr_left fun w _ => ?_
    rw [fit_eq g (tok_add (p := p) g ht hq), List.filter_filter]
    congr 2
    refine List.filter_congr fun ms _ => ?_
    rw [List.all_append, Bool.and_comm]
    simp [fits]
  · rcases wishM_mem (p := p) (q := q) (k := k) ss ms with e | ⟨s, h1, e⟩ <;> rw [e]
    · exact hw.kk
    · exact hw.s s h1
variable {b : Bx} (hb : ror ss ts (full ss) 0 = .inl b)
include hb
theorem box_facts : b.length = ss.length ∧ Sub60 b ∧ Good b ∧ ∀ ms, inB ms b = true ↔ inB ms (full ss) = true ∧ ∀ t ∈ ts, fits ss ms t = true := by
  have z := ror_spec g ts (full ss) 0 ht (full_len ss) (full_60 ss) (full_good ss)
  rw [hb] at z
  exact z
theorem fit_pos {w : Int} : 0 < fit ss (ts ++ [⟨p, q, k, w⟩]) ↔ w ∈ (outc p q k [] ss b).map (·.1) := by
  obtain ⟨b1, b2, b3, b4⟩ := box_facts g ht hq hb
  rw [fit_eq g (tok_add (p := p) g ht hq)]
  constructor
  · intro h
    obtain ⟨ms, hm⟩ := List.exists_mem_of_length_pos (by omega : 0 < ((enB (full ss)).filter fun ms => (ts ++ [(⟨p, q, k, w⟩ : Tk)]).all (fits ss ms)).length)
    rw [List.mem_filter, mem_enB, List.all_append, Bool.and_eq_true, List.all_eq_true] at hm
    have hi := (b4 ms).mpr ⟨hm.1, hm.2.1⟩
    have e : wishM p q k ss ms = w := by have := hm.2.2; simpa [fits] using this
    rw [← e]
    exact outc_all hq b1 b2 hi
  · intro h
    obtain ⟨e, he, rfl⟩ := List.mem_map.mp h
    obtain ⟨ms, e1, e2, e3⟩ := outc_ok hq b1 b2 b3 e he
    have hi := (b4 ms).mp e2
    have : ms ∈ ((enB (full ss)).filter fun ms => (ts ++ [(⟨p, q, k, e.1⟩ : Tk)]).all (fits ss ms)) := by
      rw [List.mem_filter, mem_enB, List.all_append, Bool.and_eq_true, List.all_eq_true]
      exact ⟨hi.1, hi.2, by simp only [List.all_cons, List.all_nil, Bool.and_true]; exact decide_eq_true e3⟩
    have := List.length_pos_of_mem this
    omega
theorem isf_out {e : Int × List Int} (he : e ∈ outc p q k [] ss b) (w : Int) : isf ss (ts ++ [⟨p, q, k, w⟩]) e.2 = decide (e.1 = w) := by
  obtain ⟨b1, b2, b3, b4⟩ := box_facts g ht hq hb
  obtain ⟨ms, e1, e2, e3⟩ := outc_ok hq b1 b2 b3 e he
  rw [List.nil_append] at e1
  subst e1
  have hi := (b4 _).mp e2
  rw [isf_eq g (tok_add (p := p) g ht hq) hi.1, List.all_append, List.all_eq_true.mpr hi.2, Bool.true_and]
  simp [fits, e3]
theorem out_wish {e : Int × List Int} (he : e ∈ outc p q k [] ss b) : wishM p q k ss e.2 = e.1 ∧ inB e.2 b = true ∧ e.2.length = ss.length ∧ ∀ m ∈ e.2, 1 ≤ m ∧ m ≤ 60 := by
  obtain ⟨b1, b2, b3, b4⟩ := box_facts g ht hq hb
  obtain ⟨ms, e1, e2, e3⟩ := outc_ok hq b1 b2 b3 e he
  rw [List.nil_append] at e1
  subst e1
  refine ⟨e3, e2, by rw [inB_len e2, b1], ?_⟩
  clear e3 he b4 b3 b1 hb
  generalize e.2 = ms at e2
  clear e
  induction ms generalizing b with
  | nil => intro m hm; cases hm
  | cons m ms ih =>
    cases b with
    | nil => simp [inB] at e2
    | cons x b =>
      simp only [inB, Bool.and_eq_true, decide_eq_true_eq] at e2
      have hx := b2 x (by simp)
      intro c hc
      rcases List.mem_cons.mp hc with rfl | z
      · omega
      · exact ih b2.tl e2.2 c z
theorem out_ne : outc p q k [] ss b ≠ [] := by
  obtain ⟨b1, b2, b3, b4⟩ := box_facts g ht hq hb
  intro h
  have := outc_all (p := p) (pre := []) hq b1 b2 (low_in b3)
  rw [h] at this
  cases this
theorem sure_same {e : Int × List Int} (he : outc p q k [] ss b = [e]) : ror ss (ts ++ [⟨p, q, k, e.1⟩]) (full ss) 0 = .inl b := by
  obtain ⟨b1, b2, b3, b4⟩ := box_facts g ht hq hb
  have all : ∀ ms, inB ms b = true → wishM p q k ss ms = e.1 := fun ms h => by
    have := outc_all (p := p) (pre := []) hq b1 b2 h
    rw [he] at this
    simpa using this
  have z := ror_spec g (ts ++ [⟨p, q, k, e.1⟩]) (full ss) 0 (tok_add (p := p) g ht hq) (full_len ss) (full_60 ss) (full_good ss)
  have key : ∀ ms, (∀ t ∈ ts ++ [⟨p, q, k, e.1⟩], fits ss ms t = true) ↔ (∀ t ∈ ts, fits ss ms t = true) ∧ wishM p q k ss ms = e.1 := fun ms => by
    simp only [List.mem_append, List.mem_singleton]
    constructor
    · exact fun z => ⟨fun t ht => z t (.inl ht), by have := z _ (.inr rfl); simpa [fits] using this⟩
    · rintro ⟨z1, z2⟩ t (h | rfl)
      · exact z1 t h
      · simp [fits, z2]
  cases er : ror ss (ts ++ [⟨p, q, k, e.1⟩]) (full ss) 0 with
  | inl c =>
    rw [er] at z
    obtain ⟨c1, c2, c3, c4⟩ := z
    have : c = b := box_ext c3 b3 fun ms => by
      rw [c4, key, b4]
      constructor
      · exact fun z => ⟨z.1, z.2.1⟩
      · exact fun z => ⟨z.1, z.2, all ms ((b4 ms).mpr z)⟩
    rw [this]
  | inr j =>
    rw [er] at z
    have hi := (b4 _).mp (low_in b3)
    exact absurd ((key _).mpr ⟨hi.2, all _ (low_in b3)⟩) (z _ hi.1)
end
theorem fit_none {ss : List Sh} {ts : List Tk} {i : Nat} (h : ror ss ts (full ss) 0 = .inr i) : fit ss ts = 0 := by
  unfold fit; rw [h]
theorem wid_pos : ∀ {b : Bx}, Good b → 0 < wid b
  | [], _ => by decide
  | x :: b, h => by
    have := h x (by simp)
    have := wid_pos fun y hy => h y (List.mem_cons_of_mem _ hy)
    exact Int.mul_pos (by omega) this
end P67


namespace K67
open PySem PySem.Spec PyProof.Rows L2 Tv

def T_SIZES : Tab := [("over", .int 3), ("under", .int 3), ("aim", .int 4)]

structure GL where
  l__law_met : LamI
  l__law_ranges_right : LamI
  l__law_parted_right : LamI
structure GK (g : G) (L : GL) : Prop where
  gd : Gd g
  told : Told g 7 "_law_told" "NoMarks" "at" "told" "none"
  a_8_r_bounds : ∀ i ∈ ([8] : List Nat), Cls g.K (g.cl i) ∧ NoAttr g.K (g.cl i) "r_bounds"
  s_8_r_bounds : Cls g.K (g.cl 8) ∧ NoAttr g.K (g.cl 8) "r_bounds"
  a_8_r_limits : ∀ i ∈ ([8] : List Nat), Cls g.K (g.cl i) ∧ NoAttr g.K (g.cl i) "r_limits"
  s_8_r_limits : Cls g.K (g.cl 8) ∧ NoAttr g.K (g.cl 8) "r_limits"
  a_8_r_parts : ∀ i ∈ ([8] : List Nat), Cls g.K (g.cl i) ∧ NoAttr g.K (g.cl i) "r_parts"
  s_8_r_parts : Cls g.K (g.cl 8) ∧ NoAttr g.K (g.cl 8) "r_parts"
  i_HIGHEST_MARK : ∃ t, g.mg "HIGHEST_MARK" = some (.int 60 t)
  i_LONGEST_WINDOW : ∃ t, g.mg "LONGEST_WINDOW" = some (.int 3 t)
  i_MOST_MARK : ∃ t, g.mg "MOST_MARK" = some (.int 60 t)
  i_MOST_PARTS : ∃ t, g.mg "MOST_PARTS" = some (.int 4 t)
  i_MOST_SERVERS_marks : ∃ t, g.mg "MOST_SERVERS_marks" = some (.int 8 t)
  i_MOST_SERVERS_rules : ∃ t, g.mg "MOST_SERVERS_rules" = some (.int 8 t)
  i_MOST_SHAPES : ∃ t, g.mg "MOST_SHAPES" = some (.int 4 t)
  x_NoMarks : Xc g 1 7 "NoMarks" "at"
  t_SIZES : HTab g "SIZES" T_SIZES
  d_is_integer : DefAt g "is_integer" "is_integer" (defArgs (top 10)) (defBody (top 10)) (defScope (top 10))
  d_divisor : DefAt g "divisor" "divisor" (defArgs (top 11)) (defBody (top 11)) (defScope (top 11))
  d_is_load : DefAt g "is_load" "is_load" (defArgs (top 12)) (defBody (top 12)) (defScope (top 12))
  d_need_load : DefAt g "need_load" "need_load" (defArgs (top 13)) (defBody (top 13)) (defScope (top 13))
  d_is_shape : DefAt g "is_shape" "is_shape" (defArgs (top 18)) (defBody (top 18)) (defScope (top 18))
  d_need_shapes : DefAt g "need_shapes" "need_shapes" (defArgs (top 19)) (defBody (top 19)) (defScope (top 19))
  d_is_seen : DefAt g "is_seen" "is_seen" (defArgs (top 20)) (defBody (top 20)) (defScope (top 20))
  d_need_seen : DefAt g "need_seen" "need_seen" (defArgs (top 21)) (defBody (top 21)) (defScope (top 21))
  d_greatest_applying : DefAt g "greatest_applying" "greatest_applying" (defArgs (top 22)) (defBody (top 22)) (defScope (top 22))
  d_least_applying : DefAt g "least_applying" "least_applying" (defArgs (top 23)) (defBody (top 23)) (defScope (top 23))
  d_applying : DefAt g "applying" "applying" (defArgs (top 24)) (defBody (top 24)) (defScope (top 24))
  d_idle : DefAt g "idle" "idle" (defArgs (top 25)) (defBody (top 25)) (defScope (top 25))
  d_change_of : DefAt g "change_of" "change_of" (defArgs (top 26)) (defBody (top 26)) (defScope (top 26))
  d_met : DefAt g "met" "met" (defArgs (top 27)) (defBody (top 27)) (defScope (top 27))
  d_narrowed : DefAt g "narrowed" "narrowed" (defArgs (top 28)) (defBody (top 28)) (defScope (top 28))
  d_ranges_or_tick : DefAt g "ranges_or_tick" "ranges_or_tick" (defArgs (top 29)) (defBody (top 29)) (defScope (top 29))
  d_needed_ranges : DefAt g "needed_ranges" "needed_ranges" (defArgs (top 30)) (defBody (top 30)) (defScope (top 30))
  d_ranges : DefAt g "ranges" "ranges" (defArgs (top 31)) (defBody (top 31)) (defScope (top 31))
  d_fitting : DefAt g "fitting" "fitting" (defArgs (top 32)) (defBody (top 32)) (defScope (top 32))
  d_is_fitting : DefAt g "is_fitting" "is_fitting" (defArgs (top 33)) (defBody (top 33)) (defScope (top 33))
  d_outcomes : DefAt g "outcomes" "outcomes" (defArgs (top 34)) (defBody (top 34)) (defScope (top 34))
  d_sure : DefAt g "sure" "sure" (defArgs (top 35)) (defBody (top 35)) (defScope (top 35))
  d_is_between : DefAt g "is_between" "is_between" (defArgs (top 42)) (defBody (top 42)) (defScope (top 42))
  d_is_part : DefAt g "is_part" "is_part" (defArgs (top 43)) (defBody (top 43)) (defScope (top 43))
  d_are_parts : DefAt g "are_parts" "are_parts" (defArgs (top 44)) (defBody (top 44)) (defScope (top 44))
  d_is_limit : DefAt g "is_limit" "is_limit" (defArgs (top 45)) (defBody (top 45)) (defScope (top 45))
  d_need_limits : DefAt g "need_limits" "need_limits" (defArgs (top 46)) (defBody (top 46)) (defScope (top 46))
  d_raised : DefAt g "raised" "raised" (defArgs (top 47)) (defBody (top 47)) (defScope (top 47))
  d_is_below_times : DefAt g "is_below_times" "is_below_times" (defArgs (top 49)) (defBody (top 49)) (defScope (top 49))
  d_is_above_times : DefAt g "is_above_times" "is_above_times" (defArgs (top 50)) (defBody (top 50)) (defScope (top 50))
  d_wish_of : DefAt g "wish_of" "wish_of" (defArgs (top 51)) (defBody (top 51)) (defScope (top 51))
  d_first_wish : DefAt g "first_wish" "first_wish" (defArgs (top 52)) (defBody (top 52)) (defScope (top 52))
  d_wish : DefAt g "wish" "wish" (defArgs (top 53)) (defBody (top 53)) (defScope (top 53))
  d__law_begin : DefAt g "_law_begin" "_law_begin" (defArgs (top 55)) (defBody (top 55)) (defScope (top 55))
  d__law_take : DefAt g "_law_take" "_law_take" (defArgs (top 56)) (defBody (top 56)) (defScope (top 56))
  d__law_pick : DefAt g "_law_pick" "_law_pick" (defArgs (top 57)) (defBody (top 57)) (defScope (top 57))
  d__law_fraction : DefAt g "_law_fraction" "_law_fraction" (defArgs (top 58)) (defBody (top 58)) (defScope (top 58))
  d__law_shapes : DefAt g "_law_shapes" "_law_shapes" (defArgs (top 59)) (defBody (top 59)) (defScope (top 59))
  d__law_made : DefAt g "_law_made" "_law_made" (defArgs (top 60)) (defBody (top 60)) (defScope (top 60))
  d__law_ticks : DefAt g "_law_ticks" "_law_ticks" (defArgs (top 61)) (defBody (top 61)) (defScope (top 61))
  d__law_far : DefAt g "_law_far" "_law_far" (defArgs (top 62)) (defBody (top 62)) (defScope (top 62))
  d__law_bent : DefAt g "_law_bent" "_law_bent" (defArgs (top 63)) (defBody (top 63)) (defScope (top 63))
  d__law_told : DefAt g "_law_told" "_law_told" (defArgs (top 64)) (defBody (top 64)) (defScope (top 64))
  d__law_met : DefAtL g "_law_met" "_law_met" (defArgs (top 65)) (defBody (top 65)) (defScope (top 65)) L.l__law_met
  d__law_many : DefAt g "_law_many" "_law_many" (defArgs (top 66)) (defBody (top 66)) (defScope (top 66))
  d__law_mixed : DefAt g "_law_mixed" "_law_mixed" (defArgs (top 67)) (defBody (top 67)) (defScope (top 67))
  d__law_ranges_right : DefAtL g "_law_ranges_right" "_law_ranges_right" (defArgs (top 68)) (defBody (top 68)) (defScope (top 68)) L.l__law_ranges_right
  d__law_wishes : DefAt g "_law_wishes" "_law_wishes" (defArgs (top 69)) (defBody (top 69)) (defScope (top 69))
  d__law_parted_right : DefAtL g "_law_parted_right" "_law_parted_right" (defArgs (top 70)) (defBody (top 70)) (defScope (top 70)) L.l__law_parted_right
  d_law : DefAt g "law" "law" (defArgs (top 71)) (defBody (top 71)) (defScope (top 71))
  mk_Rule : ∃ f fd, g.mg "Rule" = some (.ref (g.cl 8)) ∧ Mk g.K (g.cl 8) f ∧ FunD g.K "__init__" "Rule.__init__" (defArgs (inClass (top 48) 0)) (defBody (inClass (top 48) 0)) (defScope (inClass (top 48) 0)) [] [("least", .int 1), ("most", .int 8), ("rise", .non), ("fall", .non), ("up", .int 1), ("down", .int 1)] f fd
  p_parts : ∃ p fa, PropOf g.K (g.cl 8) "parts" p fa ∧ FnAt g fa "parts" "Rule.parts" (defArgs (inClass (top 48) 1)) (defBody (inClass (top 48) 1)) (defScope (inClass (top 48) 1))
theorem Bg_at {g : G} {L : GL} (H : GK g L) : BgAt g := BgAt.of H.gd H.d__law_begin rfl rfl (fun _ _ _ _ _ _ us hl => match us, hl with | [_], _ => rfl)
def N_is_integer : List Str := ["thing"]
noncomputable def f_is_integer : S → Out Fl := fRet (vAnd (fIsi (fB (fVar 0)) .int) (vNot (fIsi (fB (fVar 0)) .bool)))
theorem w_is_integer {g : G} {L : GL} (H : GK g L) : SSs ⟨g, N_is_integer, defScope (top 10), 0, fun _ => true, none⟩ (defBody (top 10)) f_is_integer := by
  unfold f_is_integer
  exact SSs.one (SS.ret (SE.and (SE.isi .int H.gd.isinstance H.gd.int ((SE.var 0).b)) (SE.one (SE.not (SE.isi .bool H.gd.isinstance H.gd.bool ((SE.var 0).b))))))
theorem c_is_integer : FnScope N_is_integer ["thing"] (defScope (top 10)) := C8.fnScope_by (by decide)
noncomputable def φ_is_integer : Phi := phi N_is_integer f_is_integer
theorem F_is_integer {g : G} {L : GL} (H : GK g L) : Fg g 1 "is_integer" 1 φ_is_integer := Fg.of (qual := "is_integer") (H.d_is_integer) (w_is_integer H) c_is_integer (fun _ _ _ _ _ _ us hl => match us, hl with | [_], _ => rfl)
def N_divisor : List Str := ["one", "other"]
noncomputable def f_divisor : S → Out Fl := fSeq (fWh (asT (fBin opGt (fB (fVar 1)) (fB (fK (.int 0))))) (fPar 0 1 (fVar 1) (fBin opMod (fB (fVar 0)) (fB (fVar 1))))) (fRet (fVar 0))
theorem w_divisor {g : G} {L : GL} (H : GK g L) : SSs ⟨g, N_divisor, defScope (top 11), 0, fun _ => true, none⟩ (defBody (top 11)) f_divisor := by
  unfold f_divisor
  exact SSs.cons (SS.whS (STs.gt ((SE.var 1).b) ((SE.int).b)) (SSs.one (SS.par (i := 0) (j := 1) (SE.var 1) (SE.mod ((SE.var 0).b) ((SE.var 1).b))))) (SSs.one (SS.ret (SE.var 0)))
theorem c_divisor : FnScope N_divisor ["one", "other"] (defScope (top 11)) := C8.fnScope_by (by decide)
noncomputable def φ_divisor : Phi := phi N_divisor f_divisor
theorem F_divisor {g : G} {L : GL} (H : GK g L) : Fg g 1 "divisor" 2 φ_divisor := Fg.of (qual := "divisor") (H.d_divisor) (w_divisor H) c_divisor (fun _ _ _ _ _ _ us hl => match us, hl with | [_, _], _ => rfl)
def N_is_load : List Str := ["thing", "part"]
noncomputable def f_is_load : S → Out Fl := fSeq (fIf (tOrF (tNotF (asT (fIsi (fB (fVar 0)) .tuple))) (tOrF (asT (fBin (opEq true) (fB (fCall opLen (aCons (fB (fVar 0)) (aNil)))) (fB (fK (.int 2))))) (tNotF (asT (fCall opAll (aCons (fB (fLc (itS (fV (fVar 0))) [1] (gNm 1) (tYesF) (fV (fDef 1 φ_is_integer (aCons (fV (fVar 1)) (aNil)))))) (aNil))))))) (fRet (fK (.bl false))) (fNil)) (fRet (vAnd (fBin opGe (fB (fBin opIx (fB (fVar 0)) (fB (fK (.int 0))))) (fB (fK (.int 0)))) (vAnd (fBin opGe (fB (fBin opIx (fB (fVar 0)) (fB (fK (.int 1))))) (fB (fK (.int 1)))) (fBin (opEq false) (fB (fDef 2 φ_divisor (aCons (fV (fBin opIx (fB (fVar 0)) (fB (fK (.int 0))))) (aCons (fV (fBin opIx (fB (fVar 0)) (fB (fK (.int 1))))) (aNil))))) (fB (fK (.int 1)))))))
theorem w_is_load {g : G} {L : GL} (H : GK g L) : SSs ⟨g, N_is_load, defScope (top 12), 1, fun _ => true, none⟩ (defBody (top 12)) f_is_load := by
  unfold f_is_load
  exact SSs.cons (SS.ifS ((SWs.or (STs.not (STs.val (SE.isi .tuple H.gd.isinstance H.gd.tuple ((SE.var 0).b)))) (SWs.or (STs.ne ((SE.c_len H.gd (SAb.cons ((SE.var 0).b) (SAb.nil))).b) ((SE.int).b)) (SWs.or1 (STs.not (STs.val (SE.c_all H.gd (SAb.cons ((SE.lc (SI.seq ((SE.var 0).v)) (blkOk_by (own := [("part", 1)]) rfl) (SG.nm 1) (SIf.nil) ((SE.call (F_is_integer H) (SA.cons ((SE.var 1).v) (SA.nil))).v)).b) (SAb.nil)))))))).t) (SSs.one (SS.ret (SE.bl))) (SSs.nil)) (SSs.one (SS.ret (SE.and (SE.ge ((SE.ix ((SE.var 0).b) ((SE.int).b)).b) ((SE.int).b)) (SE.and (SE.ge ((SE.ix ((SE.var 0).b) ((SE.int).b)).b) ((SE.int).b)) (SE.one (SE.eq ((SE.call (F_divisor H) (SA.cons ((SE.ix ((SE.var 0).b) ((SE.int).b)).v) (SA.cons ((SE.ix ((SE.var 0).b) ((SE.int).b)).v) (SA.nil)))).b) ((SE.int).b)))))))
theorem c_is_load : FnScope N_is_load ["thing"] (defScope (top 12)) := C8.fnScope_by (by decide)
noncomputable def φ_is_load : Phi := phi N_is_load f_is_load
theorem F_is_load {g : G} {L : GL} (H : GK g L) : Fg g 2 "is_load" 1 φ_is_load := Fg.of (qual := "is_load") (H.d_is_load) (w_is_load H) c_is_load (fun _ _ _ _ _ _ us hl => match us, hl with | [_], _ => rfl)
def N_need_load : List Str := ["thing"]
noncomputable def f_need_load : S → Out Fl := fIf (tNotF (asT (fDef 1 φ_is_load (aCons (fV (fVar 0)) (aNil))))) (fBad) (fNil)
theorem w_need_load {g : G} {L : GL} (H : GK g L) : SSs ⟨g, N_need_load, defScope (top 13), 2, fun _ => true, none⟩ (defBody (top 13)) f_need_load := by
  unfold f_need_load
  exact SSs.one (SS.ifS (STs.not (STs.val (SE.call (F_is_load H) (SA.cons ((SE.var 0).v) (SA.nil))))) (SSs.one (SS.bad)) (SSs.nil))
theorem c_need_load : FnScope N_need_load ["thing"] (defScope (top 13)) := C8.fnScope_by (by decide)
noncomputable def φ_need_load : Phi := phi N_need_load f_need_load
theorem F_need_load {g : G} {L : GL} (H : GK g L) : Fg g 3 "need_load" 1 φ_need_load := Fg.of (qual := "need_load") (H.d_need_load) (w_need_load H) c_need_load (fun _ _ _ _ _ _ us hl => match us, hl with | [_], _ => rfl)
def N_is_shape : List Str := ["thing"]
noncomputable def f_is_shape : S → Out Fl := fSeq (fIf (tOrF (tNotF (asT (fIsi (fB (fVar 0)) .tuple))) (tOrF (asT (fBin (opEq true) (fB (fCall opLen (aCons (fB (fVar 0)) (aNil)))) (fB (fK (.int 2))))) (tNotF (asT (fIsi (fB (fBin opIx (fB (fVar 0)) (fB (fK (.int 0))))) .str))))) (fRet (fK (.bl false))) (fNil)) (fRet (vAnd (fBin (opIn false) (fB (fBin opIx (fB (fVar 0)) (fB (fK (.int 0))))) (fB (fTup (aCons (fV (fK (.str "over"))) (aCons (fV (fK (.str "under"))) (aNil)))))) (vAnd (fDef 1 φ_is_integer (aCons (fV (fBin opIx (fB (fVar 0)) (fB (fK (.int 1))))) (aNil))) (fChain opLe opLe (fB (fK (.int 1))) (fB (fBin opIx (fB (fVar 0)) (fB (fK (.int 1))))) (fB (fK (.int 8)))))))
theorem w_is_shape {g : G} {L : GL} (H : GK g L) : SSs ⟨g, N_is_shape, defScope (top 18), 1, fun _ => true, none⟩ (defBody (top 18)) f_is_shape := by
  unfold f_is_shape
  exact SSs.cons (SS.ifS ((SWs.or (STs.not (STs.val (SE.isi .tuple H.gd.isinstance H.gd.tuple ((SE.var 0).b)))) (SWs.or (STs.ne ((SE.c_len H.gd (SAb.cons ((SE.var 0).b) (SAb.nil))).b) ((SE.int).b)) (SWs.or1 (STs.not (STs.val (SE.isi .str H.gd.isinstance H.gd.str ((SE.ix ((SE.var 0).b) ((SE.int).b)).b))))))).t) (SSs.one (SS.ret (SE.bl))) (SSs.nil)) (SSs.one (SS.ret (SE.and (SE.isIn ((SE.ix ((SE.var 0).b) ((SE.int).b)).b) ((SE.tup (SA.cons ((SE.str).v) (SA.cons ((SE.str).v) (SA.nil)))).b) (by with_unfolding_all rfl)) (SE.and (SE.call (F_is_integer H) (SA.cons ((SE.ix ((SE.var 0).b) ((SE.int).b)).v) (SA.nil))) (SE.one (SE.chain (fun r ok => op_le) (Op2.cmp _) (fun r ok => op_le) (Op2.cmp _) ((SE.int).b) ((SE.ix ((SE.var 0).b) ((SE.int).b)).b) ((SE.gint H.i_MOST_SERVERS_marks).b)))))))
theorem c_is_shape : FnScope N_is_shape ["thing"] (defScope (top 18)) := C8.fnScope_by (by decide)
noncomputable def φ_is_shape : Phi := phi N_is_shape f_is_shape
theorem F_is_shape {g : G} {L : GL} (H : GK g L) : Fg g 2 "is_shape" 1 φ_is_shape := Fg.of (qual := "is_shape") (H.d_is_shape) (w_is_shape H) c_is_shape (fun _ _ _ _ _ _ us hl => match us, hl with | [_], _ => rfl)
def N_need_shapes : List Str := ["shapes", "at", "shape"]
noncomputable def f_need_shapes : S → Out Fl := fSeq (fIf (tOrF (tNotF (asT (fIsi2 (fB (fVar 0)) .list .tuple))) (asT (fBin (opEq false) (fB (fCall opLen (aCons (fB (fVar 0)) (aNil)))) (fB (fK (.int 0)))))) (fBad) (fNil)) (fFor (itE (fV (fVar 0))) (gTp 2 (gCn (gNm 1) (gCn (gNm 2) (gNl)))) (fIf (tOrF (asT (fBin (opEq false) (fB (fVar 1)) (fB (fK (.int 4))))) (tOrF (tNotF (asT (fDef 1 φ_is_shape (aCons (fV (fVar 2)) (aNil))))) (asT (fBin (opIn false) (fB (fVar 2)) (fB (fSl (fB (fVar 0)) (oNone) (oInt (fVar 1)))))))) (fBad) (fNil)))
theorem w_need_shapes {g : G} {L : GL} (H : GK g L) : SSs ⟨g, N_need_shapes, defScope (top 19), 2, fun _ => true, none⟩ (defBody (top 19)) f_need_shapes := by
  unfold f_need_shapes
  exact SSs.cons (SS.ifS ((SWs.or (STs.not (STs.val (SE.isi2 .list .tuple H.gd.isinstance H.gd.list H.gd.tuple ((SE.var 0).b)))) (SWs.or1 (STs.eq ((SE.c_len H.gd (SAb.cons ((SE.var 0).b) (SAb.nil))).b) ((SE.int).b)))).t) (SSs.one (SS.bad)) (SSs.nil)) (SSs.one (SS.forS (SI.enum H.gd.enumerate ((SE.var 0).v)) (SG.tp (SGs.cons (SG.nm 1) (SGs.cons (SG.nm 2) (SGs.nil)))) (SSs.one (SS.ifS ((SWs.or (STs.eq ((SE.var 1).b) ((SE.gint H.i_MOST_SHAPES).b)) (SWs.or (STs.not (STs.val (SE.call (F_is_shape H) (SA.cons ((SE.var 2).v) (SA.nil))))) (SWs.or1 (STs.isIn ((SE.var 2).b) ((SE.sl ((SE.var 0).b) (SO.none) (SO.int (SE.var 1))).b) (by with_unfolding_all rfl))))).t) (SSs.one (SS.bad)) (SSs.nil)))))
theorem c_need_shapes : FnScope N_need_shapes ["shapes"] (defScope (top 19)) := C8.fnScope_by (by decide)
noncomputable def φ_need_shapes : Phi := phi N_need_shapes f_need_shapes
theorem F_need_shapes {g : G} {L : GL} (H : GK g L) : Fg g 3 "need_shapes" 1 φ_need_shapes := Fg.of (qual := "need_shapes") (H.d_need_shapes) (w_need_shapes H) c_need_shapes (fun _ _ _ _ _ _ us hl => match us, hl with | [_], _ => rfl)
def N_is_seen : List Str := ["thing"]
noncomputable def f_is_seen : S → Out Fl := fSeq (fIf (tOrF (tNotF (asT (fIsi (fB (fVar 0)) .tuple))) (tOrF (asT (fBin (opEq true) (fB (fCall opLen (aCons (fB (fVar 0)) (aNil)))) (fB (fK (.int 3))))) (tNotF (asT (fDef 1 φ_is_load (aCons (fV (fBin opIx (fB (fVar 0)) (fB (fK (.int 0))))) (aNil))))))) (fRet (fK (.bl false))) (fNil)) (fRet (vAnd (fDef 1 φ_is_integer (aCons (fV (fBin opIx (fB (fVar 0)) (fB (fK (.int 1))))) (aNil))) (vAnd (fChain opLe opLe (fB (fK (.int 1))) (fB (fBin opIx (fB (fVar 0)) (fB (fK (.int 1))))) (fB (fK (.int 8)))) (fDef 1 φ_is_integer (aCons (fV (fBin opIx (fB (fVar 0)) (fB (fK (.int 2))))) (aNil))))))
theorem w_is_seen {g : G} {L : GL} (H : GK g L) : SSs ⟨g, N_is_seen, defScope (top 20), 2, fun _ => true, none⟩ (defBody (top 20)) f_is_seen := by
  unfold f_is_seen
  exact SSs.cons (SS.ifS ((SWs.or (STs.not (STs.val (SE.isi .tuple H.gd.isinstance H.gd.tuple ((SE.var 0).b)))) (SWs.or (STs.ne ((SE.c_len H.gd (SAb.cons ((SE.var 0).b) (SAb.nil))).b) ((SE.int).b)) (SWs.or1 (STs.not (STs.val (SE.call (F_is_load H) (SA.cons ((SE.ix ((SE.var 0).b) ((SE.int).b)).v) (SA.nil)))))))).t) (SSs.one (SS.ret (SE.bl))) (SSs.nil)) (SSs.one (SS.ret (SE.and (SE.call (F_is_integer H) (SA.cons ((SE.ix ((SE.var 0).b) ((SE.int).b)).v) (SA.nil))) (SE.and (SE.chain (fun r ok => op_le) (Op2.cmp _) (fun r ok => op_le) (Op2.cmp _) ((SE.int).b) ((SE.ix ((SE.var 0).b) ((SE.int).b)).b) ((SE.gint H.i_MOST_SERVERS_marks).b)) (SE.one (SE.call (F_is_integer H) (SA.cons ((SE.ix ((SE.var 0).b) ((SE.int).b)).v) (SA.nil))))))))
theorem c_is_seen : FnScope N_is_seen ["thing"] (defScope (top 20)) := C8.fnScope_by (by decide)
noncomputable def φ_is_seen : Phi := phi N_is_seen f_is_seen
theorem F_is_seen {g : G} {L : GL} (H : GK g L) : Fg g 3 "is_seen" 1 φ_is_seen := Fg.of (qual := "is_seen") (H.d_is_seen) (w_is_seen H) c_is_seen (fun _ _ _ _ _ _ us hl => match us, hl with | [_], _ => rfl)
def N_need_seen : List Str := ["seen", "at", "one"]
noncomputable def f_need_seen : S → Out Fl := fSeq (fIf (tNotF (asT (fIsi2 (fB (fVar 0)) .list .tuple))) (fBad) (fNil)) (fFor (itE (fV (fVar 0))) (gTp 2 (gCn (gNm 1) (gCn (gNm 2) (gNl)))) (fIf (tNotF (asT (fDef 1 φ_is_seen (aCons (fV (fVar 2)) (aNil))))) (fBad) (fNil)))
theorem w_need_seen {g : G} {L : GL} (H : GK g L) : SSs ⟨g, N_need_seen, defScope (top 21), 3, fun _ => true, none⟩ (defBody (top 21)) f_need_seen := by
  unfold f_need_seen
  exact SSs.cons (SS.ifS (STs.not (STs.val (SE.isi2 .list .tuple H.gd.isinstance H.gd.list H.gd.tuple ((SE.var 0).b)))) (SSs.one (SS.bad)) (SSs.nil)) (SSs.one (SS.forS (SI.enum H.gd.enumerate ((SE.var 0).v)) (SG.tp (SGs.cons (SG.nm 1) (SGs.cons (SG.nm 2) (SGs.nil)))) (SSs.one (SS.ifS (STs.not (STs.val (SE.call (F_is_seen H) (SA.cons ((SE.var 2).v) (SA.nil))))) (SSs.one (SS.bad)) (SSs.nil)))))
theorem c_need_seen : FnScope N_need_seen ["seen"] (defScope (top 21)) := C8.fnScope_by (by decide)
noncomputable def φ_need_seen : Phi := phi N_need_seen f_need_seen
theorem F_need_seen {g : G} {L : GL} (H : GK g L) : Fg g 4 "need_seen" 1 φ_need_seen := Fg.of (qual := "need_seen") (H.d_need_seen) (w_need_seen H) c_need_seen (fun _ _ _ _ _ _ us hl => match us, hl with | [_], _ => rfl)
def N_greatest_applying : List Str := ["load", "servers"]
noncomputable def f_greatest_applying : S → Out Fl := fRet (fBin opSub (fB (fNeg (fBin opFdv (fB (fNeg (fBin opIx (fB (fVar 0)) (fB (fK (.int 0)))))) (fB (fBin opMul (fB (fBin opIx (fB (fVar 0)) (fB (fK (.int 1))))) (fB (fVar 1))))))) (fB (fK (.int 1))))
theorem w_greatest_applying {g : G} {L : GL} (H : GK g L) : SSs ⟨g, N_greatest_applying, defScope (top 22), 0, fun _ => true, none⟩ (defBody (top 22)) f_greatest_applying := by
  unfold f_greatest_applying
  exact SSs.one (SS.ret (SE.sub ((SE.neg (SE.fdv ((SE.neg (SE.ix ((SE.var 0).b) ((SE.int).b))).b) ((SE.mul ((SE.ix ((SE.var 0).b) ((SE.int).b)).b) ((SE.var 1).b)).b))).b) ((SE.int).b)))
theorem c_greatest_applying : FnScope N_greatest_applying ["load", "servers"] (defScope (top 22)) := C8.fnScope_by (by decide)
noncomputable def φ_greatest_applying : Phi := phi N_greatest_applying f_greatest_applying
theorem F_greatest_applying {g : G} {L : GL} (H : GK g L) : Fg g 1 "greatest_applying" 2 φ_greatest_applying := Fg.of (qual := "greatest_applying") (H.d_greatest_applying) (w_greatest_applying H) c_greatest_applying (fun _ _ _ _ _ _ us hl => match us, hl with | [_, _], _ => rfl)
def N_least_applying : List Str := ["load", "servers"]
noncomputable def f_least_applying : S → Out Fl := fRet (fBin opAdd (fB (fBin opFdv (fB (fBin opIx (fB (fVar 0)) (fB (fK (.int 0))))) (fB (fBin opMul (fB (fBin opIx (fB (fVar 0)) (fB (fK (.int 1))))) (fB (fVar 1)))))) (fB (fK (.int 1))))
theorem w_least_applying {g : G} {L : GL} (H : GK g L) : SSs ⟨g, N_least_applying, defScope (top 23), 0, fun _ => true, none⟩ (defBody (top 23)) f_least_applying := by
  unfold f_least_applying
  exact SSs.one (SS.ret (SE.add ((SE.fdv ((SE.ix ((SE.var 0).b) ((SE.int).b)).b) ((SE.mul ((SE.ix ((SE.var 0).b) ((SE.int).b)).b) ((SE.var 1).b)).b)).b) ((SE.int).b)))
theorem c_least_applying : FnScope N_least_applying ["load", "servers"] (defScope (top 23)) := C8.fnScope_by (by decide)
noncomputable def φ_least_applying : Phi := phi N_least_applying f_least_applying
theorem F_least_applying {g : G} {L : GL} (H : GK g L) : Fg g 1 "least_applying" 2 φ_least_applying := Fg.of (qual := "least_applying") (H.d_least_applying) (w_least_applying H) c_least_applying (fun _ _ _ _ _ _ us hl => match us, hl with | [_, _], _ => rfl)
def N_applying : List Str := ["shape", "load", "servers"]
noncomputable def f_applying : S → Out Fl := fSeq (fIf (asT (fBin (opEq false) (fB (fBin opIx (fB (fVar 0)) (fB (fK (.int 0))))) (fB (fK (.str "over"))))) (fRet (fTup (aCons (fV (fK (.int 1))) (aCons (fV (fDef 2 φ_greatest_applying (aCons (fV (fVar 1)) (aCons (fV (fVar 2)) (aNil))))) (aNil))))) (fNil)) (fRet (fTup (aCons (fV (fDef 2 φ_least_applying (aCons (fV (fVar 1)) (aCons (fV (fVar 2)) (aNil))))) (aCons (fV (fK (.int 60))) (aNil)))))
theorem w_applying {g : G} {L : GL} (H : GK g L) : SSs ⟨g, N_applying, defScope (top 24), 1, fun _ => true, none⟩ (defBody (top 24)) f_applying := by
  unfold f_applying
  exact SSs.cons (SS.ifS (STs.eq ((SE.ix ((SE.var 0).b) ((SE.int).b)).b) ((SE.str).b)) (SSs.one (SS.ret (SE.tup (SA.cons ((SE.int).v) (SA.cons ((SE.call (F_greatest_applying H) (SA.cons ((SE.var 1).v) (SA.cons ((SE.var 2).v) (SA.nil)))).v) (SA.nil)))))) (SSs.nil)) (SSs.one (SS.ret (SE.tup (SA.cons ((SE.call (F_least_applying H) (SA.cons ((SE.var 1).v) (SA.cons ((SE.var 2).v) (SA.nil)))).v) (SA.cons ((SE.gint H.i_MOST_MARK).v) (SA.nil))))))
theorem c_applying : FnScope N_applying ["shape", "load", "servers"] (defScope (top 24)) := C8.fnScope_by (by decide)
noncomputable def φ_applying : Phi := phi N_applying f_applying
theorem F_applying {g : G} {L : GL} (H : GK g L) : Fg g 2 "applying" 3 φ_applying := Fg.of (qual := "applying") (H.d_applying) (w_applying H) c_applying (fun _ _ _ _ _ _ us hl => match us, hl with | [_, _, _], _ => rfl)
def N_idle : List Str := ["shape", "load", "servers"]
noncomputable def f_idle : S → Out Fl := fSeq (fIf (asT (fBin (opEq false) (fB (fBin opIx (fB (fVar 0)) (fB (fK (.int 0))))) (fB (fK (.str "over"))))) (fRet (fTup (aCons (fV (fBin opAdd (fB (fDef 2 φ_greatest_applying (aCons (fV (fVar 1)) (aCons (fV (fVar 2)) (aNil))))) (fB (fK (.int 1))))) (aCons (fV (fK (.int 60))) (aNil))))) (fNil)) (fRet (fTup (aCons (fV (fK (.int 1))) (aCons (fV (fBin opSub (fB (fDef 2 φ_least_applying (aCons (fV (fVar 1)) (aCons (fV (fVar 2)) (aNil))))) (fB (fK (.int 1))))) (aNil)))))
theorem w_idle {g : G} {L : GL} (H : GK g L) : SSs ⟨g, N_idle, defScope (top 25), 1, fun _ => true, none⟩ (defBody (top 25)) f_idle := by
  unfold f_idle
  exact SSs.cons (SS.ifS (STs.eq ((SE.ix ((SE.var 0).b) ((SE.int).b)).b) ((SE.str).b)) (SSs.one (SS.ret (SE.tup (SA.cons ((SE.add ((SE.call (F_greatest_applying H) (SA.cons ((SE.var 1).v) (SA.cons ((SE.var 2).v) (SA.nil)))).b) ((SE.int).b)).v) (SA.cons ((SE.gint H.i_MOST_MARK).v) (SA.nil)))))) (SSs.nil)) (SSs.one (SS.ret (SE.tup (SA.cons ((SE.int).v) (SA.cons ((SE.sub ((SE.call (F_least_applying H) (SA.cons ((SE.var 1).v) (SA.cons ((SE.var 2).v) (SA.nil)))).b) ((SE.int).b)).v) (SA.nil))))))
theorem c_idle : FnScope N_idle ["shape", "load", "servers"] (defScope (top 25)) := C8.fnScope_by (by decide)
noncomputable def φ_idle : Phi := phi N_idle f_idle
theorem F_idle {g : G} {L : GL} (H : GK g L) : Fg g 2 "idle" 3 φ_idle := Fg.of (qual := "idle") (H.d_idle) (w_idle H) c_idle (fun _ _ _ _ _ _ us hl => match us, hl with | [_, _, _], _ => rfl)
def N_change_of : List Str := ["shape"]
noncomputable def f_change_of : S → Out Fl := fRet (vIf (asT (fBin (opEq false) (fB (fBin opIx (fB (fVar 0)) (fB (fK (.int 0))))) (fB (fK (.str "over"))))) (fBin opIx (fB (fVar 0)) (fB (fK (.int 1)))) (fBin opSub (fB (fK (.int 0))) (fB (fBin opIx (fB (fVar 0)) (fB (fK (.int 1)))))))
theorem w_change_of {g : G} {L : GL} (H : GK g L) : SSs ⟨g, N_change_of, defScope (top 26), 0, fun _ => true, none⟩ (defBody (top 26)) f_change_of := by
  unfold f_change_of
  exact SSs.one (SS.ret (SE.ite (STs.eq ((SE.ix ((SE.var 0).b) ((SE.int).b)).b) ((SE.str).b)) (SE.ix ((SE.var 0).b) ((SE.int).b)) (SE.sub ((SE.int).b) ((SE.ix ((SE.var 0).b) ((SE.int).b)).b))))
theorem c_change_of : FnScope N_change_of ["shape"] (defScope (top 26)) := C8.fnScope_by (by decide)
noncomputable def φ_change_of : Phi := phi N_change_of f_change_of
theorem F_change_of {g : G} {L : GL} (H : GK g L) : Fg g 1 "change_of" 1 φ_change_of := Fg.of (qual := "change_of") (H.d_change_of) (w_change_of H) c_change_of (fun _ _ _ _ _ _ us hl => match us, hl with | [_], _ => rfl)
def N_met : List Str := ["one", "other"]
noncomputable def f_met : S → Out Fl := fRet (fTup (aCons (fV (fCall opMax (aCons (fB (fLst (aCons (fV (fBin opIx (fB (fVar 0)) (fB (fK (.int 0))))) (aCons (fV (fBin opIx (fB (fVar 1)) (fB (fK (.int 0))))) (aNil))))) (aNil)))) (aCons (fV (fCall opMin (aCons (fB (fLst (aCons (fV (fBin opIx (fB (fVar 0)) (fB (fK (.int 1))))) (aCons (fV (fBin opIx (fB (fVar 1)) (fB (fK (.int 1))))) (aNil))))) (aNil)))) (aNil))))
theorem w_met {g : G} {L : GL} (H : GK g L) : SSs ⟨g, N_met, defScope (top 27), 0, fun _ => true, none⟩ (defBody (top 27)) f_met := by
  unfold f_met
  exact SSs.one (SS.ret (SE.tup (SA.cons ((SE.c_max H.gd (SAb.cons ((SE.lst (SA.cons ((SE.ix ((SE.var 0).b) ((SE.int).b)).v) (SA.cons ((SE.ix ((SE.var 1).b) ((SE.int).b)).v) (SA.nil)))).b) (SAb.nil))).v) (SA.cons ((SE.c_min H.gd (SAb.cons ((SE.lst (SA.cons ((SE.ix ((SE.var 0).b) ((SE.int).b)).v) (SA.cons ((SE.ix ((SE.var 1).b) ((SE.int).b)).v) (SA.nil)))).b) (SAb.nil))).v) (SA.nil)))))
theorem c_met : FnScope N_met ["one", "other"] (defScope (top 27)) := C8.fnScope_by (by decide)
noncomputable def φ_met : Phi := phi N_met f_met
theorem F_met {g : G} {L : GL} (H : GK g L) : Fg g 1 "met" 2 φ_met := Fg.of (qual := "met") (H.d_met) (w_met H) c_met (fun _ _ _ _ _ _ us hl => match us, hl with | [_, _], _ => rfl)
def N_narrowed : List Str := ["shapes", "found", "tick", "load", "servers", "wish", "at", "shape", "deciding", "later"]
noncomputable def f_narrowed : S → Out Fl := fSeq (fAsg (gTp 3 (gCn (gNm 3) (gCn (gNm 4) (gCn (gNm 5) (gNl))))) (fV (fVar 2))) (fSeq (fSet 8 (fLc (itE (fV (fVar 0))) [6, 7] (gTp 2 (gCn (gNm 6) (gCn (gNm 7) (gNl)))) (asT (fBin (opEq false) (fB (fDef 1 φ_change_of (aCons (fV (fVar 7)) (aNil)))) (fB (fBin opSub (fB (fVar 5)) (fB (fVar 4)))))) (fV (fVar 6)))) (fSeq (fIf (tAndF (asT (fBin (opEq false) (fB (fVar 8)) (fB (fLst (aNil))))) (asT (fBin (opEq true) (fB (fVar 5)) (fB (fVar 4))))) (fRet (fK .non)) (fNil)) (fSeq (fSet 9 (fCall opList (aCons (fB (fVar 1)) (aNil)))) (fSeq (fFor (itE (fV (fVar 0))) (gTp 2 (gCn (gNm 6) (gCn (gNm 7) (gNl)))) (fSeq (fIf (asT (fBin (opEq false) (fB (fLst (aCons (fV (fVar 6)) (aNil)))) (fB (fVar 8)))) (fSeq (fSetIx 9 (fV (fDef 2 φ_met (aCons (fV (fBin opIx (fB (fVar 9)) (fB (fVar 6)))) (aCons (fV (fDef 3 φ_applying (aCons (fV (fVar 7)) (aCons (fV (fVar 3)) (aCons (fV (fVar 4)) (aNil)))))) (aNil))))) (fVar 6)) (fRet (fVar 9))) (fNil)) (fSetIx 9 (fV (fDef 2 φ_met (aCons (fV (fBin opIx (fB (fVar 9)) (fB (fVar 6)))) (aCons (fV (fDef 3 φ_idle (aCons (fV (fVar 7)) (aCons (fV (fVar 3)) (aCons (fV (fVar 4)) (aNil)))))) (aNil))))) (fVar 6)))) (fRet (fVar 9))))))
theorem w_narrowed {g : G} {L : GL} (H : GK g L) : SSs ⟨g, N_narrowed, defScope (top 28), 2, fun _ => true, none⟩ (defBody (top 28)) f_narrowed := by
  unfold f_narrowed
  exact SSs.cons (SS.asg ((SE.var 2).v) (SG.tp (SGs.cons (SG.nm 3) (SGs.cons (SG.nm 4) (SGs.cons (SG.nm 5) (SGs.nil)))))) (SSs.cons (SS.setLc (i := 8) (SI.enum H.gd.enumerate ((SE.var 0).v)) (blkOk_by (own := [("at", 6), ("shape", 7)]) rfl) (SG.tp (SGs.cons (SG.nm 6) (SGs.cons (SG.nm 7) (SGs.nil)))) (SIf.one (STs.eq ((SE.call (F_change_of H) (SA.cons ((SE.var 7).v) (SA.nil))).b) ((SE.sub ((SE.var 5).b) ((SE.var 4).b)).b))) ((SE.var 6).v)) (SSs.cons (SS.ifS ((SWs.and (STs.eq ((SE.var 8).b) ((SE.lst (SA.nil)).b)) (SWs.and1 (STs.ne ((SE.var 5).b) ((SE.var 4).b)))).t) (SSs.one (SS.ret (SE.non))) (SSs.nil)) (SSs.cons (SS.set (i := 9) (SE.c_list H.gd (SAb.cons ((SE.var 1).b) (SAb.nil)))) (SSs.cons (SS.forS (SI.enum H.gd.enumerate ((SE.var 0).v)) (SG.tp (SGs.cons (SG.nm 6) (SGs.cons (SG.nm 7) (SGs.nil)))) (SSs.cons (SS.ifS (STs.eq ((SE.lst (SA.cons ((SE.var 6).v) (SA.nil))).b) ((SE.var 8).b)) (SSs.cons (SS.setIx 9 ((SE.call (F_met H) (SA.cons ((SE.ix ((SE.var 9).b) ((SE.var 6).b)).v) (SA.cons ((SE.call (F_applying H) (SA.cons ((SE.var 7).v) (SA.cons ((SE.var 3).v) (SA.cons ((SE.var 4).v) (SA.nil))))).v) (SA.nil)))).v) (SE.var 6)) (SSs.one (SS.ret (SE.var 9)))) (SSs.nil)) (SSs.one (SS.setIx 9 ((SE.call (F_met H) (SA.cons ((SE.ix ((SE.var 9).b) ((SE.var 6).b)).v) (SA.cons ((SE.call (F_idle H) (SA.cons ((SE.var 7).v) (SA.cons ((SE.var 3).v) (SA.cons ((SE.var 4).v) (SA.nil))))).v) (SA.nil)))).v) (SE.var 6))))) (SSs.one (SS.ret (SE.var 9)))))))
theorem c_narrowed : FnScope N_narrowed ["shapes", "found", "tick"] (defScope (top 28)) := C8.fnScope_by (by decide)
noncomputable def φ_narrowed : Phi := phi N_narrowed f_narrowed
theorem F_narrowed {g : G} {L : GL} (H : GK g L) : Fg g 3 "narrowed" 3 φ_narrowed := Fg.of (qual := "narrowed") (H.d_narrowed) (w_narrowed H) c_narrowed (fun _ _ _ _ _ _ us hl => match us, hl with | [_, _, _], _ => rfl)
def N_ranges_or_tick : List Str := ["shapes", "seen", "found", "at", "tick", "low", "high"]
noncomputable def f_ranges_or_tick : S → Out Fl := fSeq (fSet 2 (fBin opMul (fB (fLst (aCons (fV (fTup (aCons (fV (fK (.int 1))) (aCons (fV (fK (.int 60))) (aNil))))) (aNil)))) (fB (fCall opLen (aCons (fB (fVar 0)) (aNil)))))) (fSeq (fFor (itE (fV (fVar 1))) (gTp 2 (gCn (gNm 3) (gCn (gNm 4) (gNl)))) (fSeq (fSet 2 (fDef 3 φ_narrowed (aCons (fV (fVar 0)) (aCons (fV (fVar 2)) (aCons (fV (fVar 4)) (aNil)))))) (fIf (tOrF (asT (fBin (opIs false) (fB (fVar 2)) (fB (fK .non)))) (asT (fCall opAny (aCons (fB (fLc (itS (fV (fVar 2))) [5, 6] (gTp 2 (gCn (gNm 5) (gCn (gNm 6) (gNl)))) (tYesF) (fV (fBin opGt (fB (fVar 5)) (fB (fVar 6)))))) (aNil))))) (fRet (fTup (aCons (fV (fK .non)) (aCons (fV (fVar 3)) (aNil))))) (fNil)))) (fRet (fTup (aCons (fV (fVar 2)) (aCons (fV (fK .non)) (aNil))))))
theorem w_ranges_or_tick {g : G} {L : GL} (H : GK g L) : SSs ⟨g, N_ranges_or_tick, defScope (top 29), 3, fun _ => true, none⟩ (defBody (top 29)) f_ranges_or_tick := by
  unfold f_ranges_or_tick
  exact SSs.cons (SS.set (i := 2) (SE.mul ((SE.lst (SA.cons ((SE.tup (SA.cons ((SE.int).v) (SA.cons ((SE.gint H.i_MOST_MARK).v) (SA.nil)))).v) (SA.nil))).b) ((SE.c_len H.gd (SAb.cons ((SE.var 0).b) (SAb.nil))).b))) (SSs.cons (SS.forS (SI.enum H.gd.enumerate ((SE.var 1).v)) (SG.tp (SGs.cons (SG.nm 3) (SGs.cons (SG.nm 4) (SGs.nil)))) (SSs.cons (SS.set (i := 2) (SE.call (F_narrowed H) (SA.cons ((SE.var 0).v) (SA.cons ((SE.var 2).v) (SA.cons ((SE.var 4).v) (SA.nil)))))) (SSs.one (SS.ifS ((SWs.or (STs.isN ((SE.var 2).b) ((SE.non).b)) (SWs.or1 (STs.val (SE.c_any H.gd (SAb.cons ((SE.lc (SI.seq ((SE.var 2).v)) (blkOk_by (own := [("low", 5), ("high", 6)]) rfl) (SG.tp (SGs.cons (SG.nm 5) (SGs.cons (SG.nm 6) (SGs.nil)))) (SIf.nil) ((SE.gt ((SE.var 5).b) ((SE.var 6).b)).v)).b) (SAb.nil)))))).t) (SSs.one (SS.ret (SE.tup (SA.cons ((SE.non).v) (SA.cons ((SE.var 3).v) (SA.nil)))))) (SSs.nil))))) (SSs.one (SS.ret (SE.tup (SA.cons ((SE.var 2).v) (SA.cons ((SE.non).v) (SA.nil)))))))
theorem c_ranges_or_tick : FnScope N_ranges_or_tick ["shapes", "seen"] (defScope (top 29)) := C8.fnScope_by (by decide)
noncomputable def φ_ranges_or_tick : Phi := phi N_ranges_or_tick f_ranges_or_tick
theorem F_ranges_or_tick {g : G} {L : GL} (H : GK g L) : Fg g 4 "ranges_or_tick" 2 φ_ranges_or_tick := Fg.of (qual := "ranges_or_tick") (H.d_ranges_or_tick) (w_ranges_or_tick H) c_ranges_or_tick (fun _ _ _ _ _ _ us hl => match us, hl with | [_, _], _ => rfl)
def N_needed_ranges : List Str := ["shapes", "seen", "found", "at"]
noncomputable def f_needed_ranges : S → Out Fl := fSeq (fAsg (gTp 2 (gCn (gNm 2) (gCn (gNm 3) (gNl)))) (fV (fDef 2 φ_ranges_or_tick (aCons (fV (fVar 0)) (aCons (fV (fVar 1)) (aNil)))))) (fSeq (fIf (asT (fBin (opIs false) (fB (fVar 2)) (fB (fK .non)))) (fRaise 7 "at" (aCons (fV (fVar 3)) (aNil))) (fNil)) (fRet (fVar 2)))
theorem w_needed_ranges {g : G} {L : GL} (H : GK g L) : SSs ⟨g, N_needed_ranges, defScope (top 30), 4, fun _ => true, none⟩ (defBody (top 30)) f_needed_ranges := by
  unfold f_needed_ranges
  exact SSs.cons (SS.asg ((SE.call (F_ranges_or_tick H) (SA.cons ((SE.var 0).v) (SA.cons ((SE.var 1).v) (SA.nil)))).v) (SG.tp (SGs.cons (SG.nm 2) (SGs.cons (SG.nm 3) (SGs.nil))))) (SSs.cons (SS.ifS (STs.isN ((SE.var 2).b) ((SE.non).b)) (SSs.one (SS.raise H.x_NoMarks (SA.cons ((SE.var 3).v) (SA.nil)))) (SSs.nil)) (SSs.one (SS.ret (SE.var 2))))
theorem c_needed_ranges : FnScope N_needed_ranges ["shapes", "seen"] (defScope (top 30)) := C8.fnScope_by (by decide)
noncomputable def φ_needed_ranges : Phi := phi N_needed_ranges f_needed_ranges
theorem F_needed_ranges {g : G} {L : GL} (H : GK g L) : Fg g 5 "needed_ranges" 2 φ_needed_ranges := Fg.of (qual := "needed_ranges") (H.d_needed_ranges) (w_needed_ranges H) c_needed_ranges (fun _ _ _ _ _ _ us hl => match us, hl with | [_, _], _ => rfl)
def N_ranges : List Str := ["shapes", "seen"]
noncomputable def f_ranges : S → Out Fl := fSeq (fDrop (fDef 1 φ_need_shapes (aCons (fV (fVar 0)) (aNil)))) (fSeq (fDrop (fDef 1 φ_need_seen (aCons (fV (fVar 1)) (aNil)))) (fRet (fDef 2 φ_needed_ranges (aCons (fV (fVar 0)) (aCons (fV (fVar 1)) (aNil))))))
theorem w_ranges {g : G} {L : GL} (H : GK g L) : SSs ⟨g, N_ranges, defScope (top 31), 5, fun _ => true, none⟩ (defBody (top 31)) f_ranges := by
  unfold f_ranges
  exact SSs.cons (SS.expr (SE.call (F_need_shapes H) (SA.cons ((SE.var 0).v) (SA.nil)))) (SSs.cons (SS.expr (SE.call (F_need_seen H) (SA.cons ((SE.var 1).v) (SA.nil)))) (SSs.one (SS.ret (SE.call (F_needed_ranges H) (SA.cons ((SE.var 0).v) (SA.cons ((SE.var 1).v) (SA.nil)))))))
theorem c_ranges : FnScope N_ranges ["shapes", "seen"] (defScope (top 31)) := C8.fnScope_by (by decide)
noncomputable def φ_ranges : Phi := phi N_ranges f_ranges
theorem F_ranges {g : G} {L : GL} (H : GK g L) : Fg g 6 "ranges" 2 φ_ranges := Fg.of (qual := "ranges") (H.d_ranges) (w_ranges H) c_ranges (fun _ _ _ _ _ _ us hl => match us, hl with | [_, _], _ => rfl)
def N_fitting : List Str := ["shapes", "seen", "found", "at", "many", "low", "high"]
noncomputable def f_fitting : S → Out Fl := fSeq (fDrop (fDef 1 φ_need_shapes (aCons (fV (fVar 0)) (aNil)))) (fSeq (fDrop (fDef 1 φ_need_seen (aCons (fV (fVar 1)) (aNil)))) (fSeq (fAsg (gTp 2 (gCn (gNm 2) (gCn (gNm 3) (gNl)))) (fV (fDef 2 φ_ranges_or_tick (aCons (fV (fVar 0)) (aCons (fV (fVar 1)) (aNil)))))) (fSeq (fIf (asT (fBin (opIs false) (fB (fVar 2)) (fB (fK .non)))) (fRet (fK (.int 0))) (fNil)) (fSeq (fSet 4 (fK (.int 1))) (fSeq (fFor (itS (fV (fVar 2))) (gTp 2 (gCn (gNm 5) (gCn (gNm 6) (gNl)))) (fAug 4 opMulS (fBin opAdd (fB (fBin opSub (fB (fVar 6)) (fB (fVar 5)))) (fB (fK (.int 1)))))) (fRet (fVar 4)))))))
theorem w_fitting {g : G} {L : GL} (H : GK g L) : SSs ⟨g, N_fitting, defScope (top 32), 4, fun _ => true, none⟩ (defBody (top 32)) f_fitting := by
  unfold f_fitting
  exact SSs.cons (SS.expr (SE.call (F_need_shapes H) (SA.cons ((SE.var 0).v) (SA.nil)))) (SSs.cons (SS.expr (SE.call (F_need_seen H) (SA.cons ((SE.var 1).v) (SA.nil)))) (SSs.cons (SS.asg ((SE.call (F_ranges_or_tick H) (SA.cons ((SE.var 0).v) (SA.cons ((SE.var 1).v) (SA.nil)))).v) (SG.tp (SGs.cons (SG.nm 2) (SGs.cons (SG.nm 3) (SGs.nil))))) (SSs.cons (SS.ifS (STs.isN ((SE.var 2).b) ((SE.non).b)) (SSs.one (SS.ret (SE.int))) (SSs.nil)) (SSs.cons (SS.set (i := 4) (SE.int)) (SSs.cons (SS.forS (SI.seq ((SE.var 2).v)) (SG.tp (SGs.cons (SG.nm 5) (SGs.cons (SG.nm 6) (SGs.nil)))) (SSs.one (SS.augMul 4 (SE.add ((SE.sub ((SE.var 6).b) ((SE.var 5).b)).b) ((SE.int).b))))) (SSs.one (SS.ret (SE.var 4))))))))
theorem c_fitting : FnScope N_fitting ["shapes", "seen"] (defScope (top 32)) := C8.fnScope_by (by decide)
noncomputable def φ_fitting : Phi := phi N_fitting f_fitting
theorem F_fitting {g : G} {L : GL} (H : GK g L) : Fg g 5 "fitting" 2 φ_fitting := Fg.of (qual := "fitting") (H.d_fitting) (w_fitting H) c_fitting (fun _ _ _ _ _ _ us hl => match us, hl with | [_, _], _ => rfl)
def N_is_fitting : List Str := ["shapes", "seen", "thing", "found", "at", "mark", "low", "high"]
noncomputable def f_is_fitting : S → Out Fl := fSeq (fDrop (fDef 1 φ_need_shapes (aCons (fV (fVar 0)) (aNil)))) (fSeq (fDrop (fDef 1 φ_need_seen (aCons (fV (fVar 1)) (aNil)))) (fSeq (fAsg (gTp 2 (gCn (gNm 3) (gCn (gNm 4) (gNl)))) (fV (fDef 2 φ_ranges_or_tick (aCons (fV (fVar 0)) (aCons (fV (fVar 1)) (aNil)))))) (fSeq (fIf (tOrF (asT (fBin (opIs false) (fB (fVar 3)) (fB (fK .non)))) (tOrF (tNotF (asT (fIsi (fB (fVar 2)) .tuple))) (asT (fBin (opEq true) (fB (fCall opLen (aCons (fB (fVar 2)) (aNil)))) (fB (fCall opLen (aCons (fB (fVar 0)) (aNil)))))))) (fRet (fK (.bl false))) (fNil)) (fRet (fCall opAll (aCons (fB (fLc (itZ2 (fV (fVar 2)) (fV (fVar 3))) [5, 6, 7] (gTp 2 (gCn (gNm 5) (gCn (gTp 2 (gCn (gNm 6) (gCn (gNm 7) (gNl)))) (gNl)))) (tYesF) (fV (vAnd (fDef 1 φ_is_integer (aCons (fV (fVar 5)) (aNil))) (fChain opLe opLe (fB (fVar 6)) (fB (fVar 5)) (fB (fVar 7))))))) (aNil)))))))
theorem w_is_fitting {g : G} {L : GL} (H : GK g L) : SSs ⟨g, N_is_fitting, defScope (top 33), 4, fun _ => true, none⟩ (defBody (top 33)) f_is_fitting := by
  unfold f_is_fitting
  exact SSs.cons (SS.expr (SE.call (F_need_shapes H) (SA.cons ((SE.var 0).v) (SA.nil)))) (SSs.cons (SS.expr (SE.call (F_need_seen H) (SA.cons ((SE.var 1).v) (SA.nil)))) (SSs.cons (SS.asg ((SE.call (F_ranges_or_tick H) (SA.cons ((SE.var 0).v) (SA.cons ((SE.var 1).v) (SA.nil)))).v) (SG.tp (SGs.cons (SG.nm 3) (SGs.cons (SG.nm 4) (SGs.nil))))) (SSs.cons (SS.ifS ((SWs.or (STs.isN ((SE.var 3).b) ((SE.non).b)) (SWs.or (STs.not (STs.val (SE.isi .tuple H.gd.isinstance H.gd.tuple ((SE.var 2).b)))) (SWs.or1 (STs.ne ((SE.c_len H.gd (SAb.cons ((SE.var 2).b) (SAb.nil))).b) ((SE.c_len H.gd (SAb.cons ((SE.var 0).b) (SAb.nil))).b))))).t) (SSs.one (SS.ret (SE.bl))) (SSs.nil)) (SSs.one (SS.ret (SE.c_all H.gd (SAb.cons ((SE.lc (SI.zip2 H.gd.zip ((SE.var 2).v) ((SE.var 3).v)) (blkOk_by (own := [("mark", 5), ("low", 6), ("high", 7)]) rfl) (SG.tp (SGs.cons (SG.nm 5) (SGs.cons (SG.tp (SGs.cons (SG.nm 6) (SGs.cons (SG.nm 7) (SGs.nil)))) (SGs.nil)))) (SIf.nil) ((SE.and (SE.call (F_is_integer H) (SA.cons ((SE.var 5).v) (SA.nil))) (SE.one (SE.chain (fun r ok => op_le) (Op2.cmp _) (fun r ok => op_le) (Op2.cmp _) ((SE.var 6).b) ((SE.var 5).b) ((SE.var 7).b)))).v)).b) (SAb.nil))))))))
theorem c_is_fitting : FnScope N_is_fitting ["shapes", "seen", "thing"] (defScope (top 33)) := C8.fnScope_by (by decide)
noncomputable def φ_is_fitting : Phi := phi N_is_fitting f_is_fitting
theorem F_is_fitting {g : G} {L : GL} (H : GK g L) : Fg g 5 "is_fitting" 3 φ_is_fitting := Fg.of (qual := "is_fitting") (H.d_is_fitting) (w_is_fitting H) c_is_fitting (fun _ _ _ _ _ _ us hl => match us, hl with | [_, _, _], _ => rfl)
def N_outcomes : List Str := ["shapes", "found", "load", "servers", "low", "high", "some", "marks", "at", "shape"]
noncomputable def f_outcomes : S → Out Fl := fSeq (fPar 6 7 (fLst (aNil)) (fLc (itS (fV (fVar 1))) [4, 5] (gTp 2 (gCn (gNm 4) (gCn (gNm 5) (gNl)))) (tYesF) (fV (fVar 4)))) (fSeq (fFor (itE (fV (fVar 0))) (gTp 2 (gCn (gNm 8) (gCn (gNm 9) (gNl)))) (fSeq (fAsg (gTp 2 (gCn (gNm 4) (gCn (gNm 5) (gNl)))) (fV (fDef 2 φ_met (aCons (fV (fBin opIx (fB (fVar 1)) (fB (fVar 8)))) (aCons (fV (fDef 3 φ_applying (aCons (fV (fVar 9)) (aCons (fV (fVar 2)) (aCons (fV (fVar 3)) (aNil)))))) (aNil)))))) (fSeq (fIf (asT (fBin opLe (fB (fVar 4)) (fB (fVar 5)))) (fDrop (isOw 6 (fMut 6 mApp (aCons (fV (fTup (aCons (fV (fBin opAdd (fB (fVar 3)) (fB (fDef 1 φ_change_of (aCons (fV (fVar 9)) (aNil)))))) (aCons (fV (fCall opTuple (aCons (fB (fBin opAdd (fB (fBin opAdd (fB (fSl (fB (fVar 7)) (oNone) (oInt (fVar 8)))) (fB (fLst (aCons (fV (fVar 4)) (aNil)))))) (fB (fSl (fB (fVar 7)) (oInt (fBin opAdd (fB (fVar 8)) (fB (fK (.int 1))))) (oNone))))) (aNil)))) (aNil))))) (aNil))))) (fNil)) (fSeq (fAsg (gTp 2 (gCn (gNm 4) (gCn (gNm 5) (gNl)))) (fV (fDef 2 φ_met (aCons (fV (fBin opIx (fB (fVar 1)) (fB (fVar 8)))) (aCons (fV (fDef 3 φ_idle (aCons (fV (fVar 9)) (aCons (fV (fVar 2)) (aCons (fV (fVar 3)) (aNil)))))) (aNil)))))) (fSeq (fIf (asT (fBin opGt (fB (fVar 4)) (fB (fVar 5)))) (fRet (fVar 6)) (fNil)) (fSetIx 7 (fV (fVar 4)) (fVar 8))))))) (fRet (fBin opAdd (fB (fVar 6)) (fB (fLst (aCons (fV (fTup (aCons (fV (fVar 3)) (aCons (fV (fCall opTuple (aCons (fB (fVar 7)) (aNil)))) (aNil))))) (aNil)))))))
theorem w_outcomes {g : G} {L : GL} (H : GK g L) : SSs ⟨g, N_outcomes, defScope (top 34), 2, fun _ => true, none⟩ (defBody (top 34)) f_outcomes := by
  unfold f_outcomes
  exact SSs.cons (SS.par (i := 6) (j := 7) (SE.lst (SA.nil)) (SE.lc (SI.seq ((SE.var 1).v)) (blkOk_by (own := [("low", 4), ("high", 5)]) rfl) (SG.tp (SGs.cons (SG.nm 4) (SGs.cons (SG.nm 5) (SGs.nil)))) (SIf.nil) ((SE.var 4).v))) (SSs.cons (SS.forS (SI.enum H.gd.enumerate ((SE.var 0).v)) (SG.tp (SGs.cons (SG.nm 8) (SGs.cons (SG.nm 9) (SGs.nil)))) (SSs.cons (SS.asg ((SE.call (F_met H) (SA.cons ((SE.ix ((SE.var 1).b) ((SE.var 8).b)).v) (SA.cons ((SE.call (F_applying H) (SA.cons ((SE.var 9).v) (SA.cons ((SE.var 2).v) (SA.cons ((SE.var 3).v) (SA.nil))))).v) (SA.nil)))).v) (SG.tp (SGs.cons (SG.nm 4) (SGs.cons (SG.nm 5) (SGs.nil))))) (SSs.cons (SS.ifS (STs.le ((SE.var 4).b) ((SE.var 5).b)) (SSs.one (SS.expr (SE.append 6 (SA.cons ((SE.tup (SA.cons ((SE.add ((SE.var 3).b) ((SE.call (F_change_of H) (SA.cons ((SE.var 9).v) (SA.nil))).b)).v) (SA.cons ((SE.c_tuple H.gd (SAb.cons ((SE.add ((SE.add ((SE.sl ((SE.var 7).b) (SO.none) (SO.int (SE.var 8))).b) ((SE.lst (SA.cons ((SE.var 4).v) (SA.nil))).b)).b) ((SE.sl ((SE.var 7).b) (SO.int (SE.add ((SE.var 8).b) ((SE.int).b))) (SO.none)).b)).b) (SAb.nil))).v) (SA.nil)))).v) (SA.nil))))) (SSs.nil)) (SSs.cons (SS.asg ((SE.call (F_met H) (SA.cons ((SE.ix ((SE.var 1).b) ((SE.var 8).b)).v) (SA.cons ((SE.call (F_idle H) (SA.cons ((SE.var 9).v) (SA.cons ((SE.var 2).v) (SA.cons ((SE.var 3).v) (SA.nil))))).v) (SA.nil)))).v) (SG.tp (SGs.cons (SG.nm 4) (SGs.cons (SG.nm 5) (SGs.nil))))) (SSs.cons (SS.ifS (STs.gt ((SE.var 4).b) ((SE.var 5).b)) (SSs.one (SS.ret (SE.var 6))) (SSs.nil)) (SSs.one (SS.setIx 7 ((SE.var 4).v) (SE.var 8)))))))) (SSs.one (SS.ret (SE.add ((SE.var 6).b) ((SE.lst (SA.cons ((SE.tup (SA.cons ((SE.var 3).v) (SA.cons ((SE.c_tuple H.gd (SAb.cons ((SE.var 7).b) (SAb.nil))).v) (SA.nil)))).v) (SA.nil))).b)))))
theorem c_outcomes : FnScope N_outcomes ["shapes", "found", "load", "servers"] (defScope (top 34)) := C8.fnScope_by (by decide)
noncomputable def φ_outcomes : Phi := phi N_outcomes f_outcomes
theorem F_outcomes {g : G} {L : GL} (H : GK g L) : Fg g 3 "outcomes" 4 φ_outcomes := Fg.of (qual := "outcomes") (H.d_outcomes) (w_outcomes H) c_outcomes (fun _ _ _ _ _ _ us hl => match us, hl with | [_, _, _, _], _ => rfl)
def N_sure : List Str := ["shapes", "seen", "load", "servers", "some"]
noncomputable def f_sure : S → Out Fl := fSeq (fDrop (fDef 1 φ_need_shapes (aCons (fV (fVar 0)) (aNil)))) (fSeq (fDrop (fDef 1 φ_need_seen (aCons (fV (fVar 1)) (aNil)))) (fSeq (fIf (tNotF (asT (fDef 1 φ_is_load (aCons (fV (fVar 2)) (aNil))))) (fBad) (fNil)) (fSeq (fIf (tOrF (tNotF (asT (fDef 1 φ_is_integer (aCons (fV (fVar 3)) (aNil))))) (tNotF (asT (fChain opLe opLe (fB (fK (.int 1))) (fB (fVar 3)) (fB (fK (.int 8))))))) (fBad) (fNil)) (fSeq (fSet 4 (fDef 4 φ_outcomes (aCons (fV (fVar 0)) (aCons (fV (fDef 2 φ_needed_ranges (aCons (fV (fVar 0)) (aCons (fV (fVar 1)) (aNil))))) (aCons (fV (fVar 2)) (aCons (fV (fVar 3)) (aNil))))))) (fSeq (fIf (asT (fBin (opEq false) (fB (fCall opLen (aCons (fB (fVar 4)) (aNil)))) (fB (fK (.int 1))))) (fRet (fTup (aCons (fV (fK (.str "sure"))) (aCons (fV (fBin opIx (fB (fBin opIx (fB (fVar 4)) (fB (fK (.int 0))))) (fB (fK (.int 0))))) (aNil))))) (fNil)) (fRet (fTup (aCons (fV (fK (.str "open"))) (aCons (fV (fBin opIx (fB (fBin opIx (fB (fVar 4)) (fB (fK (.int 0))))) (fB (fK (.int 1))))) (aCons (fV (fBin opIx (fB (fBin opIx (fB (fVar 4)) (fB (fK (.int 1))))) (fB (fK (.int 1))))) (aNil)))))))))))
theorem w_sure {g : G} {L : GL} (H : GK g L) : SSs ⟨g, N_sure, defScope (top 35), 5, fun _ => true, none⟩ (defBody (top 35)) f_sure := by
  unfold f_sure
  exact SSs.cons (SS.expr (SE.call (F_need_shapes H) (SA.cons ((SE.var 0).v) (SA.nil)))) (SSs.cons (SS.expr (SE.call (F_need_seen H) (SA.cons ((SE.var 1).v) (SA.nil)))) (SSs.cons (SS.ifS (STs.not (STs.val (SE.call (F_is_load H) (SA.cons ((SE.var 2).v) (SA.nil))))) (SSs.one (SS.bad)) (SSs.nil)) (SSs.cons (SS.ifS ((SWs.or (STs.not (STs.val (SE.call (F_is_integer H) (SA.cons ((SE.var 3).v) (SA.nil))))) (SWs.or1 (STs.not (STs.chain (fun r ok => op_le) (Op2.cmp _) (fun r ok => op_le) (Op2.cmp _) ((SE.int).b) ((SE.var 3).b) ((SE.gint H.i_MOST_SERVERS_marks).b))))).t) (SSs.one (SS.bad)) (SSs.nil)) (SSs.cons (SS.set (i := 4) (SE.call (F_outcomes H) (SA.cons ((SE.var 0).v) (SA.cons ((SE.call (F_needed_ranges H) (SA.cons ((SE.var 0).v) (SA.cons ((SE.var 1).v) (SA.nil)))).v) (SA.cons ((SE.var 2).v) (SA.cons ((SE.var 3).v) (SA.nil))))))) (SSs.cons (SS.ifS (STs.eq ((SE.c_len H.gd (SAb.cons ((SE.var 4).b) (SAb.nil))).b) ((SE.int).b)) (SSs.one (SS.ret (SE.tup (SA.cons ((SE.str).v) (SA.cons ((SE.ix ((SE.ix ((SE.var 4).b) ((SE.int).b)).b) ((SE.int).b)).v) (SA.nil)))))) (SSs.nil)) (SSs.one (SS.ret (SE.tup (SA.cons ((SE.str).v) (SA.cons ((SE.ix ((SE.ix ((SE.var 4).b) ((SE.int).b)).b) ((SE.int).b)).v) (SA.cons ((SE.ix ((SE.ix ((SE.var 4).b) ((SE.int).b)).b) ((SE.int).b)).v) (SA.nil))))))))))))
theorem c_sure : FnScope N_sure ["shapes", "seen", "load", "servers"] (defScope (top 35)) := C8.fnScope_by (by decide)
noncomputable def φ_sure : Phi := phi N_sure f_sure
theorem F_sure {g : G} {L : GL} (H : GK g L) : Fg g 6 "sure" 4 φ_sure := Fg.of (qual := "sure") (H.d_sure) (w_sure H) c_sure (fun _ _ _ _ _ _ us hl => match us, hl with | [_, _, _, _], _ => rfl)
def N_is_between : List Str := ["thing", "low", "high"]
noncomputable def f_is_between : S → Out Fl := fRet (vAnd (fDef 1 φ_is_integer (aCons (fV (fVar 0)) (aNil))) (fChain opLe opLe (fB (fVar 1)) (fB (fVar 0)) (fB (fVar 2))))
theorem w_is_between {g : G} {L : GL} (H : GK g L) : SSs ⟨g, N_is_between, defScope (top 42), 1, fun _ => true, none⟩ (defBody (top 42)) f_is_between := by
  unfold f_is_between
  exact SSs.one (SS.ret (SE.and (SE.call (F_is_integer H) (SA.cons ((SE.var 0).v) (SA.nil))) (SE.one (SE.chain (fun r ok => op_le) (Op2.cmp _) (fun r ok => op_le) (Op2.cmp _) ((SE.var 1).b) ((SE.var 0).b) ((SE.var 2).b)))))
theorem c_is_between : FnScope N_is_between ["thing", "low", "high"] (defScope (top 42)) := C8.fnScope_by (by decide)
noncomputable def φ_is_between : Phi := phi N_is_between f_is_between
theorem F_is_between {g : G} {L : GL} (H : GK g L) : Fg g 2 "is_between" 3 φ_is_between := Fg.of (qual := "is_between") (H.d_is_between) (w_is_between H) c_is_between (fun _ _ _ _ _ _ us hl => match us, hl with | [_, _, _], _ => rfl)
def N_is_part : List Str := ["thing", "one"]
noncomputable def f_is_part : S → Out Fl := fSeq (fIf (tOrF (tNotF (asT (fIsi (fB (fVar 0)) .tuple))) (tOrF (asT (fBin (opEq false) (fB (fVar 0)) (fB (fTup (aNil))))) (tNotF (asT (fIsi (fB (fBin opIx (fB (fVar 0)) (fB (fK (.int 0))))) .str))))) (fRet (fK (.bl false))) (fNil)) (fSeq (fIf (tOrF (asT (fBin (opEq true) (fB (fGet T_SIZES (fBin opIx (fB (fVar 0)) (fB (fK (.int 0)))) (fK (.int 0)))) (fB (fCall opLen (aCons (fB (fVar 0)) (aNil)))))) (tNotF (asT (fCall opAll (aCons (fB (fLc (itS (fV (fSl (fB (fVar 0)) (oInt (fK (.int 1))) (oNone)))) [1] (gNm 1) (tYesF) (fV (fDef 3 φ_is_between (aCons (fV (fVar 1)) (aCons (fV (fK (.int 1))) (aCons (fV (fK (.int 60))) (aNil)))))))) (aNil)))))) (fRet (fK (.bl false))) (fNil)) (fSeq (fIf (asT (fBin (opEq false) (fB (fBin opIx (fB (fVar 0)) (fB (fK (.int 0))))) (fB (fK (.str "aim"))))) (fRet (fChain opLe opLe (fB (fBin opIx (fB (fVar 0)) (fB (fK (.int 2))))) (fB (fBin opIx (fB (fVar 0)) (fB (fK (.int 1))))) (fB (fBin opIx (fB (fVar 0)) (fB (fK (.int 3))))))) (fNil)) (fRet (fBin opLe (fB (fBin opIx (fB (fVar 0)) (fB (fK (.int 2))))) (fB (fK (.int 8)))))))
theorem w_is_part {g : G} {L : GL} (H : GK g L) : SSs ⟨g, N_is_part, defScope (top 43), 2, fun _ => true, none⟩ (defBody (top 43)) f_is_part := by
  unfold f_is_part
  exact SSs.cons (SS.ifS ((SWs.or (STs.not (STs.val (SE.isi .tuple H.gd.isinstance H.gd.tuple ((SE.var 0).b)))) (SWs.or (STs.eq ((SE.var 0).b) ((SE.tup (SA.nil)).b)) (SWs.or1 (STs.not (STs.val (SE.isi .str H.gd.isinstance H.gd.str ((SE.ix ((SE.var 0).b) ((SE.int).b)).b))))))).t) (SSs.one (SS.ret (SE.bl))) (SSs.nil)) (SSs.cons (SS.ifS ((SWs.or (STs.ne ((SE.getTab H.t_SIZES (SE.ix ((SE.var 0).b) ((SE.int).b)) (SE.int)).b) ((SE.c_len H.gd (SAb.cons ((SE.var 0).b) (SAb.nil))).b)) (SWs.or1 (STs.not (STs.val (SE.c_all H.gd (SAb.cons ((SE.lc (SI.seq ((SE.sl ((SE.var 0).b) (SO.int (SE.int)) (SO.none)).v)) (blkOk_by (own := [("one", 1)]) rfl) (SG.nm 1) (SIf.nil) ((SE.call (F_is_between H) (SA.cons ((SE.var 1).v) (SA.cons ((SE.int).v) (SA.cons ((SE.gint H.i_HIGHEST_MARK).v) (SA.nil))))).v)).b) (SAb.nil))))))).t) (SSs.one (SS.ret (SE.bl))) (SSs.nil)) (SSs.cons (SS.ifS (STs.eq ((SE.ix ((SE.var 0).b) ((SE.int).b)).b) ((SE.str).b)) (SSs.one (SS.ret (SE.chain (fun r ok => op_le) (Op2.cmp _) (fun r ok => op_le) (Op2.cmp _) ((SE.ix ((SE.var 0).b) ((SE.int).b)).b) ((SE.ix ((SE.var 0).b) ((SE.int).b)).b) ((SE.ix ((SE.var 0).b) ((SE.int).b)).b)))) (SSs.nil)) (SSs.one (SS.ret (SE.le ((SE.ix ((SE.var 0).b) ((SE.int).b)).b) ((SE.gint H.i_MOST_SERVERS_rules).b))))))
theorem c_is_part : FnScope N_is_part ["thing"] (defScope (top 43)) := C8.fnScope_by (by decide)
noncomputable def φ_is_part : Phi := phi N_is_part f_is_part
theorem F_is_part {g : G} {L : GL} (H : GK g L) : Fg g 3 "is_part" 1 φ_is_part := Fg.of (qual := "is_part") (H.d_is_part) (w_is_part H) c_is_part (fun _ _ _ _ _ _ us hl => match us, hl with | [_], _ => rfl)
def N_are_parts : List Str := ["thing", "one"]
noncomputable def f_are_parts : S → Out Fl := fRet (vAnd (fIsi2 (fB (fVar 0)) .list .tuple) (vAnd (fBin opLe (fB (fCall opLen (aCons (fB (fVar 0)) (aNil)))) (fB (fK (.int 4)))) (fCall opAll (aCons (fB (fLc (itS (fV (fVar 0))) [1] (gNm 1) (tYesF) (fV (fDef 1 φ_is_part (aCons (fV (fVar 1)) (aNil)))))) (aNil)))))
theorem w_are_parts {g : G} {L : GL} (H : GK g L) : SSs ⟨g, N_are_parts, defScope (top 44), 3, fun _ => true, none⟩ (defBody (top 44)) f_are_parts := by
  unfold f_are_parts
  exact SSs.one (SS.ret (SE.and (SE.isi2 .list .tuple H.gd.isinstance H.gd.list H.gd.tuple ((SE.var 0).b)) (SE.and (SE.le ((SE.c_len H.gd (SAb.cons ((SE.var 0).b) (SAb.nil))).b) ((SE.gint H.i_MOST_PARTS).b)) (SE.one (SE.c_all H.gd (SAb.cons ((SE.lc (SI.seq ((SE.var 0).v)) (blkOk_by (own := [("one", 1)]) rfl) (SG.nm 1) (SIf.nil) ((SE.call (F_is_part H) (SA.cons ((SE.var 1).v) (SA.nil))).v)).b) (SAb.nil)))))))
theorem c_are_parts : FnScope N_are_parts ["thing"] (defScope (top 44)) := C8.fnScope_by (by decide)
noncomputable def φ_are_parts : Phi := phi N_are_parts f_are_parts
theorem F_are_parts {g : G} {L : GL} (H : GK g L) : Fg g 4 "are_parts" 1 φ_are_parts := Fg.of (qual := "are_parts") (H.d_are_parts) (w_are_parts H) c_are_parts (fun _ _ _ _ _ _ us hl => match us, hl with | [_], _ => rfl)
def N_is_limit : List Str := ["thing"]
noncomputable def f_is_limit : S → Out Fl := fRet (vOr (fBin (opIs false) (fB (fVar 0)) (fB (fK .non))) (fDef 3 φ_is_between (aCons (fV (fVar 0)) (aCons (fV (fK (.int 1))) (aCons (fV (fK (.int 8))) (aNil))))))
theorem w_is_limit {g : G} {L : GL} (H : GK g L) : SSs ⟨g, N_is_limit, defScope (top 45), 2, fun _ => true, none⟩ (defBody (top 45)) f_is_limit := by
  unfold f_is_limit
  exact SSs.one (SS.ret (SE.or (SE.isN ((SE.var 0).b) ((SE.non).b)) (SE.one (SE.call (F_is_between H) (SA.cons ((SE.var 0).v) (SA.cons ((SE.int).v) (SA.cons ((SE.gint H.i_MOST_SERVERS_rules).v) (SA.nil))))))))
theorem c_is_limit : FnScope N_is_limit ["thing"] (defScope (top 45)) := C8.fnScope_by (by decide)
noncomputable def φ_is_limit : Phi := phi N_is_limit f_is_limit
theorem F_is_limit {g : G} {L : GL} (H : GK g L) : Fg g 3 "is_limit" 1 φ_is_limit := Fg.of (qual := "is_limit") (H.d_is_limit) (w_is_limit H) c_is_limit (fun _ _ _ _ _ _ us hl => match us, hl with | [_], _ => rfl)
def N_need_limits : List Str := ["rise", "fall", "up", "down"]
noncomputable def f_need_limits : S → Out Fl := fSeq (fIf (tNotF (asT (fDef 1 φ_is_limit (aCons (fV (fVar 0)) (aNil))))) (fBad) (fNil)) (fSeq (fIf (tNotF (asT (fDef 1 φ_is_limit (aCons (fV (fVar 1)) (aNil))))) (fBad) (fNil)) (fSeq (fIf (tNotF (asT (fDef 3 φ_is_between (aCons (fV (fVar 2)) (aCons (fV (fK (.int 1))) (aCons (fV (fK (.int 3))) (aNil))))))) (fBad) (fNil)) (fIf (tNotF (asT (fDef 3 φ_is_between (aCons (fV (fVar 3)) (aCons (fV (fK (.int 1))) (aCons (fV (fK (.int 3))) (aNil))))))) (fBad) (fNil))))
theorem w_need_limits {g : G} {L : GL} (H : GK g L) : SSs ⟨g, N_need_limits, defScope (top 46), 3, fun _ => true, none⟩ (defBody (top 46)) f_need_limits := by
  unfold f_need_limits
  exact SSs.cons (SS.ifS (STs.not (STs.val (SE.call (F_is_limit H) (SA.cons ((SE.var 0).v) (SA.nil))))) (SSs.one (SS.bad)) (SSs.nil)) (SSs.cons (SS.ifS (STs.not (STs.val (SE.call (F_is_limit H) (SA.cons ((SE.var 1).v) (SA.nil))))) (SSs.one (SS.bad)) (SSs.nil)) (SSs.cons (SS.ifS (STs.not (STs.val (SE.call (F_is_between H) (SA.cons ((SE.var 2).v) (SA.cons ((SE.int).v) (SA.cons ((SE.gint H.i_LONGEST_WINDOW).v) (SA.nil))))))) (SSs.one (SS.bad)) (SSs.nil)) (SSs.one (SS.ifS (STs.not (STs.val (SE.call (F_is_between H) (SA.cons ((SE.var 3).v) (SA.cons ((SE.int).v) (SA.cons ((SE.gint H.i_LONGEST_WINDOW).v) (SA.nil))))))) (SSs.one (SS.bad)) (SSs.nil)))))
theorem c_need_limits : FnScope N_need_limits ["rise", "fall", "up", "down"] (defScope (top 46)) := C8.fnScope_by (by decide)
noncomputable def φ_need_limits : Phi := phi N_need_limits f_need_limits
theorem F_need_limits {g : G} {L : GL} (H : GK g L) : Fg g 4 "need_limits" 4 φ_need_limits := Fg.of (qual := "need_limits") (H.d_need_limits) (w_need_limits H) c_need_limits (fun _ _ _ _ _ _ us hl => match us, hl with | [_, _, _, _], _ => rfl)
def N_raised : List Str := ["part", "amount"]
noncomputable def f_raised : S → Out Fl := fSeq (fIf (asT (fBin (opEq false) (fB (fBin opIx (fB (fVar 0)) (fB (fK (.int 0))))) (fB (fK (.str "aim"))))) (fRet (fTup (aCons (fV (fBin opIx (fB (fVar 0)) (fB (fK (.int 0))))) (aCons (fV (fBin opAdd (fB (fBin opIx (fB (fVar 0)) (fB (fK (.int 1))))) (fB (fVar 1)))) (aCons (fV (fBin opAdd (fB (fBin opIx (fB (fVar 0)) (fB (fK (.int 2))))) (fB (fVar 1)))) (aCons (fV (fBin opAdd (fB (fBin opIx (fB (fVar 0)) (fB (fK (.int 3))))) (fB (fVar 1)))) (aNil))))))) (fNil)) (fRet (fTup (aCons (fV (fBin opIx (fB (fVar 0)) (fB (fK (.int 0))))) (aCons (fV (fBin opAdd (fB (fBin opIx (fB (fVar 0)) (fB (fK (.int 1))))) (fB (fVar 1)))) (aCons (fV (fBin opIx (fB (fVar 0)) (fB (fK (.int 2))))) (aNil))))))
theorem w_raised {g : G} {L : GL} (H : GK g L) : SSs ⟨g, N_raised, defScope (top 47), 0, fun _ => true, none⟩ (defBody (top 47)) f_raised := by
  unfold f_raised
  exact SSs.cons (SS.ifS (STs.eq ((SE.ix ((SE.var 0).b) ((SE.int).b)).b) ((SE.str).b)) (SSs.one (SS.ret (SE.tup (SA.cons ((SE.ix ((SE.var 0).b) ((SE.int).b)).v) (SA.cons ((SE.add ((SE.ix ((SE.var 0).b) ((SE.int).b)).b) ((SE.var 1).b)).v) (SA.cons ((SE.add ((SE.ix ((SE.var 0).b) ((SE.int).b)).b) ((SE.var 1).b)).v) (SA.cons ((SE.add ((SE.ix ((SE.var 0).b) ((SE.int).b)).b) ((SE.var 1).b)).v) (SA.nil)))))))) (SSs.nil)) (SSs.one (SS.ret (SE.tup (SA.cons ((SE.ix ((SE.var 0).b) ((SE.int).b)).v) (SA.cons ((SE.add ((SE.ix ((SE.var 0).b) ((SE.int).b)).b) ((SE.var 1).b)).v) (SA.cons ((SE.ix ((SE.var 0).b) ((SE.int).b)).v) (SA.nil)))))))
theorem c_raised : FnScope N_raised ["part", "amount"] (defScope (top 47)) := C8.fnScope_by (by decide)
noncomputable def φ_raised : Phi := phi N_raised f_raised
theorem F_raised {g : G} {L : GL} (H : GK g L) : Fg g 1 "raised" 2 φ_raised := Fg.of (qual := "raised") (H.d_raised) (w_raised H) c_raised (fun _ _ _ _ _ _ us hl => match us, hl with | [_, _], _ => rfl)
def N_Rule_init : List Str := ["self", "parts", "least", "most", "rise", "fall", "up", "down"]
noncomputable def f_Rule_init : S → Out Fl := fSeq (fIf (tNotF (asT (fDef 1 φ_are_parts (aCons (fV (fVar 1)) (aNil))))) (fBad) (fNil)) (fSeq (fIf (tNotF (asT (fDef 3 φ_is_between (aCons (fV (fVar 2)) (aCons (fV (fK (.int 1))) (aCons (fV (fK (.int 8))) (aNil))))))) (fBad) (fNil)) (fSeq (fIf (tNotF (asT (fDef 3 φ_is_between (aCons (fV (fVar 3)) (aCons (fV (fVar 2)) (aCons (fV (fK (.int 8))) (aNil))))))) (fBad) (fNil)) (fSeq (fDrop (fDef 4 φ_need_limits (aCons (fV (fVar 4)) (aCons (fV (fVar 5)) (aCons (fV (fVar 6)) (aCons (fV (fVar 7)) (aNil))))))) (fSeq (fSetA 8 0 "r_parts" (fV (fCall opTuple (aCons (fB (fVar 1)) (aNil))))) (fSeq (fSetA 8 0 "r_bounds" (fV (fTup (aCons (fV (fVar 2)) (aCons (fV (fVar 3)) (aNil)))))) (fSetA 8 0 "r_limits" (fV (fTup (aCons (fV (fVar 4)) (aCons (fV (fVar 5)) (aCons (fV (fVar 6)) (aCons (fV (fVar 7)) (aNil)))))))))))))
theorem w_Rule_init {g : G} {L : GL} (H : GK g L) : SSs ⟨g, N_Rule_init, defScope (inClass (top 48) 0), 4, fun _ => true, none⟩ (defBody (inClass (top 48) 0)) f_Rule_init := by
  unfold f_Rule_init
  exact SSs.cons (SS.ifS (STs.not (STs.val (SE.call (F_are_parts H) (SA.cons ((SE.var 1).v) (SA.nil))))) (SSs.one (SS.bad)) (SSs.nil)) (SSs.cons (SS.ifS (STs.not (STs.val (SE.call (F_is_between H) (SA.cons ((SE.var 2).v) (SA.cons ((SE.int).v) (SA.cons ((SE.gint H.i_MOST_SERVERS_rules).v) (SA.nil))))))) (SSs.one (SS.bad)) (SSs.nil)) (SSs.cons (SS.ifS (STs.not (STs.val (SE.call (F_is_between H) (SA.cons ((SE.var 3).v) (SA.cons ((SE.var 2).v) (SA.cons ((SE.gint H.i_MOST_SERVERS_rules).v) (SA.nil))))))) (SSs.one (SS.bad)) (SSs.nil)) (SSs.cons (SS.expr (SE.call (F_need_limits H) (SA.cons ((SE.var 4).v) (SA.cons ((SE.var 5).v) (SA.cons ((SE.var 6).v) (SA.cons ((SE.var 7).v) (SA.nil))))))) (SSs.cons (SS.setA (i := 0) (H.s_8_r_parts) ((SE.c_tuple H.gd (SAb.cons ((SE.var 1).b) (SAb.nil))).v)) (SSs.cons (SS.setA (i := 0) (H.s_8_r_bounds) ((SE.tup (SA.cons ((SE.var 2).v) (SA.cons ((SE.var 3).v) (SA.nil)))).v)) (SSs.one (SS.setA (i := 0) (H.s_8_r_limits) ((SE.tup (SA.cons ((SE.var 4).v) (SA.cons ((SE.var 5).v) (SA.cons ((SE.var 6).v) (SA.cons ((SE.var 7).v) (SA.nil)))))).v))))))))
theorem c_Rule_init : FnScope N_Rule_init ["self", "parts", "least", "most", "rise", "fall", "up", "down"] (defScope (inClass (top 48) 0)) := C8.fnScope_by (by decide)
noncomputable def φ_Rule_init : Phi := phiI N_Rule_init 8 f_Rule_init
theorem M_Rule_init {g : G} {L : GL} (H : GK g L) : Mg g 5 8 "Rule" 7 [.int 1, .int 8, .non, .non, .int 1, .int 1] φ_Rule_init := by
  obtain ⟨f, fd, h1, h2, h3⟩ := H.mk_Rule
  refine Mg.ofK (n := 2) h1 h2 h3 (w_Rule_init H) c_Rule_init (by simp) rfl (fun D doc pm an cdv ct us ks hl hk => ?_) (fun F => .cons (.int _) (.cons (.int _) (.cons .non (.cons .non (.cons (.int _) (.cons (.int _) .nil))))))
  match us, hl, ks, hk with
  | [_, _], _, [_, _, _, _, _, _], _ => exact ⟨_, _, _, _, _, _, rfl, rfl, ⟨_, _, _, _, _, _, rfl, rfl, ⟨_, _, _, _, _, _, rfl, rfl, ⟨_, _, _, _, _, _, rfl, rfl, ⟨_, _, _, _, _, _, rfl, rfl, ⟨_, _, _, _, _, _, rfl, rfl, rfl⟩⟩⟩⟩⟩⟩
def N_Rule_parts : List Str := ["self"]
noncomputable def f_Rule_parts : S → Out Fl := fRet (fFld [8] "r_parts" (fB (fVar 0)))
theorem w_Rule_parts {g : G} {L : GL} (H : GK g L) : SSs ⟨g, N_Rule_parts, defScope (inClass (top 48) 1), 0, fun _ => true, none⟩ (defBody (inClass (top 48) 1)) f_Rule_parts := by
  unfold f_Rule_parts
  exact SSs.one (SS.ret (SE.fld (H.a_8_r_parts) ((SE.var 0).b)))
theorem c_Rule_parts : FnScope N_Rule_parts ["self"] (defScope (inClass (top 48) 1)) := C8.fnScope_by (by decide)
noncomputable def φ_Rule_parts : Phi := phi N_Rule_parts f_Rule_parts
theorem P_Rule_parts {g : G} {L : GL} (H : GK g L) : Pg g 1 8 "parts" φ_Rule_parts := by
  obtain ⟨p, fa, h1, h2⟩ := H.p_parts
  exact Pg.of (H.s_8_r_parts).1 h1 h2 (w_Rule_parts H) c_Rule_parts (fun _ _ _ _ _ _ us hl => match us, hl with | [_], _ => rfl)
def N_is_below_times : List Str := ["load", "mark", "servers"]
noncomputable def f_is_below_times : S → Out Fl := fRet (fBin opLt (fB (fBin opIx (fB (fVar 0)) (fB (fK (.int 0))))) (fB (fBin opMul (fB (fBin opMul (fB (fVar 1)) (fB (fVar 2)))) (fB (fBin opIx (fB (fVar 0)) (fB (fK (.int 1))))))))
theorem w_is_below_times {g : G} {L : GL} (H : GK g L) : SSs ⟨g, N_is_below_times, defScope (top 49), 0, fun _ => true, none⟩ (defBody (top 49)) f_is_below_times := by
  unfold f_is_below_times
  exact SSs.one (SS.ret (SE.lt ((SE.ix ((SE.var 0).b) ((SE.int).b)).b) ((SE.mul ((SE.mul ((SE.var 1).b) ((SE.var 2).b)).b) ((SE.ix ((SE.var 0).b) ((SE.int).b)).b)).b)))
theorem c_is_below_times : FnScope N_is_below_times ["load", "mark", "servers"] (defScope (top 49)) := C8.fnScope_by (by decide)
noncomputable def φ_is_below_times : Phi := phi N_is_below_times f_is_below_times
theorem F_is_below_times {g : G} {L : GL} (H : GK g L) : Fg g 1 "is_below_times" 3 φ_is_below_times := Fg.of (qual := "is_below_times") (H.d_is_below_times) (w_is_below_times H) c_is_below_times (fun _ _ _ _ _ _ us hl => match us, hl with | [_, _, _], _ => rfl)
def N_is_above_times : List Str := ["load", "mark", "servers"]
noncomputable def f_is_above_times : S → Out Fl := fRet (fBin opGt (fB (fBin opIx (fB (fVar 0)) (fB (fK (.int 0))))) (fB (fBin opMul (fB (fBin opMul (fB (fVar 1)) (fB (fVar 2)))) (fB (fBin opIx (fB (fVar 0)) (fB (fK (.int 1))))))))
theorem w_is_above_times {g : G} {L : GL} (H : GK g L) : SSs ⟨g, N_is_above_times, defScope (top 50), 0, fun _ => true, none⟩ (defBody (top 50)) f_is_above_times := by
  unfold f_is_above_times
  exact SSs.one (SS.ret (SE.gt ((SE.ix ((SE.var 0).b) ((SE.int).b)).b) ((SE.mul ((SE.mul ((SE.var 1).b) ((SE.var 2).b)).b) ((SE.ix ((SE.var 0).b) ((SE.int).b)).b)).b)))
theorem c_is_above_times : FnScope N_is_above_times ["load", "mark", "servers"] (defScope (top 50)) := C8.fnScope_by (by decide)
noncomputable def φ_is_above_times : Phi := phi N_is_above_times f_is_above_times
theorem F_is_above_times {g : G} {L : GL} (H : GK g L) : Fg g 1 "is_above_times" 3 φ_is_above_times := Fg.of (qual := "is_above_times") (H.d_is_above_times) (w_is_above_times H) c_is_above_times (fun _ _ _ _ _ _ us hl => match us, hl with | [_, _, _], _ => rfl)
def N_wish_of : List Str := ["part", "servers", "load"]
noncomputable def f_wish_of : S → Out Fl := fSeq (fIf (asT (fBin (opEq false) (fB (fBin opIx (fB (fVar 0)) (fB (fK (.int 0))))) (fB (fK (.str "over"))))) (fRet (vIf (asT (fDef 3 φ_is_above_times (aCons (fV (fVar 2)) (aCons (fV (fBin opIx (fB (fVar 0)) (fB (fK (.int 1))))) (aCons (fV (fVar 1)) (aNil)))))) (fBin opAdd (fB (fVar 1)) (fB (fBin opIx (fB (fVar 0)) (fB (fK (.int 2)))))) (fK .non))) (fNil)) (fSeq (fIf (asT (fBin (opEq false) (fB (fBin opIx (fB (fVar 0)) (fB (fK (.int 0))))) (fB (fK (.str "under"))))) (fRet (vIf (asT (fDef 3 φ_is_below_times (aCons (fV (fVar 2)) (aCons (fV (fBin opIx (fB (fVar 0)) (fB (fK (.int 1))))) (aCons (fV (fVar 1)) (aNil)))))) (fBin opSub (fB (fVar 1)) (fB (fBin opIx (fB (fVar 0)) (fB (fK (.int 2)))))) (fK .non))) (fNil)) (fSeq (fIf (tOrF (asT (fDef 3 φ_is_below_times (aCons (fV (fVar 2)) (aCons (fV (fBin opIx (fB (fVar 0)) (fB (fK (.int 2))))) (aCons (fV (fVar 1)) (aNil)))))) (asT (fDef 3 φ_is_above_times (aCons (fV (fVar 2)) (aCons (fV (fBin opIx (fB (fVar 0)) (fB (fK (.int 3))))) (aCons (fV (fVar 1)) (aNil))))))) (fRet (fBin opFdv (fB (fBin opSub (fB (fBin opAdd (fB (fBin opIx (fB (fVar 2)) (fB (fK (.int 0))))) (fB (fBin opMul (fB (fBin opIx (fB (fVar 0)) (fB (fK (.int 1))))) (fB (fBin opIx (fB (fVar 2)) (fB (fK (.int 1))))))))) (fB (fK (.int 1))))) (fB (fBin opMul (fB (fBin opIx (fB (fVar 0)) (fB (fK (.int 1))))) (fB (fBin opIx (fB (fVar 2)) (fB (fK (.int 1))))))))) (fNil)) (fRet (fK .non))))
theorem w_wish_of {g : G} {L : GL} (H : GK g L) : SSs ⟨g, N_wish_of, defScope (top 51), 1, fun _ => true, none⟩ (defBody (top 51)) f_wish_of := by
  unfold f_wish_of
  exact SSs.cons (SS.ifS (STs.eq ((SE.ix ((SE.var 0).b) ((SE.int).b)).b) ((SE.str).b)) (SSs.one (SS.ret (SE.ite (STs.val (SE.call (F_is_above_times H) (SA.cons ((SE.var 2).v) (SA.cons ((SE.ix ((SE.var 0).b) ((SE.int).b)).v) (SA.cons ((SE.var 1).v) (SA.nil)))))) (SE.add ((SE.var 1).b) ((SE.ix ((SE.var 0).b) ((SE.int).b)).b)) (SE.non)))) (SSs.nil)) (SSs.cons (SS.ifS (STs.eq ((SE.ix ((SE.var 0).b) ((SE.int).b)).b) ((SE.str).b)) (SSs.one (SS.ret (SE.ite (STs.val (SE.call (F_is_below_times H) (SA.cons ((SE.var 2).v) (SA.cons ((SE.ix ((SE.var 0).b) ((SE.int).b)).v) (SA.cons ((SE.var 1).v) (SA.nil)))))) (SE.sub ((SE.var 1).b) ((SE.ix ((SE.var 0).b) ((SE.int).b)).b)) (SE.non)))) (SSs.nil)) (SSs.cons (SS.ifS ((SWs.or (STs.val (SE.call (F_is_below_times H) (SA.cons ((SE.var 2).v) (SA.cons ((SE.ix ((SE.var 0).b) ((SE.int).b)).v) (SA.cons ((SE.var 1).v) (SA.nil)))))) (SWs.or1 (STs.val (SE.call (F_is_above_times H) (SA.cons ((SE.var 2).v) (SA.cons ((SE.ix ((SE.var 0).b) ((SE.int).b)).v) (SA.cons ((SE.var 1).v) (SA.nil)))))))).t) (SSs.one (SS.ret (SE.fdv ((SE.sub ((SE.add ((SE.ix ((SE.var 2).b) ((SE.int).b)).b) ((SE.mul ((SE.ix ((SE.var 0).b) ((SE.int).b)).b) ((SE.ix ((SE.var 2).b) ((SE.int).b)).b)).b)).b) ((SE.int).b)).b) ((SE.mul ((SE.ix ((SE.var 0).b) ((SE.int).b)).b) ((SE.ix ((SE.var 2).b) ((SE.int).b)).b)).b)))) (SSs.nil)) (SSs.one (SS.ret (SE.non)))))
theorem c_wish_of : FnScope N_wish_of ["part", "servers", "load"] (defScope (top 51)) := C8.fnScope_by (by decide)
noncomputable def φ_wish_of : Phi := phi N_wish_of f_wish_of
theorem F_wish_of {g : G} {L : GL} (H : GK g L) : Fg g 2 "wish_of" 3 φ_wish_of := Fg.of (qual := "wish_of") (H.d_wish_of) (w_wish_of H) c_wish_of (fun _ _ _ _ _ _ us hl => match us, hl with | [_, _, _], _ => rfl)
def N_first_wish : List Str := ["parts", "servers", "load", "part", "found"]
noncomputable def f_first_wish : S → Out Fl := fSeq (fFor (itS (fV (fVar 0))) (gNm 3) (fSeq (fSet 4 (fDef 3 φ_wish_of (aCons (fV (fVar 3)) (aCons (fV (fVar 1)) (aCons (fV (fVar 2)) (aNil)))))) (fIf (asT (fBin (opIs true) (fB (fVar 4)) (fB (fK .non)))) (fRet (fVar 4)) (fNil)))) (fRet (fVar 1))
theorem w_first_wish {g : G} {L : GL} (H : GK g L) : SSs ⟨g, N_first_wish, defScope (top 52), 2, fun _ => true, none⟩ (defBody (top 52)) f_first_wish := by
  unfold f_first_wish
  exact SSs.cons (SS.forS (SI.seq ((SE.var 0).v)) (SG.nm 3) (SSs.cons (SS.set (i := 4) (SE.call (F_wish_of H) (SA.cons ((SE.var 3).v) (SA.cons ((SE.var 1).v) (SA.cons ((SE.var 2).v) (SA.nil)))))) (SSs.one (SS.ifS (STs.notN ((SE.var 4).b) ((SE.non).b)) (SSs.one (SS.ret (SE.var 4))) (SSs.nil))))) (SSs.one (SS.ret (SE.var 1)))
theorem c_first_wish : FnScope N_first_wish ["parts", "servers", "load"] (defScope (top 52)) := C8.fnScope_by (by decide)
noncomputable def φ_first_wish : Phi := phi N_first_wish f_first_wish
theorem F_first_wish {g : G} {L : GL} (H : GK g L) : Fg g 3 "first_wish" 3 φ_first_wish := Fg.of (qual := "first_wish") (H.d_first_wish) (w_first_wish H) c_first_wish (fun _ _ _ _ _ _ us hl => match us, hl with | [_, _, _], _ => rfl)
def N_wish : List Str := ["rule", "servers", "load"]
noncomputable def f_wish : S → Out Fl := fSeq (fIf (tNotF (asT (fDef 3 φ_is_between (aCons (fV (fVar 1)) (aCons (fV (fK (.int 1))) (aCons (fV (fK (.int 8))) (aNil))))))) (fBad) (fNil)) (fSeq (fDrop (fDef 1 φ_need_load (aCons (fV (fVar 2)) (aNil)))) (fRet (fDef 3 φ_first_wish (aCons (fV (fProp 8 φ_Rule_parts (fV (fVar 0)))) (aCons (fV (fVar 1)) (aCons (fV (fVar 2)) (aNil)))))))
theorem w_wish {g : G} {L : GL} (H : GK g L) : SSs ⟨g, N_wish, defScope (top 53), 3, fun _ => true, none⟩ (defBody (top 53)) f_wish := by
  unfold f_wish
  exact SSs.cons (SS.ifS (STs.not (STs.val (SE.call (F_is_between H) (SA.cons ((SE.var 1).v) (SA.cons ((SE.int).v) (SA.cons ((SE.gint H.i_MOST_SERVERS_rules).v) (SA.nil))))))) (SSs.one (SS.bad)) (SSs.nil)) (SSs.cons (SS.expr (SE.call (F_need_load H) (SA.cons ((SE.var 2).v) (SA.nil)))) (SSs.one (SS.ret (SE.call (F_first_wish H) (SA.cons ((SE.prop (P_Rule_parts H) ((SE.var 0).v)).v) (SA.cons ((SE.var 1).v) (SA.cons ((SE.var 2).v) (SA.nil))))))))
theorem c_wish : FnScope N_wish ["rule", "servers", "load"] (defScope (top 53)) := C8.fnScope_by (by decide)
noncomputable def φ_wish : Phi := phi N_wish f_wish
theorem F_wish {g : G} {L : GL} (H : GK g L) : Fg g 4 "wish" 3 φ_wish := Fg.of (qual := "wish") (H.d_wish) (w_wish H) c_wish (fun _ _ _ _ _ _ us hl => match us, hl with | [_, _, _], _ => rfl)
def N__law_take : List Str := ["draw", "size", "cell", "found"]
noncomputable def f__law_take : S → Out Fl := fSeq (fIf (tAndF (asT (fBin (opEq false) (fB (fDr 0 .rest)) (fB (fK (.int 0))))) (fDrL 0)) (fDrSet 0 .rest (fDrPop 0)) (fIf (asT (fBin (opEq false) (fB (fDr 0 .rest)) (fB (fK (.int 0))))) (fSeq (fDrSet 0 .turn (fBin opAdd (fB (fDr 0 .turn)) (fB (fK (.int 1))))) (fSeq (fFor (itS (fV (fDrCells 0 (aCons (fV (fDr 0 .turn)) (aNil))))) (gNm 2) (fDrSet 0 .mix (fBin opMod (fB (fCall opInt (aCons (fB (fBin opAdd (fB (fBin opAdd (fB (fBin opMul (fB (fDr 0 .mix)) (fB (fK (.int 69621))))) (fB (fBin opMul (fB (fVar 2)) (fB (fK (.int 48271))))))) (fB (fK (.int 12345))))) (aNil)))) (fB (fK (.int 2147483629)))))) (fDrSet 0 .rest (fBin opMod (fB (fCall opInt (aCons (fB (fBin opPow (fB (fDr 0 .mix)) (fB (fK (.int 5))))) (aNil)))) (fB (fK (.int 2305843009213693951))))))) (fNil))) (fSeq (fDrDiv 0 3 1) (fRet (fVar 3)))
theorem w__law_take {g : G} {L : GL} (H : GK g L) : SSs ⟨g, N__law_take, defScope (top 56), 0, fun _ => true, none⟩ (defBody (top 56)) f__law_take := by
  unfold f__law_take
  exact SSs.cons (SS.ifS ((SWs.and (STs.eq ((SE.dr 0 .rest).b) ((SE.int).b)) (SWs.and1 (STs.drL 0))).t) (SSs.one (SS.drSet 0 .rest (SE.drPop 0))) (SSs.one (SS.ifS (STs.eq ((SE.dr 0 .rest).b) ((SE.int).b)) (SSs.cons (SS.drSet 0 .turn (SE.add ((SE.dr 0 .turn).b) ((SE.int).b))) (SSs.cons (SS.forS (SI.seq ((SE.drCells 0 (SA.cons ((SE.dr 0 .turn).v) (SA.nil))).v)) (SG.nm 2) (SSs.one (SS.drSet 0 .mix (SE.mod ((SE.c_int H.gd (SAb.cons ((SE.add ((SE.add ((SE.mul ((SE.dr 0 .mix).b) ((SE.int).b)).b) ((SE.mul ((SE.var 2).b) ((SE.int).b)).b)).b) ((SE.int).b)).b) (SAb.nil))).b) ((SE.int).b))))) (SSs.one (SS.drSet 0 .rest (SE.mod ((SE.c_int H.gd (SAb.cons ((SE.pow ((SE.dr 0 .mix).b) ((SE.int).b)).b) (SAb.nil))).b) ((SE.int).b)))))) (SSs.nil)))) (SSs.cons (SS.drDiv 0 3 1 H.gd) (SSs.one (SS.ret (SE.var 3))))
theorem c__law_take : FnScope N__law_take ["draw", "size"] (defScope (top 56)) := C8.fnScope_by (by decide)
noncomputable def φ__law_take : Phi := phi N__law_take f__law_take
theorem F__law_take {g : G} {L : GL} (H : GK g L) : Fg g 1 "_law_take" 2 φ__law_take := Fg.of (qual := "_law_take") (H.d__law_take) (w__law_take H) c__law_take (fun _ _ _ _ _ _ us hl => match us, hl with | [_, _], _ => rfl)
def N__law_pick : List Str := ["draw", "some"]
noncomputable def f__law_pick : S → Out Fl := fRet (fBin opIx (fB (fVar 1)) (fB (fDef 2 φ__law_take (aCons (fV (fVar 0)) (aCons (fV (fCall opLen (aCons (fB (fVar 1)) (aNil)))) (aNil))))))
theorem w__law_pick {g : G} {L : GL} (H : GK g L) : SSs ⟨g, N__law_pick, defScope (top 57), 1, fun _ => true, none⟩ (defBody (top 57)) f__law_pick := by
  unfold f__law_pick
  exact SSs.one (SS.ret (SE.ix ((SE.var 1).b) ((SE.call (F__law_take H) (SA.cons ((SE.var 0).v) (SA.cons ((SE.c_len H.gd (SAb.cons ((SE.var 1).b) (SAb.nil))).v) (SA.nil)))).b)))
theorem c__law_pick : FnScope N__law_pick ["draw", "some"] (defScope (top 57)) := C8.fnScope_by (by decide)
noncomputable def φ__law_pick : Phi := phi N__law_pick f__law_pick
theorem F__law_pick {g : G} {L : GL} (H : GK g L) : Fg g 2 "_law_pick" 2 φ__law_pick := Fg.of (qual := "_law_pick") (H.d__law_pick) (w__law_pick H) c__law_pick (fun _ _ _ _ _ _ us hl => match us, hl with | [_, _], _ => rfl)
def N__law_fraction : List Str := ["top", "bottom", "one", "other"]
noncomputable def f__law_fraction : S → Out Fl := fSeq (fPar 2 3 (fVar 0) (fVar 1)) (fSeq (fWh (asT (fBin opGt (fB (fVar 3)) (fB (fK (.int 0))))) (fPar 2 3 (fVar 3) (fBin opMod (fB (fVar 2)) (fB (fVar 3))))) (fRet (fTup (aCons (fV (fBin opFdv (fB (fVar 0)) (fB (fVar 2)))) (aCons (fV (fBin opFdv (fB (fVar 1)) (fB (fVar 2)))) (aNil))))))
theorem w__law_fraction {g : G} {L : GL} (H : GK g L) : SSs ⟨g, N__law_fraction, defScope (top 58), 0, fun _ => true, none⟩ (defBody (top 58)) f__law_fraction := by
  unfold f__law_fraction
  exact SSs.cons (SS.par (i := 2) (j := 3) (SE.var 0) (SE.var 1)) (SSs.cons (SS.whS (STs.gt ((SE.var 3).b) ((SE.int).b)) (SSs.one (SS.par (i := 2) (j := 3) (SE.var 3) (SE.mod ((SE.var 2).b) ((SE.var 3).b))))) (SSs.one (SS.ret (SE.tup (SA.cons ((SE.fdv ((SE.var 0).b) ((SE.var 2).b)).v) (SA.cons ((SE.fdv ((SE.var 1).b) ((SE.var 2).b)).v) (SA.nil)))))))
theorem c__law_fraction : FnScope N__law_fraction ["top", "bottom"] (defScope (top 58)) := C8.fnScope_by (by decide)
noncomputable def φ__law_fraction : Phi := phi N__law_fraction f__law_fraction
theorem F__law_fraction {g : G} {L : GL} (H : GK g L) : Fg g 1 "_law_fraction" 2 φ__law_fraction := Fg.of (qual := "_law_fraction") (H.d__law_fraction) (w__law_fraction H) c__law_fraction (fun _ _ _ _ _ _ us hl => match us, hl with | [_, _], _ => rfl)
def N__law_shapes : List Str := ["draw", "many", "found", "turn", "shape"]
noncomputable def f__law_shapes : S → Out Fl := fSeq (fSet 2 (fLst (aNil))) (fSeq (fFor (itR1 (fBin opAdd (fB (fK (.int 1))) (fB (fDef 2 φ__law_take (aCons (fV (fVar 0)) (aCons (fV (fVar 1)) (aNil))))))) (gNm 3) (fSeq (fSet 4 (fTup (aCons (fV (fDef 2 φ__law_pick (aCons (fV (fVar 0)) (aCons (fV (fLst (aCons (fV (fK (.str "over"))) (aCons (fV (fK (.str "under"))) (aNil))))) (aNil))))) (aCons (fV (fDef 2 φ__law_pick (aCons (fV (fVar 0)) (aCons (fV (fLst (aCons (fV (fK (.int 1))) (aCons (fV (fK (.int 1))) (aCons (fV (fK (.int 2))) (aCons (fV (fK (.int 3))) (aCons (fV (fK (.int 8))) (aNil)))))))) (aNil))))) (aNil))))) (fIf (asT (fBin (opIn true) (fB (fVar 4)) (fB (fVar 2)))) (fDrop (isOw 2 (fMut 2 mApp (aCons (fV (fVar 4)) (aNil))))) (fNil)))) (fRet (fVar 2)))
theorem w__law_shapes {g : G} {L : GL} (H : GK g L) : SSs ⟨g, N__law_shapes, defScope (top 59), 2, fun _ => true, none⟩ (defBody (top 59)) f__law_shapes := by
  unfold f__law_shapes
  exact SSs.cons (SS.set (i := 2) (SE.lst (SA.nil))) (SSs.cons (SS.forS (SI.range1 H.gd.range (SE.add ((SE.int).b) ((SE.call (F__law_take H) (SA.cons ((SE.var 0).v) (SA.cons ((SE.var 1).v) (SA.nil)))).b))) (SG.nm 3) (SSs.cons (SS.set (i := 4) (SE.tup (SA.cons ((SE.call (F__law_pick H) (SA.cons ((SE.var 0).v) (SA.cons ((SE.lst (SA.cons ((SE.str).v) (SA.cons ((SE.str).v) (SA.nil)))).v) (SA.nil)))).v) (SA.cons ((SE.call (F__law_pick H) (SA.cons ((SE.var 0).v) (SA.cons ((SE.lst (SA.cons ((SE.int).v) (SA.cons ((SE.int).v) (SA.cons ((SE.int).v) (SA.cons ((SE.int).v) (SA.cons ((SE.int).v) (SA.nil))))))).v) (SA.nil)))).v) (SA.nil))))) (SSs.one (SS.ifS (STs.notIn ((SE.var 4).b) ((SE.var 2).b) (by with_unfolding_all rfl)) (SSs.one (SS.expr (SE.append 2 (SA.cons ((SE.var 4).v) (SA.nil))))) (SSs.nil))))) (SSs.one (SS.ret (SE.var 2))))
theorem c__law_shapes : FnScope N__law_shapes ["draw", "many"] (defScope (top 59)) := C8.fnScope_by (by decide)
noncomputable def φ__law_shapes : Phi := phi N__law_shapes f__law_shapes
theorem F__law_shapes {g : G} {L : GL} (H : GK g L) : Fg g 3 "_law_shapes" 2 φ__law_shapes := Fg.of (qual := "_law_shapes") (H.d__law_shapes) (w__law_shapes H) c__law_shapes (fun _ _ _ _ _ _ us hl => match us, hl with | [_, _], _ => rfl)
def N__law_made : List Str := ["shapes", "marks", "shape", "mark"]
noncomputable def f__law_made : S → Out Fl := fRet (fMake 8 7 [.int 1, .int 8, .non, .non, .int 1, .int 1] φ_Rule_init (aCons (fV (fLc (itZ2 (fV (fVar 0)) (fV (fVar 1))) [2, 3] (gTp 2 (gCn (gNm 2) (gCn (gNm 3) (gNl)))) (tYesF) (fV (fTup (aCons (fV (fBin opIx (fB (fVar 2)) (fB (fK (.int 0))))) (aCons (fV (fVar 3)) (aCons (fV (fBin opIx (fB (fVar 2)) (fB (fK (.int 1))))) (aNil)))))))) (aNil)))
theorem w__law_made {g : G} {L : GL} (H : GK g L) : SSs ⟨g, N__law_made, defScope (top 60), 6, fun _ => true, none⟩ (defBody (top 60)) f__law_made := by
  unfold f__law_made
  exact SSs.one (SS.ret (SE.make (M_Rule_init H) (SA.cons ((SE.lc (SI.zip2 H.gd.zip ((SE.var 0).v) ((SE.var 1).v)) (blkOk_by (own := [("shape", 2), ("mark", 3)]) rfl) (SG.tp (SGs.cons (SG.nm 2) (SGs.cons (SG.nm 3) (SGs.nil)))) (SIf.nil) ((SE.tup (SA.cons ((SE.ix ((SE.var 2).b) ((SE.int).b)).v) (SA.cons ((SE.var 3).v) (SA.cons ((SE.ix ((SE.var 2).b) ((SE.int).b)).v) (SA.nil))))).v)).v) (SA.nil))))
theorem c__law_made : FnScope N__law_made ["shapes", "marks"] (defScope (top 60)) := C8.fnScope_by (by decide)
noncomputable def φ__law_made : Phi := phi N__law_made f__law_made
theorem F__law_made {g : G} {L : GL} (H : GK g L) : Fg g 7 "_law_made" 2 φ__law_made := Fg.of (qual := "_law_made") (H.d__law_made) (w__law_made H) c__law_made (fun _ _ _ _ _ _ us hl => match us, hl with | [_, _], _ => rfl)
def N__law_ticks : List Str := ["draw", "made", "marks", "many", "found", "turn", "k", "bottom", "mark", "top", "one"]
noncomputable def f__law_ticks : S → Out Fl := fSeq (fSet 4 (fLst (aNil))) (fSeq (fFor (itR1 (fDef 2 φ__law_take (aCons (fV (fVar 0)) (aCons (fV (fBin opAdd (fB (fVar 3)) (fB (fK (.int 1))))) (aNil))))) (gNm 5) (fSeq (fPar 6 7 (fBin opAdd (fB (fK (.int 1))) (fB (fDef 2 φ__law_take (aCons (fV (fVar 0)) (aCons (fV (fK (.int 8))) (aNil)))))) (fDef 2 φ__law_pick (aCons (fV (fVar 0)) (aCons (fV (fLst (aCons (fV (fK (.int 1))) (aCons (fV (fK (.int 1))) (aCons (fV (fK (.int 2))) (aCons (fV (fK (.int 5))) (aCons (fV (fBin opAdd (fB (fBin opPow (fB (fK (.int 10))) (fB (fK (.int 26))))) (fB (fK (.int 7))))) (aNil)))))))) (aNil))))) (fSeq (fSet 8 (fDef 2 φ__law_pick (aCons (fV (fVar 0)) (aCons (fV (fBin opAdd (fB (fCall opList (aCons (fB (fVar 2)) (aNil)))) (fB (fLst (aCons (fV (fBin opAdd (fB (fK (.int 1))) (fB (fDef 2 φ__law_take (aCons (fV (fVar 0)) (aCons (fV (fK (.int 60))) (aNil))))))) (aNil)))))) (aNil))))) (fSeq (fSet 9 (fBin opAdd (fB (fBin opMul (fB (fBin opMul (fB (fVar 8)) (fB (fVar 6)))) (fB (fVar 7)))) (fB (fDef 2 φ__law_pick (aCons (fV (fVar 0)) (aCons (fV (fLst (aCons (fV (fK (.int 0))) (aCons (fV (fK (.int 1))) (aCons (fV (fNeg (fK (.int 1)))) (aCons (fV (fK (.int 3))) (aNil))))))) (aNil))))))) (fSeq (fSet 10 (fDef 2 φ__law_fraction (aCons (fV (fCall opMax (aCons (fB (fK (.int 0))) (aCons (fB (fVar 9)) (aNil))))) (aCons (fV (fVar 7)) (aNil))))) (fDrop (isOw 4 (fMut 4 mApp (aCons (fV (fTup (aCons (fV (fVar 10)) (aCons (fV (fVar 6)) (aCons (fV (fDef 3 φ_wish (aCons (fV (fVar 1)) (aCons (fV (fVar 6)) (aCons (fV (fVar 10)) (aNil)))))) (aNil)))))) (aNil)))))))))) (fRet (fVar 4)))
theorem w__law_ticks {g : G} {L : GL} (H : GK g L) : SSs ⟨g, N__law_ticks, defScope (top 61), 4, fun _ => true, none⟩ (defBody (top 61)) f__law_ticks := by
  unfold f__law_ticks
  exact SSs.cons (SS.set (i := 4) (SE.lst (SA.nil))) (SSs.cons (SS.forS (SI.range1 H.gd.range (SE.call (F__law_take H) (SA.cons ((SE.var 0).v) (SA.cons ((SE.add ((SE.var 3).b) ((SE.int).b)).v) (SA.nil))))) (SG.nm 5) (SSs.cons (SS.par (i := 6) (j := 7) (SE.add ((SE.int).b) ((SE.call (F__law_take H) (SA.cons ((SE.var 0).v) (SA.cons ((SE.int).v) (SA.nil)))).b)) (SE.call (F__law_pick H) (SA.cons ((SE.var 0).v) (SA.cons ((SE.lst (SA.cons ((SE.int).v) (SA.cons ((SE.int).v) (SA.cons ((SE.int).v) (SA.cons ((SE.int).v) (SA.cons ((SE.add ((SE.pow ((SE.int).b) ((SE.int).b)).b) ((SE.int).b)).v) (SA.nil))))))).v) (SA.nil))))) (SSs.cons (SS.set (i := 8) (SE.call (F__law_pick H) (SA.cons ((SE.var 0).v) (SA.cons ((SE.add ((SE.c_list H.gd (SAb.cons ((SE.var 2).b) (SAb.nil))).b) ((SE.lst (SA.cons ((SE.add ((SE.int).b) ((SE.call (F__law_take H) (SA.cons ((SE.var 0).v) (SA.cons ((SE.int).v) (SA.nil)))).b)).v) (SA.nil))).b)).v) (SA.nil))))) (SSs.cons (SS.set (i := 9) (SE.add ((SE.mul ((SE.mul ((SE.var 8).b) ((SE.var 6).b)).b) ((SE.var 7).b)).b) ((SE.call (F__law_pick H) (SA.cons ((SE.var 0).v) (SA.cons ((SE.lst (SA.cons ((SE.int).v) (SA.cons ((SE.int).v) (SA.cons ((SE.neg (SE.int)).v) (SA.cons ((SE.int).v) (SA.nil)))))).v) (SA.nil)))).b))) (SSs.cons (SS.set (i := 10) (SE.call (F__law_fraction H) (SA.cons ((SE.c_max2 H.gd (SAb.cons ((SE.int).b) (SAb.cons ((SE.var 9).b) (SAb.nil)))).v) (SA.cons ((SE.var 7).v) (SA.nil))))) (SSs.one (SS.expr (SE.append 4 (SA.cons ((SE.tup (SA.cons ((SE.var 10).v) (SA.cons ((SE.var 6).v) (SA.cons ((SE.call (F_wish H) (SA.cons ((SE.var 1).v) (SA.cons ((SE.var 6).v) (SA.cons ((SE.var 10).v) (SA.nil))))).v) (SA.nil))))).v) (SA.nil)))))))))) (SSs.one (SS.ret (SE.var 4))))
theorem c__law_ticks : FnScope N__law_ticks ["draw", "made", "marks", "many"] (defScope (top 61)) := C8.fnScope_by (by decide)
noncomputable def φ__law_ticks : Phi := phi N__law_ticks f__law_ticks
theorem F__law_ticks {g : G} {L : GL} (H : GK g L) : Fg g 5 "_law_ticks" 4 φ__law_ticks := Fg.of (qual := "_law_ticks") (H.d__law_ticks) (w__law_ticks H) c__law_ticks (fun _ _ _ _ _ _ us hl => match us, hl with | [_, _, _, _], _ => rfl)
def N__law_far : List Str := ["draw", "bottom", "top"]
noncomputable def f__law_far : S → Out Fl := fSeq (fSet 1 (fDef 2 φ__law_pick (aCons (fV (fVar 0)) (aCons (fV (fLst (aCons (fV (fK (.int 1))) (aCons (fV (fK (.int 1))) (aCons (fV (fBin opAdd (fB (fBin opPow (fB (fK (.int 10))) (fB (fK (.int 26))))) (fB (fK (.int 7))))) (aNil)))))) (aNil))))) (fSeq (fSet 2 (fCall opMax (aCons (fB (fK (.int 0))) (aCons (fB (fBin opAdd (fB (fBin opMul (fB (fDef 2 φ__law_take (aCons (fV (fVar 0)) (aCons (fV (fK (.int 300))) (aNil))))) (fB (fVar 1)))) (fB (fDef 2 φ__law_pick (aCons (fV (fVar 0)) (aCons (fV (fLst (aCons (fV (fK (.int 0))) (aCons (fV (fK (.int 1))) (aCons (fV (fNeg (fK (.int 1)))) (aNil)))))) (aNil))))))) (aNil))))) (fRet (fTup (aCons (fV (fDef 2 φ__law_fraction (aCons (fV (fVar 2)) (aCons (fV (fVar 1)) (aNil))))) (aCons (fV (fBin opAdd (fB (fK (.int 1))) (fB (fDef 2 φ__law_take (aCons (fV (fVar 0)) (aCons (fV (fK (.int 8))) (aNil))))))) (aNil))))))
theorem w__law_far {g : G} {L : GL} (H : GK g L) : SSs ⟨g, N__law_far, defScope (top 62), 2, fun _ => true, none⟩ (defBody (top 62)) f__law_far := by
  unfold f__law_far
  exact SSs.cons (SS.set (i := 1) (SE.call (F__law_pick H) (SA.cons ((SE.var 0).v) (SA.cons ((SE.lst (SA.cons ((SE.int).v) (SA.cons ((SE.int).v) (SA.cons ((SE.add ((SE.pow ((SE.int).b) ((SE.int).b)).b) ((SE.int).b)).v) (SA.nil))))).v) (SA.nil))))) (SSs.cons (SS.set (i := 2) (SE.c_max2 H.gd (SAb.cons ((SE.int).b) (SAb.cons ((SE.add ((SE.mul ((SE.call (F__law_take H) (SA.cons ((SE.var 0).v) (SA.cons ((SE.int).v) (SA.nil)))).b) ((SE.var 1).b)).b) ((SE.call (F__law_pick H) (SA.cons ((SE.var 0).v) (SA.cons ((SE.lst (SA.cons ((SE.int).v) (SA.cons ((SE.int).v) (SA.cons ((SE.neg (SE.int)).v) (SA.nil))))).v) (SA.nil)))).b)).b) (SAb.nil))))) (SSs.one (SS.ret (SE.tup (SA.cons ((SE.call (F__law_fraction H) (SA.cons ((SE.var 2).v) (SA.cons ((SE.var 1).v) (SA.nil)))).v) (SA.cons ((SE.add ((SE.int).b) ((SE.call (F__law_take H) (SA.cons ((SE.var 0).v) (SA.cons ((SE.int).v) (SA.nil)))).b)).v) (SA.nil)))))))
theorem c__law_far : FnScope N__law_far ["draw"] (defScope (top 62)) := C8.fnScope_by (by decide)
noncomputable def φ__law_far : Phi := phi N__law_far f__law_far
theorem F__law_far {g : G} {L : GL} (H : GK g L) : Fg g 3 "_law_far" 1 φ__law_far := Fg.of (qual := "_law_far") (H.d__law_far) (w__law_far H) c__law_far (fun _ _ _ _ _ _ us hl => match us, hl with | [_], _ => rfl)
def N__law_bent : List Str := ["draw", "seen", "at", "one", "k", "wished"]
noncomputable def f__law_bent : S → Out Fl := fSeq (fIf (tOrF (asT (fBin (opEq false) (fB (fVar 1)) (fB (fLst (aNil))))) (asT (fBin opGt (fB (fDef 2 φ__law_take (aCons (fV (fVar 0)) (aCons (fV (fK (.int 3))) (aNil))))) (fB (fK (.int 0)))))) (fRet (fVar 1)) (fNil)) (fSeq (fSet 2 (fDef 2 φ__law_take (aCons (fV (fVar 0)) (aCons (fV (fCall opLen (aCons (fB (fVar 1)) (aNil)))) (aNil))))) (fSeq (fAsg (gTp 3 (gCn (gNm 3) (gCn (gNm 4) (gCn (gNm 5) (gNl))))) (fV (fBin opIx (fB (fVar 1)) (fB (fVar 2))))) (fRet (fBin opAdd (fB (fBin opAdd (fB (fSl (fB (fVar 1)) (oNone) (oInt (fVar 2)))) (fB (fLst (aCons (fV (fTup (aCons (fV (fVar 3)) (aCons (fV (fVar 4)) (aCons (fV (fBin opAdd (fB (fVar 5)) (fB (fDef 2 φ__law_pick (aCons (fV (fVar 0)) (aCons (fV (fLst (aCons (fV (fK (.int 1))) (aCons (fV (fNeg (fK (.int 1)))) (aCons (fV (fK (.int 2))) (aCons (fV (fK (.int 8))) (aNil))))))) (aNil))))))) (aNil)))))) (aNil)))))) (fB (fSl (fB (fVar 1)) (oInt (fBin opAdd (fB (fVar 2)) (fB (fK (.int 1))))) (oNone)))))))
theorem w__law_bent {g : G} {L : GL} (H : GK g L) : SSs ⟨g, N__law_bent, defScope (top 63), 2, fun _ => true, none⟩ (defBody (top 63)) f__law_bent := by
  unfold f__law_bent
  exact SSs.cons (SS.ifS ((SWs.or (STs.eq ((SE.var 1).b) ((SE.lst (SA.nil)).b)) (SWs.or1 (STs.gt ((SE.call (F__law_take H) (SA.cons ((SE.var 0).v) (SA.cons ((SE.int).v) (SA.nil)))).b) ((SE.int).b)))).t) (SSs.one (SS.ret (SE.var 1))) (SSs.nil)) (SSs.cons (SS.set (i := 2) (SE.call (F__law_take H) (SA.cons ((SE.var 0).v) (SA.cons ((SE.c_len H.gd (SAb.cons ((SE.var 1).b) (SAb.nil))).v) (SA.nil))))) (SSs.cons (SS.asg ((SE.ix ((SE.var 1).b) ((SE.var 2).b)).v) (SG.tp (SGs.cons (SG.nm 3) (SGs.cons (SG.nm 4) (SGs.cons (SG.nm 5) (SGs.nil)))))) (SSs.one (SS.ret (SE.add ((SE.add ((SE.sl ((SE.var 1).b) (SO.none) (SO.int (SE.var 2))).b) ((SE.lst (SA.cons ((SE.tup (SA.cons ((SE.var 3).v) (SA.cons ((SE.var 4).v) (SA.cons ((SE.add ((SE.var 5).b) ((SE.call (F__law_pick H) (SA.cons ((SE.var 0).v) (SA.cons ((SE.lst (SA.cons ((SE.int).v) (SA.cons ((SE.neg (SE.int)).v) (SA.cons ((SE.int).v) (SA.cons ((SE.int).v) (SA.nil)))))).v) (SA.nil)))).b)).v) (SA.nil))))).v) (SA.nil))).b)).b) ((SE.sl ((SE.var 1).b) (SO.int (SE.add ((SE.var 2).b) ((SE.int).b))) (SO.none)).b))))))
theorem c__law_bent : FnScope N__law_bent ["draw", "seen"] (defScope (top 63)) := C8.fnScope_by (by decide)
noncomputable def φ__law_bent : Phi := phi N__law_bent f__law_bent
theorem F__law_bent {g : G} {L : GL} (H : GK g L) : Fg g 3 "_law_bent" 2 φ__law_bent := Fg.of (qual := "_law_bent") (H.d__law_bent) (w__law_bent H) c__law_bent (fun _ _ _ _ _ _ us hl => match us, hl with | [_, _], _ => rfl)
def N__law_met : List Str := ["shapes", "seen", "found", "at", "alone", "tick_here", "near", "far", "pair"]
noncomputable def f__law_met : S → Out Fl := fSeq (fSet 2 (fBin opMul (fB (fLst (aCons (fV (fTup (aCons (fV (fK (.int 1))) (aCons (fV (fK (.int 60))) (aNil))))) (aNil)))) (fB (fCall opLen (aCons (fB (fVar 0)) (aNil)))))) (fSeq (fFor (itE (fV (fVar 1))) (gTp 2 (gCn (gNm 3) (gCn (gNm 5) (gNl)))) (fSeq (fSet 4 (fTold 7 "at" "told" "none" (fV (fDef 2 φ_ranges (aCons (fV (fVar 0)) (aCons (fV (fLst (aCons (fV (fVar 5)) (aNil)))) (aNil))))))) (fSeq (fIf (asT (fBin (opEq false) (fB (fBin opIx (fB (fVar 4)) (fB (fK (.int 0))))) (fB (fK (.str "none"))))) (fRet (fTup (aCons (fV (fK (.str "none"))) (aCons (fV (fVar 3)) (aNil))))) (fNil)) (fSeq (fSet 2 (fLc (itZ2 (fV (fVar 2)) (fV (fBin opIx (fB (fVar 4)) (fB (fK (.int 1)))))) [6, 7] (gTp 2 (gCn (gNm 6) (gCn (gNm 7) (gNl)))) (tYesF) (fV (fTup (aCons (fV (fCall opMax (aCons (fB (fBin opIx (fB (fVar 6)) (fB (fK (.int 0))))) (aCons (fB (fBin opIx (fB (fVar 7)) (fB (fK (.int 0))))) (aNil))))) (aCons (fV (fCall opMin (aCons (fB (fBin opIx (fB (fVar 6)) (fB (fK (.int 1))))) (aCons (fB (fBin opIx (fB (fVar 7)) (fB (fK (.int 1))))) (aNil))))) (aNil))))))) (fIf (asT (fBin (opEq true) (fB (fLc (itS (fV (fVar 2))) [8] (gNm 8) (asT (fBin opGt (fB (fBin opIx (fB (fVar 8)) (fB (fK (.int 0))))) (fB (fBin opIx (fB (fVar 8)) (fB (fK (.int 1))))))) (fV (fVar 8)))) (fB (fLst (aNil))))) (fRet (fTup (aCons (fV (fK (.str "none"))) (aCons (fV (fVar 3)) (aNil))))) (fNil)))))) (fRet (fTup (aCons (fV (fK (.str "told"))) (aCons (fV (fVar 2)) (aNil))))))
theorem w__law_met {g : G} {L : GL} (H : GK g L) : SSs ⟨g, N__law_met, defScope (top 65), 8, fun _ => true, some L.l__law_met⟩ (defBody (top 65)) f__law_met := by
  unfold f__law_met
  exact SSs.cons (SS.set (i := 2) (SE.mul ((SE.lst (SA.cons ((SE.tup (SA.cons ((SE.int).v) (SA.cons ((SE.int).v) (SA.nil)))).v) (SA.nil))).b) ((SE.c_len H.gd (SAb.cons ((SE.var 0).b) (SAb.nil))).b))) (SSs.cons (SS.forS (SI.enum H.gd.enumerate ((SE.var 1).v)) (SG.tp (SGs.cons (SG.nm 3) (SGs.cons (SG.nm 5) (SGs.nil)))) (SSs.cons (SS.set (i := 4) (SE.toldLam (k := 6) H.told rfl (LamX.lamS_by rfl) (fun _ => rfl) (fun _ _ _ _ _ => rfl) ((SE.call (F_ranges H) (SA.cons ((SE.var 0).v) (SA.cons ((SE.lst (SA.cons ((SE.var 5).v) (SA.nil))).v) (SA.nil)))).v))) (SSs.cons (SS.ifS (STs.eq ((SE.ix ((SE.var 4).b) ((SE.int).b)).b) ((SE.str).b)) (SSs.one (SS.ret (SE.tup (SA.cons ((SE.str).v) (SA.cons ((SE.var 3).v) (SA.nil)))))) (SSs.nil)) (SSs.cons (SS.setLc (i := 2) (SI.zip2 H.gd.zip ((SE.var 2).v) ((SE.ix ((SE.var 4).b) ((SE.int).b)).v)) (blkOk_by (own := [("near", 6), ("far", 7)]) rfl) (SG.tp (SGs.cons (SG.nm 6) (SGs.cons (SG.nm 7) (SGs.nil)))) (SIf.nil) ((SE.tup (SA.cons ((SE.c_max2 H.gd (SAb.cons ((SE.ix ((SE.var 6).b) ((SE.int).b)).b) (SAb.cons ((SE.ix ((SE.var 7).b) ((SE.int).b)).b) (SAb.nil)))).v) (SA.cons ((SE.c_min2 H.gd (SAb.cons ((SE.ix ((SE.var 6).b) ((SE.int).b)).b) (SAb.cons ((SE.ix ((SE.var 7).b) ((SE.int).b)).b) (SAb.nil)))).v) (SA.nil)))).v)) (SSs.one (SS.ifS (STs.ne ((SE.lc (SI.seq ((SE.var 2).v)) (blkOk_by (own := [("pair", 8)]) rfl) (SG.nm 8) (SIf.one (STs.gt ((SE.ix ((SE.var 8).b) ((SE.int).b)).b) ((SE.ix ((SE.var 8).b) ((SE.int).b)).b))) ((SE.var 8).v)).b) ((SE.lst (SA.nil)).b)) (SSs.one (SS.ret (SE.tup (SA.cons ((SE.str).v) (SA.cons ((SE.var 3).v) (SA.nil)))))) (SSs.nil))))))) (SSs.one (SS.ret (SE.tup (SA.cons ((SE.str).v) (SA.cons ((SE.var 2).v) (SA.nil)))))))
theorem c__law_met : FnScope N__law_met ["shapes", "seen"] (defScope (top 65)) := C8.fnScope_by (by decide)
noncomputable def φ__law_met : Phi := phi N__law_met f__law_met
theorem F__law_met {g : G} {L : GL} (H : GK g L) : Fg g 9 "_law_met" 2 φ__law_met := Fg.ofL (qual := "_law_met") (H.d__law_met) (w__law_met H) c__law_met (fun _ _ _ _ _ _ us hl => match us, hl with | [_, _], _ => rfl)
def N__law_many : List Str := ["told", "many", "low", "high"]
noncomputable def f__law_many : S → Out Fl := fSeq (fSet 1 (fCall opInt (aCons (fB (fBin (opEq false) (fB (fBin opIx (fB (fVar 0)) (fB (fK (.int 0))))) (fB (fK (.str "told"))))) (aNil)))) (fSeq (fFor (itS (fV (vIf (asT (fBin (opEq false) (fB (fVar 1)) (fB (fK (.int 1))))) (fBin opIx (fB (fVar 0)) (fB (fK (.int 1)))) (fLst (aNil))))) (gTp 2 (gCn (gNm 2) (gCn (gNm 3) (gNl)))) (fSet 1 (fBin opMul (fB (fVar 1)) (fB (fBin opAdd (fB (fBin opSub (fB (fVar 3)) (fB (fVar 2)))) (fB (fK (.int 1)))))))) (fRet (fVar 1)))
theorem w__law_many {g : G} {L : GL} (H : GK g L) : SSs ⟨g, N__law_many, defScope (top 66), 0, fun _ => true, none⟩ (defBody (top 66)) f__law_many := by
  unfold f__law_many
  exact SSs.cons (SS.set (i := 1) (SE.c_int H.gd (SAb.cons ((SE.eq ((SE.ix ((SE.var 0).b) ((SE.int).b)).b) ((SE.str).b)).b) (SAb.nil)))) (SSs.cons (SS.forS (SI.seq ((SE.ite (STs.eq ((SE.var 1).b) ((SE.int).b)) (SE.ix ((SE.var 0).b) ((SE.int).b)) (SE.lst (SA.nil))).v)) (SG.tp (SGs.cons (SG.nm 2) (SGs.cons (SG.nm 3) (SGs.nil)))) (SSs.one (SS.set (i := 1) (SE.mul ((SE.var 1).b) ((SE.add ((SE.sub ((SE.var 3).b) ((SE.var 2).b)).b) ((SE.int).b)).b))))) (SSs.one (SS.ret (SE.var 1))))
theorem c__law_many : FnScope N__law_many ["told"] (defScope (top 66)) := C8.fnScope_by (by decide)
noncomputable def φ__law_many : Phi := phi N__law_many f__law_many
theorem F__law_many {g : G} {L : GL} (H : GK g L) : Fg g 1 "_law_many" 1 φ__law_many := Fg.of (qual := "_law_many") (H.d__law_many) (w__law_many H) c__law_many (fun _ _ _ _ _ _ us hl => match us, hl with | [_], _ => rfl)
def N__law_mixed : List Str := ["draw", "some", "left", "found"]
noncomputable def f__law_mixed : S → Out Fl := fSeq (fPar 2 3 (fCall opList (aCons (fB (fVar 1)) (aNil))) (fLst (aNil))) (fSeq (fWh (asT (fBin (opEq true) (fB (fVar 2)) (fB (fLst (aNil))))) (fDrop (isOw 3 (fMut 3 mApp (aCons (fV (isOw 2 (fMut 2 mPop (aCons (fV (fDef 2 φ__law_take (aCons (fV (fVar 0)) (aCons (fV (fCall opLen (aCons (fB (fVar 2)) (aNil)))) (aNil))))) (aNil))))) (aNil)))))) (fRet (fVar 3)))
theorem w__law_mixed {g : G} {L : GL} (H : GK g L) : SSs ⟨g, N__law_mixed, defScope (top 67), 1, fun _ => true, none⟩ (defBody (top 67)) f__law_mixed := by
  unfold f__law_mixed
  exact SSs.cons (SS.par (i := 2) (j := 3) (SE.c_list H.gd (SAb.cons ((SE.var 1).b) (SAb.nil))) (SE.lst (SA.nil))) (SSs.cons (SS.whS (STs.ne ((SE.var 2).b) ((SE.lst (SA.nil)).b)) (SSs.one (SS.expr (SE.append 3 (SA.cons ((SE.popAt 2 (SA.cons ((SE.call (F__law_take H) (SA.cons ((SE.var 0).v) (SA.cons ((SE.c_len H.gd (SAb.cons ((SE.var 2).b) (SAb.nil))).v) (SA.nil)))).v) (SA.nil))).v) (SA.nil)))))) (SSs.one (SS.ret (SE.var 3))))
theorem c__law_mixed : FnScope N__law_mixed ["draw", "some"] (defScope (top 67)) := C8.fnScope_by (by decide)
noncomputable def φ__law_mixed : Phi := phi N__law_mixed f__law_mixed
theorem F__law_mixed {g : G} {L : GL} (H : GK g L) : Fg g 2 "_law_mixed" 2 φ__law_mixed := Fg.of (qual := "_law_mixed") (H.d__law_mixed) (w__law_mixed H) c__law_mixed (fun _ _ _ _ _ _ us hl => match us, hl with | [_, _], _ => rfl)
def N__law_ranges_right : List Str := ["draw", "shapes", "seen", "due", "later", "lap", "marks", "alone", "mixed", "tick_here", "shape", "low", "high"]
noncomputable def f__law_ranges_right : S → Out Fl := fSeq (fSet 3 (fDef 2 φ__law_met (aCons (fV (fVar 1)) (aCons (fV (fVar 2)) (aNil))))) (fSeq (fIf (tOrF (asT (fBin (opEq true) (fB (fCall opRepr (aCons (fB (fTold 7 "at" "told" "none" (fV (fDef 2 φ_ranges (aCons (fV (fVar 1)) (aCons (fV (fVar 2)) (aNil))))))) (aNil)))) (fB (fCall opRepr (aCons (fB (fVar 3)) (aNil)))))) (asT (fBin (opEq true) (fB (fDef 2 φ_fitting (aCons (fV (fVar 1)) (aCons (fV (fVar 2)) (aNil))))) (fB (fDef 1 φ__law_many (aCons (fV (fVar 3)) (aNil))))))) (fRet (fK (.bl false))) (fNil)) (fSeq (fSet 8 (fDef 2 φ__law_mixed (aCons (fV (fVar 0)) (aCons (fV (fBin opAdd (fB (fVar 2)) (fB (fSl (fB (fVar 2)) (oNone) (oInt (fK (.int 2))))))) (aNil))))) (fSeq (fSet 4 (fTold 7 "at" "told" "none" (fV (fDef 2 φ_ranges (aCons (fV (fVar 1)) (aCons (fV (fVar 8)) (aNil))))))) (fSeq (fIf (tOrF (asT (fBin (opEq true) (fB (fBin opIx (fB (fVar 4)) (fB (fK (.int 0))))) (fB (fBin opIx (fB (fVar 3)) (fB (fK (.int 0))))))) (tOrF (tAndF (asT (fBin (opEq false) (fB (fBin opIx (fB (fVar 3)) (fB (fK (.int 0))))) (fB (fK (.str "told"))))) (asT (fBin (opEq true) (fB (fVar 4)) (fB (fVar 3))))) (asT (fBin (opEq true) (fB (fDef 2 φ_fitting (aCons (fV (fVar 1)) (aCons (fV (fVar 8)) (aNil))))) (fB (fDef 1 φ__law_many (aCons (fV (fVar 3)) (aNil)))))))) (fRet (fK (.bl false))) (fNil)) (fSeq (fFor (itR1 (fK (.int 4))) (gNm 5) (fSeq (fSet 6 (fCall opTuple (aCons (fB (fLc (itS (fV (fVar 1))) [10] (gNm 10) (tYesF) (fV (fBin opAdd (fB (fK (.int 1))) (fB (fDef 2 φ__law_take (aCons (fV (fVar 0)) (aCons (fV (fK (.int 60))) (aNil))))))))) (aNil)))) (fSeq (fIf (tAndF (asT (fBin (opEq false) (fB (fBin opIx (fB (fVar 3)) (fB (fK (.int 0))))) (fB (fK (.str "told"))))) (asT (fBin opLt (fB (fVar 5)) (fB (fK (.int 2)))))) (fSet 6 (fCall opTuple (aCons (fB (fLc (itS (fV (fBin opIx (fB (fVar 3)) (fB (fK (.int 1)))))) [11, 12] (gTp 2 (gCn (gNm 11) (gCn (gNm 12) (gNl)))) (tYesF) (fV (fBin opAdd (fB (fVar 11)) (fB (fDef 2 φ__law_take (aCons (fV (fVar 0)) (aCons (fV (fBin opAdd (fB (fBin opSub (fB (fVar 12)) (fB (fVar 11)))) (fB (fK (.int 1))))) (aNil))))))))) (aNil)))) (fNil)) (fSeq (fSet 7 (fLc (itS (fV (fVar 2))) [9] (gNm 9) (tYesF) (fV (fDef 3 φ_is_fitting (aCons (fV (fVar 1)) (aCons (fV (fLst (aCons (fV (fVar 9)) (aNil)))) (aCons (fV (fVar 6)) (aNil)))))))) (fIf (asT (fBin (opEq true) (fB (fCall opRepr (aCons (fB (fDef 3 φ_is_fitting (aCons (fV (fVar 1)) (aCons (fV (fVar 2)) (aCons (fV (fVar 6)) (aNil)))))) (aNil)))) (fB (fCall opRepr (aCons (fB (fBin (opIn true) (fB (fK (.bl false))) (fB (fVar 7)))) (aNil)))))) (fRet (fK (.bl false))) (fNil)))))) (fRet (fK (.bl true))))))))
theorem w__law_ranges_right {g : G} {L : GL} (H : GK g L) : SSs ⟨g, N__law_ranges_right, defScope (top 68), 9, fun _ => true, some L.l__law_ranges_right⟩ (defBody (top 68)) f__law_ranges_right := by
  unfold f__law_ranges_right
  exact SSs.cons (SS.set (i := 3) (SE.call (F__law_met H) (SA.cons ((SE.var 1).v) (SA.cons ((SE.var 2).v) (SA.nil))))) (SSs.cons (SS.ifS ((SWs.or (STs.ne ((SE.c_repr H.gd (SAb.cons ((SE.toldLam (k := 6) H.told rfl (LamX.lamS_by rfl) (fun _ => rfl) (fun _ _ _ _ _ => rfl) ((SE.call (F_ranges H) (SA.cons ((SE.var 1).v) (SA.cons ((SE.var 2).v) (SA.nil)))).v)).b) (SAb.nil))).b) ((SE.c_repr H.gd (SAb.cons ((SE.var 3).b) (SAb.nil))).b)) (SWs.or1 (STs.ne ((SE.call (F_fitting H) (SA.cons ((SE.var 1).v) (SA.cons ((SE.var 2).v) (SA.nil)))).b) ((SE.call (F__law_many H) (SA.cons ((SE.var 3).v) (SA.nil))).b)))).t) (SSs.one (SS.ret (SE.bl))) (SSs.nil)) (SSs.cons (SS.set (i := 8) (SE.call (F__law_mixed H) (SA.cons ((SE.var 0).v) (SA.cons ((SE.add ((SE.var 2).b) ((SE.sl ((SE.var 2).b) (SO.none) (SO.int (SE.int))).b)).v) (SA.nil))))) (SSs.cons (SS.set (i := 4) (SE.toldLam (k := 6) H.told rfl (LamX.lamS_by rfl) (fun _ => rfl) (fun _ _ _ _ _ => rfl) ((SE.call (F_ranges H) (SA.cons ((SE.var 1).v) (SA.cons ((SE.var 8).v) (SA.nil)))).v))) (SSs.cons (SS.ifS ((SWs.or (STs.ne ((SE.ix ((SE.var 4).b) ((SE.int).b)).b) ((SE.ix ((SE.var 3).b) ((SE.int).b)).b)) (SWs.or ((SWs.and (STs.eq ((SE.ix ((SE.var 3).b) ((SE.int).b)).b) ((SE.str).b)) (SWs.and1 (STs.ne ((SE.var 4).b) ((SE.var 3).b)))).t) (SWs.or1 (STs.ne ((SE.call (F_fitting H) (SA.cons ((SE.var 1).v) (SA.cons ((SE.var 8).v) (SA.nil)))).b) ((SE.call (F__law_many H) (SA.cons ((SE.var 3).v) (SA.nil))).b))))).t) (SSs.one (SS.ret (SE.bl))) (SSs.nil)) (SSs.cons (SS.forS (SI.range1 H.gd.range (SE.int)) (SG.nm 5) (SSs.cons (SS.set (i := 6) (SE.c_tuple H.gd (SAb.cons ((SE.lc (SI.seq ((SE.var 1).v)) (blkOk_by (own := [("shape", 10)]) rfl) (SG.nm 10) (SIf.nil) ((SE.add ((SE.int).b) ((SE.call (F__law_take H) (SA.cons ((SE.var 0).v) (SA.cons ((SE.int).v) (SA.nil)))).b)).v)).b) (SAb.nil)))) (SSs.cons (SS.ifS ((SWs.and (STs.eq ((SE.ix ((SE.var 3).b) ((SE.int).b)).b) ((SE.str).b)) (SWs.and1 (STs.lt ((SE.var 5).b) ((SE.int).b)))).t) (SSs.one (SS.set (i := 6) (SE.c_tuple H.gd (SAb.cons ((SE.lc (SI.seq ((SE.ix ((SE.var 3).b) ((SE.int).b)).v)) (blkOk_by (own := [("low", 11), ("high", 12)]) rfl) (SG.tp (SGs.cons (SG.nm 11) (SGs.cons (SG.nm 12) (SGs.nil)))) (SIf.nil) ((SE.add ((SE.var 11).b) ((SE.call (F__law_take H) (SA.cons ((SE.var 0).v) (SA.cons ((SE.add ((SE.sub ((SE.var 12).b) ((SE.var 11).b)).b) ((SE.int).b)).v) (SA.nil)))).b)).v)).b) (SAb.nil))))) (SSs.nil)) (SSs.cons (SS.setLc (i := 7) (SI.seq ((SE.var 2).v)) (blkOk_by (own := [("tick_here", 9)]) rfl) (SG.nm 9) (SIf.nil) ((SE.call (F_is_fitting H) (SA.cons ((SE.var 1).v) (SA.cons ((SE.lst (SA.cons ((SE.var 9).v) (SA.nil))).v) (SA.cons ((SE.var 6).v) (SA.nil))))).v)) (SSs.one (SS.ifS (STs.ne ((SE.c_repr H.gd (SAb.cons ((SE.call (F_is_fitting H) (SA.cons ((SE.var 1).v) (SA.cons ((SE.var 2).v) (SA.cons ((SE.var 6).v) (SA.nil))))).b) (SAb.nil))).b) ((SE.c_repr H.gd (SAb.cons ((SE.notIn ((SE.bl).b) ((SE.var 7).b) (by with_unfolding_all rfl)).b) (SAb.nil))).b)) (SSs.one (SS.ret (SE.bl))) (SSs.nil))))))) (SSs.one (SS.ret (SE.bl))))))))
theorem c__law_ranges_right : FnScope N__law_ranges_right ["draw", "shapes", "seen"] (defScope (top 68)) := C8.fnScope_by (by decide)
noncomputable def φ__law_ranges_right : Phi := phi N__law_ranges_right f__law_ranges_right
theorem F__law_ranges_right {g : G} {L : GL} (H : GK g L) : Fg g 10 "_law_ranges_right" 3 φ__law_ranges_right := Fg.ofL (qual := "_law_ranges_right") (H.d__law_ranges_right) (w__law_ranges_right H) c__law_ranges_right (fun _ _ _ _ _ _ us hl => match us, hl with | [_, _, _], _ => rfl)
def N__law_wishes : List Str := ["shapes", "k", "found", "word", "step"]
noncomputable def f__law_wishes : S → Out Fl := fSeq (fSet 2 (fLst (aCons (fV (fVar 1)) (aNil)))) (fSeq (fFor (itS (fV (fVar 0))) (gTp 2 (gCn (gNm 3) (gCn (gNm 4) (gNl)))) (fDrop (isOw 2 (fMut 2 mApp (aCons (fV (vIf (asT (fBin (opEq false) (fB (fVar 3)) (fB (fK (.str "over"))))) (fBin opAdd (fB (fVar 1)) (fB (fVar 4))) (fBin opSub (fB (fVar 1)) (fB (fVar 4))))) (aNil)))))) (fRet (fCall opSortSet (aCons (fB (fVar 2)) (aNil)))))
theorem w__law_wishes {g : G} {L : GL} (H : GK g L) : SSs ⟨g, N__law_wishes, defScope (top 69), 0, fun _ => true, none⟩ (defBody (top 69)) f__law_wishes := by
  unfold f__law_wishes
  exact SSs.cons (SS.set (i := 2) (SE.lst (SA.cons ((SE.var 1).v) (SA.nil)))) (SSs.cons (SS.forS (SI.seq ((SE.var 0).v)) (SG.tp (SGs.cons (SG.nm 3) (SGs.cons (SG.nm 4) (SGs.nil)))) (SSs.one (SS.expr (SE.append 2 (SA.cons ((SE.ite (STs.eq ((SE.var 3).b) ((SE.str).b)) (SE.add ((SE.var 1).b) ((SE.var 4).b)) (SE.sub ((SE.var 1).b) ((SE.var 4).b))).v) (SA.nil)))))) (SSs.one (SS.ret (SE.c_sortedSet H.gd (SAb.cons ((SE.var 2).b) (SAb.nil))))))
theorem c__law_wishes : FnScope N__law_wishes ["shapes", "k"] (defScope (top 69)) := C8.fnScope_by (by decide)
noncomputable def φ__law_wishes : Phi := phi N__law_wishes f__law_wishes
theorem F__law_wishes {g : G} {L : GL} (H : GK g L) : Fg g 1 "_law_wishes" 2 φ__law_wishes := Fg.of (qual := "_law_wishes") (H.d__law_wishes) (w__law_wishes H) c__law_wishes (fun _ _ _ _ _ _ us hl => match us, hl with | [_, _], _ => rfl)
def N__law_parted_right : List Str := ["shapes", "seen", "one", "k", "parts", "had", "said", "more", "made", "wishes", "at", "wished", "many", "marks", "each"]
noncomputable def f__law_parted_right : S → Out Fl := fSeq (fSet 4 (fLc (itS (fV (fDef 2 φ__law_wishes (aCons (fV (fVar 0)) (aCons (fV (fVar 3)) (aNil)))))) [11] (gNm 11) (tYesF) (fV (fTup (aCons (fV (fVar 11)) (aCons (fV (fDef 2 φ_fitting (aCons (fV (fVar 0)) (aCons (fV (fBin opAdd (fB (fVar 1)) (fB (fLst (aCons (fV (fTup (aCons (fV (fVar 2)) (aCons (fV (fVar 3)) (aCons (fV (fVar 11)) (aNil)))))) (aNil)))))) (aNil))))) (aNil))))))) (fSeq (fIf (asT (fBin (opEq true) (fB (fCall opSum (aCons (fB (fLc (itS (fV (fVar 4))) [11, 12] (gTp 2 (gCn (gNm 11) (gCn (gNm 12) (gNl)))) (tYesF) (fV (fVar 12)))) (aNil)))) (fB (fDef 2 φ_fitting (aCons (fV (fVar 0)) (aCons (fV (fVar 1)) (aNil))))))) (fRet (fK (.bl false))) (fNil)) (fSeq (fSet 5 (fLc (itS (fV (fVar 4))) [11, 12] (gTp 2 (gCn (gNm 11) (gCn (gNm 12) (gNl)))) (asT (fBin opGt (fB (fVar 12)) (fB (fK (.int 0))))) (fV (fVar 11)))) (fSeq (fIf (asT (fBin (opEq false) (fB (fDef 2 φ_fitting (aCons (fV (fVar 0)) (aCons (fV (fVar 1)) (aNil))))) (fB (fK (.int 0))))) (fRet (fBin (opEq false) (fB (fBin opIx (fB (fTold 7 "at" "told" "none" (fV (fDef 4 φ_sure (aCons (fV (fVar 0)) (aCons (fV (fVar 1)) (aCons (fV (fVar 2)) (aCons (fV (fVar 3)) (aNil))))))))) (fB (fK (.int 0))))) (fB (fK (.str "none"))))) (fNil)) (fSeq (fSet 6 (fDef 4 φ_sure (aCons (fV (fVar 0)) (aCons (fV (fVar 1)) (aCons (fV (fVar 2)) (aCons (fV (fVar 3)) (aNil))))))) (fSeq (fIf (asT (fBin (opEq false) (fB (fBin opIx (fB (fVar 6)) (fB (fK (.int 0))))) (fB (fK (.str "sure"))))) (fSeq (fSet 7 (fBin opAdd (fB (fVar 1)) (fB (fLst (aCons (fV (fTup (aCons (fV (fVar 2)) (aCons (fV (fVar 3)) (aCons (fV (fBin opIx (fB (fVar 6)) (fB (fK (.int 1))))) (aNil)))))) (aNil)))))) (fRet (vAnd (fBin (opEq false) (fB (fVar 5)) (fB (fLst (aCons (fV (fBin opIx (fB (fVar 6)) (fB (fK (.int 1))))) (aNil))))) (fBin (opEq false) (fB (fCall opRepr (aCons (fB (fDef 2 φ_ranges (aCons (fV (fVar 0)) (aCons (fV (fVar 7)) (aNil))))) (aNil)))) (fB (fCall opRepr (aCons (fB (fDef 2 φ_ranges (aCons (fV (fVar 0)) (aCons (fV (fVar 1)) (aNil))))) (aNil)))))))) (fNil)) (fSeq (fSet 8 (fLc (itS (fV (fSl (fB (fVar 6)) (oInt (fK (.int 1))) (oNone)))) [13] (gNm 13) (tYesF) (fV (fDef 2 φ__law_made (aCons (fV (fVar 0)) (aCons (fV (fVar 13)) (aNil))))))) (fSeq (fSet 9 (fLc (itS (fV (fVar 8))) [14] (gNm 14) (tYesF) (fV (fDef 3 φ_wish (aCons (fV (fVar 14)) (aCons (fV (fVar 3)) (aCons (fV (fVar 2)) (aNil)))))))) (fSeq (fIf (tOrF (asT (fBin opLt (fB (fCall opLen (aCons (fB (fVar 5)) (aNil)))) (fB (fK (.int 2))))) (tOrF (asT (fBin (opEq false) (fB (fBin opIx (fB (fVar 9)) (fB (fK (.int 0))))) (fB (fBin opIx (fB (fVar 9)) (fB (fK (.int 1))))))) (tOrF (asT (fBin (opIn true) (fB (fBin opIx (fB (fVar 9)) (fB (fK (.int 0))))) (fB (fVar 5)))) (asT (fBin (opIn true) (fB (fBin opIx (fB (fVar 9)) (fB (fK (.int 1))))) (fB (fVar 5))))))) (fRet (fK (.bl false))) (fNil)) (fSeq (fFor (itR1 (fK (.int 2))) (gNm 10) (fSeq (fSet 7 (fBin opAdd (fB (fVar 1)) (fB (fLst (aCons (fV (fTup (aCons (fV (fVar 2)) (aCons (fV (fVar 3)) (aCons (fV (fBin opIx (fB (fVar 9)) (fB (fVar 10)))) (aNil)))))) (aNil)))))) (fIf (tOrF (tNotF (asT (fDef 3 φ_is_fitting (aCons (fV (fVar 0)) (aCons (fV (fVar 7)) (aCons (fV (fBin opIx (fB (fVar 6)) (fB (fBin opAdd (fB (fK (.int 1))) (fB (fVar 10)))))) (aNil))))))) (asT (fDef 3 φ_is_fitting (aCons (fV (fVar 0)) (aCons (fV (fVar 7)) (aCons (fV (fBin opIx (fB (fVar 6)) (fB (fBin opSub (fB (fK (.int 2))) (fB (fVar 10)))))) (aNil))))))) (fRet (fK (.bl false))) (fNil)))) (fRet (fK (.bl true))))))))))))
theorem w__law_parted_right {g : G} {L : GL} (H : GK g L) : SSs ⟨g, N__law_parted_right, defScope (top 70), 8, fun _ => true, some L.l__law_parted_right⟩ (defBody (top 70)) f__law_parted_right := by
  unfold f__law_parted_right
  exact SSs.cons (SS.setLc (i := 4) (SI.seq ((SE.call (F__law_wishes H) (SA.cons ((SE.var 0).v) (SA.cons ((SE.var 3).v) (SA.nil)))).v)) (blkOk_by (own := [("wished", 11)]) rfl) (SG.nm 11) (SIf.nil) ((SE.tup (SA.cons ((SE.var 11).v) (SA.cons ((SE.call (F_fitting H) (SA.cons ((SE.var 0).v) (SA.cons ((SE.add ((SE.var 1).b) ((SE.lst (SA.cons ((SE.tup (SA.cons ((SE.var 2).v) (SA.cons ((SE.var 3).v) (SA.cons ((SE.var 11).v) (SA.nil))))).v) (SA.nil))).b)).v) (SA.nil)))).v) (SA.nil)))).v)) (SSs.cons (SS.ifS (STs.ne ((SE.c_sum H.gd (SAb.cons ((SE.lc (SI.seq ((SE.var 4).v)) (blkOk_by (own := [("wished", 11), ("many", 12)]) rfl) (SG.tp (SGs.cons (SG.nm 11) (SGs.cons (SG.nm 12) (SGs.nil)))) (SIf.nil) ((SE.var 12).v)).b) (SAb.nil))).b) ((SE.call (F_fitting H) (SA.cons ((SE.var 0).v) (SA.cons ((SE.var 1).v) (SA.nil)))).b)) (SSs.one (SS.ret (SE.bl))) (SSs.nil)) (SSs.cons (SS.setLc (i := 5) (SI.seq ((SE.var 4).v)) (blkOk_by (own := [("wished", 11), ("many", 12)]) rfl) (SG.tp (SGs.cons (SG.nm 11) (SGs.cons (SG.nm 12) (SGs.nil)))) (SIf.one (STs.gt ((SE.var 12).b) ((SE.int).b))) ((SE.var 11).v)) (SSs.cons (SS.ifS (STs.eq ((SE.call (F_fitting H) (SA.cons ((SE.var 0).v) (SA.cons ((SE.var 1).v) (SA.nil)))).b) ((SE.int).b)) (SSs.one (SS.ret (SE.eq ((SE.ix ((SE.toldLam (k := 6) H.told rfl (LamX.lamS_by rfl) (fun _ => rfl) (fun _ _ _ _ _ => rfl) ((SE.call (F_sure H) (SA.cons ((SE.var 0).v) (SA.cons ((SE.var 1).v) (SA.cons ((SE.var 2).v) (SA.cons ((SE.var 3).v) (SA.nil)))))).v)).b) ((SE.int).b)).b) ((SE.str).b)))) (SSs.nil)) (SSs.cons (SS.set (i := 6) (SE.call (F_sure H) (SA.cons ((SE.var 0).v) (SA.cons ((SE.var 1).v) (SA.cons ((SE.var 2).v) (SA.cons ((SE.var 3).v) (SA.nil))))))) (SSs.cons (SS.ifS (STs.eq ((SE.ix ((SE.var 6).b) ((SE.int).b)).b) ((SE.str).b)) (SSs.cons (SS.set (i := 7) (SE.add ((SE.var 1).b) ((SE.lst (SA.cons ((SE.tup (SA.cons ((SE.var 2).v) (SA.cons ((SE.var 3).v) (SA.cons ((SE.ix ((SE.var 6).b) ((SE.int).b)).v) (SA.nil))))).v) (SA.nil))).b))) (SSs.one (SS.ret (SE.and (SE.eq ((SE.var 5).b) ((SE.lst (SA.cons ((SE.ix ((SE.var 6).b) ((SE.int).b)).v) (SA.nil))).b)) (SE.one (SE.eq ((SE.c_repr H.gd (SAb.cons ((SE.call (F_ranges H) (SA.cons ((SE.var 0).v) (SA.cons ((SE.var 7).v) (SA.nil)))).b) (SAb.nil))).b) ((SE.c_repr H.gd (SAb.cons ((SE.call (F_ranges H) (SA.cons ((SE.var 0).v) (SA.cons ((SE.var 1).v) (SA.nil)))).b) (SAb.nil))).b))))))) (SSs.nil)) (SSs.cons (SS.setLc (i := 8) (SI.seq ((SE.sl ((SE.var 6).b) (SO.int (SE.int)) (SO.none)).v)) (blkOk_by (own := [("marks", 13)]) rfl) (SG.nm 13) (SIf.nil) ((SE.call (F__law_made H) (SA.cons ((SE.var 0).v) (SA.cons ((SE.var 13).v) (SA.nil)))).v)) (SSs.cons (SS.setLc (i := 9) (SI.seq ((SE.var 8).v)) (blkOk_by (own := [("each", 14)]) rfl) (SG.nm 14) (SIf.nil) ((SE.call (F_wish H) (SA.cons ((SE.var 14).v) (SA.cons ((SE.var 3).v) (SA.cons ((SE.var 2).v) (SA.nil))))).v)) (SSs.cons (SS.ifS ((SWs.or (STs.lt ((SE.c_len H.gd (SAb.cons ((SE.var 5).b) (SAb.nil))).b) ((SE.int).b)) (SWs.or (STs.eq ((SE.ix ((SE.var 9).b) ((SE.int).b)).b) ((SE.ix ((SE.var 9).b) ((SE.int).b)).b)) (SWs.or (STs.notIn ((SE.ix ((SE.var 9).b) ((SE.int).b)).b) ((SE.var 5).b) (by with_unfolding_all rfl)) (SWs.or1 (STs.notIn ((SE.ix ((SE.var 9).b) ((SE.int).b)).b) ((SE.var 5).b) (by with_unfolding_all rfl)))))).t) (SSs.one (SS.ret (SE.bl))) (SSs.nil)) (SSs.cons (SS.forS (SI.range1 H.gd.range (SE.int)) (SG.nm 10) (SSs.cons (SS.set (i := 7) (SE.add ((SE.var 1).b) ((SE.lst (SA.cons ((SE.tup (SA.cons ((SE.var 2).v) (SA.cons ((SE.var 3).v) (SA.cons ((SE.ix ((SE.var 9).b) ((SE.var 10).b)).v) (SA.nil))))).v) (SA.nil))).b))) (SSs.one (SS.ifS ((SWs.or (STs.not (STs.val (SE.call (F_is_fitting H) (SA.cons ((SE.var 0).v) (SA.cons ((SE.var 7).v) (SA.cons ((SE.ix ((SE.var 6).b) ((SE.add ((SE.int).b) ((SE.var 10).b)).b)).v) (SA.nil))))))) (SWs.or1 (STs.val (SE.call (F_is_fitting H) (SA.cons ((SE.var 0).v) (SA.cons ((SE.var 7).v) (SA.cons ((SE.ix ((SE.var 6).b) ((SE.sub ((SE.int).b) ((SE.var 10).b)).b)).v) (SA.nil)))))))).t) (SSs.one (SS.ret (SE.bl))) (SSs.nil))))) (SSs.one (SS.ret (SE.bl))))))))))))
theorem c__law_parted_right : FnScope N__law_parted_right ["shapes", "seen", "one", "k"] (defScope (top 70)) := C8.fnScope_by (by decide)
noncomputable def φ__law_parted_right : Phi := phi N__law_parted_right f__law_parted_right
theorem F__law_parted_right {g : G} {L : GL} (H : GK g L) : Fg g 9 "_law_parted_right" 4 φ__law_parted_right := Fg.ofL (qual := "_law_parted_right") (H.d__law_parted_right) (w__law_parted_right H) c__law_parted_right (fun _ _ _ _ _ _ us hl => match us, hl with | [_, _, _, _], _ => rfl)
def N_law : List Str := ["script", "draw", "turn", "shapes", "marks", "seen", "lap", "one", "k", "shape"]
noncomputable def f_law : S → Out Fl := (fSeq (fFor (itR1 (fBin opAdd (fB (fK (.int 4))) (fB (fCall opMin (aCons (fB (fCall opLen (aCons (fB (fVar 0)) (aNil)))) (aCons (fB (fK (.int 10))) (aNil))))))) (gNm 2) (fSeq (fSet 3 (fDef 2 φ__law_shapes (aCons (fV (fVar 1)) (aCons (fV (fK (.int 4))) (aNil))))) (fSeq (fSet 4 (fCall opTuple (aCons (fB (fLc (itS (fV (fVar 3))) [9] (gNm 9) (tYesF) (fV (fBin opAdd (fB (fK (.int 1))) (fB (fDef 2 φ__law_take (aCons (fV (fVar 1)) (aCons (fV (fDef 2 φ__law_pick (aCons (fV (fVar 1)) (aCons (fV (fLst (aCons (fV (fK (.int 12))) (aCons (fV (fK (.int 60))) (aNil))))) (aNil))))) (aNil))))))))) (aNil)))) (fSeq (fSet 5 (fDef 2 φ__law_bent (aCons (fV (fVar 1)) (aCons (fV (fDef 4 φ__law_ticks (aCons (fV (fVar 1)) (aCons (fV (fDef 2 φ__law_made (aCons (fV (fVar 3)) (aCons (fV (fVar 4)) (aNil))))) (aCons (fV (fVar 4)) (aCons (fV (fK (.int 12))) (aNil))))))) (aNil))))) (fSeq (fIf (tNotF (asT (fDef 3 φ__law_ranges_right (aCons (fV (fVar 1)) (aCons (fV (fVar 3)) (aCons (fV (fVar 5)) (aNil))))))) (fRet (fK (.bl false))) (fNil)) (fSeq (fFor (itR1 (fK (.int 2))) (gNm 6) (fSeq (fAsg (gTp 2 (gCn (gNm 7) (gCn (gNm 8) (gNl)))) (fV (fDef 1 φ__law_far (aCons (fV (fVar 1)) (aNil))))) (fSeq (fIf (asT (fBin (opEq false) (fB (fDef 2 φ__law_take (aCons (fV (fVar 1)) (aCons (fV (fK (.int 2))) (aNil))))) (fB (fK (.int 0))))) (fSet 7 (fDef 2 φ__law_fraction (aCons (fV (fBin opAdd (fB (fBin opMul (fB (fBin opMul (fB (fDef 2 φ__law_pick (aCons (fV (fVar 1)) (aCons (fV (fCall opList (aCons (fB (fVar 4)) (aNil)))) (aNil))))) (fB (fVar 8)))) (fB (fK (.int 2))))) (fB (fDef 2 φ__law_pick (aCons (fV (fVar 1)) (aCons (fV (fLst (aCons (fV (fK (.int 0))) (aCons (fV (fK (.int 1))) (aNil))))) (aNil))))))) (aCons (fV (fK (.int 2))) (aNil))))) (fNil)) (fIf (tNotF (asT (fDef 4 φ__law_parted_right (aCons (fV (fVar 3)) (aCons (fV (fVar 5)) (aCons (fV (fVar 7)) (aCons (fV (fVar 8)) (aNil)))))))) (fRet (fK (.bl false))) (fNil))))) (fIf (tAndF (asT (fBin (opEq true) (fB (fVar 5)) (fB (fLst (aNil))))) (tNotF (asT (fDef 3 φ__law_ranges_right (aCons (fV (fVar 1)) (aCons (fV (fVar 3)) (aCons (fV (fSl (fB (fVar 5)) (oNone) (oInt (fBin opAdd (fB (fK (.int 1))) (fB (fDef 2 φ__law_take (aCons (fV (fVar 1)) (aCons (fV (fCall opLen (aCons (fB (fVar 5)) (aNil)))) (aNil))))))))) (aNil)))))))) (fRet (fK (.bl false))) (fNil)))))))) (fRet (fK (.bl true))))
theorem w_law {g : G} {L : GL} (H : GK g L) : SSs ⟨g, N_law, defScope (top 71), 10, fun _ => true, none⟩ ((defBody (top 71)).drop 1) f_law := by
  unfold f_law
  exact (SSs.cons (SS.forS (SI.range1 H.gd.range (SE.add ((SE.int).b) ((SE.c_min2 H.gd (SAb.cons ((SE.c_len H.gd (SAb.cons ((SE.var 0).b) (SAb.nil))).b) (SAb.cons ((SE.int).b) (SAb.nil)))).b))) (SG.nm 2) (SSs.cons (SS.set (i := 3) (SE.call (F__law_shapes H) (SA.cons ((SE.var 1).v) (SA.cons ((SE.int).v) (SA.nil))))) (SSs.cons (SS.set (i := 4) (SE.c_tuple H.gd (SAb.cons ((SE.lc (SI.seq ((SE.var 3).v)) (blkOk_by (own := [("shape", 9)]) rfl) (SG.nm 9) (SIf.nil) ((SE.add ((SE.int).b) ((SE.call (F__law_take H) (SA.cons ((SE.var 1).v) (SA.cons ((SE.call (F__law_pick H) (SA.cons ((SE.var 1).v) (SA.cons ((SE.lst (SA.cons ((SE.int).v) (SA.cons ((SE.int).v) (SA.nil)))).v) (SA.nil)))).v) (SA.nil)))).b)).v)).b) (SAb.nil)))) (SSs.cons (SS.set (i := 5) (SE.call (F__law_bent H) (SA.cons ((SE.var 1).v) (SA.cons ((SE.call (F__law_ticks H) (SA.cons ((SE.var 1).v) (SA.cons ((SE.call (F__law_made H) (SA.cons ((SE.var 3).v) (SA.cons ((SE.var 4).v) (SA.nil)))).v) (SA.cons ((SE.var 4).v) (SA.cons ((SE.int).v) (SA.nil)))))).v) (SA.nil))))) (SSs.cons (SS.ifS (STs.not (STs.val (SE.call (F__law_ranges_right H) (SA.cons ((SE.var 1).v) (SA.cons ((SE.var 3).v) (SA.cons ((SE.var 5).v) (SA.nil))))))) (SSs.one (SS.ret (SE.bl))) (SSs.nil)) (SSs.cons (SS.forS (SI.range1 H.gd.range (SE.int)) (SG.nm 6) (SSs.cons (SS.asg ((SE.call (F__law_far H) (SA.cons ((SE.var 1).v) (SA.nil))).v) (SG.tp (SGs.cons (SG.nm 7) (SGs.cons (SG.nm 8) (SGs.nil))))) (SSs.cons (SS.ifS (STs.eq ((SE.call (F__law_take H) (SA.cons ((SE.var 1).v) (SA.cons ((SE.int).v) (SA.nil)))).b) ((SE.int).b)) (SSs.one (SS.set (i := 7) (SE.call (F__law_fraction H) (SA.cons ((SE.add ((SE.mul ((SE.mul ((SE.call (F__law_pick H) (SA.cons ((SE.var 1).v) (SA.cons ((SE.c_list H.gd (SAb.cons ((SE.var 4).b) (SAb.nil))).v) (SA.nil)))).b) ((SE.var 8).b)).b) ((SE.int).b)).b) ((SE.call (F__law_pick H) (SA.cons ((SE.var 1).v) (SA.cons ((SE.lst (SA.cons ((SE.int).v) (SA.cons ((SE.int).v) (SA.nil)))).v) (SA.nil)))).b)).v) (SA.cons ((SE.int).v) (SA.nil)))))) (SSs.nil)) (SSs.one (SS.ifS (STs.not (STs.val (SE.call (F__law_parted_right H) (SA.cons ((SE.var 3).v) (SA.cons ((SE.var 5).v) (SA.cons ((SE.var 7).v) (SA.cons ((SE.var 8).v) (SA.nil)))))))) (SSs.one (SS.ret (SE.bl))) (SSs.nil)))))) (SSs.one (SS.ifS ((SWs.and (STs.ne ((SE.var 5).b) ((SE.lst (SA.nil)).b)) (SWs.and1 (STs.not (STs.val (SE.call (F__law_ranges_right H) (SA.cons ((SE.var 1).v) (SA.cons ((SE.var 3).v) (SA.cons ((SE.sl ((SE.var 5).b) (SO.none) (SO.int (SE.add ((SE.int).b) ((SE.call (F__law_take H) (SA.cons ((SE.var 1).v) (SA.cons ((SE.c_len H.gd (SAb.cons ((SE.var 5).b) (SAb.nil))).v) (SA.nil)))).b)))).v) (SA.nil))))))))).t) (SSs.one (SS.ret (SE.bl))) (SSs.nil))))))))) (SSs.one (SS.ret (SE.bl))))
theorem c_law : FnScope N_law ["script"] (defScope (top 71)) := C8.fnScope_by (by decide)

end K67
namespace K67
open PySem PySem.Spec PyProof.Rows L2 Tv

/-! ### what the drawing answers -/
theorem log2_le {i : Int} {n : Nat} (h1 : 0 ≤ i) (h2 : i < (2 ^ (n + 1) : Nat)) : i.natAbs.log2 ≤ n := by
  by_cases h : i.natAbs = 0
  · rw [h]; exact Nat.zero_le _
  · have := (Nat.log2_lt h (k := n + 1)).2 (by omega)
    omega
noncomputable def stepF : S → Out Fl := fDrSet 0 .mix (fBin opMod (fB (fCall opInt (aCons (fB (fBin opAdd (fB (fBin opAdd (fB (fBin opMul (fB (fDr 0 .mix)) (fB (fK (.int 69621))))) (fB (fBin opMul (fB (fVar 2)) (fB (fK (.int 48271))))))) (fB (fK (.int 12345))))) (aNil)))) (fB (fK (.int 2147483629))))
theorem step_ok {b1 b3 : Sl} {D : Dr} {c : Int} (hc : c.natAbs.log2 ≤ 3000000) (h1 : 0 ≤ D.mix) (h2 : D.mix < 2147483629) :
    ∃ m, 0 ≤ m ∧ m < 2147483629 ∧ stepF ⟨[.sh .drw, b1, .sh (.int c), b3], D⟩ = .ok .nx ⟨[.sh .drw, b1, .sh (.int c), b3], { D with mix := m }⟩ := by
  have l1 : D.mix.natAbs.log2 ≤ 31 := log2_le h1 (by omega)
  refine ⟨(D.mix * 69621 + c * 48271 + 12345) % 2147483629, Int.emod_nonneg _ (by decide), Int.emod_lt_of_pos _ (by decide), ?_⟩
  have c1 : D.mix.natAbs.log2 + (69621 : Int).natAbs.log2 < 100000000 := by
    have : (69621 : Int).natAbs.log2 ≤ 20 := log2_le (by decide) (by decide)
    omega
  have c2 : c.natAbs.log2 + (48271 : Int).natAbs.log2 < 100000000 := by
    have : (48271 : Int).natAbs.log2 ≤ 20 := log2_le (by decide) (by decide)
    omega
  have e1 : opMul (.int D.mix) (.int 69621) = some (.val (.int (D.mix * 69621))) := if_pos c1
  have e2 : opMul (.int c) (.int 48271) = some (.val (.int (c * 48271))) := if_pos c2
  simp only [stepF, fDrSet, fBin, fB, fCall, fDr, fVar, fK, aCons, aNil, Out.bind, Out.toB, isDr, op2, lift1, Bv.tr, Dr.get, e1, e2, opAdd, opInt, opMod, opN, trs, Dr.put, if_true, List.getElem?_cons_zero, List.getElem?_cons_succ]
  rfl
theorem loop_ok {b1 b3 : Sl} : ∀ (cs : List Int) (b2 : Sl) (D : Dr), (∀ c ∈ cs, c.natAbs.log2 ≤ 3000000) → 0 ≤ D.mix → D.mix < 2147483629 →
    ∃ m b, 0 ≤ m ∧ m < 2147483629 ∧ forL (gNm 2) stepF (cs.map T.int) ⟨[.sh .drw, b1, b2, b3], D⟩ = .ok .nx ⟨[.sh .drw, b1, b, b3], { D with mix := m }⟩
  | [], b2, D, _, h1, h2 => ⟨D.mix, b2, h1, h2, rfl⟩
  | c :: cs, b2, D, hc, h1, h2 => by
    obtain ⟨m, k1, k2, e⟩ := step_ok (b1 := b1) (b3 := b3) (hc c (by simp)) h1 h2
    obtain ⟨m', b, k3, k4, e'⟩ := loop_ok (b1 := b1) (b3 := b3) cs (.sh (.int c)) { D with mix := m } (fun x hx => hc x (by simp [hx])) k1 k2
    refine ⟨m', b, k3, k4, ?_⟩
    show (match stepF ⟨[.sh .drw, b1, .sh (.int c), b3], D⟩ with
      | .ok .nx s2 => forL (gNm 2) stepF (cs.map T.int) s2
      | .ok .ct s2 => forL (gNm 2) stepF (cs.map T.int) s2
      | .ok .bk s2 => .ok .nx s2
      | .ok (.rt t fr) s2 => .ok (.rt t fr) s2
      | .exc y s2 => .exc y s2
      | .bad => .bad) = _
    rw [e]
    exact e'
end K67
namespace K67
open PySem PySem.Spec PyProof.Rows L2 Tv
theorem shp_int (a : Int) : shp (.int a) = true := by
  unfold shp
  simp [pl, toD, SeqAt.shaped, PyData.canLay0, PyData.depth]
theorem eq_int (a b : Int) : opEq false (.int a) (.int b) = some (.val (.bl (decide (a = b)))) := by
  unfold opEq
  rw [if_pos ⟨shp_int a, shp_int b⟩]
  simp only [toD, PyData.eqv, Bool.false_eq_true, if_false]
  by_cases h : a = b
  · simp [h]
  · simp [h]
theorem ints_lay : ∀ l : List Int, pls (l.map T.int) = true ∧ PyData.canLayAll0 (toDs (l.map T.int)) = true ∧ PyData.depthAll (toDs (l.map T.int)) ≤ 1
  | [] => by simp [pls, toDs, PyData.canLayAll0, PyData.depthAll]
  | a :: l => by
    obtain ⟨h1, h2, h3⟩ := ints_lay l
    simp only [List.map_cons, pls, pl, toDs, toD, PyData.canLayAll0, PyData.canLay0, PyData.depthAll, PyData.depth, h1, h2]
    refine ⟨rfl, rfl, ?_⟩
    omega
theorem shp_ints (l : List Int) : shp (.lst (l.map T.int)) = true := by
  obtain ⟨h1, h2, h3⟩ := ints_lay l
  unfold shp
  simp only [pl, toD, SeqAt.shaped, PyData.canLay0, PyData.depth, h1, h2, Bool.true_and, decide_eq_true_eq]
  omega
theorem ne_ints (l : List Int) : opEq true (.lst (l.map T.int)) (.lst []) = some (.val (.bl (!l.isEmpty))) := by
  unfold opEq
  rw [if_pos ⟨shp_ints l, shp_ints []⟩]
  cases l <;> simp [toD, toDs, PyData.eqv, PyData.eqvAll]
end K67
namespace K67
open PySem PySem.Spec PyProof.Rows L2 Tv
/-- the drawing after n turns at most -/
structure DOk (n : Nat) (D : Dr) : Prop where
  cells : ∀ c ∈ D.cells, c.natAbs.log2 ≤ 3000000
  clen : D.cells.length ≤ 16000000
  large : ∀ c ∈ D.large, 0 ≤ c
  rest : 0 ≤ D.rest
  turn0 : 0 ≤ D.turn
  turn : D.turn ≤ n
  mix0 : 0 ≤ D.mix
  mix : D.mix < 2147483629
theorem DOk.mono {n m : Nat} {D : Dr} (h : DOk n D) (l : n ≤ m) : DOk m D := ⟨h.cells, h.clen, h.large, h.rest, h.turn0, by have := h.turn; omega, h.mix0, h.mix⟩
noncomputable abbrev qRest : S → Out Bool := asT (fBin (opEq false) (fB (fDr 0 .rest)) (fB (fK (.int 0))))
section
variable {b1 b2 b3 : Sl} {D : Dr}
theorem qRest_ok : qRest ⟨[.sh .drw, b1, b2, b3], D⟩ = .ok (decide (D.rest = 0)) ⟨[.sh .drw, b1, b2, b3], D⟩ := by
  simp only [qRest, asT, fBin, fB, fDr, fK, isDr, Out.bind, Out.toB, op2, Bv.tr, lift1, Dr.get, eq_int, R.blK, if_true, List.getElem?_cons_zero]
theorem drL_ok : fDrL 0 ⟨[.sh .drw, b1, b2, b3], D⟩ = .ok (!D.large.isEmpty) ⟨[.sh .drw, b1, b2, b3], D⟩ := by
  simp only [fDrL, isDr, ne_ints, if_true, List.getElem?_cons_zero]
noncomputable abbrev fMixAll : S → Out Fl := fSeq (fDrSet 0 .turn (fBin opAdd (fB (fDr 0 .turn)) (fB (fK (.int 1))))) (fSeq (fFor (itS (fV (fDrCells 0 (aCons (fV (fDr 0 .turn)) (aNil))))) (gNm 2) stepF) (fDrSet 0 .rest (fBin opMod (fB (fCall opInt (aCons (fB (fBin opPow (fB (fDr 0 .mix)) (fB (fK (.int 5))))) (aNil)))) (fB (fK (.int 2305843009213693951))))))
theorem turn_ok : fDrSet 0 .turn (fBin opAdd (fB (fDr 0 .turn)) (fB (fK (.int 1)))) ⟨[.sh .drw, b1, b2, b3], D⟩ = .ok .nx ⟨[.sh .drw, b1, b2, b3], { D with turn := D.turn + 1 }⟩ := by
  simp only [fDrSet, fBin, fB, fDr, fK, isDr, Out.bind, Out.toB, op2, Bv.tr, lift1, Dr.get, opAdd, Dr.put, if_true, List.getElem?_cons_zero]
theorem rest_ok (h1 : 0 ≤ D.mix) (h2 : D.mix < 2147483629) : fDrSet 0 .rest (fBin opMod (fB (fCall opInt (aCons (fB (fBin opPow (fB (fDr 0 .mix)) (fB (fK (.int 5))))) (aNil)))) (fB (fK (.int 2305843009213693951)))) ⟨[.sh .drw, b1, b2, b3], D⟩
    = .ok .nx ⟨[.sh .drw, b1, b2, b3], { D with rest := D.mix ^ 5 % 2305843009213693951 }⟩ := by
  have e : opPow (.int D.mix) (.int 5) = some (.val (.int (D.mix ^ 5))) := if_pos ⟨by decide, by decide, by omega⟩
  simp only [fDrSet, fBin, fB, fCall, fDr, fK, aCons, aNil, isDr, Out.bind, Out.toB, op2, Bv.tr, lift1, Dr.get, e, opInt, opMod, opN, trs, Dr.put, if_true, List.getElem?_cons_zero]
  rfl
theorem mixAll_ok {n : Nat} (h : DOk n D) (hn : n < 1000000000) : ∃ D' b, DOk (n + 1) D' ∧ fMixAll ⟨[.sh .drw, b1, b2, b3], D⟩ = .ok .nx ⟨[.sh .drw, b1, b, b3], D'⟩ := by
  have t1 : (D.turn + 1).natAbs.log2 ≤ 3000000 := by
    have := log2_le (i := D.turn + 1) (n := 31) (by have := h.turn0; omega) (by have := h.turn; omega)
    omega
  obtain ⟨m, b, k1, k2, e⟩ := loop_ok (b1 := b1) (b3 := b3) ((D.turn + 1) :: D.cells) b2 { D with turn := D.turn + 1 } (fun c hc => by
    rcases List.mem_cons.mp hc with z | z
    · rw [z]; exact t1
    · exact h.cells c z) h.mix0 h.mix
  refine ⟨{ D with turn := D.turn + 1, mix := m, rest := m ^ 5 % 2305843009213693951 }, b, ⟨h.cells, h.clen, h.large, Int.emod_nonneg _ (by decide), by have := h.turn0; show 0 ≤ D.turn + 1; omega, by have := h.turn; show D.turn + 1 ≤ ((n + 1 : Nat) : Int); omega, k1, k2⟩, ?_⟩
  have e1 : fFor (itS (fV (fDrCells 0 (aCons (fV (fDr 0 .turn)) (aNil))))) (gNm 2) stepF ⟨[.sh .drw, b1, b2, b3], { D with turn := D.turn + 1 }⟩ = .ok .nx ⟨[.sh .drw, b1, b, b3], { D with turn := D.turn + 1, mix := m }⟩ := by
    have l : ([T.int (D.turn + 1)] : List T).length + D.cells.length ≤ 16777216 := by
      have := h.clen
      simp only [List.length_cons, List.length_nil]; omega
    simp only [fFor, itS, fV, fDrCells, fDr, aCons, aNil, isDr, Out.bind, Out.toV, Dr.get, if_true, List.getElem?_cons_zero]
    rw [if_pos ⟨trivial, l⟩]
    exact e
  unfold fMixAll fSeq
  rw [turn_ok]
  dsimp only [Out.bind]
  rw [e1]
  dsimp only [Out.bind]
  rw [rest_ok k1 k2]
end
end K67
namespace K67
open PySem PySem.Spec PyProof.Rows L2 Tv
section
variable {b1 b2 b3 : Sl} {D : Dr}
noncomputable abbrev fFill : S → Out Fl := fIf (tAndF qRest (fDrL 0)) (fDrSet 0 .rest (fDrPop 0)) (fIf qRest fMixAll (fNil))
theorem fill_ok {n : Nat} (h : DOk n D) (hn : n < 1000000000) : ∃ D' b, DOk (n + 1) D' ∧ fFill ⟨[.sh .drw, b1, b2, b3], D⟩ = .ok .nx ⟨[.sh .drw, b1, b, b3], D'⟩ := by
  unfold fFill fIf tAndF
  rw [qRest_ok]
  dsimp only [Out.bind]
  by_cases hr : D.rest = 0
  · rw [decide_eq_true hr, if_pos rfl, drL_ok]
    cases hl : D.large with
    | nil =>
      obtain ⟨D', b, k, e⟩ := mixAll_ok (b1 := b1) (b2 := b2) (b3 := b3) h hn
      refine ⟨D', b, k, ?_⟩
      show (if false = true then _ else (qRest ⟨[.sh .drw, b1, b2, b3], D⟩).bind fun b s1 => if b = true then fMixAll s1 else fNil s1) = _
      rw [if_neg Bool.false_ne_true, qRest_ok]
      dsimp only [Out.bind]
      rw [decide_eq_true hr, if_pos rfl]
      exact e
    | cons c l =>
      refine ⟨{ D with large := l, rest := c }, b2, ⟨h.cells, h.clen, fun x hx => h.large x (by rw [hl]; exact List.mem_cons_of_mem _ hx), h.large c (by rw [hl]; exact List.mem_cons_self), h.turn0, by have := h.turn; show D.turn ≤ ((n + 1 : Nat) : Int); omega, h.mix0, h.mix⟩, ?_⟩
      show (if true = true then fDrSet 0 .rest (fDrPop 0) ⟨[.sh .drw, b1, b2, b3], D⟩ else _) = _
      rw [if_pos rfl]
      simp only [fDrSet, fDrPop, isDr, Out.bind, hl, if_true, List.getElem?_cons_zero, Dr.put]
  · refine ⟨D, b2, h.mono (Nat.le_succ n), ?_⟩
    rw [decide_eq_false hr, if_neg Bool.false_ne_true]
    dsimp only [Out.bind]
    rw [if_neg Bool.false_ne_true, qRest_ok]
    dsimp only [Out.bind]
    rw [decide_eq_false hr, if_neg Bool.false_ne_true]
    rfl
end
/-- the draw of a number below size -/
theorem take_ok {n : Nat} {D : Dr} {size : Int} (h : DOk n D) (hn : n < 1000000000) (h1 : 0 < size) (h2 : size < 1073741824) :
    ∃ r D', φ__law_take [.drw, .int size] D = .ok (.int r) false D' ∧ 0 ≤ r ∧ r < size ∧ DOk (n + 1) D' := by
  obtain ⟨D1, b, k, e⟩ := fill_ok (b1 := .sh (.int size)) (b2 := .no) (b3 := .no) h hn
  refine ⟨D1.rest % size, { D1 with rest := D1.rest / size }, ?_, Int.emod_nonneg _ (by omega), Int.emod_lt_of_pos _ h1, ⟨k.cells, k.clen, k.large, Int.ediv_nonneg k.rest (by omega), k.turn0, k.turn, k.mix0, k.mix⟩⟩
  show resOf (fSeq fFill (fSeq (fDrDiv 0 3 1) (fRet (fVar 3))) ⟨[.sh .drw, .sh (.int size), .no, .no], D⟩) = _
  unfold fSeq
  rw [e]
  have e2 : fDrDiv 0 3 1 ⟨[.sh .drw, .sh (.int size), b, .no], D1⟩ = .ok .nx ⟨[.sh .drw, .sh (.int size), b, .sh (.int (D1.rest % size))], { D1 with rest := D1.rest / size }⟩ := by
    simp only [fDrDiv, isDr, if_true, List.getElem?_cons_zero, List.getElem?_cons_succ]
    rw [if_pos ⟨h1, h2⟩]
    rfl
  dsimp only [Out.bind]
  rw [e2]
  rfl
end K67
namespace K67
open PySem PySem.Spec PyProof.Rows L2 Tv
theorem atI_ok {ts : List T} {r : Int} (h0 : 0 ≤ r) (h1 : r < ts.length) : ∃ t, t ∈ ts ∧ L2.atI ts r = some t := by
  obtain ⟨k, rfl⟩ := Int.eq_ofNat_of_zero_le h0
  have hk : k < ts.length := by omega
  refine ⟨ts[k], List.getElem_mem hk, ?_⟩
  unfold L2.atI L2.ixN
  rw [if_pos h0, if_pos h1]
  show ts[(k : Int).toNat]? = _
  rw [Int.toNat_natCast, List.getElem?_eq_getElem hk]
theorem pick_ok {n : Nat} {D : Dr} {ts : List T} (h : DOk n D) (hn : n < 1000000000) (h1 : 0 < ts.length) (h2 : ts.length < 1073741824) :
    ∃ t D', t ∈ ts ∧ φ__law_pick [.drw, .lst ts] D = .ok t false D' ∧ DOk (n + 1) D' := by
  obtain ⟨r, D', e, k0, k1, k⟩ := take_ok (size := ts.length) h hn (by omega) (by omega)
  obtain ⟨t, ht, e2⟩ := atI_ok k0 k1
  refine ⟨t, D', ht, ?_, k⟩
  show resOf (fRet (fBin opIx (fB (fVar 1)) (fB (fDef 2 φ__law_take (aCons (fV (fVar 0)) (aCons (fV (fCall opLen (aCons (fB (fVar 1)) (aNil)))) (aNil)))))) ⟨[.sh .drw, .sh (.lst ts)], D⟩) = _
  have e3 : fDef 2 φ__law_take (aCons (fV (fVar 0)) (aCons (fV (fCall opLen (aCons (fB (fVar 1)) (aNil)))) (aNil))) ⟨[.sh .drw, .sh (.lst ts)], D⟩ = .ok (.val (.int r)) ⟨[.sh .drw, .sh (.lst ts)], D'⟩ := by
    simp only [fDef, aCons, aNil, fV, fVar, fCall, fB, Out.bind, Out.toV, Out.toB, opN, trs, Bv.tr, opLen, lift1, List.getElem?_cons_zero, List.getElem?_cons_succ]
    rw [if_pos (show ([T.drw, T.int ts.length] : List T).length = 2 from rfl), e]
  simp only [fRet, fBin, fB, fVar, Out.bind, Out.toB, e3, op2, Bv.tr, opIx, e2, Option.map, lift1, resOf, List.getElem?_cons_zero, List.getElem?_cons_succ]
end K67
namespace K67
open PySem PySem.Spec PyProof.Rows L2 Tv
section
variable {b0 b1 : Sl} {D : Dr}
noncomputable abbrev tFr : S → Out Bool := asT (fBin opGt (fB (fVar 3)) (fB (fK (.int 0))))
noncomputable abbrev fFr : S → Out Fl := fPar 2 3 (fVar 3) (fBin opMod (fB (fVar 2)) (fB (fVar 3)))
theorem tFr_ok {a b : Int} : tFr ⟨[b0, b1, .sh (.int a), .sh (.int b)], D⟩ = .ok (decide (b > 0)) ⟨[b0, b1, .sh (.int a), .sh (.int b)], D⟩ := by
  simp only [tFr, asT, fBin, fB, fVar, fK, Out.bind, Out.toB, op2, Bv.tr, lift1, opGt, opCmp, R.blK, List.getElem?_cons_zero, List.getElem?_cons_succ]
theorem fFr_ok {a b : Int} (h : 0 < b) : fFr ⟨[b0, b1, .sh (.int a), .sh (.int b)], D⟩ = .ok .nx ⟨[b0, b1, .sh (.int b), .sh (.int (a % b))], D⟩ := by
  have e : opMod (.int a) (.int b) = some (.val (.int (a % b))) := if_pos h
  simp only [fFr, fPar, fBin, fB, fVar, Out.bind, Out.toB, op2, Bv.tr, lift1, e, parR, List.getElem?_cons_zero, List.getElem?_cons_succ]
  rfl
theorem loopFr : ∀ (n : Nat) (a b : Int), 0 ≤ a → 0 ≤ b → b.toNat ≤ n → fWh tFr fFr ⟨[b0, b1, .sh (.int a), .sh (.int b)], D⟩ = .ok .nx ⟨[b0, b1, .sh (.int (Int.gcd a b)), .sh (.int 0)], D⟩
  | n, a, b, ha, hb, hn => by
    rw [fWh_eq]
    unfold whStep
    rw [tFr_ok]
    by_cases h : b > 0
    · rw [decide_eq_true h]
      dsimp only
      rw [fFr_ok h]
      dsimp only
      cases n with
      | zero => omega
      | succ n =>
        have h1 := Int.emod_nonneg a (show b ≠ 0 by omega)
        have h2 := Int.emod_lt_of_pos a h
        rw [loopFr n b (a % b) hb h1 (by omega)]
        have g : Int.gcd b (a % b) = Int.gcd a b := by
          obtain ⟨x, rfl⟩ := Int.eq_ofNat_of_zero_le ha
          obtain ⟨y, rfl⟩ := Int.eq_ofNat_of_zero_le hb
          show Nat.gcd _ _ = Nat.gcd _ _
          rw [← Int.natCast_emod, Int.natAbs_natCast, Int.natAbs_natCast, Int.natAbs_natCast, Nat.gcd_comm y, ← Nat.gcd_rec, Nat.gcd_comm]
        rw [g]
    · have hz : b = 0 := by omega
      subst hz
      rw [decide_eq_false h]
      dsimp only
      have g : ((Int.gcd a 0 : Nat) : Int) = a := by
        rw [Int.gcd_zero_right]; omega
      rw [g]
end
/-- a fraction in its lowest terms -/
theorem fraction_ok {D : Dr} {t b : Int} (ht : 0 ≤ t) (hb : 0 < b) (hl : b < (2 ^ 9000 : Nat)) :
    φ__law_fraction [.int t, .int b] D = .ok (.tup [.int (t / Int.gcd t b), .int (b / Int.gcd t b)]) false D := by
  have g0 : 0 < Int.gcd t b := Int.gcd_pos_of_ne_zero_right _ (by omega)
  have gb : Int.gcd t b ≤ b.natAbs := Int.gcd_le_natAbs_right _ (by omega)
  have gl : ((Int.gcd t b : Nat) : Int).natAbs.log2 < 9000 := by
    rw [Int.natAbs_natCast]
    exact (Nat.log2_lt (by omega)).2 (by omega)
  have e1 : ∀ x : Int, opFdv (.int x) (.int (Int.gcd t b)) = some (.val (.int (x / Int.gcd t b))) := fun x => if_pos ⟨by omega, gl⟩
  show resOf (fSeq (fPar 2 3 (fVar 0) (fVar 1)) (fSeq (fWh tFr fFr) (fRet (fTup (aCons (fV (fBin opFdv (fB (fVar 0)) (fB (fVar 2)))) (aCons (fV (fBin opFdv (fB (fVar 1)) (fB (fVar 2)))) (aNil)))))) ⟨[.sh (.int t), .sh (.int b), .no, .no], D⟩) = _
  have e2 : fPar 2 3 (fVar 0) (fVar 1) ⟨[.sh (.int t), .sh (.int b), .no, .no], D⟩ = .ok .nx ⟨[.sh (.int t), .sh (.int b), .sh (.int t), .sh (.int b)], D⟩ := by
    simp only [fPar, fVar, Out.bind, parR, List.getElem?_cons_zero, List.getElem?_cons_succ]
    rfl
  unfold fSeq
  rw [e2]
  dsimp only [Out.bind]
  rw [loopFr b.toNat t b ht (by omega) (Nat.le_refl _)]
  dsimp only [Out.bind]
  simp only [fRet, fTup, aCons, aNil, fV, fBin, fB, fVar, Out.bind, Out.toB, Out.toV, op2, Bv.tr, lift1, e1, List.getElem?_cons_zero, List.getElem?_cons_succ]
  rfl
end K67
namespace K67
open PySem PySem.Spec PyProof.Rows L2 Tv
abbrev Sh := Bool × Int
def kind (b : Bool) : Str := if b = true then "over" else "under"
def shT (s : Sh) : T := .tup [.str (kind s.1), .int s.2]
theorem strOk_kind (b : Bool) : PyData.canLay0 (.str (kind b)) = true := by cases b <;> decide +kernel
theorem shp_sh (s : Sh) : pl (shT s) = true ∧ PyData.canLay0 (toD (shT s)) = true ∧ PyData.depth (toD (shT s)) ≤ 1 := by
  refine ⟨by simp [shT, pl, pls], ?_, by simp [shT, toD, toDs, PyData.depth, PyData.depthAll]⟩
  simp only [shT, toD, toDs, PyData.canLay0, PyData.canLayAll0, Bool.and_true]
  exact strOk_kind s.1
theorem shs_lay : ∀ l : List Sh, pls (l.map shT) = true ∧ PyData.canLayAll0 (toDs (l.map shT)) = true ∧ PyData.depthAll (toDs (l.map shT)) ≤ 1
  | [] => by simp [pls, toDs, PyData.canLayAll0, PyData.depthAll]
  | a :: l => by
    obtain ⟨h1, h2, h3⟩ := shs_lay l
    obtain ⟨k1, k2, k3⟩ := shp_sh a
    simp only [List.map_cons, pls, toDs, PyData.canLayAll0, PyData.depthAll, h1, h2, k1, k2]
    refine ⟨rfl, rfl, ?_⟩
    omega
theorem eqv_sh (a b : Sh) : PyData.eqv (toD (shT a)) (toD (shT b)) = decide (a = b) := by
  obtain ⟨x, i⟩ := a
  obtain ⟨y, j⟩ := b
  have hk : (kind x == kind y) = decide (x = y) := by cases x <;> cases y <;> decide +kernel
  simp only [shT, toD, toDs, PyData.eqv, PyData.eqvAll, hk, Bool.and_true]
  by_cases h1 : x = y <;> by_cases h2 : i = j <;> simp [h1, h2]
theorem in_shs (s : Sh) (l : List Sh) : opIn true (shT s) (.lst (l.map shT)) = some (.val (.bl (decide (s ∉ l)))) := by
  obtain ⟨h1, h2, h3⟩ := shs_lay l
  obtain ⟨k1, k2, k3⟩ := shp_sh s
  have s1 : shp (shT s) = true := by
    unfold shp SeqAt.shaped
    rw [k1, k2]
    simp only [Bool.true_and, decide_eq_true_eq]; omega
  have s2 : shp (.lst (l.map shT)) = true := by
    unfold shp
    simp only [pl, toD, SeqAt.shaped, PyData.canLay0, PyData.depth, h1, h2, Bool.true_and, decide_eq_true_eq]; omega
  have an : (toDs (l.map shT)).any (fun z => PyData.eqv z (toD (shT s))) = decide (s ∈ l) := by
    clear h1 h2 h3 s2
    induction l with
    | nil => simp [toDs]
    | cons a l ih =>
      simp only [List.map_cons, toDs, List.any_cons, ih, eqv_sh]
      by_cases e1 : a = s
      · subst e1; simp
      · have e3 : ¬ s = a := fun z => e1 z.symm
        by_cases e2 : s ∈ l <;> simp [e1, e2, e3]
  show (if shp (shT s) = true ∧ shp (.lst (l.map shT)) = true then some (R.val (.bl (if true = true then !(toDs (l.map shT)).any (fun z => PyData.eqv z (toD (shT s))) else _))) else none) = _
  rw [if_pos ⟨s1, s2⟩, if_pos rfl, an]
  by_cases e : s ∈ l <;> simp [e]
end K67
namespace K67
open PySem PySem.Spec PyProof.Rows L2 Tv
/-- pick(draw, [..]) where it stands -/
theorem pickE {n : Nat} {s : S} {ts : List T} {f : S → Out (List T)} (h0 : s.env[0]? = some (.sh .drw)) (hf : f s = .ok ts s) (h : DOk n s.D) (hn : n < 1000000000) (h1 : 0 < ts.length) (h2 : ts.length ≤ 1000) :
    ∃ t D', t ∈ ts ∧ fDef 2 φ__law_pick (aCons (fV (fVar 0)) (aCons (fV (fLst f)) (aNil))) s = .ok (.val t) { s with D := D' } ∧ DOk (n + 1) D' := by
  obtain ⟨t, D', ht, e, k⟩ := pick_ok h hn h1 (by omega)
  refine ⟨t, D', ht, ?_, k⟩
  have e0 : fVar 0 s = .ok (.val .drw) s := by unfold fVar; rw [h0]
  have e1 : fLst f s = .ok (.frs (.lst ts)) s := by
    unfold fLst
    rw [hf]
    exact if_pos h2
  unfold fDef aCons fV aNil
  rw [e0]
  dsimp only [Out.bind, Out.toV]
  rw [e1]
  dsimp only [Out.bind, Out.toV]
  rw [if_pos (show ([T.drw, T.lst ts] : List T).length = 2 from rfl), e]
/-- take(draw, i) where it stands -/
theorem takeE {n : Nat} {s : S} {i : Int} {f : S → Out R} (h0 : s.env[0]? = some (.sh .drw)) (hf : f s = .ok (.val (.int i)) s) (h : DOk n s.D) (hn : n < 1000000000) (h1 : 0 < i) (h2 : i < 1073741824) :
    ∃ r D', 0 ≤ r ∧ r < i ∧ fDef 2 φ__law_take (aCons (fV (fVar 0)) (aCons (fV f) (aNil))) s = .ok (.val (.int r)) { s with D := D' } ∧ DOk (n + 1) D' := by
  obtain ⟨r, D', e, k1, k2, k⟩ := take_ok h hn h1 h2
  refine ⟨r, D', k1, k2, ?_, k⟩
  have e0 : fVar 0 s = .ok (.val .drw) s := by unfold fVar; rw [h0]
  unfold fDef aCons fV aNil
  rw [e0]
  dsimp only [Out.bind, Out.toV]
  rw [hf]
  dsimp only [Out.bind, Out.toV]
  rw [if_pos (show ([T.drw, T.int i] : List T).length = 2 from rfl), e]
theorem f1 {f : S → Out R} {t : T} {s s' : S} (e : f s = .ok (.val t) s') : fV f s = .ok t s' := by unfold fV; rw [e]; rfl
theorem aC {α : Type} {f : S → Out α} {k : S → Out (List α)} {t : α} {ts : List α} {s s1 s2 : S} (e1 : f s = .ok t s1) (e2 : k s1 = .ok ts s2) : aCons f k s = .ok (t :: ts) s2 := by
  unfold aCons
  rw [e1]
  dsimp only [Out.bind]
  rw [e2]
theorem tupE {f : S → Out (List T)} {ts : List T} {s s1 : S} (e : f s = .ok ts s1) (h : ts.length ≤ 1000) : fTup f s = .ok (.val (.tup ts)) s1 := by
  unfold fTup
  rw [e]
  exact if_pos h
noncomputable abbrev fShape : S → Out R := fTup (aCons (fV (fDef 2 φ__law_pick (aCons (fV (fVar 0)) (aCons (fV (fLst (aCons (fV (fK (.str "over"))) (aCons (fV (fK (.str "under"))) (aNil))))) (aNil))))) (aCons (fV (fDef 2 φ__law_pick (aCons (fV (fVar 0)) (aCons (fV (fLst (aCons (fV (fK (.int 1))) (aCons (fV (fK (.int 1))) (aCons (fV (fK (.int 2))) (aCons (fV (fK (.int 3))) (aCons (fV (fK (.int 8))) (aNil)))))))) (aNil))))) (aNil)))
theorem shape_ok {n : Nat} {s : S} (h0 : s.env[0]? = some (.sh .drw)) (h : DOk n s.D) (hn : n + 1 < 1000000000) :
    ∃ (x : Sh) (D' : Dr), x.2 ∈ ([1, 2, 3, 8] : List Int) ∧ fShape s = .ok (.val (shT x)) { s with D := D' } ∧ DOk (n + 2) D' := by
  obtain ⟨t1, D1, m1, e1, k1⟩ := pickE (s := s) (f := aCons (fV (fK (.str "over"))) (aCons (fV (fK (.str "under"))) (aNil))) (ts := [.str "over", .str "under"]) h0 rfl h (by omega) (by decide) (by decide)
  obtain ⟨t2, D2, m2, e2, k2⟩ := pickE (s := { s with D := D1 }) (f := aCons (fV (fK (.int 1))) (aCons (fV (fK (.int 1))) (aCons (fV (fK (.int 2))) (aCons (fV (fK (.int 3))) (aCons (fV (fK (.int 8))) (aNil))))))
    (ts := [.int 1, .int 1, .int 2, .int 3, .int 8]) h0 rfl k1 hn (by decide) (by decide)
  obtain ⟨b, hb⟩ : ∃ b, t1 = .str (kind b) := by
    simp only [List.mem_cons, List.not_mem_nil, or_false] at m1
    rcases m1 with z | z
    · exact ⟨true, z⟩
    · exact ⟨false, z⟩
  obtain ⟨i, hi, ht⟩ : ∃ i : Int, i ∈ ([1, 2, 3, 8] : List Int) ∧ t2 = .int i := by
    simp only [List.mem_cons, List.not_mem_nil, or_false] at m2
    rcases m2 with z | z | z | z | z
    · exact ⟨1, by decide, z⟩
    · exact ⟨1, by decide, z⟩
    · exact ⟨2, by decide, z⟩
    · exact ⟨3, by decide, z⟩
    · exact ⟨8, by decide, z⟩
  refine ⟨(b, i), D2, hi, ?_, k2⟩
  have z := tupE (aC (f1 e1) (aC (f1 e2) rfl)) (show ([t1, t2] : List T).length ≤ 1000 by simp)
  rw [hb, ht] at z
  exact z
end K67
namespace K67
open PySem PySem.Spec PyProof.Rows L2 Tv
noncomputable abbrev fShBody : S → Out Fl := fSeq (fSet 4 fShape) (fIf (asT (fBin (opIn true) (fB (fVar 4)) (fB (fVar 2)))) (fDrop (isOw 2 (fMut 2 mApp (aCons (fV (fVar 4)) (aNil))))) (fNil))
structure ShOk (ss : List Sh) : Prop where
  nd : ss.Nodup
  ks : ∀ s ∈ ss, s.2 ∈ ([1, 2, 3, 8] : List Int)
theorem shBody_ok {n : Nat} {b1 b3 b4 : Sl} {D : Dr} {ss : List Sh} (h : DOk n D) (hn : n + 1 < 1000000000) (o : ShOk ss) (hl : ss.length < 1000) :
    ∃ (ss' : List Sh) (b4' : Sl) (D' : Dr), fShBody ⟨[.sh .drw, b1, .ow (.lst (ss.map shT)), b3, b4], D⟩ = .ok .nx ⟨[.sh .drw, b1, .ow (.lst (ss'.map shT)), b3, b4'], D'⟩ ∧ ShOk ss' ∧ ss.length ≤ ss'.length ∧ ss'.length ≤ ss.length + 1 ∧ 1 ≤ ss'.length ∧ DOk (n + 2) D' := by
  obtain ⟨x, D', hx, e, k⟩ := shape_ok (s := ⟨[.sh .drw, b1, .ow (.lst (ss.map shT)), b3, b4], D⟩) rfl h hn
  have e1 : fSet 4 fShape ⟨[.sh .drw, b1, .ow (.lst (ss.map shT)), b3, b4], D⟩ = .ok .nx ⟨[.sh .drw, b1, .ow (.lst (ss.map shT)), b3, .sh (shT x)], D'⟩ := by
    unfold fSet
    rw [e]
    rfl
  have e2 : asT (fBin (opIn true) (fB (fVar 4)) (fB (fVar 2))) ⟨[.sh .drw, b1, .ow (.lst (ss.map shT)), b3, .sh (shT x)], D'⟩ = .ok (decide (x ∉ ss)) ⟨[.sh .drw, b1, .ow (.lst (ss.map shT)), b3, .sh (shT x)], D'⟩ := by
    simp only [asT, fBin, fB, fVar, Out.bind, Out.toB, op2, Bv.tr, lift1, in_shs, R.blK, List.getElem?_cons_zero, List.getElem?_cons_succ]
  unfold fShBody fSeq
  rw [e1]
  dsimp only [Out.bind]
  unfold fIf
  rw [e2]
  dsimp only [Out.bind]
  by_cases hm : x ∈ ss
  · refine ⟨ss, .sh (shT x), D', ?_, o, Nat.le_refl _, by omega, List.length_pos_of_mem hm, k⟩
    rw [decide_eq_false (by simpa using hm), if_neg Bool.false_ne_true]
    rfl
  · refine ⟨ss ++ [x], .sh (shT x), D', ?_, ⟨?_, ?_⟩, by simp, by simp, by simp, k⟩
    · rw [decide_eq_true hm, if_pos rfl]
      have e3 : mApp (ss.map shT) [shT x] = some (.non, ss.map shT ++ [shT x]) := if_pos (by rw [List.length_map]; omega)
      simp only [fDrop, isOw, fMut, aCons, aNil, fV, fVar, Out.bind, Out.toV, e3, List.getElem?_cons_zero, List.getElem?_cons_succ]
      rw [List.map_append]
      rfl
    · refine List.nodup_append.mpr ⟨o.nd, by simp, fun a ha b hb => ?_⟩
      rw [List.mem_singleton.mp hb]
      exact fun z => hm (z ▸ ha)
    · intro s hs
      rcases List.mem_append.mp hs with z | z
      · exact o.ks s z
      · rw [List.mem_singleton.mp z]; exact hx
theorem shLoop : ∀ (ts : List T) (n : Nat) (b1 b3 b4 : Sl) (D : Dr) (ss : List Sh), DOk n D → n + 2 * ts.length < 1000000000 → ShOk ss → ss.length + ts.length ≤ 1000 →
    ∃ (ss' : List Sh) (b3' b4' : Sl) (D' : Dr), forL (gNm 3) fShBody ts ⟨[.sh .drw, b1, .ow (.lst (ss.map shT)), b3, b4], D⟩ = .ok .nx ⟨[.sh .drw, b1, .ow (.lst (ss'.map shT)), b3', b4'], D'⟩ ∧ ShOk ss' ∧ ss.length ≤ ss'.length ∧ ss'.length ≤ ss.length + ts.length ∧ (0 < ts.length → 1 ≤ ss'.length) ∧ DOk (n + 2 * ts.length) D'
  | [], n, b1, b3, b4, D, ss, h, hn, o, hl => ⟨ss, b3, b4, D, rfl, o, Nat.le_refl _, by simp, fun z => absurd z (by simp), h⟩
  | t :: ts, n, b1, b3, b4, D, ss, h, hn, o, hl => by
    simp only [List.length_cons] at hn hl ⊢
    obtain ⟨s1, c4, D1, e1, o1, l1, l2, l3, k1⟩ := shBody_ok (b1 := b1) (b3 := .sh t) (b4 := b4) h (by omega) o (by omega)
    obtain ⟨s2, c3, d4, D2, e2, o2, l4, l5, l6, k2⟩ := shLoop ts (n + 2) b1 (.sh t) c4 D1 s1 k1 (by omega) o1 (by omega)
    refine ⟨s2, c3, d4, D2, ?_, o2, by omega, by omega, fun _ => by omega, k2.mono (by omega)⟩
    show (match fShBody ⟨[.sh .drw, b1, .ow (.lst (ss.map shT)), .sh t, b4], D⟩ with
      | .ok .nx s2 => forL (gNm 3) fShBody ts s2
      | .ok .ct s2 => forL (gNm 3) fShBody ts s2
      | .ok .bk s2 => .ok .nx s2
      | .ok (.rt t fr) s2 => .ok (.rt t fr) s2
      | .exc y s2 => .exc y s2
      | .bad => .bad) = _
    rw [e1]
    exact e2
end K67
namespace K67
open PySem PySem.Spec PyProof.Rows L2 Tv
/-- the shapes drawn: all different, one at least, many at most -/
theorem shapes_ok {n : Nat} {D : Dr} {many : Int} (h : DOk n D) (hn : n < 900000000) (h1 : 0 < many) (h2 : many ≤ 900) :
    ∃ (ss : List Sh) (D' : Dr), φ__law_shapes [.drw, .int many] D = .ok (.lst (ss.map shT)) true D' ∧ ShOk ss ∧ 1 ≤ ss.length ∧ (ss.length : Int) ≤ many ∧ DOk (n + 2001) D' := by
  obtain ⟨r, D1, r1, r2, e1, k1⟩ := takeE (s := ⟨[.sh .drw, .sh (.int many), .ow (.lst []), .no, .no], D⟩) (f := fVar 1) rfl rfl h (by omega) h1 (by omega)
  have hlen : (rngT 0 (1 + r).toNat).length = (1 + r).toNat := rngT_length _ _
  obtain ⟨ss, c3, c4, D2, e2, o, l1, l2, l3, k2⟩ := shLoop (rngT 0 (1 + r).toNat) (n + 1) (.sh (.int many)) .no .no D1 [] k1 (by omega) ⟨List.nodup_nil, fun s hs => nomatch hs⟩ (by simp only [List.length_nil]; omega)
  rw [hlen] at l2 l3 k2
  refine ⟨ss, D2, ?_, o, l3 (by omega), by simp only [List.length_nil] at l2; omega, k2.mono (by omega)⟩
  show resOf (fSeq (fSet 2 (fLst (aNil))) (fSeq (fFor (itR1 (fBin opAdd (fB (fK (.int 1))) (fB (fDef 2 φ__law_take (aCons (fV (fVar 0)) (aCons (fV (fVar 1)) (aNil))))))) (gNm 3) fShBody) (fRet (fVar 2))) ⟨[.sh .drw, .sh (.int many), .no, .no, .no], D⟩) = _
  have e0 : fSet 2 (fLst (aNil)) ⟨[.sh .drw, .sh (.int many), .no, .no, .no], D⟩ = .ok .nx ⟨[.sh .drw, .sh (.int many), .ow (.lst []), .no, .no], D⟩ := rfl
  have e3 : itR1 (fBin opAdd (fB (fK (.int 1))) (fB (fDef 2 φ__law_take (aCons (fV (fVar 0)) (aCons (fV (fVar 1)) (aNil)))))) ⟨[.sh .drw, .sh (.int many), .ow (.lst []), .no, .no], D⟩ = .ok (rngT 0 (1 + r).toNat) ⟨[.sh .drw, .sh (.int many), .ow (.lst []), .no, .no], D1⟩ := by
    simp only [itR1, fBin, fB, fK, Out.bind, Out.toB, e1, op2, Bv.tr, opAdd, lift1]
    exact if_pos ⟨by omega, by omega⟩
  unfold fSeq fFor
  rw [e0]
  dsimp only [Out.bind]
  rw [e3]
  dsimp only [Out.bind]
  rw [show forL (gNm 3) fShBody (rngT 0 (1 + r).toNat) ⟨[.sh .drw, .sh (.int many), .ow (.lst []), .no, .no], D1⟩ = _ from e2]
  rfl
end K67
namespace K67
open PySem PySem.Spec PyProof.Rows L2 Tv
/-- a fraction in its lowest terms, as a tree -/
structure FrOk (p q : Int) : Prop where
  p0 : 0 ≤ p
  q0 : 0 < q
  co : Int.gcd p q = 1
theorem frOk_of {t b : Int} (ht : 0 ≤ t) (hb : 0 < b) : FrOk (t / Int.gcd t b) (b / Int.gcd t b) := by
  have g0 : 0 < Int.gcd t b := Int.gcd_pos_of_ne_zero_right _ (by omega)
  refine ⟨Int.ediv_nonneg ht (by omega), ?_, Int.gcd_ediv_gcd_ediv_gcd g0⟩
  exact Int.ediv_pos_of_pos_of_dvd hb (by omega) (Int.gcd_dvd_right _ _)
/-- fraction(top, bottom) where it stands -/
theorem fractionE {s s1 s2 : S} {t b : Int} {f k : S → Out R} (e1 : f s = .ok (.val (.int t)) s1) (e2 : k s1 = .ok (.val (.int b)) s2) (ht : 0 ≤ t) (hb : 0 < b) (hl : b < (2 ^ 9000 : Nat)) :
    fDef 2 φ__law_fraction (aCons (fV f) (aCons (fV k) (aNil))) s = .ok (.val (.tup [.int (t / Int.gcd t b), .int (b / Int.gcd t b)])) s2 := by
  have z : aCons (fV f) (aCons (fV k) (aNil)) s = .ok [.int t, .int b] s2 := aC (f1 e1) (aC (f1 e2) rfl)
  unfold fDef
  rw [z]
  dsimp only [Out.bind]
  rw [if_pos (show ([T.int t, T.int b] : List T).length = 2 from rfl), fraction_ok ht hb hl]
end K67
namespace K67
open PySem PySem.Spec PyProof.Rows L2 Tv
theorem setE {i : Nat} {f : S → Out R} {t : T} {s s1 : S} (e : f s = .ok (.val t) s1) : fSet i f s = .ok .nx (s1.put i (.sh t)) := by
  unfold fSet
  rw [e]
  rfl
theorem binE {op : T → T → Option R} {f k : S → Out R} {t u : T} {z : R} {s s1 s2 : S} (e1 : f s = .ok (.val t) s1) (e2 : k s1 = .ok (.val u) s2) (e3 : op t u = some z) : fBin op (fB f) (fB k) s = .ok z s2 := by
  simp only [fBin, fB, e1, Out.bind, Out.toB, e2, op2, Bv.tr, e3, lift1]
theorem call2E {op : List T → Option R} {f k : S → Out R} {t u : T} {z : R} {s s1 s2 : S} (e1 : f s = .ok (.val t) s1) (e2 : k s1 = .ok (.val u) s2) (e3 : op [t, u] = some z) : fCall op (aCons (fB f) (aCons (fB k) (aNil))) s = .ok z s2 := by
  simp only [fCall, aCons, aNil, fB, e1, Out.bind, Out.toB, e2, opN, trs, Bv.tr, e3, lift1]
theorem varE {i : Nat} {t : T} {s : S} (e : s.env[i]? = some (.sh t)) : fVar i s = .ok (.val t) s := by
  unfold fVar
  rw [e]
theorem seqE {f k : S → Out Fl} {s s1 : S} (e : f s = .ok .nx s1) : fSeq f k s = k s1 := by
  unfold fSeq
  rw [e]
  rfl
theorem mulE {i j : Int} (h1 : i.natAbs < 2 ^ 1000) (h2 : j.natAbs < 2 ^ 1000) : opMul (.int i) (.int j) = some (.val (.int (i * j))) := by
  have b : ∀ x : Nat, x < 2 ^ 1000 → x.log2 < 1000 := fun x hx => by
    by_cases h : x = 0
    · rw [h]; decide
    · exact (Nat.log2_lt h).2 hx
  have := b _ h1
  have := b _ h2
  exact if_pos (by omega)
end K67
namespace K67
open PySem PySem.Spec PyProof.Rows L2 Tv
theorem retE {f : S → Out R} {t : T} {s s1 : S} (e : f s = .ok (.val t) s1) : fRet f s = .ok (.rt t false) s1 := by
  unfold fRet
  rw [e]
  rfl
def big : Int := 100000000000000000000000007
theorem big_ok {s : S} : fBin opAdd (fB (fBin opPow (fB (fK (.int 10))) (fB (fK (.int 26))))) (fB (fK (.int 7))) s = .ok (.val (.int big)) s := by
  have e : opPow (.int 10) (.int 26) = some (.val (.int (10 ^ 26))) := by
    show (if (0 : Int) ≤ 26 ∧ (26 : Int) ≤ 1000000 ∧ (10 : Int).natAbs < 2 ^ 64 then some (R.val (T.int (10 ^ (26 : Int).toNat))) else none) = _
    rw [if_pos (by decide)]
    rfl
  exact binE (binE (t := .int 10) (u := .int 26) rfl rfl e) (u := .int 7) rfl rfl
/-- far: a fraction in its lowest terms and a number from 1 to 8 -/
theorem far_ok {n : Nat} {D : Dr} (h : DOk n D) (hn : n < 900000000) :
    ∃ (p q k : Int) (D' : Dr), φ__law_far [.drw] D = .ok (.tup [.tup [.int p, .int q], .int k]) false D' ∧ FrOk p q ∧ 1 ≤ k ∧ k ≤ 8 ∧ DOk (n + 4) D' := by
  obtain ⟨t1, D1, m1, e1, k1⟩ := pickE (s := ⟨[.sh .drw, .no, .no], D⟩) (f := aCons (fV (fK (.int 1))) (aCons (fV (fK (.int 1))) (aCons (fV (fBin opAdd (fB (fBin opPow (fB (fK (.int 10))) (fB (fK (.int 26))))) (fB (fK (.int 7))))) (aNil))))
    (ts := [.int 1, .int 1, .int big]) rfl (aC rfl (aC rfl (aC (f1 big_ok) rfl))) h (by omega) (by decide) (by decide)
  obtain ⟨b, hb, hb0, hb1⟩ : ∃ b : Int, t1 = .int b ∧ 0 < b ∧ b ≤ big := by
    simp only [List.mem_cons, List.not_mem_nil, or_false] at m1
    rcases m1 with z | z | z
    · exact ⟨1, z, by decide, by decide⟩
    · exact ⟨1, z, by decide, by decide⟩
    · exact ⟨big, z, by decide, by decide⟩
  subst hb
  obtain ⟨r, D2, r0, r1, e2, k2⟩ := takeE (s := ⟨[.sh .drw, .sh (.int b), .no], D1⟩) (f := fK (.int 300)) (i := 300) rfl rfl k1 (by omega) (by decide) (by decide)
  obtain ⟨t3, D3, m3, e3, k3⟩ := pickE (s := ⟨[.sh .drw, .sh (.int b), .no], D2⟩) (f := aCons (fV (fK (.int 0))) (aCons (fV (fK (.int 1))) (aCons (fV (fNeg (fK (.int 1)))) (aNil))))
    (ts := [.int 0, .int 1, .int (-1)]) rfl rfl k2 (by omega) (by decide) (by decide)
  obtain ⟨c, hc⟩ : ∃ c : Int, t3 = .int c := by
    simp only [List.mem_cons, List.not_mem_nil, or_false] at m3
    rcases m3 with z | z | z <;> exact ⟨_, z⟩
  subst hc
  have hbig : big < 2 ^ 100 := by decide
  let top : Int := if r * b + c > 0 then r * b + c else 0
  have ht0 : 0 ≤ top := by show 0 ≤ (if r * b + c > 0 then r * b + c else 0); split <;> omega
  obtain ⟨j, D4, j0, j1, e4, k4⟩ := takeE (s := ⟨[.sh .drw, .sh (.int b), .sh (.int top)], D3⟩) (f := fK (.int 8)) (i := 8) rfl rfl k3 (by omega) (by decide) (by decide)
  refine ⟨_, _, 1 + j, D4, ?_, frOk_of ht0 hb0, by omega, by omega, k4⟩
  have hm : opMul (.int r) (.int b) = some (.val (.int (r * b))) := mulE (by omega) (by omega)
  have e5 := call2E (op := opMax) (f := fK (.int 0)) (t := .int 0) (s := ⟨[.sh .drw, .sh (.int b), .no], D1⟩) rfl (binE (op := opAdd) (z := .val (.int (r * b + c))) (binE e2 (varE (i := 1) rfl) hm) e3 rfl) (u := .int (r * b + c)) (z := .val (.int top)) rfl
  have e6 := tupE (aC (f1 (fractionE (s := ⟨[.sh .drw, .sh (.int b), .sh (.int top)], D3⟩) (varE (i := 2) rfl) (varE (i := 1) rfl) ht0 hb0 (by
    have : (2 : Int) ^ 100 ≤ ((2 ^ 9000 : Nat) : Int) := by exact_mod_cast Nat.pow_le_pow_right (by decide) (by decide : 100 ≤ 9000)
    omega))) (aC (f1 (binE (op := opAdd) (f := fK (.int 1)) (t := .int 1) (z := .val (.int (1 + j))) rfl e4 rfl)) (rfl : aNil _ = .ok [] _))) (by show (2 : Nat) ≤ 1000; decide)
  exact congrArg resOf ((seqE (setE (i := 1) e1)).trans ((seqE (setE (i := 2) e5)).trans (retE e6)))
end K67
namespace K67
open PySem PySem.Spec PyProof.Rows L2 Tv
theorem negE {f : S → Out R} {i : Int} {s s1 : S} (e : f s = .ok (.val (.int i)) s1) : fNeg f s = .ok (.val (.int (-i))) s1 := by
  unfold fNeg
  rw [e]
  rfl
theorem fdvE {i j : Int} (h1 : 0 < j) (h2 : j < 2 ^ 1000) : opFdv (.int i) (.int j) = some (.val (.int (i / j))) := by
  have b : j.natAbs.log2 < 1000 := (Nat.log2_lt (by omega)).2 (by omega)
  exact if_pos ⟨h1, by omega⟩
/-- the loads (p/q, k) that come here: small enough -/
structure LdOk (p q k : Int) : Prop where
  p0 : 0 ≤ p
  q0 : 0 < q
  k0 : 0 < k
  qm : q.natAbs < 2 ^ 1000
  km : k.natAbs < 2 ^ 1000
  m : q * k < 2 ^ 1000
def gApp (p q k : Int) : Int := -(-p / (q * k)) - 1
def lApp (p q k : Int) : Int := p / (q * k) + 1
theorem greatest_ok {p q k : Int} {D : Dr} (h : LdOk p q k) : φ_greatest_applying [.tup [.int p, .int q], .int k] D = .ok (.int (gApp p q k)) false D := by
  have hm := mulE h.qm h.km
  have h0 : 0 < q * k := Int.mul_pos h.q0 h.k0
  let s : S := ⟨[.sh (.tup [.int p, .int q]), .sh (.int k)], D⟩
  have v0 : fVar 0 s = .ok (.val (.tup [.int p, .int q])) s := rfl
  have e1 : fBin opIx (fB (fVar 0)) (fB (fK (.int 0))) s = .ok (.val (.int p)) s := binE (u := .int 0) v0 rfl rfl
  have e2 : fBin opIx (fB (fVar 0)) (fB (fK (.int 1))) s = .ok (.val (.int q)) s := binE (u := .int 1) v0 rfl rfl
  exact congrArg resOf (retE (binE (op := opSub) (u := .int 1) (z := .val (.int (gApp p q k))) (negE (binE (negE e1) (binE e2 (varE (i := 1) rfl) hm) (fdvE h0 h.m))) rfl rfl))
theorem least_ok {p q k : Int} {D : Dr} (h : LdOk p q k) : φ_least_applying [.tup [.int p, .int q], .int k] D = .ok (.int (lApp p q k)) false D := by
  have hm := mulE h.qm h.km
  have h0 : 0 < q * k := Int.mul_pos h.q0 h.k0
  let s : S := ⟨[.sh (.tup [.int p, .int q]), .sh (.int k)], D⟩
  have v0 : fVar 0 s = .ok (.val (.tup [.int p, .int q])) s := rfl
  have e1 : fBin opIx (fB (fVar 0)) (fB (fK (.int 0))) s = .ok (.val (.int p)) s := binE (u := .int 0) v0 rfl rfl
  have e2 : fBin opIx (fB (fVar 0)) (fB (fK (.int 1))) s = .ok (.val (.int q)) s := binE (u := .int 1) v0 rfl rfl
  exact congrArg resOf (retE (binE (op := opAdd) (u := .int 1) (z := .val (.int (lApp p q k))) (binE e1 (binE e2 (varE (i := 1) rfl) hm) (fdvE h0 h.m)) rfl rfl))
end K67
namespace K67
open PySem PySem.Spec PyProof.Rows L2 Tv
theorem eq_kind (b : Bool) : opEq false (.str (kind b)) (.str "over") = some (.val (.bl b)) := by
  have s1 : ∀ b, shp (.str (kind b)) = true := fun b => by
    unfold shp SeqAt.shaped
    simp only [pl, toD, strOk_kind, PyData.depth, Bool.true_and, decide_eq_true_eq]; omega
  have s2 : shp (.str "over") = true := s1 true
  unfold opEq
  rw [if_pos ⟨s1 b, s2⟩]
  simp only [toD, PyData.eqv, Bool.false_eq_true, if_false]
  cases b <;> rfl
/-- the marks to which a shape applies -/
def app (s : Sh) (p q k : Int) : Int × Int := if s.1 = true then (1, gApp p q k) else (lApp p q k, 60)
def prT (x : Int × Int) : T := .tup [.int x.1, .int x.2]
theorem call2 {φ : Phi} {t u : T} {z : T} {D D' : Dr} {s s1 s2 : S} {f k : S → Out R} (e : φ [t, u] s2.D = .ok z false D') (e1 : f s = .ok (.val t) s1) (e2 : k s1 = .ok (.val u) s2) : fDef 2 φ (aCons (fV f) (aCons (fV k) (aNil))) s = .ok (.val z) { s2 with D := D' } := by
  have y : aCons (fV f) (aCons (fV k) (aNil)) s = .ok [t, u] s2 := aC (f1 e1) (aC (f1 e2) rfl)
  unfold fDef
  rw [y]
  dsimp only [Out.bind]
  rw [if_pos (show ([t, u] : List T).length = 2 from rfl), e]
theorem asTE {f : S → Out R} {b : Bool} {s s1 : S} (e : f s = .ok (.val (.bl b)) s1) : asT f s = .ok b s1 := by
  unfold asT
  rw [e]
  rfl
theorem ifT {t : S → Out Bool} {f k : S → Out Fl} {s s1 : S} (e : t s = .ok true s1) : fIf t f k s = f s1 := by
  unfold fIf
  rw [e]
  rfl
theorem ifF {t : S → Out Bool} {f k : S → Out Fl} {s s1 : S} (e : t s = .ok false s1) : fIf t f k s = k s1 := by
  unfold fIf
  rw [e]
  rfl
theorem seqR {f k : S → Out Fl} {t : T} {b : Bool} {s s1 : S} (e : f s = .ok (.rt t b) s1) : fSeq f k s = .ok (.rt t b) s1 := by
  unfold fSeq
  rw [e]
  rfl
end K67
namespace K67
open PySem PySem.Spec PyProof.Rows L2 Tv
theorem applying_ok {x : Sh} {p q k : Int} {D : Dr} (h : LdOk p q k) : φ_applying [shT x, .tup [.int p, .int q], .int k] D = .ok (prT (app x p q k)) false D := by
  obtain ⟨b, c⟩ := x
  let s : S := ⟨[.sh (shT (b, c)), .sh (.tup [.int p, .int q]), .sh (.int k)], D⟩
  have t : asT (fBin (opEq false) (fB (fBin opIx (fB (fVar 0)) (fB (fK (.int 0))))) (fB (fK (.str "over")))) s = .ok b s :=
    asTE (binE (binE (u := .int 0) (z := .val (.str (kind b))) (varE (i := 0) rfl) rfl rfl) rfl (eq_kind b))
  cases b with
  | true =>
    exact congrArg resOf ((seqR ((ifT t).trans (retE (tupE (aC (f1 (t := .int 1) rfl) (aC (f1 (call2 (D := D) (greatest_ok (D := D) h) (varE (s := s) (i := 1) rfl) (varE (i := 2) rfl))) (rfl : aNil _ = .ok [] _))) (by show (2 : Nat) ≤ 1000; decide))))))
  | false =>
    exact congrArg resOf ((seqE (ifF t)).trans (retE (tupE (aC (f1 (call2 (D := D) (least_ok (D := D) h) (varE (s := s) (i := 1) rfl) (varE (i := 2) rfl))) (aC (f1 (t := .int 60) rfl) (rfl : aNil _ = .ok [] _))) (by show (2 : Nat) ≤ 1000; decide))))
end K67
namespace K67
open PySem PySem.Spec PyProof.Rows L2 Tv
local macro_rules | `(tactic| walk_at "lit") => `(tactic| first
  | with_reducible exact Tv.withD_mk | with_reducible exact Tv.D_mk
  | ((with_reducible apply Tv.putE); (repeat (with_reducible apply Tv.setSE)); with_reducible exact Tv.set0E)
  | ((with_reducible apply Tv.wipeS); repeat' (first | with_reducible exact Tv.set0E | with_reducible apply Tv.setSE | with_reducible apply Tv.wipeEC | with_reducible exact Tv.wipeE0)))
local macro_rules | `(tactic| walk_at "evb") => `(tactic| first
  | with_reducible assumption | exact decide_eq_true (by first | with_reducible assumption | omega) | exact decide_eq_false (by first | with_reducible assumption | omega) | exact Tv.notD (by first | with_reducible assumption | omega) | exact Tv.notD' (by first | with_reducible assumption | omega) | exact Tv.notTe (by with_reducible assumption) | exact Tv.notFe (by with_reducible assumption) | rfl
  | (simp only [decide_eq_true_eq, decide_eq_false_iff_not, T.isNon, Bool.not_true, Bool.not_false, beq_self_eq_true]; first | done | with_reducible assumption | omega))
local macro_rules | `(tactic| walk_at "evop") => `(tactic| first
  | with_reducible assumption | with_reducible exact Tv.cmpI | with_reducible exact Tv.addI | with_reducible exact Tv.subI | with_reducible exact Tv.ixT0 | with_reducible exact Tv.ixT1 | with_reducible exact Tv.ixT2 | with_reducible exact Tv.lenT | with_reducible exact Tv.lenL | with_reducible exact Tv.maxL2 | with_reducible exact Tv.minL2 | with_reducible exact Tv.isF | with_reducible exact Tv.isT
  | ((with_reducible apply Tv.mulI); first | with_reducible assumption | omega; first | with_reducible assumption | omega) | ((with_reducible apply Tv.fdvI); first | with_reducible assumption | omega; first | with_reducible assumption | omega) | ((with_reducible apply Tv.modI); first | with_reducible assumption | omega)
  | ((with_reducible apply Tv.ixL); assumption) | ((with_reducible apply Tv.mAppE); first | with_reducible assumption | omega | (simp only [List.length_map]; omega))
  | rfl)
local macro_rules | `(tactic| walk_at "ev1") => `(tactic| first
  | with_reducible apply Tv.eV | with_reducible apply Tv.eB | with_reducible apply Tv.eCons
  | ((with_reducible apply Tv.eVar); rfl) | ((with_reducible apply Tv.eVarO); rfl)
  | with_reducible apply Tv.eBin | with_reducible apply Tv.eDef | with_reducible apply Tv.eCall
  | with_reducible apply Tv.eSeq | with_reducible apply Tv.seqK_nx
  | with_reducible exact Tv.eNilS | with_reducible exact Tv.eRetN | with_reducible exact Tv.eK | with_reducible exact Tv.eNil | with_reducible exact Tv.tYes | with_reducible exact Tv.eONone
  | with_reducible exact Tv.seqK_rt | with_reducible exact Tv.seqK_bk | with_reducible exact Tv.seqK_ct
  | with_reducible exact Tv.retK_v | with_reducible exact Tv.retK_f | ((with_reducible apply Tv.retK_b); rfl)
  | with_reducible exact Tv.bK_v | with_reducible exact Tv.bK_f | with_reducible exact Tv.bK_b
  | with_reducible exact Tv.vK_v | with_reducible exact Tv.vK_f | ((with_reducible apply Tv.vK_b); rfl; walk_at "lit")
  | with_reducible exact Tv.trV | ((with_reducible apply Tv.trO); rfl) | with_reducible exact Tv.trs0 | with_reducible apply Tv.trsC
  | with_reducible exact Tv.defK_v | with_reducible exact Tv.defK_f | with_reducible exact Tv.gNlE
  | ((with_reducible apply Tv.setK_v); walk_at "lit") | ((with_reducible apply Tv.setK_f); walk_at "lit") | ((with_reducible apply Tv.setK_b); rfl; walk_at "lit"; walk_at "lit")
  | ((with_reducible apply Tv.gNmE); walk_at "lit") | with_reducible apply Tv.gCnE | ((with_reducible apply Tv.gTpE); rfl)
  | with_reducible apply Tv.eIf | with_reducible apply Tv.eVIf | with_reducible apply Tv.eRet | with_reducible apply Tv.eSet | with_reducible apply Tv.eDrop
  | ((with_reducible apply Tv.iteT); walk_at "evb") | ((with_reducible apply Tv.iteF); walk_at "evb")
  | with_reducible exact Tv.eOk
  | with_reducible apply Tv.eTup
  | with_reducible apply Tv.eLst | with_reducible apply Tv.eNeg | with_reducible apply Tv.eOInt | with_reducible apply Tv.eSl
  | with_reducible apply Tv.eAsT | with_reducible apply Tv.eTNot | with_reducible apply Tv.eTAnd | with_reducible apply Tv.eTOr | with_reducible apply Tv.eAnd | with_reducible apply Tv.eOr | with_reducible apply Tv.eNot
  | with_reducible exact Tv.notT | with_reducible exact Tv.notF | with_reducible exact Tv.notS
  | with_reducible apply Tv.eIsi | with_reducible apply Tv.eIsi2 | with_reducible apply Tv.eChain
  | ((with_reducible apply Tv.chT); walk_at "evb") | ((with_reducible apply Tv.chF); walk_at "evb")
  | with_reducible apply Tv.eAsg | with_reducible apply Tv.eFor | with_reducible apply Tv.eItE | with_reducible apply Tv.eItR1 | with_reducible apply Tv.eItZ
  | ((with_reducible apply Tv.eIsOw); rfl) | with_reducible apply Tv.eMut | with_reducible apply Tv.eSetIx | with_reducible apply Tv.eAug
  | with_reducible apply Tv.eProp | with_reducible apply Tv.eMake | with_reducible apply Tv.eFld | with_reducible apply Tv.eSetA | with_reducible apply Tv.eGet
  | with_reducible exact Tv.D_mk | with_reducible exact Tv.withD_mk
  | exact Nat.le_of_ble_eq_true rfl
  | walk_at "evop" | with_reducible apply Tv.andS | with_reducible apply Tv.chS | walk_at "evb" | omega
  )
local macro_rules | `(tactic| walk_at "ev") => `(tactic| repeat' (walk_at "ev1"))
/-! ### marks: the defs of the program -/
open P67 (Tk Bx chg met nar narL ror full emp zmet lmet wid fit inB Sub60 Gs wishM aps fits outc isf)
def tkT (t : Tk) : T := .tup [.tup [.int t.p, .int t.q], .int t.k, .int t.w]
theorem idle_ok {x : Sh} {p q k : Int} {D : Dr} (h : LdOk p q k) : φ_idle [shT x, .tup [.int p, .int q], .int k] D = .ok (prT (P67.idl x p q k)) false D := by
  obtain ⟨b, c⟩ := x
  have e1 := greatest_ok (D := D) h
  have e2 := least_ok (D := D) h
  have e3 := eq_kind b
  show resOf (f_idle ⟨[.sh (.tup [.str (kind b), .int c]), .sh (.tup [.int p, .int q]), .sh (.int k)], D⟩) = _
  unfold f_idle
  cases b with
  | true =>
    apply eRes
    · walk_at "ev"
    · rfl
    · rfl
  | false =>
    apply eRes
    · walk_at "ev"
    · rfl
    · rfl
theorem change_ok {x : Sh} {D : Dr} : φ_change_of [shT x] D = .ok (.int (chg x)) false D := by
  obtain ⟨b, c⟩ := x
  have e3 := eq_kind b
  show resOf (f_change_of ⟨[.sh (.tup [.str (kind b), .int c])], D⟩) = _
  unfold f_change_of
  cases b with
  | true =>
    apply eRes
    · walk_at "ev"
    · rfl
    · rfl
  | false =>
    apply eRes
    · walk_at "ev"
    · rfl
    · rfl
theorem met_ok {x y : Int × Int} {D : Dr} : φ_met [prT x, prT y] D = .ok (prT (met x y)) false D := by
  obtain ⟨a, b⟩ := x
  obtain ⟨c, d⟩ := y
  show resOf (f_met ⟨[.sh (.tup [.int a, .int b]), .sh (.tup [.int c, .int d])], D⟩) = _
  unfold f_met
  apply eRes
  · walk_at "ev"
  · rfl
  · rfl
theorem enumT_map {α : Type} (f : α → T) : ∀ (l : List α) (i : Nat), enumT i (l.map f) = (l.zipIdx i).map fun a => .tup [.int (a.2 : Nat), f a.1]
  | [], i => rfl
  | a :: l, i => by
    rw [List.map_cons, List.zipIdx_cons, List.map_cons, ← enumT_map f l (i + 1)]; rfl
theorem eqv_ints : ∀ l k : List Int, PyData.eqvAll (toDs (l.map T.int)) (toDs (k.map T.int)) = decide (l = k)
  | [], [] => by simp [toDs, PyData.eqvAll]
  | [], b :: k => by simp [toDs, PyData.eqvAll]
  | a :: l, [] => by simp [toDs, PyData.eqvAll]
  | a :: l, b :: k => by
    simp only [List.map_cons, toDs, toD, PyData.eqvAll, PyData.eqv, eqv_ints l k]
    by_cases h : a = b <;> by_cases h2 : l = k <;> simp [h, h2]
theorem eq_ints (l k : List Int) : opEq false (.lst (l.map T.int)) (.lst (k.map T.int)) = some (.val (.bl (decide (l = k)))) := by
  unfold opEq
  rw [if_pos ⟨shp_ints l, shp_ints k⟩]
  simp only [toD, PyData.eqv, eqv_ints, Bool.false_eq_true, if_false]
theorem ne_int (a b : Int) : opEq true (.int a) (.int b) = some (.val (.bl (!decide (a = b)))) := by
  unfold opEq
  rw [if_pos ⟨shp_int a, shp_int b⟩]
  simp only [toD, PyData.eqv, if_true]
  by_cases h : a = b <;> simp [h]
end K67
namespace K67
open PySem PySem.Spec PyProof.Rows L2 Tv
local macro_rules | `(tactic| walk_at "lit") => `(tactic| first
  | with_reducible exact Tv.withD_mk | with_reducible exact Tv.D_mk
  | ((with_reducible apply Tv.putE); (repeat (with_reducible apply Tv.setSE)); with_reducible exact Tv.set0E)
  | ((with_reducible apply Tv.wipeS); repeat' (first | with_reducible exact Tv.set0E | with_reducible apply Tv.setSE | with_reducible apply Tv.wipeEC | with_reducible exact Tv.wipeE0)))
local macro_rules | `(tactic| walk_at "evb") => `(tactic| first
  | with_reducible assumption | exact decide_eq_true (by first | with_reducible assumption | omega) | exact decide_eq_false (by first | with_reducible assumption | omega) | exact Tv.notD (by first | with_reducible assumption | omega) | exact Tv.notD' (by first | with_reducible assumption | omega) | exact Tv.notTe (by with_reducible assumption) | exact Tv.notFe (by with_reducible assumption) | rfl
  | (simp only [decide_eq_true_eq, decide_eq_false_iff_not, T.isNon, Bool.not_true, Bool.not_false, beq_self_eq_true]; first | done | with_reducible assumption | omega))
local macro_rules | `(tactic| walk_at "evop") => `(tactic| first
  | with_reducible assumption | with_reducible exact Tv.cmpI | with_reducible exact Tv.addI | with_reducible exact Tv.subI | with_reducible exact Tv.ixT0 | with_reducible exact Tv.ixT1 | with_reducible exact Tv.ixT2 | with_reducible exact Tv.lenT | with_reducible exact Tv.lenL | with_reducible exact Tv.maxL2 | with_reducible exact Tv.minL2 | with_reducible exact Tv.isF | with_reducible exact Tv.isT
  | ((with_reducible apply Tv.mulI); first | with_reducible assumption | omega; first | with_reducible assumption | omega) | ((with_reducible apply Tv.fdvI); first | with_reducible assumption | omega; first | with_reducible assumption | omega) | ((with_reducible apply Tv.modI); first | with_reducible assumption | omega)
  | ((with_reducible apply Tv.ixL); assumption) | ((with_reducible apply Tv.mAppE); first | with_reducible assumption | omega | (simp only [List.length_map]; omega))
  | rfl)
local macro_rules | `(tactic| walk_at "ev1") => `(tactic| first
  | with_reducible apply Tv.eV | with_reducible apply Tv.eB | with_reducible apply Tv.eCons
  | ((with_reducible apply Tv.eVar); rfl) | ((with_reducible apply Tv.eVarO); rfl)
  | with_reducible apply Tv.eBin | with_reducible apply Tv.eDef | with_reducible apply Tv.eCall
  | with_reducible apply Tv.eSeq | with_reducible apply Tv.seqK_nx
  | with_reducible exact Tv.eNilS | with_reducible exact Tv.eRetN | with_reducible exact Tv.eK | with_reducible exact Tv.eNil | with_reducible exact Tv.tYes | with_reducible exact Tv.eONone
  | with_reducible exact Tv.seqK_rt | with_reducible exact Tv.seqK_bk | with_reducible exact Tv.seqK_ct
  | with_reducible exact Tv.retK_v | with_reducible exact Tv.retK_f | ((with_reducible apply Tv.retK_b); rfl)
  | with_reducible exact Tv.bK_v | with_reducible exact Tv.bK_f | with_reducible exact Tv.bK_b
  | with_reducible exact Tv.vK_v | with_reducible exact Tv.vK_f | ((with_reducible apply Tv.vK_b); rfl; walk_at "lit")
  | with_reducible exact Tv.trV | ((with_reducible apply Tv.trO); rfl) | with_reducible exact Tv.trs0 | with_reducible apply Tv.trsC
  | with_reducible exact Tv.defK_v | with_reducible exact Tv.defK_f | with_reducible exact Tv.gNlE
  | ((with_reducible apply Tv.setK_v); walk_at "lit") | ((with_reducible apply Tv.setK_f); walk_at "lit") | ((with_reducible apply Tv.setK_b); rfl; walk_at "lit"; walk_at "lit")
  | ((with_reducible apply Tv.gNmE); walk_at "lit") | with_reducible apply Tv.gCnE | ((with_reducible apply Tv.gTpE); rfl)
  | with_reducible apply Tv.eIf | with_reducible apply Tv.eVIf | with_reducible apply Tv.eRet | with_reducible apply Tv.eSet | with_reducible apply Tv.eDrop
  | ((with_reducible apply Tv.iteT); walk_at "evb") | ((with_reducible apply Tv.iteF); walk_at "evb")
  | with_reducible exact Tv.eOk
  | with_reducible apply Tv.eTup
  | with_reducible apply Tv.eLst | with_reducible apply Tv.eNeg | with_reducible apply Tv.eOInt | with_reducible apply Tv.eSl
  | with_reducible apply Tv.eAsT | with_reducible apply Tv.eTNot | with_reducible apply Tv.eTAnd | with_reducible apply Tv.eTOr | with_reducible apply Tv.eAnd | with_reducible apply Tv.eOr | with_reducible apply Tv.eNot
  | with_reducible exact Tv.notT | with_reducible exact Tv.notF | with_reducible exact Tv.notS
  | with_reducible apply Tv.eIsi | with_reducible apply Tv.eIsi2 | with_reducible apply Tv.eChain
  | ((with_reducible apply Tv.chT); walk_at "evb") | ((with_reducible apply Tv.chF); walk_at "evb")
  | with_reducible apply Tv.eAsg | with_reducible apply Tv.eFor | with_reducible apply Tv.eItE | with_reducible apply Tv.eItR1 | with_reducible apply Tv.eItZ
  | ((with_reducible apply Tv.eIsOw); rfl) | with_reducible apply Tv.eMut | with_reducible apply Tv.eSetIx | with_reducible apply Tv.eAug
  | with_reducible apply Tv.eProp | with_reducible apply Tv.eMake | with_reducible apply Tv.eFld | with_reducible apply Tv.eSetA | with_reducible apply Tv.eGet
  | with_reducible exact Tv.D_mk | with_reducible exact Tv.withD_mk
  | exact Nat.le_of_ble_eq_true rfl
  | walk_at "evop" | with_reducible apply Tv.andS | with_reducible apply Tv.chS | walk_at "evb" | omega
  )
local macro_rules | `(tactic| walk_at "ev") => `(tactic| repeat' (walk_at "ev1"))
open P67 (Tk Bx chg met nar narL ror full emp zmet lmet wid fit inB Sub60 Gs wishM aps fits outc isf)
/-- the places of the shapes that decide -/
def dec (d : Int) : List Sh → Nat → List Int
  | [], _ => []
  | s :: ss, i => if chg s = d then (i : Int) :: dec d ss (i + 1) else dec d ss (i + 1)
theorem dec_c {d : Int} {s : Sh} {ss : List Sh} {i : Nat} : dec d (s :: ss) i = if chg s = d then (i : Int) :: dec d ss (i + 1) else dec d ss (i + 1) := rfl
theorem dec_eq {d : Int} : ∀ (ss : List Sh) (i : Nat), ((ss.zipIdx i).filter fun a => decide (chg a.1 = d)).map (fun a => T.int (a.2 : Nat)) = (dec d ss i).map T.int
  | [], i => rfl
  | s :: ss, i => by
    rw [List.zipIdx_cons]
    rw [dec_c]
    by_cases h : chg s = d
    · rw [List.filter_cons_of_pos (by simpa using h), if_pos h, List.map_cons, List.map_cons, dec_eq ss (i + 1)]
    · rw [List.filter_cons_of_neg (by simpa using h), if_neg h, dec_eq ss (i + 1)]
theorem dec_nil {d : Int} : ∀ {ss : List Sh} {i : Nat}, dec d ss i = [] ↔ ∀ s ∈ ss, chg s ≠ d
  | [], i => by simp [dec]
  | s :: ss, i => by
    rw [dec_c]
    by_cases h : chg s = d
    · rw [if_pos h]
      exact Iff.intro (fun z => by cases z) (fun z => absurd h (z s (by simp)))
    · rw [if_neg h, dec_nil (i := i + 1)]
      simp [h]
theorem dec_app {d : Int} : ∀ (a b : List Sh) (i : Nat), dec d (a ++ b) i = dec d a i ++ dec d b (i + a.length)
  | [], b, i => by simp [dec]
  | s :: a, b, i => by
    rw [List.cons_append, dec_c, dec_c]
    have e : i + (s :: a).length = (i + 1) + a.length := by simp only [List.length_cons]; omega
    by_cases h : chg s = d
    · rw [if_pos h, if_pos h, dec_app a b (i + 1), e]; rfl
    · rw [if_neg h, if_neg h, dec_app a b (i + 1), e]
theorem dec_bd {d : Int} : ∀ {ss : List Sh} {i : Nat} {x : Int}, x ∈ dec d ss i → (i : Int) ≤ x ∧ x < i + ss.length
  | [], i, x, h => by cases h
  | s :: ss, i, x, h => by
    rw [dec_c] at h
    simp only [List.length_cons]
    split at h
    · rcases List.mem_cons.mp h with rfl | z
      · omega
      · have := dec_bd z; omega
    · have := dec_bd h; omega
theorem dec_one {d : Int} {pre suf : List Sh} {s : Sh} (g : Gs (pre ++ s :: suf)) : ([(pre.length : Int)] = dec d (pre ++ s :: suf) 0) ↔ chg s = d := by
  have nd := g.nd
  rw [List.map_append, List.map_cons, List.nodup_append] at nd
  obtain ⟨n1, n2, n3⟩ := nd
  have n4 := (List.nodup_cons.mp n2).1
  rw [dec_app, Nat.zero_add]
  constructor
  · intro h
    by_cases e : chg s = d
    · exact e
    · exfalso
      rw [dec_c] at h
      rw [if_neg e] at h
      have hm : (pre.length : Int) ∈ dec d pre 0 ++ dec d suf (pre.length + 1) := by rw [← h]; simp
      rcases List.mem_append.mp hm with z | z
      · have := dec_bd z; omega
      · have := dec_bd z; omega
  · intro e
    have h1 : dec d pre 0 = [] := dec_nil.mpr fun u hu e2 => n3 _ (List.mem_map_of_mem hu) (chg s) (by simp) (e2.trans e.symm)
    have h2 : dec d suf (pre.length + 1) = [] := dec_nil.mpr fun u hu e2 => n4 (by rw [e, ← e2]; exact List.mem_map_of_mem hu)
    rw [dec_c]
    rw [h1, if_pos e, h2]; rfl
theorem set_mid {α : Type} {f : α → T} {done rest : List α} {x y : α} {n : Nat} (h : done.length = n) : ((done ++ x :: rest).map f).set n (f y) = ((done ++ [y]) ++ rest).map f := by
  subst h
  rw [List.map_append, List.map_append, List.map_append, List.set_append_right _ _ (by rw [List.length_map]; exact Nat.le_refl _), List.length_map, Nat.sub_self]
  simp
theorem get_mid {α : Type} {f : α → T} {done rest : List α} {x : α} {n : Nat} (h : done.length = n) : ((done ++ x :: rest).map f)[n]? = some (f x) := by
  subst h
  rw [List.map_append, List.getElem?_append_right (by rw [List.length_map]; exact Nat.le_refl _), List.length_map, Nat.sub_self]; rfl
theorem ixN_mid {α : Type} {f : α → T} {done rest : List α} {x : α} {n : Nat} (h : done.length = n) : ixN ((done ++ x :: rest).map f).length (n : Int) = some n := by
  unfold ixN
  rw [if_pos (by omega), if_pos (by simp only [List.length_map, List.length_append, List.length_cons]; omega)]; rfl
noncomputable abbrev nGf : T → S → Option S := gTp 2 (gCn (gNm 6) (gCn (gNm 7) (gNl)))
noncomputable abbrev nBody : S → Out Fl := (fSeq (fIf (asT (fBin (opEq false) (fB (fLst (aCons (fV (fVar 6)) (aNil)))) (fB (fVar 8)))) (fSeq (fSetIx 9 (fV (fDef 2 φ_met (aCons (fV (fBin opIx (fB (fVar 9)) (fB (fVar 6)))) (aCons (fV (fDef 3 φ_applying (aCons (fV (fVar 7)) (aCons (fV (fVar 3)) (aCons (fV (fVar 4)) (aNil)))))) (aNil))))) (fVar 6)) (fRet (fVar 9))) (fNil)) (fSetIx 9 (fV (fDef 2 φ_met (aCons (fV (fBin opIx (fB (fVar 9)) (fB (fVar 6)))) (aCons (fV (fDef 3 φ_idle (aCons (fV (fVar 7)) (aCons (fV (fVar 3)) (aCons (fV (fVar 4)) (aNil)))))) (aNil))))) (fVar 6)))
theorem narLoop {d p q k : Int} {c0 c1 c2 c5 : Sl} {D : Dr} (h : LdOk p q k) {dl : List Int} : ∀ (suf pre : List Sh) (done rest : Bx) (b6 b7 : Sl), done.length = pre.length → rest.length = suf.length → Gs (pre ++ suf) → dl = dec d (pre ++ suf) 0 →
    resOf (fSeq (forL nGf nBody (enumT pre.length (suf.map shT))) (fRet (fVar 9)) ⟨[c0, c1, c2, .sh (.tup [.int p, .int q]), .sh (.int k), c5, b6, b7, .ow (.lst (dl.map T.int)), .ow (.lst ((done ++ rest).map prT))], D⟩)
      = .ok (.lst ((done ++ narL d p q k suf rest).map prT)) true D
  | [], pre, done, rest, b6, b7, h1, h2, g, hd => by
    have : narL d p q k [] rest = rest := by simp [narL]
    rw [this]
    rfl
  | s :: suf, pre, done, [], b6, b7, h1, h2, g, hd => by simp at h2
  | s :: suf, pre, done, x :: rest, b6, b7, h1, h2, g, hd => by
    have e1 := eq_ints [(pre.length : Int)] dl
    rw [List.map_cons, List.map_nil] at e1
    have e2 := applying_ok (x := s) (D := D) h
    have e3 := idle_ok (x := s) (D := D) h
    have e4 := met_ok (x := x) (y := app s p q k) (D := D)
    have e5 := met_ok (x := x) (y := P67.idl s p q k) (D := D)
    have e6 := get_mid (f := prT) (rest := rest) (x := x) h1
    have e7 := ixN_mid (f := prT) (rest := rest) (x := x) h1
    have hg := dec_one (d := d) g
    rw [← hd] at hg
    show resOf (fSeq (forL nGf nBody (.tup [.int (pre.length : Nat), shT s] :: enumT (pre.length + 1) (suf.map shT))) _ _) = _
    by_cases hc : chg s = d
    · have hh := hg.mpr hc
      have e8 := set_mid (f := prT) (rest := rest) (x := x) (y := met x (app s p q k)) h1
      have e9 : (done ++ narL d p q k (s :: suf) (x :: rest)) = (done ++ [met x (app s p q k)]) ++ rest := by
        simp only [narL]; rw [if_pos hc]; simp; rfl
      rw [e9, ← e8]
      apply Tv.rForR
      · walk_at "ev"
      · walk_at "ev"
      · rfl
    · have hh : ¬ [(pre.length : Int)] = dl := fun z => hc (hg.mp z)
      have e8 := set_mid (f := prT) (rest := rest) (x := x) (y := met x (P67.idl s p q k)) h1
      have e9 : (done ++ narL d p q k (s :: suf) (x :: rest)) = (done ++ [met x (P67.idl s p q k)]) ++ narL d p q k suf rest := by
        simp only [narL]; rw [if_neg hc]; simp
      have ih := narLoop (c0 := c0) (c1 := c1) (c2 := c2) (c5 := c5) (D := D) h suf (pre ++ [s]) (done ++ [met x (P67.idl s p q k)]) rest (.sh (.int (pre.length : Nat))) (.sh (shT s)) (by simp [h1]) (by simpa using h2) (by simpa using g) (by simpa using hd)
      rw [e9, ← ih]
      rw [← e8, List.length_append]
      apply Tv.rForN
      · walk_at "ev"
      · walk_at "ev"
      · rfl
end K67
namespace K67
open PySem PySem.Spec PyProof.Rows L2 Tv
local macro_rules | `(tactic| walk_at "lit") => `(tactic| first
  | with_reducible exact Tv.withD_mk | with_reducible exact Tv.D_mk
  | ((with_reducible apply Tv.putE); (repeat (with_reducible apply Tv.setSE)); with_reducible exact Tv.set0E)
  | ((with_reducible apply Tv.wipeS); repeat' (first | with_reducible exact Tv.set0E | with_reducible apply Tv.setSE | with_reducible apply Tv.wipeEC | with_reducible exact Tv.wipeE0)))
local macro_rules | `(tactic| walk_at "evb") => `(tactic| first
  | with_reducible assumption | exact decide_eq_true (by first | with_reducible assumption | omega) | exact decide_eq_false (by first | with_reducible assumption | omega) | exact Tv.notD (by first | with_reducible assumption | omega) | exact Tv.notD' (by first | with_reducible assumption | omega) | exact Tv.notTe (by with_reducible assumption) | exact Tv.notFe (by with_reducible assumption) | rfl
  | (simp only [decide_eq_true_eq, decide_eq_false_iff_not, T.isNon, Bool.not_true, Bool.not_false, beq_self_eq_true]; first | done | with_reducible assumption | omega))
local macro_rules | `(tactic| walk_at "evop") => `(tactic| first
  | with_reducible assumption | with_reducible exact Tv.cmpI | with_reducible exact Tv.addI | with_reducible exact Tv.subI | with_reducible exact Tv.ixT0 | with_reducible exact Tv.ixT1 | with_reducible exact Tv.ixT2 | with_reducible exact Tv.lenT | with_reducible exact Tv.lenL | with_reducible exact Tv.maxL2 | with_reducible exact Tv.minL2 | with_reducible exact Tv.isF | with_reducible exact Tv.isT
  | ((with_reducible apply Tv.mulI); first | with_reducible assumption | omega; first | with_reducible assumption | omega) | ((with_reducible apply Tv.fdvI); first | with_reducible assumption | omega; first | with_reducible assumption | omega) | ((with_reducible apply Tv.modI); first | with_reducible assumption | omega)
  | ((with_reducible apply Tv.ixL); assumption) | ((with_reducible apply Tv.mAppE); first | with_reducible assumption | omega | (simp only [List.length_map]; omega))
  | rfl)
local macro_rules | `(tactic| walk_at "ev1") => `(tactic| first
  | with_reducible apply Tv.eV | with_reducible apply Tv.eB | with_reducible apply Tv.eCons
  | ((with_reducible apply Tv.eVar); rfl) | ((with_reducible apply Tv.eVarO); rfl)
  | with_reducible apply Tv.eBin | with_reducible apply Tv.eDef | with_reducible apply Tv.eCall
  | with_reducible apply Tv.eSeq | with_reducible apply Tv.seqK_nx
  | with_reducible exact Tv.eNilS | with_reducible exact Tv.eRetN | with_reducible exact Tv.eK | with_reducible exact Tv.eNil | with_reducible exact Tv.tYes | with_reducible exact Tv.eONone
  | with_reducible exact Tv.seqK_rt | with_reducible exact Tv.seqK_bk | with_reducible exact Tv.seqK_ct
  | with_reducible exact Tv.retK_v | with_reducible exact Tv.retK_f | ((with_reducible apply Tv.retK_b); rfl)
  | with_reducible exact Tv.bK_v | with_reducible exact Tv.bK_f | with_reducible exact Tv.bK_b
  | with_reducible exact Tv.vK_v | with_reducible exact Tv.vK_f | ((with_reducible apply Tv.vK_b); rfl; walk_at "lit")
  | with_reducible exact Tv.trV | ((with_reducible apply Tv.trO); rfl) | with_reducible exact Tv.trs0 | with_reducible apply Tv.trsC
  | with_reducible exact Tv.defK_v | with_reducible exact Tv.defK_f | with_reducible exact Tv.gNlE
  | ((with_reducible apply Tv.setK_v); walk_at "lit") | ((with_reducible apply Tv.setK_f); walk_at "lit") | ((with_reducible apply Tv.setK_b); rfl; walk_at "lit"; walk_at "lit")
  | ((with_reducible apply Tv.gNmE); walk_at "lit") | with_reducible apply Tv.gCnE | ((with_reducible apply Tv.gTpE); rfl)
  | with_reducible apply Tv.eIf | with_reducible apply Tv.eVIf | with_reducible apply Tv.eRet | with_reducible apply Tv.eSet | with_reducible apply Tv.eDrop
  | ((with_reducible apply Tv.iteT); walk_at "evb") | ((with_reducible apply Tv.iteF); walk_at "evb")
  | with_reducible exact Tv.eOk
  | with_reducible apply Tv.eTup
  | with_reducible apply Tv.eLst | with_reducible apply Tv.eNeg | with_reducible apply Tv.eOInt | with_reducible apply Tv.eSl
  | with_reducible apply Tv.eAsT | with_reducible apply Tv.eTNot | with_reducible apply Tv.eTAnd | with_reducible apply Tv.eTOr | with_reducible apply Tv.eAnd | with_reducible apply Tv.eOr | with_reducible apply Tv.eNot
  | with_reducible exact Tv.notT | with_reducible exact Tv.notF | with_reducible exact Tv.notS
  | with_reducible apply Tv.eIsi | with_reducible apply Tv.eIsi2 | with_reducible apply Tv.eChain
  | ((with_reducible apply Tv.chT); walk_at "evb") | ((with_reducible apply Tv.chF); walk_at "evb")
  | with_reducible apply Tv.eAsg | with_reducible apply Tv.eFor | with_reducible apply Tv.eItE | with_reducible apply Tv.eItR1 | with_reducible apply Tv.eItZ
  | ((with_reducible apply Tv.eIsOw); rfl) | with_reducible apply Tv.eMut | with_reducible apply Tv.eSetIx | with_reducible apply Tv.eAug
  | with_reducible apply Tv.eProp | with_reducible apply Tv.eMake | with_reducible apply Tv.eFld | with_reducible apply Tv.eSetA | with_reducible apply Tv.eGet
  | with_reducible exact Tv.D_mk | with_reducible exact Tv.withD_mk
  | exact Nat.le_of_ble_eq_true rfl
  | walk_at "evop" | with_reducible apply Tv.andS | with_reducible apply Tv.chS | walk_at "evb" | omega
  )
local macro_rules | `(tactic| walk_at "ev") => `(tactic| repeat' (walk_at "ev1"))
open P67 (Tk Bx chg met nar narL ror full emp zmet lmet wid fit inB Sub60 Gs wishM aps fits outc isf)
theorem narrowed_ok {ss : List Sh} {b : Bx} {t : Tk} {D : Dr} (g : Gs ss) (hl : b.length = ss.length) (h : LdOk t.p t.q t.k) (hs : ss.length ≤ 1000) :
    φ_narrowed [.lst (ss.map shT), .lst (b.map prT), tkT t] D = match nar ss b t with
      | none => .ok .non false D
      | some b' => .ok (.lst (b'.map prT)) true D := by
  obtain ⟨p, q, k, w⟩ := t
  have e0 := ne_int w k
  have e1 := eq_ints (dec (w - k) ss 0) []
  rw [List.map_nil] at e1
  show resOf (f_narrowed ⟨[.sh (.lst (ss.map shT)), .sh (.lst (b.map prT)), .sh (.tup [.tup [.int p, .int q], .int k, .int w]), .no, .no, .no, .no, .no, .no, .no], D⟩) = _
  unfold f_narrowed
  apply Tv.rSeq
  · walk_at "ev"
  apply Tv.rSeq
  · apply Tv.eSet
    · apply Tv.eLc (l := ss.zipIdx 0) (fun a => .tup [.int (a.2 : Nat), shT a.1]) (fun a => decide (chg a.1 = w - k)) (fun a => .int (a.2 : Nat))
      · walk_at "ev"
      · exact enumT_map shT ss 0
      · rfl
      · walk_at "lit"
      · simpa using by omega
      · intro a ha
        have e2 := change_ok (x := a.1) (D := D)
        have e3 := eq_int (chg a.1) (w - k)
        apply Tv.lcTn
        · walk_at "ev"
        · walk_at "ev"
        · walk_at "ev"
        · rfl
        · rfl
      · rfl
    · walk_at "ev"
  rw [dec_eq]
  by_cases hd : dec (w - k) ss 0 = []
  · by_cases hw : w = k
    · have hn : nar ss b ⟨p, q, k, w⟩ = some (narL (w - k) p q k ss b) := if_neg (fun z => z.2 hw)
      rw [hn]
      apply Tv.rSeq
      · walk_at "ev"
      apply Tv.rSeq
      · walk_at "ev"
      apply Tv.rFor
      · walk_at "ev"
      exact narLoop (c0 := _) (c1 := _) (c2 := _) (c5 := _) (D := D) h (dl := dec (w - k) ss 0) ss [] [] b _ _ rfl hl g rfl
    · have hn : nar ss b ⟨p, q, k, w⟩ = none := if_pos ⟨dec_nil.mp hd, hw⟩
      rw [hn]
      apply Tv.rSeqR
      · walk_at "ev"
      · rfl
  · have hn : nar ss b ⟨p, q, k, w⟩ = some (narL (w - k) p q k ss b) := if_neg (fun z => hd (dec_nil.mpr z.1))
    rw [hn]
    apply Tv.rSeq
    · walk_at "ev"
    apply Tv.rSeq
    · walk_at "ev"
    apply Tv.rFor
    · walk_at "ev"
    exact narLoop (c0 := _) (c1 := _) (c2 := _) (c5 := _) (D := D) h (dl := dec (w - k) ss 0) ss [] [] b _ _ rfl hl g rfl
end K67
namespace K67
open PySem PySem.Spec PyProof.Rows L2 Tv
local macro_rules | `(tactic| walk_at "lit") => `(tactic| first
  | with_reducible exact Tv.withD_mk | with_reducible exact Tv.D_mk
  | ((with_reducible apply Tv.putE); (repeat (with_reducible apply Tv.setSE)); with_reducible exact Tv.set0E)
  | ((with_reducible apply Tv.wipeS); repeat' (first | with_reducible exact Tv.set0E | with_reducible apply Tv.setSE | with_reducible apply Tv.wipeEC | with_reducible exact Tv.wipeE0)))
local macro_rules | `(tactic| walk_at "evb") => `(tactic| first
  | with_reducible assumption | exact decide_eq_true (by first | with_reducible assumption | omega) | exact decide_eq_false (by first | with_reducible assumption | omega) | exact Tv.notD (by first | with_reducible assumption | omega) | exact Tv.notD' (by first | with_reducible assumption | omega) | exact Tv.notTe (by with_reducible assumption) | exact Tv.notFe (by with_reducible assumption) | rfl
  | (simp only [decide_eq_true_eq, decide_eq_false_iff_not, T.isNon, Bool.not_true, Bool.not_false, beq_self_eq_true]; first | done | with_reducible assumption | omega))
local macro_rules | `(tactic| walk_at "evop") => `(tactic| first
  | with_reducible assumption | with_reducible exact Tv.cmpI | with_reducible exact Tv.addI | with_reducible exact Tv.subI | with_reducible exact Tv.ixT0 | with_reducible exact Tv.ixT1 | with_reducible exact Tv.ixT2 | with_reducible exact Tv.lenT | with_reducible exact Tv.lenL | with_reducible exact Tv.maxL2 | with_reducible exact Tv.minL2 | with_reducible exact Tv.isF | with_reducible exact Tv.isT
  | ((with_reducible apply Tv.mulI); first | with_reducible assumption | omega; first | with_reducible assumption | omega) | ((with_reducible apply Tv.fdvI); first | with_reducible assumption | omega; first | with_reducible assumption | omega) | ((with_reducible apply Tv.modI); first | with_reducible assumption | omega)
  | ((with_reducible apply Tv.ixL); assumption) | ((with_reducible apply Tv.mAppE); first | with_reducible assumption | omega | (simp only [List.length_map]; omega))
  | rfl)
local macro_rules | `(tactic| walk_at "ev1") => `(tactic| first
  | with_reducible apply Tv.eV | with_reducible apply Tv.eB | with_reducible apply Tv.eCons
  | ((with_reducible apply Tv.eVar); rfl) | ((with_reducible apply Tv.eVarO); rfl)
  | with_reducible apply Tv.eBin | with_reducible apply Tv.eDef | with_reducible apply Tv.eCall
  | with_reducible apply Tv.eSeq | with_reducible apply Tv.seqK_nx
  | with_reducible exact Tv.eNilS | with_reducible exact Tv.eRetN | with_reducible exact Tv.eK | with_reducible exact Tv.eNil | with_reducible exact Tv.tYes | with_reducible exact Tv.eONone
  | with_reducible exact Tv.seqK_rt | with_reducible exact Tv.seqK_bk | with_reducible exact Tv.seqK_ct
  | with_reducible exact Tv.retK_v | with_reducible exact Tv.retK_f | ((with_reducible apply Tv.retK_b); rfl)
  | with_reducible exact Tv.bK_v | with_reducible exact Tv.bK_f | with_reducible exact Tv.bK_b
  | with_reducible exact Tv.vK_v | with_reducible exact Tv.vK_f | ((with_reducible apply Tv.vK_b); rfl; walk_at "lit")
  | with_reducible exact Tv.trV | ((with_reducible apply Tv.trO); rfl) | with_reducible exact Tv.trs0 | with_reducible apply Tv.trsC
  | with_reducible exact Tv.defK_v | with_reducible exact Tv.defK_f | with_reducible exact Tv.gNlE
  | ((with_reducible apply Tv.setK_v); walk_at "lit") | ((with_reducible apply Tv.setK_f); walk_at "lit") | ((with_reducible apply Tv.setK_b); rfl; walk_at "lit"; walk_at "lit")
  | ((with_reducible apply Tv.gNmE); walk_at "lit") | with_reducible apply Tv.gCnE | ((with_reducible apply Tv.gTpE); rfl)
  | with_reducible apply Tv.eIf | with_reducible apply Tv.eVIf | with_reducible apply Tv.eRet | with_reducible apply Tv.eSet | with_reducible apply Tv.eDrop
  | ((with_reducible apply Tv.iteT); walk_at "evb") | ((with_reducible apply Tv.iteF); walk_at "evb")
  | with_reducible exact Tv.eOk
  | with_reducible apply Tv.eTup
  | with_reducible apply Tv.eLst | with_reducible apply Tv.eNeg | with_reducible apply Tv.eOInt | with_reducible apply Tv.eSl
  | with_reducible apply Tv.eAsT | with_reducible apply Tv.eTNot | with_reducible apply Tv.eTAnd | with_reducible apply Tv.eTOr | with_reducible apply Tv.eAnd | with_reducible apply Tv.eOr | with_reducible apply Tv.eNot
  | with_reducible exact Tv.notT | with_reducible exact Tv.notF | with_reducible exact Tv.notS
  | with_reducible apply Tv.eIsi | with_reducible apply Tv.eIsi2 | with_reducible apply Tv.eChain
  | ((with_reducible apply Tv.chT); walk_at "evb") | ((with_reducible apply Tv.chF); walk_at "evb")
  | with_reducible apply Tv.eAsg | with_reducible apply Tv.eFor | with_reducible apply Tv.eItE | with_reducible apply Tv.eItR1 | with_reducible apply Tv.eItZ
  | ((with_reducible apply Tv.eIsOw); rfl) | with_reducible apply Tv.eMut | with_reducible apply Tv.eSetIx | with_reducible apply Tv.eAug
  | with_reducible apply Tv.eProp | with_reducible apply Tv.eMake | with_reducible apply Tv.eFld | with_reducible apply Tv.eSetA | with_reducible apply Tv.eGet
  | with_reducible exact Tv.D_mk | with_reducible exact Tv.withD_mk
  | exact Nat.le_of_ble_eq_true rfl
  | walk_at "evop" | with_reducible apply Tv.andS | with_reducible apply Tv.chS | walk_at "evb" | omega
  )
local macro_rules | `(tactic| walk_at "ev") => `(tactic| repeat' (walk_at "ev1"))
open P67 (Tk Bx chg met nar narL ror full emp zmet lmet wid fit inB Sub60 Gs wishM aps fits outc isf)
theorem mulRep {a : T} {n : Nat} (h : n ≤ 1000) : opMul (.lst [a]) (.int (n : Nat)) = some (.frs (.lst (List.replicate n a))) := by
  have h' : -(2 ^ 63) ≤ (n : Int) ∧ (n : Int) < 2 ^ 63 ∧ ([a] : List T).length * (n : Int).toNat ≤ 16777216 := ⟨by omega, by omega, by simp; omega⟩
  unfold opMul
  dsimp only
  rw [if_pos h', Int.toNat_natCast]
  congr 3
  clear h h'
  induction n with
  | zero => rfl
  | succ n ih => rw [List.replicate_succ, List.replicate_succ, List.flatten_cons, ih]; rfl
theorem bls_map {α : Type} (p : α → Bool) : ∀ l : List α, bls (l.map fun x => T.bl (p x)) = some (l.map p)
  | [] => rfl
  | a :: l => by
    rw [List.map_cons]
    show (bls (l.map fun x => T.bl (p x))).map (p a :: ·) = _
    rw [bls_map p l]; rfl
theorem anyE {α : Type} (p : α → Bool) (l : List α) : opAny [.lst (l.map fun x => T.bl (p x))] = some (.val (.bl (l.any p))) := by
  show (bls (l.map fun x => T.bl (p x))).map _ = _
  rw [bls_map]
  simp [List.any_map]
theorem allE {α : Type} (p : α → Bool) (l : List α) : opAll [.lst (l.map fun x => T.bl (p x))] = some (.val (.bl (l.all p))) := by
  show (bls (l.map fun x => T.bl (p x))).map _ = _
  rw [bls_map]
  simp [List.all_map]
def rorR (D : Dr) (z : Bx ⊕ Nat) : Res := match z with
  | .inl b => .ok (.tup [.lst (b.map prT), .non]) false D
  | .inr i => .ok (.tup [.non, .int (i : Nat)]) false D
noncomputable abbrev rGf : T → S → Option S := gTp 2 (gCn (gNm 3) (gCn (gNm 4) (gNl)))
noncomputable abbrev rBody : S → Out Fl := (fSeq (fSet 2 (fDef 3 φ_narrowed (aCons (fV (fVar 0)) (aCons (fV (fVar 2)) (aCons (fV (fVar 4)) (aNil)))))) (fIf (tOrF (asT (fBin (opIs false) (fB (fVar 2)) (fB (fK .non)))) (asT (fCall opAny (aCons (fB (fLc (itS (fV (fVar 2))) [5, 6] (gTp 2 (gCn (gNm 5) (gCn (gNm 6) (gNl)))) (tYesF) (fV (fBin opGt (fB (fVar 5)) (fB (fVar 6)))))) (aNil))))) (fRet (fTup (aCons (fV (fK .non)) (aCons (fV (fVar 3)) (aNil))))) (fNil)))
theorem rorLoop {ss : List Sh} {c1 : Sl} {D : Dr} (g : Gs ss) (hs : ss.length ≤ 1000) : ∀ (ts : List Tk) (i : Nat) (b : Bx) (b2 b3 b4 : Sl), b.length = ss.length → (∀ t ∈ ts, LdOk t.p t.q t.k) → (b2 = .ow (.lst (b.map prT)) ∨ b2 = .sh (.lst (b.map prT))) →
    resOf (fSeq (forL rGf rBody (enumT i (ts.map tkT))) (fRet (fTup (aCons (fV (fVar 2)) (aCons (fV (fK .non)) (aNil))))) ⟨[.sh (.lst (ss.map shT)), c1, b2, b3, b4, .no, .no], D⟩) = rorR D (ror ss ts b i)
  | [], i, b, b2, b3, b4, hl, ht, hb => by
    apply Tv.rFor0
    rcases hb with rfl | rfl
    · apply Tv.eRes
      · walk_at "ev"
      · rfl
      · rfl
    · apply Tv.eRes
      · walk_at "ev"
      · rfl
      · rfl
  | t :: ts, i, b, b2, b3, b4, hl, ht, hb => by
    have e0 := narrowed_ok (b := b) (D := D) g hl (ht t (by simp)) hs
    show resOf (fSeq (forL rGf rBody (.tup [.int (i : Nat), tkT t] :: enumT (i + 1) (ts.map tkT))) _ _) = rorR D (match nar ss b t with
      | none => .inr i
      | some b' => if emp b' = true then .inr i else ror ss ts b' (i + 1))
    cases hn : nar ss b t with
    | none =>
      rw [hn] at e0
      dsimp only at e0 ⊢
      apply Tv.rForR
      · walk_at "ev"
      · rcases hb with rfl | rfl
        · walk_at "ev"
        · walk_at "ev"
      · rfl
    | some b' =>
      rw [hn] at e0
      have hl' : b'.length = ss.length := by
        unfold nar at hn
        split at hn
        · cases hn
        · cases hn; rw [P67.narL_len]; exact hl
      dsimp only at e0 ⊢
      have e1 := anyE (fun x : Int × Int => decide (x.1 > x.2)) b'
      have step : ∀ b2, (b2 = Sl.ow (.lst (b.map prT)) ∨ b2 = .sh (.lst (b.map prT))) → rBody ⟨[.sh (.lst (ss.map shT)), c1, b2, .sh (.int (i : Nat)), .sh (tkT t), .no, .no], D⟩ = iteK (emp b') (fRet (fTup (aCons (fV (fK .non)) (aCons (fV (fVar 3)) (aNil))))) fNil ⟨[.sh (.lst (ss.map shT)), c1, .sh (.lst (b'.map prT)), .sh (.int (i : Nat)), .sh (tkT t), .no, .no], D⟩ := by
        have cmp : fLc (itS (fV (fVar 2))) [5, 6] (gTp 2 (gCn (gNm 5) (gCn (gNm 6) (gNl)))) (tYesF) (fV (fBin opGt (fB (fVar 5)) (fB (fVar 6)))) ⟨[.sh (.lst (ss.map shT)), c1, .ow (.lst (b'.map prT)), .sh (.int (i : Nat)), .sh (tkT t), .no, .no], D⟩ = .ok (.frs (.lst (b'.map fun x => T.bl (decide (x.1 > x.2))))) ⟨[.sh (.lst (ss.map shT)), c1, .sh (.lst (b'.map prT)), .sh (.int (i : Nat)), .sh (tkT t), .no, .no], D⟩ := by
          apply Tv.eLcA (l := b') prT (fun x => T.bl (decide (x.1 > x.2)))
          · apply Tv.eItS
            walk_at "ev"
          · rfl
          · rfl
          · walk_at "lit"
          · omega
          · intro a ha
            apply Tv.lcTnA
            · walk_at "ev"
            · walk_at "ev"
            · rfl
          · rfl
        rintro b2 (rfl | rfl)
        · apply Tv.eSeq
          · walk_at "ev"
          · walk_at "ev"
        · apply Tv.eSeq
          · walk_at "ev"
          · walk_at "ev"
      cases he : emp b' with
      | true =>
        rw [if_pos rfl]
        apply Tv.rForR
        · walk_at "ev"
        · rw [step b2 hb, he]
          walk_at "ev"
        · rfl
      | false =>
        rw [if_neg Bool.false_ne_true, ← rorLoop (c1 := c1) (D := D) g hs ts (i + 1) b' _ (.sh (.int (i : Nat))) (.sh (tkT t)) hl' (fun u hu => ht u (by simp [hu])) (.inr rfl)]
        apply Tv.rForN
        · walk_at "ev"
        · rw [step b2 hb, he]
          walk_at "ev"
        · rfl
theorem ror_ok {ss : List Sh} {ts : List Tk} {D : Dr} (g : Gs ss) (hs : ss.length ≤ 1000) (ht : ∀ t ∈ ts, LdOk t.p t.q t.k) : φ_ranges_or_tick [.lst (ss.map shT), .lst (ts.map tkT)] D = rorR D (ror ss ts (full ss) 0) := by
  have e0 := mulRep (a := .tup [.int 1, .int 60]) hs
  have e1 : (full ss).map prT = List.replicate ss.length (.tup [.int 1, .int 60]) := by unfold full; rw [List.map_replicate]; rfl
  have e2 : opLen [.lst (ss.map shT)] = some (.val (.int (ss.length : Nat))) := by rw [lenL, List.length_map]
  show resOf (f_ranges_or_tick ⟨[.sh (.lst (ss.map shT)), .sh (.lst (ts.map tkT)), .no, .no, .no, .no, .no], D⟩) = _
  unfold f_ranges_or_tick
  apply Tv.rSeq
  · walk_at "ev"
  apply Tv.rFor
  · walk_at "ev"
  rw [← e1]
  exact rorLoop g hs ts 0 (full ss) _ _ _ (P67.full_len ss) ht (.inl rfl)
end K67
namespace K67
open PySem PySem.Spec PyProof.Rows L2 Tv
local macro_rules | `(tactic| walk_at "lit") => `(tactic| first
  | with_reducible exact Tv.withD_mk | with_reducible exact Tv.D_mk
  | ((with_reducible apply Tv.putE); (repeat (with_reducible apply Tv.setSE)); with_reducible exact Tv.set0E)
  | ((with_reducible apply Tv.wipeS); repeat' (first | with_reducible exact Tv.set0E | with_reducible apply Tv.setSE | with_reducible apply Tv.wipeEC | with_reducible exact Tv.wipeE0)))
local macro_rules | `(tactic| walk_at "evb") => `(tactic| first
  | with_reducible assumption | exact decide_eq_true (by first | with_reducible assumption | omega) | exact decide_eq_false (by first | with_reducible assumption | omega) | exact Tv.notD (by first | with_reducible assumption | omega) | exact Tv.notD' (by first | with_reducible assumption | omega) | exact Tv.notTe (by with_reducible assumption) | exact Tv.notFe (by with_reducible assumption) | rfl
  | (simp only [decide_eq_true_eq, decide_eq_false_iff_not, T.isNon, Bool.not_true, Bool.not_false, beq_self_eq_true]; first | done | with_reducible assumption | omega))
local macro_rules | `(tactic| walk_at "evop") => `(tactic| first
  | with_reducible assumption | with_reducible exact Tv.cmpI | with_reducible exact Tv.addI | with_reducible exact Tv.subI | with_reducible exact Tv.ixT0 | with_reducible exact Tv.ixT1 | with_reducible exact Tv.ixT2 | with_reducible exact Tv.lenT | with_reducible exact Tv.lenL | with_reducible exact Tv.maxL2 | with_reducible exact Tv.minL2 | with_reducible exact Tv.isF | with_reducible exact Tv.isT
  | ((with_reducible apply Tv.mulI); first | with_reducible assumption | omega; first | with_reducible assumption | omega) | ((with_reducible apply Tv.fdvI); first | with_reducible assumption | omega; first | with_reducible assumption | omega) | ((with_reducible apply Tv.modI); first | with_reducible assumption | omega)
  | ((with_reducible apply Tv.ixL); assumption) | ((with_reducible apply Tv.mAppE); first | with_reducible assumption | omega | (simp only [List.length_map]; omega))
  | rfl)
local macro_rules | `(tactic| walk_at "ev1") => `(tactic| first
  | with_reducible apply Tv.eV | with_reducible apply Tv.eB | with_reducible apply Tv.eCons
  | ((with_reducible apply Tv.eVar); rfl) | ((with_reducible apply Tv.eVarO); rfl)
  | with_reducible apply Tv.eBin | with_reducible apply Tv.eDef | with_reducible apply Tv.eCall
  | with_reducible apply Tv.eSeq | with_reducible apply Tv.seqK_nx
  | with_reducible exact Tv.eNilS | with_reducible exact Tv.eRetN | with_reducible exact Tv.eK | with_reducible exact Tv.eNil | with_reducible exact Tv.tYes | with_reducible exact Tv.eONone
  | with_reducible exact Tv.seqK_rt | with_reducible exact Tv.seqK_bk | with_reducible exact Tv.seqK_ct
  | with_reducible exact Tv.retK_v | with_reducible exact Tv.retK_f | ((with_reducible apply Tv.retK_b); rfl)
  | with_reducible exact Tv.bK_v | with_reducible exact Tv.bK_f | with_reducible exact Tv.bK_b
  | with_reducible exact Tv.vK_v | with_reducible exact Tv.vK_f | ((with_reducible apply Tv.vK_b); rfl; walk_at "lit")
  | with_reducible exact Tv.trV | ((with_reducible apply Tv.trO); rfl) | with_reducible exact Tv.trs0 | with_reducible apply Tv.trsC
  | with_reducible exact Tv.defK_v | with_reducible exact Tv.defK_f | with_reducible exact Tv.gNlE
  | ((with_reducible apply Tv.setK_v); walk_at "lit") | ((with_reducible apply Tv.setK_f); walk_at "lit") | ((with_reducible apply Tv.setK_b); rfl; walk_at "lit"; walk_at "lit")
  | ((with_reducible apply Tv.gNmE); walk_at "lit") | with_reducible apply Tv.gCnE | ((with_reducible apply Tv.gTpE); rfl)
  | with_reducible apply Tv.eIf | with_reducible apply Tv.eVIf | with_reducible apply Tv.eRet | with_reducible apply Tv.eSet | with_reducible apply Tv.eDrop
  | ((with_reducible apply Tv.iteT); walk_at "evb") | ((with_reducible apply Tv.iteF); walk_at "evb")
  | with_reducible exact Tv.eOk
  | with_reducible apply Tv.eTup
  | with_reducible apply Tv.eLst | with_reducible apply Tv.eNeg | with_reducible apply Tv.eOInt | with_reducible apply Tv.eSl
  | with_reducible apply Tv.eAsT | with_reducible apply Tv.eTNot | with_reducible apply Tv.eTAnd | with_reducible apply Tv.eTOr | with_reducible apply Tv.eAnd | with_reducible apply Tv.eOr | with_reducible apply Tv.eNot
  | with_reducible exact Tv.notT | with_reducible exact Tv.notF | with_reducible exact Tv.notS
  | with_reducible apply Tv.eIsi | with_reducible apply Tv.eIsi2 | with_reducible apply Tv.eChain
  | ((with_reducible apply Tv.chT); walk_at "evb") | ((with_reducible apply Tv.chF); walk_at "evb")
  | with_reducible apply Tv.eAsg | with_reducible apply Tv.eFor | with_reducible apply Tv.eItE | with_reducible apply Tv.eItR1 | with_reducible apply Tv.eItZ
  | ((with_reducible apply Tv.eIsOw); rfl) | with_reducible apply Tv.eMut | with_reducible apply Tv.eSetIx | with_reducible apply Tv.eAug
  | with_reducible apply Tv.eProp | with_reducible apply Tv.eMake | with_reducible apply Tv.eFld | with_reducible apply Tv.eSetA | with_reducible apply Tv.eGet
  | with_reducible exact Tv.D_mk | with_reducible exact Tv.withD_mk
  | exact Nat.le_of_ble_eq_true rfl
  | walk_at "evop" | with_reducible apply Tv.andS | with_reducible apply Tv.chS | walk_at "evb" | omega
  )
local macro_rules | `(tactic| walk_at "ev") => `(tactic| repeat' (walk_at "ev1"))
open P67 (Tk Bx chg met nar narL ror full emp zmet lmet wid fit inB Sub60 Gs wishM aps fits outc isf)
theorem isint_ok {i : Int} {D : Dr} : φ_is_integer [.int i] D = .ok (.bl true) false D := by
  show resOf (f_is_integer ⟨[.sh (.int i)], D⟩) = _
  unfold f_is_integer
  apply Tv.eRes
  · walk_at "ev"
  · rfl
  · rfl
theorem gcd_rec (a b : Int) (ha : 0 ≤ a) (hb : 0 < b) : Int.gcd b (a % b) = Int.gcd a b := by
  obtain ⟨x, rfl⟩ := Int.eq_ofNat_of_zero_le ha
  obtain ⟨y, rfl⟩ := Int.eq_ofNat_of_zero_le (show 0 ≤ b by omega)
  show Nat.gcd _ _ = Nat.gcd _ _
  rw [← Int.natCast_emod, Int.natAbs_natCast, Int.natAbs_natCast, Int.natAbs_natCast, Nat.gcd_comm y, ← Nat.gcd_rec, Nat.gcd_comm]
theorem divisor_ok {D : Dr} : ∀ (n : Nat) (a b : Int), 0 ≤ a → 0 ≤ b → b.toNat ≤ n → φ_divisor [.int a, .int b] D = .ok (.int (Int.gcd a b)) false D
  | n, a, b, ha, hb, hn => by
    show resOf (f_divisor ⟨[.sh (.int a), .sh (.int b)], D⟩) = _
    unfold f_divisor
    by_cases h : b > 0
    · cases n with
      | zero => omega
      | succ n =>
        have h1 := Int.emod_nonneg a (show b ≠ 0 by omega)
        have h2 := Int.emod_lt_of_pos a h
        have ih := divisor_ok (D := D) n b (a % b) hb h1 (by omega)
        rw [gcd_rec a b ha h] at ih
        rw [← ih]
        apply Tv.rWhN
        · apply Tv.eAsT
          have : decide (b > 0) = true := decide_eq_true h
          rw [← this]
          walk_at "ev"
        · apply Tv.ePar
          · walk_at "ev"
          · walk_at "ev"
          · walk_at "lit"
          · walk_at "lit"
        · rfl
    · have hz : b = 0 := by omega
      subst hz
      have g : ((Int.gcd a 0 : Nat) : Int) = a := by
        rw [Int.gcd_zero_right]; omega
      rw [g]
      apply Tv.rWh0 (s1 := ⟨[.sh (.int a), .sh (.int 0)], D⟩)
      · rfl
      · rfl
structure TkOk (t : Tk) : Prop where
  fr : FrOk t.p t.q
  qs : t.q < 2 ^ 200
  k1 : 1 ≤ t.k
  k8 : t.k ≤ 8
theorem TkOk.ld {t : Tk} (h : TkOk t) : LdOk t.p t.q t.k := by
  have h1 := h.fr.q0
  have h2 := h.qs
  have h3 := h.k1
  have h4 := h.k8
  have h5 : t.q * t.k ≤ t.q * 8 := Int.mul_le_mul_of_nonneg_left h4 (by omega)
  have h6 : (2 : Int) ^ 200 * 8 < 2 ^ 1000 := by decide
  have h7 : (2 : Nat) ^ 200 * 8 < 2 ^ 1000 := by decide
  exact ⟨h.fr.p0, h1, by omega, by omega, by omega, by omega⟩
theorem TkOk.tok {t : Tk} (h : TkOk t) : P67.Tok t := ⟨Int.mul_pos h.fr.q0 (by have := h.k1; omega)⟩
theorem isload_ok {p q : Int} {D : Dr} (h : FrOk p q) : φ_is_load [.tup [.int p, .int q]] D = .ok (.bl true) false D := by
  have e1 := divisor_ok (D := D) q.toNat p q h.p0 (by have := h.q0; omega) (Nat.le_refl _)
  rw [h.co] at e1
  have e2 := isint_ok (i := p) (D := D)
  have e3 := isint_ok (i := q) (D := D)
  have h0 := h.p0
  have h1 : q ≥ 1 := h.q0
  have e4 := ne_int 2 2
  have e5 := eq_int 1 1
  have e6 := allE (fun _ : Int => true) [p, q]
  show resOf (f_is_load ⟨[.sh (.tup [.int p, .int q]), .no], D⟩) = _
  unfold f_is_load
  have cmp : fLc (itS (fV (fVar 0))) [1] (gNm 1) (tYesF) (fV (fDef 1 φ_is_integer (aCons (fV (fVar 1)) (aNil)))) ⟨[.sh (.tup [.int p, .int q]), .no], D⟩ = .ok (.frs (.lst ([p, q].map fun _ => T.bl true))) ⟨[.sh (.tup [.int p, .int q]), .no], D⟩ := by
    apply Tv.eLcA (l := [p, q]) T.int (fun _ => T.bl true)
    · apply Tv.eItSt
      walk_at "ev"
    · rfl
    · rfl
    · walk_at "lit"
    · exact Nat.le_of_ble_eq_true rfl
    · intro a ha
      have e2 := isint_ok (i := a) (D := D)
      apply Tv.lcTnA
      · walk_at "ev"
      · walk_at "ev"
      · rfl
    · rfl
  apply Tv.rSeq
  · walk_at "ev"
  · apply Tv.eRes
    · walk_at "ev"
    · rfl
    · rfl
theorem isseen_ok {t : Tk} {D : Dr} (h : TkOk t) : φ_is_seen [tkT t] D = .ok (.bl true) false D := by
  obtain ⟨p, q, k, w⟩ := t
  have e1 := isload_ok (D := D) h.fr
  have e2 := isint_ok (i := k) (D := D)
  have e3 := isint_ok (i := w) (D := D)
  have e4 := ne_int 3 3
  have h1 : 1 ≤ k := h.k1
  have h2 : k ≤ 8 := h.k8
  show resOf (f_is_seen ⟨[.sh (.tup [.tup [.int p, .int q], .int k, .int w])], D⟩) = _
  unfold f_is_seen
  apply Tv.rSeq
  · walk_at "ev"
  · apply Tv.eRes
    · walk_at "ev"
    · rfl
    · rfl
noncomputable abbrev nsGf : T → S → Option S := (gTp 2 (gCn (gNm 1) (gCn (gNm 2) (gNl))))
noncomputable abbrev nsBody : S → Out Fl := (fIf (tNotF (asT (fDef 1 φ_is_seen (aCons (fV (fVar 2)) (aNil))))) (fBad) (fNil))
theorem nsLoop {c0 : Sl} {D : Dr} : ∀ (ts : List Tk) (i : Nat) (b1 b2 : Sl), (∀ t ∈ ts, TkOk t) → resOf (forL nsGf nsBody (enumT i (ts.map tkT)) ⟨[c0, b1, b2], D⟩) = .ok .non false D
  | [], i, b1, b2, _ => rfl
  | t :: ts, i, b1, b2, h => by
    have e1 := isseen_ok (D := D) (h t (by simp))
    have ih := nsLoop (c0 := c0) (D := D) ts (i + 1) (.sh (.int (i : Nat))) (.sh (tkT t)) fun u hu => h u (by simp [hu])
    rw [← ih]
    refine congrArg resOf ?_
    show forL nsGf nsBody (.tup [.int (i : Nat), tkT t] :: enumT (i + 1) (ts.map tkT)) _ = _
    apply Tv.forN
    · walk_at "ev"
    · walk_at "ev"
    · rfl
theorem needseen_ok {ts : List Tk} {D : Dr} (h : ∀ t ∈ ts, TkOk t) : φ_need_seen [.lst (ts.map tkT)] D = .ok .non false D := by
  show resOf (f_need_seen ⟨[.sh (.lst (ts.map tkT)), .no, .no], D⟩) = _
  unfold f_need_seen
  apply Tv.rSeq
  · walk_at "ev"
  · have := nsLoop (c0 := .sh (.lst (ts.map tkT))) (D := D) ts 0 .no .no h
    rw [← this]
    refine congrArg resOf ?_
    apply Tv.eFor
    · walk_at "ev"
    · rfl
end K67
namespace K67
open PySem PySem.Spec PyProof.Rows L2 Tv
local macro_rules | `(tactic| walk_at "lit") => `(tactic| first
  | with_reducible exact Tv.withD_mk | with_reducible exact Tv.D_mk
  | ((with_reducible apply Tv.putE); (repeat (with_reducible apply Tv.setSE)); with_reducible exact Tv.set0E)
  | ((with_reducible apply Tv.wipeS); repeat' (first | with_reducible exact Tv.set0E | with_reducible apply Tv.setSE | with_reducible apply Tv.wipeEC | with_reducible exact Tv.wipeE0)))
local macro_rules | `(tactic| walk_at "evb") => `(tactic| first
  | with_reducible assumption | exact decide_eq_true (by first | with_reducible assumption | omega) | exact decide_eq_false (by first | with_reducible assumption | omega) | exact Tv.notD (by first | with_reducible assumption | omega) | exact Tv.notD' (by first | with_reducible assumption | omega) | exact Tv.notTe (by with_reducible assumption) | exact Tv.notFe (by with_reducible assumption) | rfl
  | (simp only [decide_eq_true_eq, decide_eq_false_iff_not, T.isNon, Bool.not_true, Bool.not_false, beq_self_eq_true]; first | done | with_reducible assumption | omega))
local macro_rules | `(tactic| walk_at "evop") => `(tactic| first
  | with_reducible assumption | with_reducible exact Tv.cmpI | with_reducible exact Tv.addI | with_reducible exact Tv.subI | with_reducible exact Tv.ixT0 | with_reducible exact Tv.ixT1 | with_reducible exact Tv.ixT2 | with_reducible exact Tv.lenT | with_reducible exact Tv.lenL | with_reducible exact Tv.maxL2 | with_reducible exact Tv.minL2 | with_reducible exact Tv.isF | with_reducible exact Tv.isT
  | ((with_reducible apply Tv.mulI); first | with_reducible assumption | omega; first | with_reducible assumption | omega) | ((with_reducible apply Tv.fdvI); first | with_reducible assumption | omega; first | with_reducible assumption | omega) | ((with_reducible apply Tv.modI); first | with_reducible assumption | omega)
  | ((with_reducible apply Tv.ixL); assumption) | ((with_reducible apply Tv.mAppE); first | with_reducible assumption | omega | (simp only [List.length_map]; omega))
  | rfl)
local macro_rules | `(tactic| walk_at "ev1") => `(tactic| first
  | with_reducible apply Tv.eV | with_reducible apply Tv.eB | with_reducible apply Tv.eCons
  | ((with_reducible apply Tv.eVar); rfl) | ((with_reducible apply Tv.eVarO); rfl)
  | with_reducible apply Tv.eBin | with_reducible apply Tv.eDef | with_reducible apply Tv.eCall
  | with_reducible apply Tv.eSeq | with_reducible apply Tv.seqK_nx
  | with_reducible exact Tv.eNilS | with_reducible exact Tv.eRetN | with_reducible exact Tv.eK | with_reducible exact Tv.eNil | with_reducible exact Tv.tYes | with_reducible exact Tv.eONone
  | with_reducible exact Tv.seqK_rt | with_reducible exact Tv.seqK_bk | with_reducible exact Tv.seqK_ct
  | with_reducible exact Tv.retK_v | with_reducible exact Tv.retK_f | ((with_reducible apply Tv.retK_b); rfl)
  | with_reducible exact Tv.bK_v | with_reducible exact Tv.bK_f | with_reducible exact Tv.bK_b
  | with_reducible exact Tv.vK_v | with_reducible exact Tv.vK_f | ((with_reducible apply Tv.vK_b); rfl; walk_at "lit")
  | with_reducible exact Tv.trV | ((with_reducible apply Tv.trO); rfl) | with_reducible exact Tv.trs0 | with_reducible apply Tv.trsC
  | with_reducible exact Tv.defK_v | with_reducible exact Tv.defK_f | with_reducible exact Tv.gNlE
  | ((with_reducible apply Tv.setK_v); walk_at "lit") | ((with_reducible apply Tv.setK_f); walk_at "lit") | ((with_reducible apply Tv.setK_b); rfl; walk_at "lit"; walk_at "lit")
  | ((with_reducible apply Tv.gNmE); walk_at "lit") | with_reducible apply Tv.gCnE | ((with_reducible apply Tv.gTpE); rfl)
  | with_reducible apply Tv.eIf | with_reducible apply Tv.eVIf | with_reducible apply Tv.eRet | with_reducible apply Tv.eSet | with_reducible apply Tv.eDrop
  | ((with_reducible apply Tv.iteT); walk_at "evb") | ((with_reducible apply Tv.iteF); walk_at "evb")
  | with_reducible exact Tv.eOk
  | with_reducible apply Tv.eTup
  | with_reducible apply Tv.eLst | with_reducible apply Tv.eNeg | with_reducible apply Tv.eOInt | with_reducible apply Tv.eSl
  | with_reducible apply Tv.eAsT | with_reducible apply Tv.eTNot | with_reducible apply Tv.eTAnd | with_reducible apply Tv.eTOr | with_reducible apply Tv.eAnd | with_reducible apply Tv.eOr | with_reducible apply Tv.eNot
  | with_reducible exact Tv.notT | with_reducible exact Tv.notF | with_reducible exact Tv.notS
  | with_reducible apply Tv.eIsi | with_reducible apply Tv.eIsi2 | with_reducible apply Tv.eChain
  | ((with_reducible apply Tv.chT); walk_at "evb") | ((with_reducible apply Tv.chF); walk_at "evb")
  | with_reducible apply Tv.eAsg | with_reducible apply Tv.eFor | with_reducible apply Tv.eItE | with_reducible apply Tv.eItR1 | with_reducible apply Tv.eItZ
  | ((with_reducible apply Tv.eIsOw); rfl) | with_reducible apply Tv.eMut | with_reducible apply Tv.eSetIx | with_reducible apply Tv.eAug
  | with_reducible apply Tv.eProp | with_reducible apply Tv.eMake | with_reducible apply Tv.eFld | with_reducible apply Tv.eSetA | with_reducible apply Tv.eGet
  | with_reducible exact Tv.D_mk | with_reducible exact Tv.withD_mk
  | exact Nat.le_of_ble_eq_true rfl
  | walk_at "evop" | with_reducible apply Tv.andS | with_reducible apply Tv.chS | walk_at "evb" | omega
  )
local macro_rules | `(tactic| walk_at "ev") => `(tactic| repeat' (walk_at "ev1"))
open P67 (Tk Bx chg met nar narL ror full emp zmet lmet wid fit inB Sub60 Gs wishM aps fits outc isf)
theorem gs_of {ss : List Sh} (h : ShOk ss) : Gs ss := by
  refine ⟨?_, ?_⟩
  · refine P67.nodup_map_inj (fun a ha b hb e => ?_) h.nd
    have h1 := h.ks a ha
    have h2 := h.ks b hb
    obtain ⟨x, i⟩ := a
    obtain ⟨y, j⟩ := b
    simp only [List.mem_cons, List.not_mem_nil, or_false] at h1 h2
    cases x <;> cases y <;> simp only [chg, if_true, Bool.false_eq_true, if_false] at e
    · exact Prod.ext rfl (by show i = j; omega)
    · exfalso; omega
    · exfalso; omega
    · exact Prod.ext rfl (by show i = j; omega)
  · intro s hs
    have h1 := h.ks s hs
    obtain ⟨x, i⟩ := s
    simp only [List.mem_cons, List.not_mem_nil, or_false] at h1
    cases x <;> simp only [chg, if_true, Bool.false_eq_true, if_false] <;> omega
theorem in_kind (b : Bool) : opIn false (.str (kind b)) (.tup [.str "over", .str "under"]) = some (.val (.bl true)) := by
  have e : (([T.str "over", T.str "under"] : List T).any fun z => match z with | .str y => y == kind b | _ => false) = true := by cases b <;> decide +kernel
  show (if ([T.str "over", T.str "under"] : List T).all T.isStr = true then some (R.val (.bl (([T.str "over", T.str "under"] : List T).any fun z => match z with | .str y => y == kind b | _ => false))) else none) = _
  rw [e]
  exact if_pos rfl
theorem isshape_ok {s : Sh} {D : Dr} (h : s.2 ∈ ([1, 2, 3, 8] : List Int)) : φ_is_shape [shT s] D = .ok (.bl true) false D := by
  obtain ⟨b, i⟩ := s
  have e1 := isint_ok (i := i) (D := D)
  have e2 := in_kind b
  have e3 := ne_int 2 2
  have h1 : 1 ≤ i ∧ i ≤ 8 := by
    simp only [List.mem_cons, List.not_mem_nil, or_false] at h
    omega
  obtain ⟨h1, h2⟩ := h1
  show resOf (f_is_shape ⟨[.sh (.tup [.str (kind b), .int i])], D⟩) = _
  unfold f_is_shape
  apply Tv.rSeq
  · walk_at "ev"
  · apply Tv.eRes
    · walk_at "ev"
    · rw [decide_eq_true h2]
    · rfl
theorem in_shs' (s : Sh) (l : List Sh) : opIn false (shT s) (.lst (l.map shT)) = some (.val (.bl (decide (s ∈ l)))) := by
  have h := in_shs s l
  unfold opIn at h ⊢
  unfold shT at h ⊢
  dsimp only at h ⊢
  split at h
  · rename_i hc
    rw [if_pos hc]
    simp only [Option.some.injEq, R.val.injEq, T.bl.injEq, if_true, Bool.false_eq_true, if_false] at h ⊢
    by_cases hm : s ∈ l
    · simp [hm] at h ⊢; exact h
    · simp [hm] at h ⊢; exact h
  · cases h
noncomputable abbrev shGf : T → S → Option S := gTp 2 (gCn (gNm 1) (gCn (gNm 2) (gNl)))
noncomputable abbrev shBody : S → Out Fl := (fIf (tOrF (asT (fBin (opEq false) (fB (fVar 1)) (fB (fK (.int 4))))) (tOrF (tNotF (asT (fDef 1 φ_is_shape (aCons (fV (fVar 2)) (aNil))))) (asT (fBin (opIn false) (fB (fVar 2)) (fB (fSl (fB (fVar 0)) (oNone) (oInt (fVar 1)))))))) (fBad) (fNil))
theorem shCheck {D : Dr} : ∀ (suf pre : List Sh) (b1 b2 : Sl), ShOk (pre ++ suf) → (pre ++ suf).length ≤ 4 → resOf (forL shGf shBody (enumT pre.length (suf.map shT)) ⟨[.sh (.lst ((pre ++ suf).map shT)), b1, b2], D⟩) = .ok .non false D
  | [], pre, b1, b2, _, _ => rfl
  | s :: suf, pre, b1, b2, h, hl => by
    have ih := shCheck (D := D) suf (pre ++ [s]) (.sh (.int (pre.length : Nat))) (.sh (shT s)) (by simpa using h) (by simpa using hl)
    have e1 := isshape_ok (D := D) (h.ks s (by simp))
    have hl4 : pre.length < 4 := by simp at hl; omega
    have e2 := eq_int (pre.length : Nat) 4
    have e3 : cutT ((pre ++ s :: suf).map shT) none (some ((pre.length : Nat) : Int)) = pre.map shT := by
      rw [cutTake (by simp), ← List.map_take, List.take_left]
    have e4 : opSl none (some ((pre.length : Nat) : Int)) (.lst ((pre ++ s :: suf).map shT)) = some (.frs (.lst (pre.map shT))) := by
      show some (R.frs (.lst (cutT _ _ _))) = _
      rw [e3]
    have e5 := in_shs' s pre
    have hn : ¬ s ∈ pre := fun hm => (List.nodup_append.mp h.nd).2.2 s hm s (by simp) rfl
    have hne : ¬ ((pre.length : Nat) : Int) = 4 := by omega
    have e6 : pre ++ s :: suf = pre ++ [s] ++ suf := by simp
    rw [← ih, ← e6, List.length_append]
    refine congrArg resOf ?_
    show forL shGf shBody (.tup [.int (pre.length : Nat), shT s] :: enumT (pre.length + 1) (suf.map shT)) _ = _
    apply Tv.forN
    · walk_at "ev"
    · walk_at "ev"
    · rfl
theorem needshapes_ok {ss : List Sh} {D : Dr} (h : ShOk ss) (hl : ss.length ≤ 4) (h1 : 1 ≤ ss.length) : φ_need_shapes [.lst (ss.map shT)] D = .ok .non false D := by
  have e2 := eq_int (ss.length : Nat) 0
  have hne : ¬ ((ss.length : Nat) : Int) = 0 := by omega
  have e3 : opLen [.lst (ss.map shT)] = some (.val (.int (ss.length : Nat))) := by rw [lenL, List.length_map]
  show resOf (f_need_shapes ⟨[.sh (.lst (ss.map shT)), .no, .no], D⟩) = _
  unfold f_need_shapes
  apply Tv.rSeq
  · walk_at "ev"
  · rw [← shCheck (D := D) ss [] .no .no h hl]
    refine congrArg resOf ?_
    apply Tv.eFor
    · walk_at "ev"
    · rfl
def rngR (D : Dr) (z : Bx ⊕ Nat) : Res := match z with
  | .inl b => .ok (.lst (b.map prT)) false D
  | .inr i => .exc ⟨7, [("at", .int (i : Nat))]⟩ D
structure SsOk (ss : List Sh) : Prop where
  sh : ShOk ss
  l4 : ss.length ≤ 4
  l1 : 1 ≤ ss.length
theorem neededr_ok {ss : List Sh} {ts : List Tk} {D : Dr} (h : SsOk ss) (ht : ∀ t ∈ ts, TkOk t) : φ_needed_ranges [.lst (ss.map shT), .lst (ts.map tkT)] D = rngR D (ror ss ts (full ss) 0) := by
  have e1 := ror_ok (D := D) (gs_of h.sh) (by have := h.l4; omega) fun t hm => (ht t hm).ld
  show resOf (f_needed_ranges ⟨[.sh (.lst (ss.map shT)), .sh (.lst (ts.map tkT)), .no, .no], D⟩) = _
  unfold f_needed_ranges
  cases hr : ror ss ts (full ss) 0 with
  | inl b =>
    rw [hr] at e1
    unfold rorR at e1
    unfold rngR
    dsimp only at e1 ⊢
    apply Tv.rSeq
    · walk_at "ev"
    apply Tv.rSeq
    · walk_at "ev"
    apply Tv.eRes
    · walk_at "ev"
    · rfl
    · rfl
  | inr i =>
    rw [hr] at e1
    unfold rorR at e1
    unfold rngR
    dsimp only at e1 ⊢
    apply Tv.rSeq
    · walk_at "ev"
    apply Tv.rSeqX
    · apply Tv.eIf
      · walk_at "ev"
      · apply Tv.iteT
        · walk_at "evb"
        · apply Tv.eRaise
          walk_at "ev"
    · rfl
theorem ranges_ok {ss : List Sh} {ts : List Tk} {D : Dr} (h : SsOk ss) (ht : ∀ t ∈ ts, TkOk t) : φ_ranges [.lst (ss.map shT), .lst (ts.map tkT)] D = rngR D (ror ss ts (full ss) 0) := by
  have e1 := neededr_ok (D := D) h ht
  have e2 := needshapes_ok (D := D) h.sh h.l4 h.l1
  have e3 := needseen_ok (D := D) ht
  show resOf (f_ranges ⟨[.sh (.lst (ss.map shT)), .sh (.lst (ts.map tkT))], D⟩) = _
  unfold f_ranges
  apply Tv.rSeq
  · walk_at "ev"
  apply Tv.rSeq
  · walk_at "ev"
  cases hr : ror ss ts (full ss) 0 with
  | inl b =>
    rw [hr] at e1
    unfold rngR at e1 ⊢
    dsimp only at e1 ⊢
    apply Tv.eRes
    · walk_at "ev"
    · rfl
    · rfl
  | inr i =>
    rw [hr] at e1
    unfold rngR at e1 ⊢
    dsimp only at e1 ⊢
    apply Tv.rX
    · apply Tv.eRetX
      apply Tv.eDefX
      · walk_at "ev"
      · rfl
      · walk_at "lit"
      · exact e1
      · walk_at "lit"
    · rfl
end K67
namespace K67
open PySem PySem.Spec PyProof.Rows L2 Tv
local macro_rules | `(tactic| walk_at "lit") => `(tactic| first
  | with_reducible exact Tv.withD_mk | with_reducible exact Tv.D_mk
  | ((with_reducible apply Tv.putE); (repeat (with_reducible apply Tv.setSE)); with_reducible exact Tv.set0E)
  | ((with_reducible apply Tv.wipeS); repeat' (first | with_reducible exact Tv.set0E | with_reducible apply Tv.setSE | with_reducible apply Tv.wipeEC | with_reducible exact Tv.wipeE0)))
local macro_rules | `(tactic| walk_at "evb") => `(tactic| first
  | with_reducible assumption | exact decide_eq_true (by first | with_reducible assumption | omega) | exact decide_eq_false (by first | with_reducible assumption | omega) | exact Tv.notD (by first | with_reducible assumption | omega) | exact Tv.notD' (by first | with_reducible assumption | omega) | exact Tv.notTe (by with_reducible assumption) | exact Tv.notFe (by with_reducible assumption) | rfl
  | (simp only [decide_eq_true_eq, decide_eq_false_iff_not, T.isNon, Bool.not_true, Bool.not_false, beq_self_eq_true]; first | done | with_reducible assumption | omega))
local macro_rules | `(tactic| walk_at "evop") => `(tactic| first
  | with_reducible assumption | with_reducible exact Tv.cmpI | with_reducible exact Tv.addI | with_reducible exact Tv.subI | with_reducible exact Tv.ixT0 | with_reducible exact Tv.ixT1 | with_reducible exact Tv.ixT2 | with_reducible exact Tv.lenT | with_reducible exact Tv.lenL | with_reducible exact Tv.maxL2 | with_reducible exact Tv.minL2 | with_reducible exact Tv.isF | with_reducible exact Tv.isT
  | ((with_reducible apply Tv.mulI); first | with_reducible assumption | omega; first | with_reducible assumption | omega) | ((with_reducible apply Tv.fdvI); first | with_reducible assumption | omega; first | with_reducible assumption | omega) | ((with_reducible apply Tv.modI); first | with_reducible assumption | omega)
  | ((with_reducible apply Tv.ixL); assumption) | ((with_reducible apply Tv.mAppE); first | with_reducible assumption | omega | (simp only [List.length_map]; omega))
  | rfl)
local macro_rules | `(tactic| walk_at "ev1") => `(tactic| first
  | with_reducible apply Tv.eV | with_reducible apply Tv.eB | with_reducible apply Tv.eCons
  | ((with_reducible apply Tv.eVar); rfl) | ((with_reducible apply Tv.eVarO); rfl)
  | with_reducible apply Tv.eBin | with_reducible apply Tv.eDef | with_reducible apply Tv.eCall
  | with_reducible apply Tv.eSeq | with_reducible apply Tv.seqK_nx
  | with_reducible exact Tv.eNilS | with_reducible exact Tv.eRetN | with_reducible exact Tv.eK | with_reducible exact Tv.eNil | with_reducible exact Tv.tYes | with_reducible exact Tv.eONone
  | with_reducible exact Tv.seqK_rt | with_reducible exact Tv.seqK_bk | with_reducible exact Tv.seqK_ct
  | with_reducible exact Tv.retK_v | with_reducible exact Tv.retK_f | ((with_reducible apply Tv.retK_b); rfl)
  | with_reducible exact Tv.bK_v | with_reducible exact Tv.bK_f | with_reducible exact Tv.bK_b
  | with_reducible exact Tv.vK_v | with_reducible exact Tv.vK_f | ((with_reducible apply Tv.vK_b); rfl; walk_at "lit")
  | with_reducible exact Tv.trV | ((with_reducible apply Tv.trO); rfl) | with_reducible exact Tv.trs0 | with_reducible apply Tv.trsC
  | with_reducible exact Tv.defK_v | with_reducible exact Tv.defK_f | with_reducible exact Tv.gNlE
  | ((with_reducible apply Tv.setK_v); walk_at "lit") | ((with_reducible apply Tv.setK_f); walk_at "lit") | ((with_reducible apply Tv.setK_b); rfl; walk_at "lit"; walk_at "lit")
  | ((with_reducible apply Tv.gNmE); walk_at "lit") | with_reducible apply Tv.gCnE | ((with_reducible apply Tv.gTpE); rfl)
  | with_reducible apply Tv.eIf | with_reducible apply Tv.eVIf | with_reducible apply Tv.eRet | with_reducible apply Tv.eSet | with_reducible apply Tv.eDrop
  | ((with_reducible apply Tv.iteT); walk_at "evb") | ((with_reducible apply Tv.iteF); walk_at "evb")
  | with_reducible exact Tv.eOk
  | with_reducible apply Tv.eTup
  | with_reducible apply Tv.eLst | with_reducible apply Tv.eNeg | with_reducible apply Tv.eOInt | with_reducible apply Tv.eSl
  | with_reducible apply Tv.eAsT | with_reducible apply Tv.eTNot | with_reducible apply Tv.eTAnd | with_reducible apply Tv.eTOr | with_reducible apply Tv.eAnd | with_reducible apply Tv.eOr | with_reducible apply Tv.eNot
  | with_reducible exact Tv.notT | with_reducible exact Tv.notF | with_reducible exact Tv.notS
  | with_reducible apply Tv.eIsi | with_reducible apply Tv.eIsi2 | with_reducible apply Tv.eChain
  | ((with_reducible apply Tv.chT); walk_at "evb") | ((with_reducible apply Tv.chF); walk_at "evb")
  | with_reducible apply Tv.eAsg | with_reducible apply Tv.eFor | with_reducible apply Tv.eItE | with_reducible apply Tv.eItR1 | with_reducible apply Tv.eItZ
  | ((with_reducible apply Tv.eIsOw); rfl) | with_reducible apply Tv.eMut | with_reducible apply Tv.eSetIx | with_reducible apply Tv.eAug
  | with_reducible apply Tv.eProp | with_reducible apply Tv.eMake | with_reducible apply Tv.eFld | with_reducible apply Tv.eSetA | with_reducible apply Tv.eGet
  | with_reducible exact Tv.D_mk | with_reducible exact Tv.withD_mk
  | exact Nat.le_of_ble_eq_true rfl
  | walk_at "evop" | with_reducible apply Tv.andS | with_reducible apply Tv.chS | walk_at "evb" | omega
  )
local macro_rules | `(tactic| walk_at "ev") => `(tactic| repeat' (walk_at "ev1"))
open P67 (Tk Bx chg met nar narL ror full emp zmet lmet wid fit inB Sub60 Gs wishM aps fits outc isf Good)
theorem ror_facts {ss : List Sh} {ts : List Tk} (h : SsOk ss) (ht : ∀ t ∈ ts, TkOk t) {b : Bx} (hr : ror ss ts (full ss) 0 = .inl b) : b.length = ss.length ∧ Sub60 b ∧ Good b := by
  have z := P67.ror_spec (gs_of h.sh) ts (full ss) 0 (fun t hm => (ht t hm).tok) (P67.full_len ss) (P67.full_60 ss) (P67.full_good ss)
  rw [hr] at z
  exact ⟨z.1, z.2.1, z.2.2.1⟩
noncomputable abbrev ftGf : T → S → Option S := (gTp 2 (gCn (gNm 5) (gCn (gNm 6) (gNl))))
noncomputable abbrev ftBody : S → Out Fl := (fAug 4 opMulS (fBin opAdd (fB (fBin opSub (fB (fVar 6)) (fB (fVar 5)))) (fB (fK (.int 1)))))
theorem ftLoop {c0 c1 c2 c3 : Sl} {D : Dr} : ∀ (b : Bx) (acc : Int) (b5 b6 : Sl), Sub60 b → Good b → resOf (fSeq (forL ftGf ftBody (b.map prT)) (fRet (fVar 4)) ⟨[c0, c1, c2, c3, .sh (.int acc), b5, b6], D⟩) = .ok (.int (acc * wid b)) false D
  | [], acc, b5, b6, _, _ => by
    have : wid [] = 1 := rfl
    rw [this, Int.mul_one]; rfl
  | x :: b, acc, b5, b6, h6, hg => by
    have hx := h6 x (by simp)
    have hy := hg x (by simp)
    obtain ⟨lo, hi⟩ := x
    dsimp only at hx hy
    have ih := ftLoop (c0 := c0) (c1 := c1) (c2 := c2) (c3 := c3) (D := D) b (acc * (hi - lo + 1)) (.sh (.int lo)) (.sh (.int hi)) h6.tl fun y hy => hg y (List.mem_cons_of_mem _ hy)
    have e : acc * wid ((lo, hi) :: b) = acc * (hi - lo + 1) * wid b := by simp only [wid]; rw [Int.mul_assoc]
    have e1 : opMulS (.int acc) (.int (hi - lo + 1)) = some (.val (.int (acc * (hi - lo + 1)))) := if_pos (.inr ⟨by omega, by omega⟩)
    rw [e, ← ih]
    rw [List.map_cons]
    apply Tv.rForN
    · apply Tv.gTpE
      · rfl
      · walk_at "ev"
    · apply Tv.eAug
      · rfl
      · walk_at "ev"
      · exact e1
      · walk_at "lit"
    · rfl
theorem fitting_ok {ss : List Sh} {ts : List Tk} {D : Dr} (h : SsOk ss) (ht : ∀ t ∈ ts, TkOk t) : φ_fitting [.lst (ss.map shT), .lst (ts.map tkT)] D = .ok (.int (fit ss ts)) false D := by
  have e1 := ror_ok (D := D) (gs_of h.sh) (by have := h.l4; omega) fun t hm => (ht t hm).ld
  have e2 := needshapes_ok (D := D) h.sh h.l4 h.l1
  have e3 := needseen_ok (D := D) ht
  show resOf (f_fitting ⟨[.sh (.lst (ss.map shT)), .sh (.lst (ts.map tkT)), .no, .no, .no, .no, .no], D⟩) = _
  unfold f_fitting
  apply Tv.rSeq
  · walk_at "ev"
  apply Tv.rSeq
  · walk_at "ev"
  unfold fit
  cases hr : ror ss ts (full ss) 0 with
  | inl b =>
    rw [hr] at e1
    unfold rorR at e1
    dsimp only at e1 ⊢
    obtain ⟨b1, b2, b3⟩ := ror_facts h ht hr
    apply Tv.rSeq
    · walk_at "ev"
    apply Tv.rSeq
    · walk_at "ev"
    apply Tv.rSeq
    · walk_at "ev"
    apply Tv.rFor
    · apply Tv.eItS
      walk_at "ev"
    rw [ftLoop b 1 _ _ b2 b3, Int.one_mul]
  | inr i =>
    rw [hr] at e1
    unfold rorR at e1
    dsimp only at e1 ⊢
    apply Tv.rSeq
    · walk_at "ev"
    apply Tv.rSeqR
    · walk_at "ev"
    · rfl
theorem zipT_map {α β : Type} (f : α → T) (g : β → T) : ∀ (l : List α) (k : List β), zipT (l.map f) (k.map g) = (l.zip k).map fun x => .tup [f x.1, g x.2]
  | [], k => by cases k <;> rfl
  | a :: l, [] => rfl
  | a :: l, b :: k => by
    rw [List.map_cons, List.map_cons, List.zip_cons_cons, List.map_cons, ← zipT_map f g l k]; rfl
theorem inB_zip : ∀ {ms : List Int} {b : Bx}, ms.length = b.length → inB ms b = (ms.zip b).all fun x => decide (x.2.1 ≤ x.1) && decide (x.1 ≤ x.2.2)
  | [], [], _ => rfl
  | m :: ms, [], h => by simp at h
  | [], x :: b, h => by simp at h
  | m :: ms, x :: b, h => by
    simp only [inB, List.zip_cons_cons, List.all_cons]
    rw [inB_zip (by simpa using h)]
theorem isfitting_ok {ss : List Sh} {ts : List Tk} {ms : List Int} {D : Dr} (h : SsOk ss) (ht : ∀ t ∈ ts, TkOk t) (hm : ms.length = ss.length) : φ_is_fitting [.lst (ss.map shT), .lst (ts.map tkT), .tup (ms.map T.int)] D = .ok (.bl (isf ss ts ms)) false D := by
  have e1 := ror_ok (D := D) (gs_of h.sh) (by have := h.l4; omega) fun t hm => (ht t hm).ld
  have e2 := needshapes_ok (D := D) h.sh h.l4 h.l1
  have e3 := needseen_ok (D := D) ht
  have e4 := ne_int (ss.length : Nat) (ss.length : Nat)
  have e5 : opLen [.lst (ss.map shT)] = some (.val (.int (ss.length : Nat))) := by rw [lenL, List.length_map]
  have e6 : opLen [.tup (ms.map T.int)] = some (.val (.int (ss.length : Nat))) := by rw [lenT, List.length_map, hm]
  show resOf (f_is_fitting ⟨[.sh (.lst (ss.map shT)), .sh (.lst (ts.map tkT)), .sh (.tup (ms.map T.int)), .no, .no, .no, .no, .no], D⟩) = _
  unfold f_is_fitting
  apply Tv.rSeq
  · walk_at "ev"
  apply Tv.rSeq
  · walk_at "ev"
  unfold isf
  cases hr : ror ss ts (full ss) 0 with
  | inl b =>
    rw [hr] at e1
    unfold rorR at e1
    dsimp only at e1 ⊢
    obtain ⟨b1, b2, b3⟩ := ror_facts h ht hr
    have e7 := allE (fun x : Int × (Int × Int) => decide (x.2.1 ≤ x.1) && decide (x.1 ≤ x.2.2)) (ms.zip b)
    rw [← inB_zip (by omega)] at e7
    have l4 := h.l4
    apply Tv.rSeq
    · walk_at "ev"
    apply Tv.rSeq
    · walk_at "ev"
    have cmp : fLc (itZ2 (fV (fVar 2)) (fV (fVar 3))) [5, 6, 7] (gTp 2 (gCn (gNm 5) (gCn (gTp 2 (gCn (gNm 6) (gCn (gNm 7) (gNl)))) (gNl)))) (tYesF) (fV (vAnd (fDef 1 φ_is_integer (aCons (fV (fVar 5)) (aNil))) (fChain opLe opLe (fB (fVar 6)) (fB (fVar 5)) (fB (fVar 7)))))
       ⟨[.sh (.lst (ss.map shT)), .sh (.lst (ts.map tkT)), .sh (.tup (ms.map T.int)), .sh (.lst (b.map prT)), .sh .non, .no, .no, .no], D⟩ = .ok (.frs (.lst ((ms.zip b).map fun x => T.bl (decide (x.2.1 ≤ x.1) && decide (x.1 ≤ x.2.2)))))
       ⟨[.sh (.lst (ss.map shT)), .sh (.lst (ts.map tkT)), .sh (.tup (ms.map T.int)), .sh (.lst (b.map prT)), .sh .non, .no, .no, .no], D⟩ := by
      apply Tv.eLcA (l := ms.zip b) (fun x => .tup [.int x.1, prT x.2]) (fun x => T.bl (decide (x.2.1 ≤ x.1) && decide (x.1 ≤ x.2.2)))
      · apply Tv.eItZ
        · walk_at "ev"
        · walk_at "ev"
        · rfl
        · rfl
      · exact zipT_map T.int prT ms b
      · rfl
      · walk_at "lit"
      · rw [List.length_zip]; omega
      · intro a ha
        have e8 := isint_ok (i := a.1) (D := D)
        obtain ⟨m, lo, hi⟩ := a
        apply Tv.lcTnA
        · walk_at "ev"
        · walk_at "ev"
        · rfl
      · rfl
    apply Tv.eRes
    · walk_at "ev"
    · rfl
    · rfl
  | inr i =>
    rw [hr] at e1
    unfold rorR at e1
    dsimp only at e1 ⊢
    apply Tv.rSeq
    · walk_at "ev"
    apply Tv.rSeqR
    · walk_at "ev"
    · rfl
end K67
namespace K67
open PySem PySem.Spec PyProof.Rows L2 Tv
local macro_rules | `(tactic| walk_at "lit") => `(tactic| first
  | with_reducible exact Tv.withD_mk | with_reducible exact Tv.D_mk
  | ((with_reducible apply Tv.putE); (repeat (with_reducible apply Tv.setSE)); with_reducible exact Tv.set0E)
  | ((with_reducible apply Tv.wipeS); repeat' (first | with_reducible exact Tv.set0E | with_reducible apply Tv.setSE | with_reducible apply Tv.wipeEC | with_reducible exact Tv.wipeE0)))
local macro_rules | `(tactic| walk_at "evb") => `(tactic| first
  | with_reducible assumption | exact decide_eq_true (by first | with_reducible assumption | omega) | exact decide_eq_false (by first | with_reducible assumption | omega) | exact Tv.notD (by first | with_reducible assumption | omega) | exact Tv.notD' (by first | with_reducible assumption | omega) | exact Tv.notTe (by with_reducible assumption) | exact Tv.notFe (by with_reducible assumption) | rfl
  | (simp only [decide_eq_true_eq, decide_eq_false_iff_not, T.isNon, Bool.not_true, Bool.not_false, beq_self_eq_true]; first | done | with_reducible assumption | omega))
local macro_rules | `(tactic| walk_at "evop") => `(tactic| first
  | with_reducible assumption | with_reducible exact Tv.cmpI | with_reducible exact Tv.addI | with_reducible exact Tv.subI | with_reducible exact Tv.ixT0 | with_reducible exact Tv.ixT1 | with_reducible exact Tv.ixT2 | with_reducible exact Tv.lenT | with_reducible exact Tv.lenL | with_reducible exact Tv.maxL2 | with_reducible exact Tv.minL2 | with_reducible exact Tv.isF | with_reducible exact Tv.isT
  | ((with_reducible apply Tv.mulI); first | with_reducible assumption | omega; first | with_reducible assumption | omega) | ((with_reducible apply Tv.fdvI); first | with_reducible assumption | omega; first | with_reducible assumption | omega) | ((with_reducible apply Tv.modI); first | with_reducible assumption | omega)
  | ((with_reducible apply Tv.ixL); assumption) | ((with_reducible apply Tv.mAppE); first | with_reducible assumption | omega | (simp only [List.length_map]; omega))
  | rfl)
local macro_rules | `(tactic| walk_at "ev1") => `(tactic| first
  | with_reducible apply Tv.eV | with_reducible apply Tv.eB | with_reducible apply Tv.eCons
  | ((with_reducible apply Tv.eVar); rfl) | ((with_reducible apply Tv.eVarO); rfl)
  | with_reducible apply Tv.eBin | with_reducible apply Tv.eDef | with_reducible apply Tv.eCall
  | with_reducible apply Tv.eSeq | with_reducible apply Tv.seqK_nx
  | with_reducible exact Tv.eNilS | with_reducible exact Tv.eRetN | with_reducible exact Tv.eK | with_reducible exact Tv.eNil | with_reducible exact Tv.tYes | with_reducible exact Tv.eONone
  | with_reducible exact Tv.seqK_rt | with_reducible exact Tv.seqK_bk | with_reducible exact Tv.seqK_ct
  | with_reducible exact Tv.retK_v | with_reducible exact Tv.retK_f | ((with_reducible apply Tv.retK_b); rfl)
  | with_reducible exact Tv.bK_v | with_reducible exact Tv.bK_f | with_reducible exact Tv.bK_b
  | with_reducible exact Tv.vK_v | with_reducible exact Tv.vK_f | ((with_reducible apply Tv.vK_b); rfl; walk_at "lit")
  | with_reducible exact Tv.trV | ((with_reducible apply Tv.trO); rfl) | with_reducible exact Tv.trs0 | with_reducible apply Tv.trsC
  | with_reducible exact Tv.defK_v | with_reducible exact Tv.defK_f | with_reducible exact Tv.gNlE
  | ((with_reducible apply Tv.setK_v); walk_at "lit") | ((with_reducible apply Tv.setK_f); walk_at "lit") | ((with_reducible apply Tv.setK_b); rfl; walk_at "lit"; walk_at "lit")
  | ((with_reducible apply Tv.gNmE); walk_at "lit") | with_reducible apply Tv.gCnE | ((with_reducible apply Tv.gTpE); rfl)
  | with_reducible apply Tv.eIf | with_reducible apply Tv.eVIf | with_reducible apply Tv.eRet | with_reducible apply Tv.eSet | with_reducible apply Tv.eDrop
  | ((with_reducible apply Tv.iteT); walk_at "evb") | ((with_reducible apply Tv.iteF); walk_at "evb")
  | with_reducible exact Tv.eOk
  | with_reducible apply Tv.eTup
  | with_reducible apply Tv.eLst | with_reducible apply Tv.eNeg | with_reducible apply Tv.eOInt | with_reducible apply Tv.eSl
  | with_reducible apply Tv.eAsT | with_reducible apply Tv.eTNot | with_reducible apply Tv.eTAnd | with_reducible apply Tv.eTOr | with_reducible apply Tv.eAnd | with_reducible apply Tv.eOr | with_reducible apply Tv.eNot
  | with_reducible exact Tv.notT | with_reducible exact Tv.notF | with_reducible exact Tv.notS
  | with_reducible apply Tv.eIsi | with_reducible apply Tv.eIsi2 | with_reducible apply Tv.eChain
  | ((with_reducible apply Tv.chT); walk_at "evb") | ((with_reducible apply Tv.chF); walk_at "evb")
  | with_reducible apply Tv.eAsg | with_reducible apply Tv.eFor | with_reducible apply Tv.eItE | with_reducible apply Tv.eItR1 | with_reducible apply Tv.eItZ
  | ((with_reducible apply Tv.eIsOw); rfl) | with_reducible apply Tv.eMut | with_reducible apply Tv.eSetIx | with_reducible apply Tv.eAug
  | with_reducible apply Tv.eProp | with_reducible apply Tv.eMake | with_reducible apply Tv.eFld | with_reducible apply Tv.eSetA | with_reducible apply Tv.eGet
  | walk_at "lit"
  | exact Nat.le_of_ble_eq_true rfl
  | walk_at "evop" | with_reducible apply Tv.andS | with_reducible apply Tv.chS | walk_at "evb" | omega
  )
local macro_rules | `(tactic| walk_at "ev") => `(tactic| repeat' (walk_at "ev1"))
open P67 (Tk Bx chg met nar narL ror full emp zmet lmet wid fit inB Sub60 Gs wishM aps fits outc isf Good)
def oT (e : Int × List Int) : T := .tup [.int e.1, .tup (e.2.map T.int)]
noncomputable abbrev ocGf : T → S → Option S := (gTp 2 (gCn (gNm 8) (gCn (gNm 9) (gNl))))
noncomputable abbrev ocBody : S → Out Fl := (fSeq (fAsg (gTp 2 (gCn (gNm 4) (gCn (gNm 5) (gNl)))) (fV (fDef 2 φ_met (aCons (fV (fBin opIx (fB (fVar 1)) (fB (fVar 8)))) (aCons (fV (fDef 3 φ_applying (aCons (fV (fVar 9)) (aCons (fV (fVar 2)) (aCons (fV (fVar 3)) (aNil)))))) (aNil)))))) (fSeq (fIf (asT (fBin opLe (fB (fVar 4)) (fB (fVar 5)))) (fDrop (isOw 6 (fMut 6 mApp (aCons (fV (fTup (aCons (fV (fBin opAdd (fB (fVar 3)) (fB (fDef 1 φ_change_of (aCons (fV (fVar 9)) (aNil)))))) (aCons (fV (fCall opTuple (aCons (fB (fBin opAdd (fB (fBin opAdd (fB (fSl (fB (fVar 7)) (oNone) (oInt (fVar 8)))) (fB (fLst (aCons (fV (fVar 4)) (aNil)))))) (fB (fSl (fB (fVar 7)) (oInt (fBin opAdd (fB (fVar 8)) (fB (fK (.int 1))))) (oNone))))) (aNil)))) (aNil))))) (aNil))))) (fNil)) (fSeq (fAsg (gTp 2 (gCn (gNm 4) (gCn (gNm 5) (gNl)))) (fV (fDef 2 φ_met (aCons (fV (fBin opIx (fB (fVar 1)) (fB (fVar 8)))) (aCons (fV (fDef 3 φ_idle (aCons (fV (fVar 9)) (aCons (fV (fVar 2)) (aCons (fV (fVar 3)) (aNil)))))) (aNil)))))) (fSeq (fIf (asT (fBin opGt (fB (fVar 4)) (fB (fVar 5)))) (fRet (fVar 6)) (fNil)) (fSetIx 7 (fV (fVar 4)) (fVar 8))))))
noncomputable abbrev ocEnd : S → Out Fl := (fRet (fBin opAdd (fB (fVar 6)) (fB (fLst (aCons (fV (fTup (aCons (fV (fVar 3)) (aCons (fV (fCall opTuple (aCons (fB (fVar 7)) (aNil)))) (aNil))))) (aNil))))))
theorem addL {a b : List T} (h : a.length + b.length ≤ 16777216) : opAdd (.lst a) (.lst b) = some (.frs (.lst (a ++ b))) := if_pos h
theorem ocLoop {p q k : Int} {c0 : Sl} {D : Dr} (h : LdOk p q k) : ∀ (suf : List Sh) (done rest : Bx) (pre : List Int) (acc : List (Int × List Int)) (b4 b5 b8 b9 : Sl), done.length = pre.length → rest.length = suf.length → pre.length + suf.length ≤ 1000 → acc.length + suf.length ≤ 1000 →
    resOf (fSeq (forL ocGf ocBody (enumT pre.length (suf.map shT))) ocEnd ⟨[c0, .sh (.lst ((done ++ rest).map prT)), .sh (.tup [.int p, .int q]), .sh (.int k), b4, b5, .ow (.lst (acc.map oT)), .ow (.lst ((pre ++ rest.map (·.1)).map T.int)), b8, b9], D⟩)
      = .ok (.lst ((acc ++ outc p q k pre suf rest).map oT)) true D
  | [], done, rest, pre, acc, b4, b5, b8, b9, h1, h2, h3, h4 => by
    have hr : rest = [] := List.eq_nil_of_length_eq_zero h2
    subst hr
    simp only [List.length_nil, Nat.add_zero] at h3 h4
    have e1 : outc p q k pre [] [] = [(k, pre)] := by simp [outc]
    have e2 : opAdd (.lst (acc.map oT)) (.lst [.tup [.int k, .tup (pre.map T.int)]]) = some (.frs (.lst (acc.map oT ++ [.tup [.int k, .tup (pre.map T.int)]]))) := addL (by simp; omega)
    rw [e1]
    simp only [List.map_nil, List.append_nil]
    apply Tv.rFor0
    apply Tv.eRes
    · walk_at "ev"
    · rw [List.map_append]; rfl
    · rfl
  | s :: suf, done, [], pre, acc, b4, b5, b8, b9, h1, h2, h3, h4 => by simp at h2
  | s :: suf, done, x :: rest, pre, acc, b4, b5, b8, b9, h1, h2, h3, h4 => by
    simp only [List.length_cons] at h2 h3 h4
    have h2' : rest.length = suf.length := by omega
    have e2 := applying_ok (x := s) (D := D) h
    have e3 := idle_ok (x := s) (D := D) h
    have e4 : φ_met [prT x, prT (app s p q k)] D = .ok (.tup [.int (met x (app s p q k)).1, .int (met x (app s p q k)).2]) false D := met_ok (x := x) (y := app s p q k) (D := D)
    have e5 : φ_met [prT x, prT (P67.idl s p q k)] D = .ok (.tup [.int (met x (P67.idl s p q k)).1, .int (met x (P67.idl s p q k)).2]) false D := met_ok (x := x) (y := P67.idl s p q k) (D := D)
    have e6 := get_mid (f := prT) (rest := rest) (x := x) h1
    have e7 := change_ok (x := s) (D := D)
    have ho : outc p q k pre (s :: suf) (x :: rest) = (if (met x (app s p q k)).1 ≤ (met x (app s p q k)).2 then [(k + chg s, pre ++ (met x (app s p q k)).1 :: rest.map (·.1))] else []) ++
      (if (met x (P67.idl s p q k)).1 > (met x (P67.idl s p q k)).2 then [] else outc p q k (pre ++ [(met x (P67.idl s p q k)).1]) suf rest) := by
      rw [outc]; rfl
    have hm : (x :: rest).map (·.1) = x.1 :: rest.map (·.1) := rfl
    rw [ho, hm]
    clear ho hm
    generalize (met x (app s p q k)).1 = lo1 at *
    generalize (met x (app s p q k)).2 = hi1 at *
    generalize (met x (P67.idl s p q k)).1 = lo2 at *
    generalize (met x (P67.idl s p q k)).2 = hi2 at *
    have s1 : opSl none (some ((pre.length : Nat) : Int)) (.lst ((pre ++ x.1 :: rest.map (·.1)).map T.int)) = some (.frs (.lst (pre.map T.int))) := by
      show some (R.frs (.lst (cutT _ _ _))) = _
      rw [cutTake (by simp), ← List.map_take, List.take_left]
    have s2 : opSl (some (((pre.length : Nat) : Int) + 1)) none (.lst ((pre ++ x.1 :: rest.map (·.1)).map T.int)) = some (.frs (.lst ((rest.map (·.1)).map T.int))) := by
      show some (R.frs (.lst (cutT _ _ _))) = _
      have : ((pre.length : Nat) : Int) + 1 = ((pre.length + 1 : Nat) : Int) := by omega
      rw [this, cutDrop (by simp), ← List.map_drop]
      have : (pre ++ x.1 :: rest.map (·.1)).drop (pre.length + 1) = rest.map (·.1) := by
        rw [List.drop_append]; simp
      rw [this]
    have s3 := addL (a := pre.map T.int) (b := [T.int lo1]) (by simp; omega)
    have s4 := addL (a := pre.map T.int ++ [T.int lo1]) (b := (rest.map (·.1)).map T.int) (by simp; omega)
    have s5 := set_mid (f := T.int) (done := pre) (rest := rest.map (·.1)) (x := x.1) (y := lo2) rfl
    have s6 := ixN_mid (f := T.int) (done := pre) (rest := rest.map (·.1)) (x := x.1) rfl
    have hE : ((acc ++ [(k + chg s, pre ++ lo1 :: rest.map (·.1))]).map oT) = acc.map oT ++ [.tup [.int (k + chg s), .tup (pre.map T.int ++ [T.int lo1] ++ (rest.map (·.1)).map T.int)]] := by simp [oT]
    show resOf (fSeq (forL ocGf ocBody (.tup [.int (pre.length : Nat), shT s] :: enumT (pre.length + 1) (suf.map shT))) _ _) = _
    by_cases t2 : lo2 > hi2
    · rw [if_pos t2]
      by_cases t1 : lo1 ≤ hi1
      · rw [if_pos t1, List.append_nil, hE]
        apply Tv.rForR
        · walk_at "ev"
        · walk_at "ev"
        · rfl
      · rw [if_neg t1, List.append_nil, List.append_nil]
        apply Tv.rForR
        · walk_at "ev"
        · walk_at "ev"
        · rfl
    · rw [if_neg t2]
      by_cases t1 : lo1 ≤ hi1
      · have ih := ocLoop (c0 := c0) (D := D) h suf (done ++ [x]) rest (pre ++ [lo2]) (acc ++ [(k + chg s, pre ++ lo1 :: rest.map (·.1))]) (.sh (.int lo2)) (.sh (.int hi2)) (.sh (.int (pre.length : Nat))) (.sh (shT s)) (by simp [h1]) h2' (by simp; omega) (by simp; omega)
        rw [if_pos t1, ← List.append_assoc, ← ih, hE, ← s5]
        have : done ++ [x] ++ rest = done ++ x :: rest := by simp
        rw [this, List.length_append]
        apply Tv.rForN
        · walk_at "ev"
        · walk_at "ev"
        · rfl
      · have ih := ocLoop (c0 := c0) (D := D) h suf (done ++ [x]) rest (pre ++ [lo2]) acc (.sh (.int lo2)) (.sh (.int hi2)) (.sh (.int (pre.length : Nat))) (.sh (shT s)) (by simp [h1]) h2' (by simp; omega) (by omega)
        rw [if_neg t1, List.nil_append, ← ih, ← s5]
        have : done ++ [x] ++ rest = done ++ x :: rest := by simp
        rw [this, List.length_append]
        apply Tv.rForN
        · walk_at "ev"
        · walk_at "ev"
        · rfl
end K67
namespace K67
open PySem PySem.Spec PyProof.Rows L2 Tv
local macro_rules | `(tactic| walk_at "lit") => `(tactic| first
  | with_reducible exact Tv.withD_mk | with_reducible exact Tv.D_mk
  | ((with_reducible apply Tv.putE); (repeat (with_reducible apply Tv.setSE)); with_reducible exact Tv.set0E)
  | ((with_reducible apply Tv.wipeS); repeat' (first | with_reducible exact Tv.set0E | with_reducible apply Tv.setSE | with_reducible apply Tv.wipeEC | with_reducible exact Tv.wipeE0)))
local macro_rules | `(tactic| walk_at "evb") => `(tactic| first
  | with_reducible assumption | exact decide_eq_true (by first | with_reducible assumption | omega) | exact decide_eq_false (by first | with_reducible assumption | omega) | exact Tv.notD (by first | with_reducible assumption | omega) | exact Tv.notD' (by first | with_reducible assumption | omega) | exact Tv.notTe (by with_reducible assumption) | exact Tv.notFe (by with_reducible assumption) | rfl
  | (simp only [decide_eq_true_eq, decide_eq_false_iff_not, T.isNon, Bool.not_true, Bool.not_false, beq_self_eq_true]; first | done | with_reducible assumption | omega))
local macro_rules | `(tactic| walk_at "evop") => `(tactic| first
  | with_reducible assumption | with_reducible exact Tv.cmpI | with_reducible exact Tv.addI | with_reducible exact Tv.subI | with_reducible exact Tv.ixT0 | with_reducible exact Tv.ixT1 | with_reducible exact Tv.ixT2 | with_reducible exact Tv.lenT | with_reducible exact Tv.lenL | with_reducible exact Tv.maxL2 | with_reducible exact Tv.minL2 | with_reducible exact Tv.isF | with_reducible exact Tv.isT
  | ((with_reducible apply Tv.mulI); first | with_reducible assumption | omega; first | with_reducible assumption | omega) | ((with_reducible apply Tv.fdvI); first | with_reducible assumption | omega; first | with_reducible assumption | omega) | ((with_reducible apply Tv.modI); first | with_reducible assumption | omega)
  | ((with_reducible apply Tv.ixL); assumption) | ((with_reducible apply Tv.mAppE); first | with_reducible assumption | omega | (simp only [List.length_map]; omega))
  | rfl)
local macro_rules | `(tactic| walk_at "ev1") => `(tactic| first
  | with_reducible apply Tv.eV | with_reducible apply Tv.eB | with_reducible apply Tv.eCons
  | ((with_reducible apply Tv.eVar); rfl) | ((with_reducible apply Tv.eVarO); rfl)
  | with_reducible apply Tv.eBin | with_reducible apply Tv.eDef | with_reducible apply Tv.eCall
  | with_reducible apply Tv.eSeq | with_reducible apply Tv.seqK_nx
  | with_reducible exact Tv.eNilS | with_reducible exact Tv.eRetN | with_reducible exact Tv.eK | with_reducible exact Tv.eNil | with_reducible exact Tv.tYes | with_reducible exact Tv.eONone
  | with_reducible exact Tv.seqK_rt | with_reducible exact Tv.seqK_bk | with_reducible exact Tv.seqK_ct
  | with_reducible exact Tv.retK_v | with_reducible exact Tv.retK_f | ((with_reducible apply Tv.retK_b); rfl)
  | with_reducible exact Tv.bK_v | with_reducible exact Tv.bK_f | with_reducible exact Tv.bK_b
  | with_reducible exact Tv.vK_v | with_reducible exact Tv.vK_f | ((with_reducible apply Tv.vK_b); rfl; walk_at "lit")
  | with_reducible exact Tv.trV | ((with_reducible apply Tv.trO); rfl) | with_reducible exact Tv.trs0 | with_reducible apply Tv.trsC
  | with_reducible exact Tv.defK_v | with_reducible exact Tv.defK_f | with_reducible exact Tv.gNlE
  | ((with_reducible apply Tv.setK_v); walk_at "lit") | ((with_reducible apply Tv.setK_f); walk_at "lit") | ((with_reducible apply Tv.setK_b); rfl; walk_at "lit"; walk_at "lit")
  | ((with_reducible apply Tv.gNmE); walk_at "lit") | with_reducible apply Tv.gCnE | ((with_reducible apply Tv.gTpE); rfl)
  | with_reducible apply Tv.eIf | with_reducible apply Tv.eVIf | with_reducible apply Tv.eRet | with_reducible apply Tv.eSet | with_reducible apply Tv.eDrop
  | ((with_reducible apply Tv.iteT); walk_at "evb") | ((with_reducible apply Tv.iteF); walk_at "evb")
  | with_reducible exact Tv.eOk
  | with_reducible apply Tv.eTup
  | with_reducible apply Tv.eLst | with_reducible apply Tv.eNeg | with_reducible apply Tv.eOInt | with_reducible apply Tv.eSl
  | with_reducible apply Tv.eAsT | with_reducible apply Tv.eTNot | with_reducible apply Tv.eTAnd | with_reducible apply Tv.eTOr | with_reducible apply Tv.eAnd | with_reducible apply Tv.eOr | with_reducible apply Tv.eNot
  | with_reducible exact Tv.notT | with_reducible exact Tv.notF | with_reducible exact Tv.notS
  | with_reducible apply Tv.eIsi | with_reducible apply Tv.eIsi2 | with_reducible apply Tv.eChain
  | ((with_reducible apply Tv.chT); walk_at "evb") | ((with_reducible apply Tv.chF); walk_at "evb")
  | with_reducible apply Tv.eAsg | with_reducible apply Tv.eFor | with_reducible apply Tv.eItE | with_reducible apply Tv.eItR1 | with_reducible apply Tv.eItZ
  | ((with_reducible apply Tv.eIsOw); rfl) | with_reducible apply Tv.eMut | with_reducible apply Tv.eSetIx | with_reducible apply Tv.eAug
  | with_reducible apply Tv.eProp | with_reducible apply Tv.eMake | with_reducible apply Tv.eFld | with_reducible apply Tv.eSetA | with_reducible apply Tv.eGet
  | walk_at "lit"
  | exact Nat.le_of_ble_eq_true rfl
  | walk_at "evop" | with_reducible apply Tv.andS | with_reducible apply Tv.chS | walk_at "evb" | omega
  )
local macro_rules | `(tactic| walk_at "ev") => `(tactic| repeat' (walk_at "ev1"))
open P67 (Tk Bx chg met nar narL ror full emp zmet lmet wid fit inB Sub60 Gs wishM aps fits outc isf Good)
theorem outcomes_ok {ss : List Sh} {b : Bx} {p q k : Int} {D : Dr} (h : LdOk p q k) (hl : b.length = ss.length) (h4 : ss.length ≤ 4) : φ_outcomes [.lst (ss.map shT), .lst (b.map prT), .tup [.int p, .int q], .int k] D = .ok (.lst ((outc p q k [] ss b).map oT)) true D := by
  show resOf (f_outcomes ⟨[.sh (.lst (ss.map shT)), .sh (.lst (b.map prT)), .sh (.tup [.int p, .int q]), .sh (.int k), .no, .no, .no, .no, .no, .no], D⟩) = _
  unfold f_outcomes
  apply Tv.rSeq
  · apply Tv.eParF
    · walk_at "ev"
    · apply Tv.eLcA (l := b) prT (fun x => .int x.1)
      · apply Tv.eItS
        walk_at "ev"
      · rfl
      · rfl
      · walk_at "lit"
      · omega
      · intro a ha
        apply Tv.lcTnA
        · apply Tv.gTpE
          · rfl
          · walk_at "ev"
        · walk_at "ev"
        · rfl
      · rfl
    · walk_at "lit"
    · walk_at "lit"
  apply Tv.rFor
  · walk_at "ev"
  have e := ocLoop (c0 := .sh (.lst (ss.map shT))) (D := D) h ss [] b [] [] .no .no .no .no rfl hl (by simp; omega) (by simp; omega)
  simp only [List.nil_append, List.map_map] at e
  exact e
theorem ixLc0 {a : T} {l : List T} : opIx (.lst (a :: l)) (.int 0) = some (.val a) := by
  show (atI (a :: l) 0).map R.val = _
  unfold atI ixN
  rw [if_pos (Int.le_refl 0), if_pos (by simp only [List.length_cons]; omega)]; rfl
theorem ixLc1 {a b : T} {l : List T} : opIx (.lst (a :: b :: l)) (.int 1) = some (.val b) := by
  show (atI (a :: b :: l) 1).map R.val = _
  unfold atI ixN
  rw [if_pos (by decide), if_pos (by simp only [List.length_cons]; omega)]; rfl
def sureR (D : Dr) : List (Int × List Int) → Res
  | [e] => .ok (.tup [.str "sure", .int e.1]) false D
  | e :: f :: _ => .ok (.tup [.str "open", .tup (e.2.map T.int), .tup (f.2.map T.int)]) false D
  | [] => .bad
theorem sure_ok {ss : List Sh} {ts : List Tk} {t : Tk} {D : Dr} (h : SsOk ss) (ht : ∀ t ∈ ts, TkOk t) (h1 : TkOk t) : φ_sure [.lst (ss.map shT), .lst (ts.map tkT), .tup [.int t.p, .int t.q], .int t.k] D = match ror ss ts (full ss) 0 with
    | .inl b => sureR D (outc t.p t.q t.k [] ss b)
    | .inr i => .exc ⟨7, [("at", .int (i : Nat))]⟩ D := by
  obtain ⟨p, q, k, w⟩ := t
  dsimp only
  have e1 := neededr_ok (D := D) h ht
  have e2 := needshapes_ok (D := D) h.sh h.l4 h.l1
  have e3 := needseen_ok (D := D) ht
  have e4 := isload_ok (D := D) h1.fr
  have e5 := isint_ok (i := k) (D := D)
  have k1 : 1 ≤ k := h1.k1
  have k8 : k ≤ 8 := h1.k8
  dsimp only at e4
  show resOf (f_sure ⟨[.sh (.lst (ss.map shT)), .sh (.lst (ts.map tkT)), .sh (.tup [.int p, .int q]), .sh (.int k), .no], D⟩) = _
  unfold f_sure
  apply Tv.rSeq
  · walk_at "ev"
  apply Tv.rSeq
  · walk_at "ev"
  apply Tv.rSeq
  · walk_at "ev"
  apply Tv.rSeq
  · walk_at "ev"
  cases hr : ror ss ts (full ss) 0 with
  | inr i =>
    rw [hr] at e1
    unfold rngR at e1
    dsimp only at e1 ⊢
    apply Tv.rSeqX
    · apply Tv.eSetX
      apply Tv.eDefA
      apply Tv.eConsX2
      · walk_at "ev"
      apply Tv.eConsX
      apply Tv.eVX
      apply Tv.eDefX
      · walk_at "ev"
      · rfl
      · walk_at "lit"
      · exact e1
      · walk_at "lit"
    · rfl
  | inl b =>
    rw [hr] at e1
    unfold rngR at e1
    obtain ⟨b1, b2, b3⟩ := ror_facts h ht hr
    have e6 := outcomes_ok (D := D) h1.ld b1 h.l4
    have ne := P67.out_ne (gs_of h.sh) (fun t hm => (ht t hm).tok) (p := p) h1.tok.q hr
    dsimp only at e1 e6 ne ⊢
    apply Tv.rSeq
    · walk_at "ev"
    generalize outc p q k [] ss b = o at ne ⊢
    match o, ne with
    | [e], _ =>
      have e7 := ixLc0 (a := oT e) (l := [])
      have e8 : opIx (oT e) (.int 0) = some (.val (.int e.1)) := ixT0
      have e9 := eq_int 1 1
      unfold sureR
      apply Tv.rSeqR
      · walk_at "ev"
      · rfl
    | e :: f :: o, _ =>
      have e7 := ixLc0 (a := oT e) (l := oT f :: o.map oT)
      have e8 : opIx (oT e) (.int 1) = some (.val (.tup (e.2.map T.int))) := ixT1
      have e9 := ixLc1 (a := oT e) (b := oT f) (l := o.map oT)
      have e10 : opIx (oT f) (.int 1) = some (.val (.tup (f.2.map T.int))) := ixT1
      have e11 : opLen [.lst ((e :: f :: o).map oT)] = some (.val (.int ((o.length + 2 : Nat)))) := by rw [lenL, List.length_map]; rfl
      have e12 := eq_int ((o.length + 2 : Nat)) 1
      have hne : ¬ ((o.length + 2 : Nat) : Int) = 1 := by omega
      unfold sureR
      simp only [List.map_cons] at e11 ⊢
      apply Tv.rSeq
      · walk_at "ev"
      apply Tv.eRes
      · walk_at "ev"
      · rfl
      · rfl
end K67
namespace K67
open PySem PySem.Spec PyProof.Rows L2 Tv
local macro_rules | `(tactic| walk_at "lit") => `(tactic| first
  | with_reducible exact Tv.withD_mk | with_reducible exact Tv.D_mk
  | ((with_reducible apply Tv.putE); (repeat (with_reducible apply Tv.setSE)); with_reducible exact Tv.set0E)
  | ((with_reducible apply Tv.wipeS); repeat' (first | with_reducible exact Tv.set0E | with_reducible apply Tv.setSE | with_reducible apply Tv.wipeEC | with_reducible exact Tv.wipeE0)))
local macro_rules | `(tactic| walk_at "evb") => `(tactic| first
  | with_reducible assumption | exact decide_eq_true (by first | with_reducible assumption | omega) | exact decide_eq_false (by first | with_reducible assumption | omega) | exact Tv.notD (by first | with_reducible assumption | omega) | exact Tv.notD' (by first | with_reducible assumption | omega) | exact Tv.notTe (by with_reducible assumption) | exact Tv.notFe (by with_reducible assumption) | rfl
  | (simp only [decide_eq_true_eq, decide_eq_false_iff_not, T.isNon, Bool.not_true, Bool.not_false, beq_self_eq_true]; first | done | with_reducible assumption | omega))
local macro_rules | `(tactic| walk_at "evop") => `(tactic| first
  | with_reducible assumption | with_reducible exact Tv.cmpI | with_reducible exact Tv.addI | with_reducible exact Tv.subI | with_reducible exact Tv.ixT0 | with_reducible exact Tv.ixT1 | with_reducible exact Tv.ixT2 | with_reducible exact Tv.lenT | with_reducible exact Tv.lenL | with_reducible exact Tv.maxL2 | with_reducible exact Tv.minL2 | with_reducible exact Tv.isF | with_reducible exact Tv.isT
  | ((with_reducible apply Tv.mulI); first | with_reducible assumption | omega; first | with_reducible assumption | omega) | ((with_reducible apply Tv.fdvI); first | with_reducible assumption | omega; first | with_reducible assumption | omega) | ((with_reducible apply Tv.modI); first | with_reducible assumption | omega)
  | ((with_reducible apply Tv.ixL); assumption) | ((with_reducible apply Tv.mAppE); first | with_reducible assumption | omega | (simp only [List.length_map]; omega))
  | rfl)
local macro_rules | `(tactic| walk_at "ev1") => `(tactic| first
  | with_reducible apply Tv.eV | with_reducible apply Tv.eB | with_reducible apply Tv.eCons
  | ((with_reducible apply Tv.eVar); rfl) | ((with_reducible apply Tv.eVarO); rfl)
  | with_reducible apply Tv.eBin | with_reducible apply Tv.eDef | with_reducible apply Tv.eCall
  | with_reducible apply Tv.eSeq | with_reducible apply Tv.seqK_nx
  | with_reducible exact Tv.eNilS | with_reducible exact Tv.eRetN | with_reducible exact Tv.eK | with_reducible exact Tv.eNil | with_reducible exact Tv.tYes | with_reducible exact Tv.eONone
  | with_reducible exact Tv.seqK_rt | with_reducible exact Tv.seqK_bk | with_reducible exact Tv.seqK_ct
  | with_reducible exact Tv.retK_v | with_reducible exact Tv.retK_f | ((with_reducible apply Tv.retK_b); rfl)
  | with_reducible exact Tv.bK_v | with_reducible exact Tv.bK_f | with_reducible exact Tv.bK_b
  | with_reducible exact Tv.vK_v | with_reducible exact Tv.vK_f | ((with_reducible apply Tv.vK_b); rfl; walk_at "lit")
  | with_reducible exact Tv.trV | ((with_reducible apply Tv.trO); rfl) | with_reducible exact Tv.trs0 | with_reducible apply Tv.trsC
  | with_reducible exact Tv.defK_v | with_reducible exact Tv.defK_f | with_reducible exact Tv.gNlE
  | ((with_reducible apply Tv.setK_v); walk_at "lit") | ((with_reducible apply Tv.setK_f); walk_at "lit") | ((with_reducible apply Tv.setK_b); rfl; walk_at "lit"; walk_at "lit")
  | ((with_reducible apply Tv.gNmE); walk_at "lit") | with_reducible apply Tv.gCnE | ((with_reducible apply Tv.gTpE); rfl)
  | with_reducible apply Tv.eIf | with_reducible apply Tv.eVIf | with_reducible apply Tv.eRet | with_reducible apply Tv.eSet | with_reducible apply Tv.eDrop
  | ((with_reducible apply Tv.iteT); walk_at "evb") | ((with_reducible apply Tv.iteF); walk_at "evb")
  | with_reducible exact Tv.eOk
  | with_reducible apply Tv.eTup
  | with_reducible apply Tv.eLst | with_reducible apply Tv.eNeg | with_reducible apply Tv.eOInt | with_reducible apply Tv.eSl
  | with_reducible apply Tv.eAsT | with_reducible apply Tv.eTNot | with_reducible apply Tv.eTAnd | with_reducible apply Tv.eTOr | with_reducible apply Tv.eAnd | with_reducible apply Tv.eOr | with_reducible apply Tv.eNot
  | with_reducible exact Tv.notT | with_reducible exact Tv.notF | with_reducible exact Tv.notS
  | with_reducible apply Tv.eIsi | with_reducible apply Tv.eIsi2 | with_reducible apply Tv.eChain
  | ((with_reducible apply Tv.chT); walk_at "evb") | ((with_reducible apply Tv.chF); walk_at "evb")
  | with_reducible apply Tv.eAsg | with_reducible apply Tv.eFor | with_reducible apply Tv.eItE | with_reducible apply Tv.eItR1 | with_reducible apply Tv.eItZ
  | ((with_reducible apply Tv.eIsOw); rfl) | with_reducible apply Tv.eMut | with_reducible apply Tv.eSetIx | with_reducible apply Tv.eAug
  | with_reducible apply Tv.eProp | with_reducible apply Tv.eMake | with_reducible apply Tv.eFld | with_reducible apply Tv.eSetA | with_reducible apply Tv.eGet
  | walk_at "lit"
  | exact Nat.le_of_ble_eq_true rfl
  | walk_at "evop" | with_reducible apply Tv.andS | with_reducible apply Tv.chS | walk_at "evb" | omega
  )
local macro_rules | `(tactic| walk_at "ev") => `(tactic| repeat' (walk_at "ev1"))
open P67 (Tk Bx chg met nar narL ror full emp zmet lmet wid fit inB Sub60 Gs wishM aps fits outc isf Good)
theorem iSeq {f k : S → Out Fl} {s s1 : S} {r : Res} (h1 : f s = .ok .nx s1) (h2 : resI (k s1) = r) : resI (fSeq f k s) = r := by
  rw [← h2]; unfold fSeq; rw [h1]; rfl
theorem iEnd {f : S → Out Fl} {s s1 : S} {i : Nat} {fs : List (Str × T)} {D : Dr} (h1 : f s = .ok .nx s1) (h2 : s1.env[0]? = some (.ow (.obj i fs))) (h3 : s1.D = D) : resI (f s) = .ok (.obj i fs) false D := by
  subst h3; unfold resI; rw [h1]; dsimp only; rw [h2]
theorem between_ok {i lo hi : Int} {D : Dr} (h1 : lo ≤ i) (h2 : i ≤ hi) : φ_is_between [.int i, .int lo, .int hi] D = .ok (.bl true) false D := by
  have e1 := isint_ok (i := i) (D := D)
  show resOf (f_is_between ⟨[.sh (.int i), .sh (.int lo), .sh (.int hi)], D⟩) = _
  unfold f_is_between
  apply Tv.eRes
  · walk_at "ev"
  · rw [decide_eq_true h2]
  · rfl
theorem limitN_ok {D : Dr} : φ_is_limit [.non] D = .ok (.bl true) false D := by
  show resOf (f_is_limit ⟨[.sh .non], D⟩) = _
  unfold f_is_limit
  apply Tv.eRes
  · walk_at "ev"
  · rfl
  · rfl
theorem needlim_ok {D : Dr} : φ_need_limits [.non, .non, .int 1, .int 1] D = .ok .non false D := by
  have e1 := limitN_ok (D := D)
  have e2 := between_ok (D := D) (i := 1) (lo := 1) (hi := 3) (by decide) (by decide)
  show resOf (f_need_limits ⟨[.sh .non, .sh .non, .sh (.int 1), .sh (.int 1)], D⟩) = _
  unfold f_need_limits
  apply Tv.rSeq
  · walk_at "ev"
  apply Tv.rSeq
  · walk_at "ev"
  apply Tv.rSeq
  · walk_at "ev"
  apply Tv.eRes0
  · walk_at "ev"
  · rfl
def partT (x : Sh × Int) : T := .tup [.str (kind x.1.1), .int x.2, .int x.1.2]
structure PaOk (x : Sh × Int) : Prop where
  s : x.1.2 ∈ ([1, 2, 3, 8] : List Int)
  m : 1 ≤ x.2 ∧ x.2 ≤ 60
theorem shp_kind (b : Bool) : shp (.str (kind b)) = true := by
  unfold shp SeqAt.shaped
  simp only [pl, toD, strOk_kind, PyData.depth, Bool.true_and, decide_eq_true_eq]; omega
theorem eq_str (a b : Str) (h1 : shp (.str a) = true) (h2 : shp (.str b) = true) : opEq false (.str a) (.str b) = some (.val (.bl (a == b))) := by
  unfold opEq
  rw [if_pos ⟨h1, h2⟩]
  simp only [toD, PyData.eqv, Bool.false_eq_true, if_false]
theorem ne_str (a b : Str) (h1 : shp (.str a) = true) (h2 : shp (.str b) = true) : opEq true (.str a) (.str b) = some (.val (.bl (!(a == b)))) := by
  unfold opEq
  rw [if_pos ⟨h1, h2⟩]
  simp only [toD, PyData.eqv, if_true]
theorem shp_lit (a : Str) (h : PyData.canLay0 (.str a) = true) : shp (.str a) = true := by
  unfold shp SeqAt.shaped
  simp only [pl, toD, h, PyData.depth, Bool.true_and, decide_eq_true_eq]; omega
theorem aim_kind (b : Bool) : opEq false (.str (kind b)) (.str "aim") = some (.val (.bl false)) := by
  have e : (kind b == ("aim" : Str)) = false := by cases b <;> decide +kernel
  rw [eq_str _ _ (shp_kind b) (shp_lit _ (by decide +kernel)), e]
theorem under_kind (b : Bool) : opEq false (.str (kind b)) (.str "under") = some (.val (.bl (!b))) := by
  have e : (kind b == ("under" : Str)) = !b := by cases b <;> decide +kernel
  rw [eq_str _ _ (shp_kind b) (shp_lit _ (by decide +kernel)), e]
theorem shp_part (x : Sh × Int) : shp (partT x) = true := by
  have h : PyData.canLay0 (.str (kind x.1.1)) = true := strOk_kind _
  unfold shp SeqAt.shaped partT
  simp only [pl, pls, toD, toDs, PyData.canLay0, PyData.canLayAll0, PyData.depth, PyData.depthAll, Bool.and_true, Bool.true_and] at h ⊢
  rw [h]
  simp
theorem shp_nilT : shp (.tup []) = true := by decide +kernel
theorem eq_part (x : Sh × Int) : opEq false (partT x) (.tup []) = some (.val (.bl false)) := by
  unfold opEq
  rw [if_pos ⟨shp_part x, shp_nilT⟩]
  simp only [partT, toD, toDs, PyData.eqv, PyData.eqvAll, Bool.false_eq_true, if_false]
theorem sizes_kind (b : Bool) : List.lookup (kind b) T_SIZES = some (.int 3) := by
  cases b
  · rfl
  · rfl
theorem ispart_ok {x : Sh × Int} {D : Dr} (h : PaOk x) : φ_is_part [partT x] D = .ok (.bl true) false D := by
  have h0 := eq_part x
  obtain ⟨⟨b, c⟩, m⟩ := x
  have h1 := h.m.1
  have h2 := h.m.2
  have h3 : 1 ≤ c ∧ c ≤ 8 := by
    have := h.s
    simp only [List.mem_cons, List.not_mem_nil, or_false] at this
    omega
  obtain ⟨h3, h4⟩ := h3
  have h5 := aim_kind b
  have h6 := sizes_kind b
  have h7 := ne_int 3 3
  have h8 := allE (fun _ : Int => true) [m, c]
  unfold partT at h0
  dsimp only at h0 h1 h2
  show resOf (f_is_part ⟨[.sh (.tup [.str (kind b), .int m, .int c]), .no], D⟩) = _
  unfold f_is_part
  have cmp : fLc (itS (fV (fSl (fB (fVar 0)) (oInt (fK (.int 1))) (oNone)))) [1] (gNm 1) (tYesF) (fV (fDef 3 φ_is_between (aCons (fV (fVar 1)) (aCons (fV (fK (.int 1))) (aCons (fV (fK (.int 60))) (aNil)))))) ⟨[.sh (.tup [.str (kind b), .int m, .int c]), .no], D⟩ = .ok (.frs (.lst ([m, c].map fun _ => T.bl true))) ⟨[.sh (.tup [.str (kind b), .int m, .int c]), .no], D⟩ := by
    apply Tv.eLcA (l := [m, c]) T.int (fun _ => T.bl true)
    · apply Tv.eItSt
      walk_at "ev"
    · rfl
    · rfl
    · walk_at "lit"
    · exact Nat.le_of_ble_eq_true rfl
    · intro a ha
      have e2 := between_ok (D := D) (i := a) (lo := 1) (hi := 60) (by simp at ha; omega) (by simp at ha; omega)
      apply Tv.lcTnA
      · walk_at "ev"
      · walk_at "ev"
      · rfl
    · rfl
  apply Tv.rSeq
  · walk_at "ev"
  apply Tv.rSeq
  · walk_at "ev"
  apply Tv.rSeq
  · walk_at "ev"
  apply Tv.eRes
  · walk_at "ev"
  · rw [decide_eq_true h4]
  · rfl
theorem areparts_ok {ps : List (Sh × Int)} {D : Dr} (h : ∀ x ∈ ps, PaOk x) (hl : ps.length ≤ 4) : φ_are_parts [.lst (ps.map partT)] D = .ok (.bl true) false D := by
  have e1 : opLen [.lst (ps.map partT)] = some (.val (.int (ps.length : Nat))) := by rw [lenL, List.length_map]
  have h1 : ((ps.length : Nat) : Int) ≤ 4 := by omega
  have e2 := allE (fun _ : Sh × Int => true) ps
  have e3 : (ps.all fun _ => true) = true := by simp
  rw [e3] at e2
  show resOf (f_are_parts ⟨[.sh (.lst (ps.map partT)), .no], D⟩) = _
  unfold f_are_parts
  have cmp : fLc (itS (fV (fVar 0))) [1] (gNm 1) (tYesF) (fV (fDef 1 φ_is_part (aCons (fV (fVar 1)) (aNil)))) ⟨[.sh (.lst (ps.map partT)), .no], D⟩ = .ok (.frs (.lst (ps.map fun _ => T.bl true))) ⟨[.sh (.lst (ps.map partT)), .no], D⟩ := by
    apply Tv.eLcA (l := ps) partT (fun _ => T.bl true)
    · apply Tv.eItS
      walk_at "ev"
    · rfl
    · rfl
    · walk_at "lit"
    · omega
    · intro a ha
      have e2 := ispart_ok (D := D) (h a ha)
      apply Tv.lcTnA
      · walk_at "ev"
      · walk_at "ev"
      · rfl
    · rfl
  apply Tv.eRes
  · walk_at "ev"
  · rfl
  · rfl
def ruT (ps : List (Sh × Int)) : T := .obj 8 [("r_parts", .tup (ps.map partT)), ("r_bounds", .tup [.int 1, .int 8]), ("r_limits", .tup [.non, .non, .int 1, .int 1])]
theorem rule_ok {ps : List (Sh × Int)} {D : Dr} (h : ∀ x ∈ ps, PaOk x) (hl : ps.length ≤ 4) : φ_Rule_init [.lst (ps.map partT), .int 1, .int 8, .non, .non, .int 1, .int 1] D = .ok (ruT ps) false D := by
  have e1 := areparts_ok (D := D) h hl
  have e2 := between_ok (D := D) (i := 1) (lo := 1) (hi := 8) (by decide) (by decide)
  have e3 := between_ok (D := D) (i := 8) (lo := 1) (hi := 8) (by decide) (by decide)
  have e4 := needlim_ok (D := D)
  show resI (f_Rule_init ⟨[.ow (.obj 8 []), .sh (.lst (ps.map partT)), .sh (.int 1), .sh (.int 8), .sh .non, .sh .non, .sh (.int 1), .sh (.int 1)], D⟩) = _
  unfold f_Rule_init
  apply iSeq
  · walk_at "ev"
  apply iSeq
  · walk_at "ev"
  apply iSeq
  · walk_at "ev"
  apply iSeq
  · walk_at "ev"
  apply iSeq
  · apply Tv.eSetA
    · walk_at "ev"
    · rfl
    · exact Nat.le_of_ble_eq_true rfl
    · walk_at "lit"
  apply iSeq
  · apply Tv.eSetA
    · walk_at "ev"
    · rfl
    · exact Nat.le_of_ble_eq_true rfl
    · walk_at "lit"
  apply iEnd
  · apply Tv.eSetA
    · walk_at "ev"
    · rfl
    · exact Nat.le_of_ble_eq_true rfl
    · walk_at "lit"
  · rfl
  · rfl
theorem ruparts_ok {ps : List (Sh × Int)} {D : Dr} : φ_Rule_parts [ruT ps] D = .ok (.tup (ps.map partT)) false D := by
  show resOf (f_Rule_parts ⟨[.sh (ruT ps)], D⟩) = _
  unfold f_Rule_parts
  apply Tv.eRes
  · walk_at "ev"
  · rfl
  · rfl
theorem made_ok {ss : List Sh} {ms : List Int} {D : Dr} (h : SsOk ss) (hm : ∀ m ∈ ms, 1 ≤ m ∧ m ≤ 60) : φ__law_made [.lst (ss.map shT), .tup (ms.map T.int)] D = .ok (ruT (ss.zip ms)) false D := by
  have hz : ∀ x ∈ ss.zip ms, PaOk x := fun x hx => ⟨h.sh.ks _ (List.of_mem_zip hx).1, hm _ (List.of_mem_zip hx).2⟩
  have hl : (ss.zip ms).length ≤ 4 := by rw [List.length_zip]; have := h.l4; omega
  have e1 := rule_ok (D := D) hz hl
  show resOf (f__law_made ⟨[.sh (.lst (ss.map shT)), .sh (.tup (ms.map T.int)), .no, .no], D⟩) = _
  unfold f__law_made
  have cmp : fLc (itZ2 (fV (fVar 0)) (fV (fVar 1))) [2, 3] (gTp 2 (gCn (gNm 2) (gCn (gNm 3) (gNl)))) (tYesF) (fV (fTup (aCons (fV (fBin opIx (fB (fVar 2)) (fB (fK (.int 0))))) (aCons (fV (fVar 3)) (aCons (fV (fBin opIx (fB (fVar 2)) (fB (fK (.int 1))))) (aNil))))))
     ⟨[.sh (.lst (ss.map shT)), .sh (.tup (ms.map T.int)), .no, .no], D⟩ = .ok (.frs (.lst ((ss.zip ms).map partT))) ⟨[.sh (.lst (ss.map shT)), .sh (.tup (ms.map T.int)), .no, .no], D⟩ := by
    apply Tv.eLcA (l := ss.zip ms) (fun x => .tup [shT x.1, .int x.2]) partT
    · apply Tv.eItZ
      · walk_at "ev"
      · walk_at "ev"
      · rfl
      · rfl
    · exact zipT_map shT T.int ss ms
    · rfl
    · walk_at "lit"
    · omega
    · intro a ha
      obtain ⟨⟨b, c⟩, m⟩ := a
      have e8 : opIx (shT (b, c)) (.int 0) = some (.val (.str (kind b))) := ixT0
      have e9 : opIx (shT (b, c)) (.int 1) = some (.val (.int c)) := ixT1
      apply Tv.lcTnA
      · walk_at "ev"
      · show _ = Out.ok (T.tup [T.str (kind b), T.int m, T.int c]) _
        walk_at "ev"
      · rfl
    · rfl
  apply Tv.eRes
  · apply Tv.eRet
    · apply Tv.eMake
      · walk_at "ev"
      · rfl
      · walk_at "lit"
      · exact e1
      · walk_at "lit"
    · walk_at "ev"
  · rfl
  · rfl
end K67
namespace K67
open PySem PySem.Spec PyProof.Rows L2 Tv
local macro_rules | `(tactic| walk_at "lit") => `(tactic| first
  | with_reducible exact Tv.withD_mk | with_reducible exact Tv.D_mk
  | ((with_reducible apply Tv.putE); (repeat (with_reducible apply Tv.setSE)); with_reducible exact Tv.set0E)
  | ((with_reducible apply Tv.wipeS); repeat' (first | with_reducible exact Tv.set0E | with_reducible apply Tv.setSE | with_reducible apply Tv.wipeEC | with_reducible exact Tv.wipeE0)))
local macro_rules | `(tactic| walk_at "evb") => `(tactic| first
  | with_reducible assumption | exact decide_eq_true (by first | with_reducible assumption | omega) | exact decide_eq_false (by first | with_reducible assumption | omega) | exact Tv.notD (by first | with_reducible assumption | omega) | exact Tv.notD' (by first | with_reducible assumption | omega) | exact Tv.notTe (by with_reducible assumption) | exact Tv.notFe (by with_reducible assumption) | rfl
  | (simp only [decide_eq_true_eq, decide_eq_false_iff_not, T.isNon, Bool.not_true, Bool.not_false, beq_self_eq_true]; first | done | with_reducible assumption | omega))
local macro_rules | `(tactic| walk_at "evop") => `(tactic| first
  | with_reducible assumption | with_reducible exact Tv.cmpI | with_reducible exact Tv.addI | with_reducible exact Tv.subI | with_reducible exact Tv.ixT0 | with_reducible exact Tv.ixT1 | with_reducible exact Tv.ixT2 | with_reducible exact Tv.lenT | with_reducible exact Tv.lenL | with_reducible exact Tv.maxL2 | with_reducible exact Tv.minL2 | with_reducible exact Tv.isF | with_reducible exact Tv.isT
  | ((with_reducible apply Tv.mulI); first | with_reducible assumption | omega; first | with_reducible assumption | omega) | ((with_reducible apply Tv.fdvI); first | with_reducible assumption | omega; first | with_reducible assumption | omega) | ((with_reducible apply Tv.modI); first | with_reducible assumption | omega)
  | ((with_reducible apply Tv.ixL); assumption) | ((with_reducible apply Tv.mAppE); first | with_reducible assumption | omega | (simp only [List.length_map]; omega))
  | rfl)
local macro_rules | `(tactic| walk_at "ev1") => `(tactic| first
  | with_reducible apply Tv.eV | with_reducible apply Tv.eB | with_reducible apply Tv.eCons
  | ((with_reducible apply Tv.eVar); rfl) | ((with_reducible apply Tv.eVarO); rfl)
  | with_reducible apply Tv.eBin | with_reducible apply Tv.eDef | with_reducible apply Tv.eCall
  | with_reducible apply Tv.eSeq | with_reducible apply Tv.seqK_nx
  | with_reducible exact Tv.eNilS | with_reducible exact Tv.eRetN | with_reducible exact Tv.eK | with_reducible exact Tv.eNil | with_reducible exact Tv.tYes | with_reducible exact Tv.eONone
  | with_reducible exact Tv.seqK_rt | with_reducible exact Tv.seqK_bk | with_reducible exact Tv.seqK_ct
  | with_reducible exact Tv.retK_v | with_reducible exact Tv.retK_f | ((with_reducible apply Tv.retK_b); rfl)
  | with_reducible exact Tv.bK_v | with_reducible exact Tv.bK_f | with_reducible exact Tv.bK_b
  | with_reducible exact Tv.vK_v | with_reducible exact Tv.vK_f | ((with_reducible apply Tv.vK_b); rfl; walk_at "lit")
  | with_reducible exact Tv.trV | ((with_reducible apply Tv.trO); rfl) | with_reducible exact Tv.trs0 | with_reducible apply Tv.trsC
  | with_reducible exact Tv.defK_v | with_reducible exact Tv.defK_f | with_reducible exact Tv.gNlE
  | ((with_reducible apply Tv.setK_v); walk_at "lit") | ((with_reducible apply Tv.setK_f); walk_at "lit") | ((with_reducible apply Tv.setK_b); rfl; walk_at "lit"; walk_at "lit")
  | ((with_reducible apply Tv.gNmE); walk_at "lit") | with_reducible apply Tv.gCnE | ((with_reducible apply Tv.gTpE); rfl)
  | with_reducible apply Tv.eIf | with_reducible apply Tv.eVIf | with_reducible apply Tv.eRet | with_reducible apply Tv.eSet | with_reducible apply Tv.eDrop
  | ((with_reducible apply Tv.iteT); walk_at "evb") | ((with_reducible apply Tv.iteF); walk_at "evb")
  | with_reducible exact Tv.eOk
  | with_reducible apply Tv.eTup
  | with_reducible apply Tv.eLst | with_reducible apply Tv.eNeg | with_reducible apply Tv.eOInt | with_reducible apply Tv.eSl
  | with_reducible apply Tv.eAsT | with_reducible apply Tv.eTNot | with_reducible apply Tv.eTAnd | with_reducible apply Tv.eTOr | with_reducible apply Tv.eAnd | with_reducible apply Tv.eOr | with_reducible apply Tv.eNot
  | with_reducible exact Tv.notT | with_reducible exact Tv.notF | with_reducible exact Tv.notS
  | with_reducible apply Tv.eIsi | with_reducible apply Tv.eIsi2 | with_reducible apply Tv.eChain
  | ((with_reducible apply Tv.chT); walk_at "evb") | ((with_reducible apply Tv.chF); walk_at "evb")
  | with_reducible apply Tv.eAsg | with_reducible apply Tv.eFor | with_reducible apply Tv.eItE | with_reducible apply Tv.eItR1 | with_reducible apply Tv.eItZ
  | ((with_reducible apply Tv.eIsOw); rfl) | with_reducible apply Tv.eMut | with_reducible apply Tv.eSetIx | with_reducible apply Tv.eAug
  | with_reducible apply Tv.eProp | with_reducible apply Tv.eMake | with_reducible apply Tv.eFld | with_reducible apply Tv.eSetA | with_reducible apply Tv.eGet
  | walk_at "lit"
  | exact Nat.le_of_ble_eq_true rfl
  | walk_at "evop" | with_reducible apply Tv.andS | with_reducible apply Tv.chS | walk_at "evb" | omega
  )
local macro_rules | `(tactic| walk_at "ev") => `(tactic| repeat' (walk_at "ev1"))
open P67 (Tk Bx chg met nar narL ror full emp zmet lmet wid fit inB Sub60 Gs wishM aps fits outc isf Good)
theorem mul3 {m k q : Int} (h1 : 1 ≤ m) (h2 : m ≤ 60) (h3 : 1 ≤ k) (h4 : k ≤ 8) (h5 : 0 < q) (h6 : q < 2 ^ 200) : opMul (.int m) (.int k) = some (.val (.int (m * k))) ∧ opMul (.int (m * k)) (.int q) = some (.val (.int (m * k * q))) := by
  have a1 : 0 ≤ m * k := Int.mul_nonneg (by omega) (by omega)
  have a2 : m * k ≤ 60 * 8 := Int.mul_le_mul h2 h4 (by omega) (by omega)
  exact ⟨mulI (by omega) (by omega), mulI (by omega) (by omega)⟩
theorem above_ok {p q m k : Int} {D : Dr} (h1 : 1 ≤ m) (h2 : m ≤ 60) (h3 : 1 ≤ k) (h4 : k ≤ 8) (h5 : 0 < q) (h6 : q < 2 ^ 200) : φ_is_above_times [.tup [.int p, .int q], .int m, .int k] D = .ok (.bl (decide (p > m * k * q))) false D := by
  obtain ⟨e1, e2⟩ := mul3 h1 h2 h3 h4 h5 h6
  show resOf (f_is_above_times ⟨[.sh (.tup [.int p, .int q]), .sh (.int m), .sh (.int k)], D⟩) = _
  unfold f_is_above_times
  apply Tv.eRes
  · walk_at "ev"
  · rfl
  · rfl
theorem below_ok {p q m k : Int} {D : Dr} (h1 : 1 ≤ m) (h2 : m ≤ 60) (h3 : 1 ≤ k) (h4 : k ≤ 8) (h5 : 0 < q) (h6 : q < 2 ^ 200) : φ_is_below_times [.tup [.int p, .int q], .int m, .int k] D = .ok (.bl (decide (p < m * k * q))) false D := by
  obtain ⟨e1, e2⟩ := mul3 h1 h2 h3 h4 h5 h6
  show resOf (f_is_below_times ⟨[.sh (.tup [.int p, .int q]), .sh (.int m), .sh (.int k)], D⟩) = _
  unfold f_is_below_times
  apply Tv.eRes
  · walk_at "ev"
  · rfl
  · rfl
def wishT (x : Sh × Int) (p q k : Int) : T := if aps x.1 x.2 p q k = true then .int (k + chg x.1) else .non
theorem wishof_ok {x : Sh × Int} {p q k : Int} {D : Dr} (h : PaOk x) (h3 : 1 ≤ k) (h4 : k ≤ 8) (h5 : 0 < q) (h6 : q < 2 ^ 200) : φ_wish_of [partT x, .int k, .tup [.int p, .int q]] D = .ok (wishT x p q k) false D := by
  obtain ⟨⟨b, c⟩, m⟩ := x
  have h1 := h.m.1
  have h2 := h.m.2
  dsimp only at h1 h2
  have e1 := eq_kind b
  have e2 := under_kind b
  have e3 := above_ok (p := p) (D := D) h1 h2 h3 h4 h5 h6
  have e4 := below_ok (p := p) (D := D) h1 h2 h3 h4 h5 h6
  show resOf (f_wish_of ⟨[.sh (.tup [.str (kind b), .int m, .int c]), .sh (.int k), .sh (.tup [.int p, .int q])], D⟩) = _
  unfold f_wish_of
  cases b with
  | true =>
    by_cases hp : p > m * k * q
    · apply Tv.rSeqR
      · have : wishT ((true, c), m) p q k = .int (k + c) := by unfold wishT; rw [if_pos (by simpa [aps] using hp)]; rfl
        rw [this]
        walk_at "ev"
      · rfl
    · apply Tv.rSeqR
      · have : wishT ((true, c), m) p q k = .non := by unfold wishT; rw [if_neg (by simpa [aps] using hp)]
        rw [this]
        walk_at "ev"
      · rfl
  | false =>
    apply Tv.rSeq
    · walk_at "ev"
    by_cases hp : p < m * k * q
    · apply Tv.rSeqR
      · have : wishT ((false, c), m) p q k = .int (k - c) := by
          unfold wishT; rw [if_pos (by simpa [aps] using hp)]
          show T.int (k + (0 - c)) = _
          congr 1; omega
        rw [this]
        walk_at "ev"
      · rfl
    · apply Tv.rSeqR
      · have : wishT ((false, c), m) p q k = .non := by unfold wishT; rw [if_neg (by simpa [aps] using hp)]
        rw [this]
        walk_at "ev"
      · rfl
noncomputable abbrev fwBody : S → Out Fl := (fSeq (fSet 4 (fDef 3 φ_wish_of (aCons (fV (fVar 3)) (aCons (fV (fVar 1)) (aCons (fV (fVar 2)) (aNil)))))) (fIf (asT (fBin (opIs true) (fB (fVar 4)) (fB (fK .non)))) (fRet (fVar 4)) (fNil)))
theorem fwLoop {c0 : Sl} {p q k : Int} {D : Dr} (h3 : 1 ≤ k) (h4 : k ≤ 8) (h5 : 0 < q) (h6 : q < 2 ^ 200) : ∀ (ss : List Sh) (ms : List Int) (b3 b4 : Sl), (∀ x ∈ ss.zip ms, PaOk x) →
    resOf (fSeq (forL (gNm 3) fwBody ((ss.zip ms).map partT)) (fRet (fVar 1)) ⟨[c0, .sh (.int k), .sh (.tup [.int p, .int q]), b3, b4], D⟩) = .ok (.int (wishM p q k ss ms)) false D
  | [], ms, b3, b4, _ => by
    have : wishM p q k [] ms = k := by simp [wishM]
    rw [this]; rfl
  | s :: ss, [], b3, b4, _ => by
    have : wishM p q k (s :: ss) [] = k := by simp [wishM]
    rw [this]; rfl
  | s :: ss, m :: ms, b3, b4, h => by
    have e1 := wishof_ok (p := p) (D := D) (h (s, m) (by simp)) h3 h4 h5 h6
    rw [List.zip_cons_cons, List.map_cons]
    simp only [wishM]
    by_cases ha : aps s m p q k = true
    · have e2 : wishT (s, m) p q k = .int (k + chg s) := if_pos ha
      rw [e2] at e1
      rw [if_pos ha]
      apply Tv.rForR
      · walk_at "ev"
      · walk_at "ev"
      · rfl
    · have e2 : wishT (s, m) p q k = .non := if_neg ha
      rw [e2] at e1
      rw [if_neg ha, ← fwLoop (c0 := c0) (D := D) h3 h4 h5 h6 ss ms (.sh (partT (s, m))) (.sh .non) fun x hx => h x (by simp [hx])]
      apply Tv.rForN
      · walk_at "ev"
      · walk_at "ev"
      · rfl
theorem wish_ok {ss : List Sh} {ms : List Int} {p q k : Int} {D : Dr} (h : ∀ x ∈ ss.zip ms, PaOk x) (hf : FrOk p q) (h3 : 1 ≤ k) (h4 : k ≤ 8) (h6 : q < 2 ^ 200) : φ_wish [ruT (ss.zip ms), .int k, .tup [.int p, .int q]] D = .ok (.int (wishM p q k ss ms)) false D := by
  have e1 := isload_ok (D := D) hf
  have e2 := between_ok (D := D) h3 h4
  have e3 : φ_need_load [.tup [.int p, .int q]] D = .ok .non false D := by
    show resOf (f_need_load ⟨[.sh (.tup [.int p, .int q])], D⟩) = _
    unfold f_need_load
    apply Tv.eRes0
    · walk_at "ev"
    · rfl
  have e4 := ruparts_ok (ps := ss.zip ms) (D := D)
  have e5 : φ_first_wish [.tup ((ss.zip ms).map partT), .int k, .tup [.int p, .int q]] D = .ok (.int (wishM p q k ss ms)) false D := by
    show resOf (f_first_wish ⟨[.sh (.tup ((ss.zip ms).map partT)), .sh (.int k), .sh (.tup [.int p, .int q]), .no, .no], D⟩) = _
    unfold f_first_wish
    apply Tv.rFor
    · apply Tv.eItSt
      walk_at "ev"
    · exact fwLoop h3 h4 hf.q0 h6 ss ms _ _ h
  unfold ruT at e4
  show resOf (f_wish ⟨[.sh (.obj 8 [("r_parts", .tup ((ss.zip ms).map partT)), ("r_bounds", .tup [.int 1, .int 8]), ("r_limits", .tup [.non, .non, .int 1, .int 1])]), .sh (.int k), .sh (.tup [.int p, .int q])], D⟩) = _
  unfold f_wish
  apply Tv.rSeq
  · walk_at "ev"
  apply Tv.rSeq
  · walk_at "ev"
  apply Tv.eRes
  · walk_at "ev"
  · rfl
  · rfl
end K67
namespace K67
open PySem PySem.Spec PyProof.Rows L2 Tv
local macro_rules | `(tactic| walk_at "lit") => `(tactic| first
  | with_reducible exact Tv.withD_mk | with_reducible exact Tv.D_mk
  | ((with_reducible apply Tv.putE); (repeat (with_reducible apply Tv.setSE)); with_reducible exact Tv.set0E)
  | ((with_reducible apply Tv.wipeS); repeat' (first | with_reducible exact Tv.set0E | with_reducible apply Tv.setSE | with_reducible apply Tv.wipeEC | with_reducible exact Tv.wipeE0)))
local macro_rules | `(tactic| walk_at "evb") => `(tactic| first
  | with_reducible assumption | exact decide_eq_true (by first | with_reducible assumption | omega) | exact decide_eq_false (by first | with_reducible assumption | omega) | exact Tv.notD (by first | with_reducible assumption | omega) | exact Tv.notD' (by first | with_reducible assumption | omega) | exact Tv.notTe (by with_reducible assumption) | exact Tv.notFe (by with_reducible assumption) | rfl
  | (simp only [decide_eq_true_eq, decide_eq_false_iff_not, T.isNon, Bool.not_true, Bool.not_false, beq_self_eq_true]; first | done | with_reducible assumption | omega))
local macro_rules | `(tactic| walk_at "evop") => `(tactic| first
  | with_reducible assumption | with_reducible exact Tv.cmpI | with_reducible exact Tv.addI | with_reducible exact Tv.subI | with_reducible exact Tv.ixT0 | with_reducible exact Tv.ixT1 | with_reducible exact Tv.ixT2 | with_reducible exact Tv.lenT | with_reducible exact Tv.lenL | with_reducible exact Tv.maxL2 | with_reducible exact Tv.minL2 | with_reducible exact Tv.isF | with_reducible exact Tv.isT
  | ((with_reducible apply Tv.mulI); first | with_reducible assumption | omega; first | with_reducible assumption | omega) | ((with_reducible apply Tv.fdvI); first | with_reducible assumption | omega; first | with_reducible assumption | omega) | ((with_reducible apply Tv.modI); first | with_reducible assumption | omega)
  | ((with_reducible apply Tv.ixL); assumption) | ((with_reducible apply Tv.mAppE); first | with_reducible assumption | omega | (simp only [List.length_map]; omega))
  | rfl)
local macro_rules | `(tactic| walk_at "ev1") => `(tactic| first
  | with_reducible apply Tv.eV | with_reducible apply Tv.eB | with_reducible apply Tv.eCons
  | ((with_reducible apply Tv.eVar); rfl) | ((with_reducible apply Tv.eVarO); rfl)
  | with_reducible apply Tv.eBin | with_reducible apply Tv.eDef | with_reducible apply Tv.eCall
  | with_reducible apply Tv.eSeq | with_reducible apply Tv.seqK_nx
  | with_reducible exact Tv.eNilS | with_reducible exact Tv.eRetN | with_reducible exact Tv.eK | with_reducible exact Tv.eNil | with_reducible exact Tv.tYes | with_reducible exact Tv.eONone
  | with_reducible exact Tv.seqK_rt | with_reducible exact Tv.seqK_bk | with_reducible exact Tv.seqK_ct
  | with_reducible exact Tv.retK_v | with_reducible exact Tv.retK_f | ((with_reducible apply Tv.retK_b); rfl)
  | with_reducible exact Tv.bK_v | with_reducible exact Tv.bK_f | with_reducible exact Tv.bK_b
  | with_reducible exact Tv.vK_v | with_reducible exact Tv.vK_f | ((with_reducible apply Tv.vK_b); rfl; walk_at "lit")
  | with_reducible exact Tv.trV | ((with_reducible apply Tv.trO); rfl) | with_reducible exact Tv.trs0 | with_reducible apply Tv.trsC
  | with_reducible exact Tv.defK_v | with_reducible exact Tv.defK_f | with_reducible exact Tv.gNlE
  | ((with_reducible apply Tv.setK_v); walk_at "lit") | ((with_reducible apply Tv.setK_f); walk_at "lit") | ((with_reducible apply Tv.setK_b); rfl; walk_at "lit"; walk_at "lit")
  | ((with_reducible apply Tv.gNmE); walk_at "lit") | with_reducible apply Tv.gCnE | ((with_reducible apply Tv.gTpE); rfl)
  | with_reducible apply Tv.eIf | with_reducible apply Tv.eVIf | with_reducible apply Tv.eRet | with_reducible apply Tv.eSet | with_reducible apply Tv.eDrop
  | ((with_reducible apply Tv.iteT); walk_at "evb") | ((with_reducible apply Tv.iteF); walk_at "evb")
  | with_reducible exact Tv.eOk
  | with_reducible apply Tv.eTup
  | with_reducible apply Tv.eLst | with_reducible apply Tv.eNeg | with_reducible apply Tv.eOInt | with_reducible apply Tv.eSl
  | with_reducible apply Tv.eAsT | with_reducible apply Tv.eTNot | with_reducible apply Tv.eTAnd | with_reducible apply Tv.eTOr | with_reducible apply Tv.eAnd | with_reducible apply Tv.eOr | with_reducible apply Tv.eNot
  | with_reducible exact Tv.notT | with_reducible exact Tv.notF | with_reducible exact Tv.notS
  | with_reducible apply Tv.eIsi | with_reducible apply Tv.eIsi2 | with_reducible apply Tv.eChain
  | ((with_reducible apply Tv.chT); walk_at "evb") | ((with_reducible apply Tv.chF); walk_at "evb")
  | with_reducible apply Tv.eAsg | with_reducible apply Tv.eFor | with_reducible apply Tv.eItE | with_reducible apply Tv.eItR1 | with_reducible apply Tv.eItZ
  | ((with_reducible apply Tv.eIsOw); rfl) | with_reducible apply Tv.eMut | with_reducible apply Tv.eSetIx | with_reducible apply Tv.eAug
  | with_reducible apply Tv.eProp | with_reducible apply Tv.eMake | with_reducible apply Tv.eFld | with_reducible apply Tv.eSetA | with_reducible apply Tv.eGet
  | walk_at "lit"
  | exact Nat.le_of_ble_eq_true rfl
  | walk_at "evop" | with_reducible apply Tv.andS | with_reducible apply Tv.chS | walk_at "evb" | omega
  )
local macro_rules | `(tactic| walk_at "ev") => `(tactic| repeat' (walk_at "ev1"))
open P67 (Tk Bx chg met nar narL ror full emp zmet lmet wid fit inB Sub60 Gs wishM aps fits outc isf Good)
def P26 : Int := 100000000000000000000000000
theorem pow26 : opPow (.int 10) (.int 26) = some (.val (.int P26)) := by
  show (if (0 : Int) ≤ 26 ∧ (26 : Int) ≤ 1000000 ∧ (10 : Int).natAbs < 2 ^ 64 then some (R.val (T.int (10 ^ (26 : Int).toNat))) else none) = _
  rw [if_pos (by decide)]
  rfl
theorem add26 : opAdd (.int P26) (.int 7) = some (.val (.int big)) := rfl
theorem pickL {n : Nat} {D : Dr} {is : List Int} (h : DOk n D) (hn : n < 1000000000) (h1 : 0 < is.length) (h2 : is.length ≤ 1000) :
    ∃ i D', i ∈ is ∧ φ__law_pick [.drw, .lst (is.map T.int)] D = .ok (.int i) false D' ∧ DOk (n + 1) D' := by
  obtain ⟨t, D', ht, e, k⟩ := pick_ok (ts := is.map T.int) h hn (by simpa using h1) (by simp; omega)
  obtain ⟨i, hi, rfl⟩ := List.mem_map.mp ht
  exact ⟨i, D', hi, e, k⟩
structure MsOk (ms : List Int) : Prop where
  m : ∀ m ∈ ms, 1 ≤ m ∧ m ≤ 60
  l : ms.length ≤ 4
noncomputable abbrev tiBody : S → Out Fl := (fSeq (fPar 6 7 (fBin opAdd (fB (fK (.int 1))) (fB (fDef 2 φ__law_take (aCons (fV (fVar 0)) (aCons (fV (fK (.int 8))) (aNil)))))) (fDef 2 φ__law_pick (aCons (fV (fVar 0)) (aCons (fV (fLst (aCons (fV (fK (.int 1))) (aCons (fV (fK (.int 1))) (aCons (fV (fK (.int 2))) (aCons (fV (fK (.int 5))) (aCons (fV (fBin opAdd (fB (fBin opPow (fB (fK (.int 10))) (fB (fK (.int 26))))) (fB (fK (.int 7))))) (aNil)))))))) (aNil))))) (fSeq (fSet 8 (fDef 2 φ__law_pick (aCons (fV (fVar 0)) (aCons (fV (fBin opAdd (fB (fCall opList (aCons (fB (fVar 2)) (aNil)))) (fB (fLst (aCons (fV (fBin opAdd (fB (fK (.int 1))) (fB (fDef 2 φ__law_take (aCons (fV (fVar 0)) (aCons (fV (fK (.int 60))) (aNil))))))) (aNil)))))) (aNil))))) (fSeq (fSet 9 (fBin opAdd (fB (fBin opMul (fB (fBin opMul (fB (fVar 8)) (fB (fVar 6)))) (fB (fVar 7)))) (fB (fDef 2 φ__law_pick (aCons (fV (fVar 0)) (aCons (fV (fLst (aCons (fV (fK (.int 0))) (aCons (fV (fK (.int 1))) (aCons (fV (fNeg (fK (.int 1)))) (aCons (fV (fK (.int 3))) (aNil))))))) (aNil))))))) (fSeq (fSet 10 (fDef 2 φ__law_fraction (aCons (fV (fCall opMax (aCons (fB (fK (.int 0))) (aCons (fB (fVar 9)) (aNil))))) (aCons (fV (fVar 7)) (aNil))))) (fDrop (isOw 4 (fMut 4 mApp (aCons (fV (fTup (aCons (fV (fVar 10)) (aCons (fV (fVar 6)) (aCons (fV (fDef 3 φ_wish (aCons (fV (fVar 1)) (aCons (fV (fVar 6)) (aCons (fV (fVar 10)) (aNil)))))) (aNil)))))) (aNil)))))))))
theorem big_lt : big < 2 ^ 150 := by decide
theorem tiTurn {n : Nat} {D : Dr} {ss : List Sh} {ms : List Int} {ts : List Tk} {b3 b5 b6 b7 b8 b9 b10 : Sl} (hs : SsOk ss) (hm : MsOk ms) (h : DOk n D) (hn : n < 900000000) (hl : ts.length ≤ 1000) :
    ∃ t c6 c7 c8 c9 c10 D', TkOk t ∧ DOk (n + 5) D' ∧ tiBody ⟨[.sh .drw, .sh (ruT (ss.zip ms)), .sh (.tup (ms.map T.int)), b3, .ow (.lst (ts.map tkT)), b5, b6, b7, b8, b9, b10], D⟩ = .ok .nx ⟨[.sh .drw, .sh (ruT (ss.zip ms)), .sh (.tup (ms.map T.int)), b3, .ow (.lst ((ts ++ [t]).map tkT)), b5, c6, c7, c8, c9, c10], D'⟩ := by
  obtain ⟨r1, D1, e1, p1, p2, k1⟩ := take_ok (size := 8) h (by omega) (by decide) (by decide)
  obtain ⟨b, D2, hb, e2, k2⟩ := pickL (is := [1, 1, 2, 5, big]) k1 (by omega) (by decide) (by decide)
  obtain ⟨r3, D3, e3, p3, p4, k3⟩ := take_ok (size := 60) k2 (by omega) (by decide) (by decide)
  obtain ⟨m, D4, hm4, e4, k4⟩ := pickL (is := ms ++ [1 + r3]) k3 (by omega) (by simp) (by have := hm.l; simp; omega)
  obtain ⟨c, D5, hc, e5, k5⟩ := pickL (is := [0, 1, -1, 3]) k4 (by omega) (by decide) (by decide)
  have hb1 : 0 < b ∧ b < 2 ^ 200 := by
    have := big_lt
    have h1 : (2 : Int) ^ 150 < 2 ^ 200 := by decide
    have h2 : (0 : Int) < big := by decide
    simp only [List.mem_cons, List.not_mem_nil, or_false] at hb
    rcases hb with z | z | z | z | z <;> subst z <;> omega
  obtain ⟨hb1, hb2⟩ := hb1
  have hm1 : 1 ≤ m ∧ m ≤ 60 := by
    rcases List.mem_append.mp hm4 with z | z
    · exact hm.m m z
    · have := List.mem_singleton.mp z
      omega
  obtain ⟨hm1, hm2⟩ := hm1
  obtain ⟨q1, q2⟩ := mul3 (m := m) (k := 1 + r1) (q := b) hm1 hm2 (by omega) (by omega) hb1 hb2
  let top : Int := m * (1 + r1) * b + c
  let tp : Int := if top > 0 then top else 0
  have ht0 : 0 ≤ tp := by show 0 ≤ (if top > 0 then top else 0); split <;> omega
  have e6 : opMax [.int 0, .int (m * (1 + r1) * b + c)] = some (.val (.int tp)) := rfl
  have hb9 : b < (2 ^ 9000 : Nat) := by
    have : (2 : Int) ^ 200 ≤ ((2 ^ 9000 : Nat) : Int) := by exact_mod_cast Nat.pow_le_pow_right (by decide) (by decide : 200 ≤ 9000)
    omega
  have e7 := fraction_ok (D := D5) ht0 hb1 hb9
  have hf := frOk_of ht0 hb1
  have g0 : 0 < Int.gcd tp b := Int.gcd_pos_of_ne_zero_right _ (by omega)
  have hq : b / Int.gcd tp b < 2 ^ 200 := by
    have := Int.ediv_le_self (Int.gcd tp b : Nat) (show 0 ≤ b by omega)
    omega
  generalize htq : tp / Int.gcd tp b = P at *
  generalize hbq : b / Int.gcd tp b = Q at *
  have hz : ∀ x ∈ ss.zip ms, PaOk x := fun x hx => ⟨hs.sh.ks _ (List.of_mem_zip hx).1, hm.m _ (List.of_mem_zip hx).2⟩
  have e8 := wish_ok (k := 1 + r1) (D := D5) hz hf (by omega) (by omega) hq
  have e9 := pow26
  have e10 := add26
  have e11 := addL (a := ms.map T.int) (b := [T.int (1 + r3)]) (by have := hm.l; simp; omega)
  have e12 : opList [.tup (ms.map T.int)] = some (.frs (.lst (ms.map T.int))) := rfl
  have hl2 : (ts.map tkT).length < 16777216 := by rw [List.length_map]; omega
  rw [List.map_append] at e4
  simp only [List.map_cons, List.map_nil] at e2 e4 e5
  refine ⟨⟨P, Q, 1 + r1, wishM P Q (1 + r1) ss ms⟩, .sh (.int (1 + r1)), .sh (.int b), .sh (.int m), .sh (.int (m * (1 + r1) * b + c)), .sh (.tup [.int P, .int Q]), D5, ⟨hf, hq, by show 1 ≤ 1 + r1; omega, by show 1 + r1 ≤ 8; omega⟩, k5, ?_⟩
  have hE : (ts ++ [(⟨P, Q, 1 + r1, wishM P Q (1 + r1) ss ms⟩ : Tk)]).map tkT = ts.map tkT ++ [.tup [.tup [.int P, .int Q], .int (1 + r1), .int (wishM P Q (1 + r1) ss ms)]] := by simp [tkT]
  rw [hE]
  apply Tv.eSeq
  · apply Tv.ePar
    · walk_at "ev"
    · walk_at "ev"
    · walk_at "lit"
    · walk_at "lit"
  walk_at "ev"
end K67
namespace K67
open PySem PySem.Spec PyProof.Rows L2 Tv
local macro_rules | `(tactic| walk_at "lit") => `(tactic| first
  | with_reducible exact Tv.withD_mk | with_reducible exact Tv.D_mk
  | ((with_reducible apply Tv.putE); (repeat (with_reducible apply Tv.setSE)); with_reducible exact Tv.set0E)
  | ((with_reducible apply Tv.wipeS); repeat' (first | with_reducible exact Tv.set0E | with_reducible apply Tv.setSE | with_reducible apply Tv.wipeEC | with_reducible exact Tv.wipeE0)))
local macro_rules | `(tactic| walk_at "evb") => `(tactic| first
  | with_reducible assumption | exact decide_eq_true (by first | with_reducible assumption | omega) | exact decide_eq_false (by first | with_reducible assumption | omega) | exact Tv.notD (by first | with_reducible assumption | omega) | exact Tv.notD' (by first | with_reducible assumption | omega) | exact Tv.notTe (by with_reducible assumption) | exact Tv.notFe (by with_reducible assumption) | rfl
  | (simp only [decide_eq_true_eq, decide_eq_false_iff_not, T.isNon, Bool.not_true, Bool.not_false, beq_self_eq_true]; first | done | with_reducible assumption | omega))
local macro_rules | `(tactic| walk_at "evop") => `(tactic| first
  | with_reducible assumption | with_reducible exact Tv.cmpI | with_reducible exact Tv.addI | with_reducible exact Tv.subI | with_reducible exact Tv.ixT0 | with_reducible exact Tv.ixT1 | with_reducible exact Tv.ixT2 | with_reducible exact Tv.lenT | with_reducible exact Tv.lenL | with_reducible exact Tv.maxL2 | with_reducible exact Tv.minL2 | with_reducible exact Tv.isF | with_reducible exact Tv.isT
  | ((with_reducible apply Tv.mulI); first | with_reducible assumption | omega; first | with_reducible assumption | omega) | ((with_reducible apply Tv.fdvI); first | with_reducible assumption | omega; first | with_reducible assumption | omega) | ((with_reducible apply Tv.modI); first | with_reducible assumption | omega)
  | ((with_reducible apply Tv.ixL); assumption) | ((with_reducible apply Tv.mAppE); first | with_reducible assumption | omega | (simp only [List.length_map]; omega))
  | rfl)
local macro_rules | `(tactic| walk_at "ev1") => `(tactic| first
  | with_reducible apply Tv.eV | with_reducible apply Tv.eB | with_reducible apply Tv.eCons
  | ((with_reducible apply Tv.eVar); rfl) | ((with_reducible apply Tv.eVarO); rfl)
  | with_reducible apply Tv.eBin | with_reducible apply Tv.eDef | with_reducible apply Tv.eCall
  | with_reducible apply Tv.eSeq | with_reducible apply Tv.seqK_nx
  | with_reducible exact Tv.eNilS | with_reducible exact Tv.eRetN | with_reducible exact Tv.eK | with_reducible exact Tv.eNil | with_reducible exact Tv.tYes | with_reducible exact Tv.eONone
  | with_reducible exact Tv.seqK_rt | with_reducible exact Tv.seqK_bk | with_reducible exact Tv.seqK_ct
  | with_reducible exact Tv.retK_v | with_reducible exact Tv.retK_f | ((with_reducible apply Tv.retK_b); rfl)
  | with_reducible exact Tv.bK_v | with_reducible exact Tv.bK_f | with_reducible exact Tv.bK_b
  | with_reducible exact Tv.vK_v | with_reducible exact Tv.vK_f | ((with_reducible apply Tv.vK_b); rfl; walk_at "lit")
  | with_reducible exact Tv.trV | ((with_reducible apply Tv.trO); rfl) | with_reducible exact Tv.trs0 | with_reducible apply Tv.trsC
  | with_reducible exact Tv.defK_v | with_reducible exact Tv.defK_f | with_reducible exact Tv.gNlE
  | ((with_reducible apply Tv.setK_v); walk_at "lit") | ((with_reducible apply Tv.setK_f); walk_at "lit") | ((with_reducible apply Tv.setK_b); rfl; walk_at "lit"; walk_at "lit")
  | ((with_reducible apply Tv.gNmE); walk_at "lit") | with_reducible apply Tv.gCnE | ((with_reducible apply Tv.gTpE); rfl)
  | with_reducible apply Tv.eIf | with_reducible apply Tv.eVIf | with_reducible apply Tv.eRet | with_reducible apply Tv.eSet | with_reducible apply Tv.eDrop
  | ((with_reducible apply Tv.iteT); walk_at "evb") | ((with_reducible apply Tv.iteF); walk_at "evb")
  | with_reducible exact Tv.eOk
  | with_reducible apply Tv.eTup
  | with_reducible apply Tv.eLst | with_reducible apply Tv.eNeg | with_reducible apply Tv.eOInt | with_reducible apply Tv.eSl
  | with_reducible apply Tv.eAsT | with_reducible apply Tv.eTNot | with_reducible apply Tv.eTAnd | with_reducible apply Tv.eTOr | with_reducible apply Tv.eAnd | with_reducible apply Tv.eOr | with_reducible apply Tv.eNot
  | with_reducible exact Tv.notT | with_reducible exact Tv.notF | with_reducible exact Tv.notS
  | with_reducible apply Tv.eIsi | with_reducible apply Tv.eIsi2 | with_reducible apply Tv.eChain
  | ((with_reducible apply Tv.chT); walk_at "evb") | ((with_reducible apply Tv.chF); walk_at "evb")
  | with_reducible apply Tv.eAsg | with_reducible apply Tv.eFor | with_reducible apply Tv.eItE | with_reducible apply Tv.eItR1 | with_reducible apply Tv.eItZ
  | ((with_reducible apply Tv.eIsOw); rfl) | with_reducible apply Tv.eMut | with_reducible apply Tv.eSetIx | with_reducible apply Tv.eAug
  | with_reducible apply Tv.eProp | with_reducible apply Tv.eMake | with_reducible apply Tv.eFld | with_reducible apply Tv.eSetA | with_reducible apply Tv.eGet
  | walk_at "lit"
  | exact Nat.le_of_ble_eq_true rfl
  | walk_at "evop" | with_reducible apply Tv.andS | with_reducible apply Tv.chS | walk_at "evb" | omega
  )
local macro_rules | `(tactic| walk_at "ev") => `(tactic| repeat' (walk_at "ev1"))
open P67 (Tk Bx chg met nar narL ror full emp zmet lmet wid fit inB Sub60 Gs wishM aps fits outc isf Good)
/-! ### repr of what is told -/
structure Rp (d : PyData) (L k : Nat) : Prop where
  sh : d.showable = true
  nd : d.hasDict = false
  len : d.shown.length ≤ L
  ok : ∀ c ∈ d.shown.cps.toList, c < 1114112
  dep : d.depth ≤ k
theorem Rp.mono {d : PyData} {L k L' k' : Nat} (h : Rp d L k) (h1 : L ≤ L') (h2 : k ≤ k') : Rp d L' k' := ⟨h.sh, h.nd, Nat.le_trans h.len h1, h.ok, Nat.le_trans h.dep h2⟩
theorem Rp.int {i : Int} (h : i.natAbs.log2 < 1920) : Rp (.int i) 1921 0 := by
  refine ⟨by simp [PyData.showable, h], by simp [PyData.hasDict], ?_, ?_, by simp [PyData.depth]⟩
  · simp only [PyData.shown]; exact int_text_len_1921 h
  · intro c hc
    simp only [PyData.shown] at hc
    refine Nat.lt_of_not_le fun hn => int_text_free' c ⟨by omega, by omega⟩ i hc
theorem Rp.bool {b : Bool} : Rp (.bool b) 10 0 := by
  refine ⟨by simp [PyData.showable], by simp [PyData.hasDict], ?_, ?_, by simp [PyData.depth]⟩
  · simp only [PyData.shown]; cases b <;> decide +kernel
  · simp only [PyData.shown]; cases b <;> decide +kernel
theorem Rp.told : Rp (.str "told") 10 0 := by
  refine ⟨by simp [PyData.showable], by simp [PyData.hasDict], ?_, ?_, by simp [PyData.depth]⟩
  · simp only [PyData.shown]; decide +kernel
  · simp only [PyData.shown]; decide +kernel
theorem Rp.none : Rp (.str "none") 10 0 := by
  refine ⟨by simp [PyData.showable], by simp [PyData.hasDict], ?_, ?_, by simp [PyData.depth]⟩
  · simp only [PyData.shown]; decide +kernel
  · simp only [PyData.shown]; decide +kernel
theorem rpAll {L k : Nat} : ∀ {xs : List PyData}, (∀ x ∈ xs, Rp x L k) → PyData.showableAll xs = true ∧ PyData.hasDictAll xs = false ∧ ((PyData.shownAll xs).map (·.length)).sum ≤ xs.length * L ∧ (PyData.shownAll xs).length = xs.length ∧ (∀ t ∈ PyData.shownAll xs, ∀ c ∈ t.cps.toList, c < 1114112) ∧ PyData.depthAll xs ≤ k + 1
  | [], _ => by simp [PyData.showableAll, PyData.hasDictAll, PyData.shownAll, PyData.depthAll]
  | x :: xs, h => by
    obtain ⟨h1, h2, h3, h4, h5, h6⟩ := rpAll (xs := xs) fun y hy => h y (by simp [hy])
    have hx := h x (by simp)
    simp only [PyData.showableAll, PyData.hasDictAll, PyData.shownAll, PyData.depthAll, h1, h2, hx.sh, hx.nd, List.map_cons, List.sum_cons, List.length_cons, h4]
    have l := hx.len
    have d := hx.dep
    refine ⟨rfl, rfl, ?_, trivial, ?_, ?_⟩
    · rw [Nat.succ_mul]; omega
    · intro t ht
      rcases List.mem_cons.mp ht with rfl | z
      · exact hx.ok
      · exact h5 t z
    · omega
theorem Rp.list {L k : Nat} {xs : List PyData} (h : ∀ x ∈ xs, Rp x L k) : Rp (.list xs) (xs.length * L + 2 * xs.length + 3) (k + 2) := by
  obtain ⟨h1, h2, h3, h4, h5, h6⟩ := rpAll h
  refine ⟨by simp only [PyData.showable]; exact h1, by simp only [PyData.hasDict]; exact h2, ?_, ?_, by simp only [PyData.depth]; omega⟩
  · simp only [PyData.shown]
    have := listText_len_le (PyData.shownAll xs)
    rw [h4] at this
    omega
  · intro c hc
    simp only [PyData.shown] at hc
    rw [listText_eq_join] at hc
    rcases mem_cps_append.mp hc with z | z
    · rcases mem_cps_append.mp z with z | z
      · rw [signs_lbrack] at z; simp at z; omega
      · rcases (mem_join _ _ _).mp z with ⟨t, ht, z⟩ | ⟨_, z⟩
        · exact h5 t ht c z
        · rw [signs_sep] at z; simp at z; omega
    · rw [signs_rbrack] at z; simp at z; omega
theorem Rp.tuple {L k : Nat} {xs : List PyData} (h : ∀ x ∈ xs, Rp x L k) : Rp (.tuple xs) (xs.length * L + 2 * xs.length + 3) (k + 2) := by
  obtain ⟨h1, h2, h3, h4, h5, h6⟩ := rpAll h
  refine ⟨by simp only [PyData.showable]; exact h1, by simp only [PyData.hasDict]; exact h2, ?_, ?_, by simp only [PyData.depth]; omega⟩
  · simp only [PyData.shown]
    have := tupleText_len_le (PyData.shownAll xs)
    rw [h4] at this
    omega
  · intro c hc
    simp only [PyData.shown] at hc
    unfold tupleText at hc
    rcases mem_cps_append.mp hc with z | z
    · rcases mem_cps_append.mp z with z | z
      · rw [signs_lparen] at z; simp at z; omega
      · rcases (mem_join _ _ _).mp z with ⟨t, ht, z⟩ | ⟨_, z⟩
        · exact h5 t ht c z
        · rw [signs_sep] at z; simp at z; omega
    · split at z
      · have e : ((",)" : String) : Str).cps.toList = [44, 41] := by decide
        rw [e] at z; simp at z; omega
      · have e : ((")" : String) : Str).cps.toList = [41] := by decide
        rw [e] at z; simp at z; omega
theorem toDs_map {α : Type} (f : α → T) : ∀ l : List α, toDs (l.map f) = l.map fun a => toD (f a)
  | [] => by simp [toDs]
  | a :: l => by simp only [List.map_cons, toDs, toDs_map f l]
theorem repr_op {t : T} {L k : Nat} (hp : pl t = true) (h : Rp (toD t) L k) (hL : L ≤ 16777216) (hk : k ≤ 60) : opRepr [t] = some (.val (.str (toD t).shown)) ∧ shp (.str (toD t).shown) = true := by
  refine ⟨if_pos ⟨hp, h.sh, h.nd, Nat.le_trans h.len hL, Nat.le_trans h.dep hk⟩, shp_lit _ ?_⟩
  unfold PyData.canLay0 PyData.strOk
  rw [Array.all_eq_true]
  intro i hi
  refine decide_eq_true (h.ok _ ?_)
  exact Array.getElem_mem_toList hi
theorem repr_same {t : T} {L k : Nat} (hp : pl t = true) (h : Rp (toD t) L k) (hL : L ≤ 16777216) (hk : k ≤ 60) : opEq true (.str (toD t).shown) (.str (toD t).shown) = some (.val (.bl false)) ∧ opEq false (.str (toD t).shown) (.str (toD t).shown) = some (.val (.bl true)) := by
  obtain ⟨_, h2⟩ := repr_op hp h hL hk
  rw [ne_str _ _ h2 h2, eq_str _ _ h2 h2]
  simp
/-- what is told of the ranges -/
def tdT (z : Bx ⊕ Nat) : T := match z with
  | .inl b => .tup [.str "told", .lst (b.map prT)]
  | .inr i => .tup [.str "none", .int (i : Nat)]
theorem pls_map {α : Type} (f : α → T) (h : ∀ a, pl (f a) = true) : ∀ l : List α, pls (l.map f) = true
  | [] => rfl
  | a :: l => by simp only [List.map_cons, pls, h, pls_map f h l, Bool.and_self]
theorem pl_td (z : Bx ⊕ Nat) : pl (tdT z) = true := by
  cases z with
  | inl b =>
    simp only [tdT, pl, pls, Bool.true_and, Bool.and_true]
    exact pls_map prT (fun a => by simp [prT, pl, pls]) b
  | inr i => simp [tdT, pl, pls]
theorem rp_box {b : Bx} (h6 : Sub60 b) (hg : Good b) (hl : b.length ≤ 4) : Rp (.list ((b.map prT).map toD)) 100000 4 := by
  have h : ∀ x ∈ (b.map prT).map toD, Rp x 3849 2 := by
    intro x hx
    obtain ⟨t, ht, rfl⟩ := List.mem_map.mp hx
    obtain ⟨y, hy, rfl⟩ := List.mem_map.mp ht
    have h1 := h6 y hy
    have h2 := hg y hy
    have b1 : y.1.natAbs.log2 < 1920 := Nat.lt_of_le_of_lt (log2_le (n := 10) (by omega) (by omega)) (by decide)
    have b2 : y.2.natAbs.log2 < 1920 := Nat.lt_of_le_of_lt (log2_le (n := 10) (by omega) (by omega)) (by decide)
    have : Rp (.tuple [.int y.1, .int y.2]) _ _ := Rp.tuple (L := 1921) (k := 0) (fun x hx => by
      simp only [List.mem_cons, List.not_mem_nil, or_false] at hx
      rcases hx with rfl | rfl
      · exact Rp.int b1
      · exact Rp.int b2)
    simp only [prT, toD, toDs]
    exact this
  have := Rp.list h
  refine this.mono ?_ (by omega)
  simp only [List.length_map]
  have : b.length * 3849 ≤ 4 * 3849 := Nat.mul_le_mul_right _ hl
  omega
theorem rp_td {z : Bx ⊕ Nat} (h : match z with | .inl b => Sub60 b ∧ Good b ∧ b.length ≤ 4 | .inr i => i ≤ 1000) : Rp (toD (tdT z)) 1000000 10 := by
  cases z with
  | inl b =>
    obtain ⟨h1, h2, h3⟩ := h
    simp only [tdT, toD, toDs]
    refine (Rp.tuple (L := 100000) (k := 4) (fun x hx => ?_)).mono (by simp) (by omega)
    simp only [List.mem_cons, List.not_mem_nil, or_false] at hx
    rcases hx with rfl | rfl
    · exact Rp.told.mono (by omega) (by omega)
    · have := rp_box h1 h2 h3
      rw [List.map_map] at this
      rw [toDs_map]
      exact this
  | inr i =>
    simp only [tdT, toD, toDs]
    refine (Rp.tuple (L := 1921) (k := 0) (fun x hx => ?_)).mono (by simp) (by omega)
    simp only [List.mem_cons, List.not_mem_nil, or_false] at hx
    rcases hx with rfl | rfl
    · exact Rp.none.mono (by omega) (by omega)
    · exact Rp.int (Nat.lt_of_le_of_lt (log2_le (n := 10) (by omega) (by have : i ≤ 1000 := h; omega)) (by decide))
end K67
namespace K67
open PySem PySem.Spec PyProof.Rows L2 Tv
local macro_rules | `(tactic| walk_at "lit") => `(tactic| first
  | with_reducible exact Tv.withD_mk | with_reducible exact Tv.D_mk
  | ((with_reducible apply Tv.putE); (repeat (with_reducible apply Tv.setSE)); with_reducible exact Tv.set0E)
  | ((with_reducible apply Tv.wipeS); repeat' (first | with_reducible exact Tv.set0E | with_reducible apply Tv.setSE | with_reducible apply Tv.wipeEC | with_reducible exact Tv.wipeE0)))
local macro_rules | `(tactic| walk_at "evb") => `(tactic| first
  | with_reducible assumption | exact decide_eq_true (by first | with_reducible assumption | omega) | exact decide_eq_false (by first | with_reducible assumption | omega) | exact Tv.notD (by first | with_reducible assumption | omega) | exact Tv.notD' (by first | with_reducible assumption | omega) | exact Tv.notTe (by with_reducible assumption) | exact Tv.notFe (by with_reducible assumption) | rfl
  | (simp only [decide_eq_true_eq, decide_eq_false_iff_not, T.isNon, Bool.not_true, Bool.not_false, beq_self_eq_true]; first | done | with_reducible assumption | omega))
local macro_rules | `(tactic| walk_at "evop") => `(tactic| first
  | with_reducible assumption | with_reducible exact Tv.cmpI | with_reducible exact Tv.addI | with_reducible exact Tv.subI | with_reducible exact Tv.ixT0 | with_reducible exact Tv.ixT1 | with_reducible exact Tv.ixT2 | with_reducible exact Tv.lenT | with_reducible exact Tv.lenL | with_reducible exact Tv.maxL2 | with_reducible exact Tv.minL2 | with_reducible exact Tv.isF | with_reducible exact Tv.isT
  | ((with_reducible apply Tv.mulI); first | with_reducible assumption | omega; first | with_reducible assumption | omega) | ((with_reducible apply Tv.fdvI); first | with_reducible assumption | omega; first | with_reducible assumption | omega) | ((with_reducible apply Tv.modI); first | with_reducible assumption | omega)
  | ((with_reducible apply Tv.ixL); assumption) | ((with_reducible apply Tv.mAppE); first | with_reducible assumption | omega | (simp only [List.length_map]; omega))
  | rfl)
local macro_rules | `(tactic| walk_at "ev1") => `(tactic| first
  | with_reducible assumption | with_reducible apply Tv.eV | with_reducible apply Tv.eB | with_reducible apply Tv.eCons
  | ((with_reducible apply Tv.eVar); rfl) | ((with_reducible apply Tv.eVarO); rfl)
  | with_reducible apply Tv.eBin | with_reducible apply Tv.eDef | with_reducible apply Tv.eCall
  | with_reducible apply Tv.eSeq | with_reducible apply Tv.seqK_nx
  | with_reducible exact Tv.eNilS | with_reducible exact Tv.eRetN | with_reducible exact Tv.eK | with_reducible exact Tv.eNil | with_reducible exact Tv.tYes | with_reducible exact Tv.eONone
  | with_reducible exact Tv.seqK_rt | with_reducible exact Tv.seqK_bk | with_reducible exact Tv.seqK_ct
  | with_reducible exact Tv.retK_v | with_reducible exact Tv.retK_f | ((with_reducible apply Tv.retK_b); rfl)
  | with_reducible exact Tv.bK_v | with_reducible exact Tv.bK_f | with_reducible exact Tv.bK_b
  | with_reducible exact Tv.vK_v | with_reducible exact Tv.vK_f | ((with_reducible apply Tv.vK_b); rfl; walk_at "lit")
  | with_reducible exact Tv.trV | ((with_reducible apply Tv.trO); rfl) | with_reducible exact Tv.trs0 | with_reducible apply Tv.trsC
  | with_reducible exact Tv.defK_v | with_reducible exact Tv.defK_f | with_reducible exact Tv.gNlE
  | ((with_reducible apply Tv.setK_v); walk_at "lit") | ((with_reducible apply Tv.setK_f); walk_at "lit") | ((with_reducible apply Tv.setK_b); rfl; walk_at "lit"; walk_at "lit")
  | ((with_reducible apply Tv.gNmE); walk_at "lit") | with_reducible apply Tv.gCnE | ((with_reducible apply Tv.gTpE); rfl)
  | with_reducible apply Tv.eIf | with_reducible apply Tv.eVIf | with_reducible apply Tv.eRet | with_reducible apply Tv.eSet | with_reducible apply Tv.eDrop
  | ((with_reducible apply Tv.iteT); walk_at "evb") | ((with_reducible apply Tv.iteF); walk_at "evb")
  | with_reducible exact Tv.eOk
  | with_reducible apply Tv.eTup
  | with_reducible apply Tv.eLst | with_reducible apply Tv.eNeg | with_reducible apply Tv.eOInt | with_reducible apply Tv.eSl
  | with_reducible apply Tv.eAsT | with_reducible apply Tv.eTNot | with_reducible apply Tv.eTAnd | with_reducible apply Tv.eTOr | with_reducible apply Tv.eAnd | with_reducible apply Tv.eOr | with_reducible apply Tv.eNot
  | with_reducible exact Tv.notT | with_reducible exact Tv.notF | with_reducible exact Tv.notS
  | with_reducible apply Tv.eIsi | with_reducible apply Tv.eIsi2 | with_reducible apply Tv.eChain
  | ((with_reducible apply Tv.chT); walk_at "evb") | ((with_reducible apply Tv.chF); walk_at "evb")
  | with_reducible apply Tv.eAsg | with_reducible apply Tv.eFor | with_reducible apply Tv.eItE | with_reducible apply Tv.eItR1 | with_reducible apply Tv.eItZ
  | ((with_reducible apply Tv.eIsOw); rfl) | with_reducible apply Tv.eMut | with_reducible apply Tv.eSetIx | with_reducible apply Tv.eAug
  | with_reducible apply Tv.eProp | with_reducible apply Tv.eMake | with_reducible apply Tv.eFld | with_reducible apply Tv.eSetA | with_reducible apply Tv.eGet
  | walk_at "lit"
  | exact Nat.le_of_ble_eq_true rfl
  | walk_at "evop" | with_reducible apply Tv.andS | with_reducible apply Tv.chS | walk_at "evb" | omega
  )
local macro_rules | `(tactic| walk_at "ev") => `(tactic| repeat' (walk_at "ev1"))
open P67 (Tk Bx chg met nar narL ror full emp zmet lmet wid fit inB Sub60 Gs wishM aps fits outc isf Good)
theorem tiLoop {ss : List Sh} {ms : List Int} {b3 : Sl} (hs : SsOk ss) (hm : MsOk ms) : ∀ (xs : List T) (n : Nat) (D : Dr) (ts : List Tk) (b5 b6 b7 b8 b9 b10 : Sl), DOk n D → n + 5 * xs.length < 900000000 → ts.length + xs.length ≤ 1000 → (∀ t ∈ ts, TkOk t) →
    ∃ (us : List Tk) (D' : Dr), resOf (fSeq (forL (gNm 5) tiBody xs) (fRet (fVar 4)) ⟨[.sh .drw, .sh (ruT (ss.zip ms)), .sh (.tup (ms.map T.int)), b3, .ow (.lst (ts.map tkT)), b5, b6, b7, b8, b9, b10], D⟩) = .ok (.lst (us.map tkT)) true D' ∧ (∀ t ∈ us, TkOk t) ∧ us.length = ts.length + xs.length ∧ DOk (n + 5 * xs.length) D'
  | [], n, D, ts, b5, b6, b7, b8, b9, b10, h, hn, hl, ht => ⟨ts, D, rfl, ht, by simp, h⟩
  | x :: xs, n, D, ts, b5, b6, b7, b8, b9, b10, h, hn, hl, ht => by
    simp only [List.length_cons] at hn hl ⊢
    obtain ⟨t, c6, c7, c8, c9, c10, D1, h1, k1, e1⟩ := tiTurn (b3 := b3) (b5 := .sh x) (b6 := b6) (b7 := b7) (b8 := b8) (b9 := b9) (b10 := b10) (ts := ts) hs hm h (by omega) (by omega)
    obtain ⟨us, D2, e2, h2, l2, k2⟩ := tiLoop hs hm xs (n + 5) D1 (ts ++ [t]) (.sh x) c6 c7 c8 c9 c10 k1 (by omega) (by simp; omega) (fun u hu => by
      rcases List.mem_append.mp hu with z | z
      · exact ht u z
      · rw [List.mem_singleton.mp z]; exact h1)
    refine ⟨us, D2, ?_, h2, by rw [l2]; simp; omega, k2.mono (by omega)⟩
    rw [← e2]
    apply Tv.rForN
    · walk_at "ev"
    · exact e1
    · rfl
theorem ticks_ok {n : Nat} {D : Dr} {ss : List Sh} {ms : List Int} (hs : SsOk ss) (hm : MsOk ms) (h : DOk n D) (hn : n < 800000000) :
    ∃ (ts : List Tk) (D' : Dr), φ__law_ticks [.drw, ruT (ss.zip ms), .tup (ms.map T.int), .int 12] D = .ok (.lst (ts.map tkT)) true D' ∧ (∀ t ∈ ts, TkOk t) ∧ ts.length ≤ 12 ∧ DOk (n + 100) D' := by
  obtain ⟨r, D1, e1, p1, p2, k1⟩ := take_ok (size := 12 + 1) h (by omega) (by decide) (by decide)
  have hlen : (rngT 0 r.toNat).length = r.toNat := rngT_length _ _
  obtain ⟨us, D2, e2, h2, l2, k2⟩ := tiLoop (b3 := .sh (.int 12)) hs hm (rngT 0 r.toNat) (n + 1) D1 [] .no .no .no .no .no .no k1 (by omega) (by simp; omega) (fun u hu => by cases hu)
  refine ⟨us, D2, ?_, h2, by rw [l2, hlen]; simp; omega, k2.mono (by omega)⟩
  rw [← e2]
  show resOf (f__law_ticks ⟨[.sh .drw, .sh (ruT (ss.zip ms)), .sh (.tup (ms.map T.int)), .sh (.int 12), .no, .no, .no, .no, .no, .no, .no], D⟩) = _
  unfold f__law_ticks
  apply Tv.rSeq
  · walk_at "ev"
  apply Tv.rFor
  · apply Tv.eItR1
    · walk_at "ev"
    · omega
  rfl
theorem shp_tk (t : Tk) : pl (tkT t) = true ∧ PyData.canLay0 (toD (tkT t)) = true ∧ PyData.depth (toD (tkT t)) ≤ 10 := by
  simp [tkT, pl, pls, toD, toDs, PyData.canLay0, PyData.canLayAll0, PyData.depth, PyData.depthAll]
theorem lay_map {α : Type} (f : α → T) {k : Nat} (h : ∀ a, pl (f a) = true ∧ PyData.canLay0 (toD (f a)) = true ∧ PyData.depth (toD (f a)) ≤ k) : ∀ l : List α, pls (l.map f) = true ∧ PyData.canLayAll0 (toDs (l.map f)) = true ∧ PyData.depthAll (toDs (l.map f)) ≤ k + 1
  | [] => by simp [pls, toDs, PyData.canLayAll0, PyData.depthAll]
  | a :: l => by
    obtain ⟨h1, h2, h3⟩ := lay_map f h l
    obtain ⟨k1, k2, k3⟩ := h a
    simp only [List.map_cons, pls, toDs, PyData.canLayAll0, PyData.depthAll, h1, h2, k1, k2]
    refine ⟨rfl, rfl, ?_⟩
    omega
theorem shp_map {α : Type} (f : α → T) {k : Nat} (h : ∀ a, pl (f a) = true ∧ PyData.canLay0 (toD (f a)) = true ∧ PyData.depth (toD (f a)) ≤ k) (hk : k ≤ 20) (l : List α) : shp (.lst (l.map f)) = true := by
  obtain ⟨h1, h2, h3⟩ := lay_map f h l
  unfold shp SeqAt.shaped
  simp only [pl, toD, PyData.canLay0, PyData.depth, h1, h2, Bool.true_and, decide_eq_true_eq]
  omega
theorem eq_nilL {α : Type} (f : α → T) {k : Nat} (h : ∀ a, pl (f a) = true ∧ PyData.canLay0 (toD (f a)) = true ∧ PyData.depth (toD (f a)) ≤ k) (hk : k ≤ 20) (l : List α) : opEq false (.lst (l.map f)) (.lst []) = some (.val (.bl l.isEmpty)) ∧ opEq true (.lst (l.map f)) (.lst []) = some (.val (.bl (!l.isEmpty))) := by
  unfold opEq
  have hc : shp (.lst (l.map f)) = true ∧ shp (.lst []) = true := ⟨shp_map f h hk l, shp_ints []⟩
  rw [if_pos hc, if_pos hc]
  cases l <;> simp [toD, toDs, PyData.eqv, PyData.eqvAll]
theorem bent_ok {n : Nat} {D : Dr} {ts : List Tk} (ht : ∀ t ∈ ts, TkOk t) (hl : ts.length ≤ 12) (h : DOk n D) (hn : n < 800000000) :
    ∃ (us : List Tk) (b : Bool) (D' : Dr), φ__law_bent [.drw, .lst (ts.map tkT)] D = .ok (.lst (us.map tkT)) b D' ∧ (∀ t ∈ us, TkOk t) ∧ us.length ≤ 12 ∧ DOk (n + 10) D' := by
  have q1 := (eq_nilL tkT shp_tk (by decide) ts).1
  cases he : ts.isEmpty with
  | true =>
    refine ⟨ts, false, D, ?_, ht, hl, h.mono (by omega)⟩
    show resOf (f__law_bent ⟨[.sh .drw, .sh (.lst (ts.map tkT)), .no, .no, .no, .no], D⟩) = _
    unfold f__law_bent
    apply Tv.rSeqR
    · walk_at "ev"
    · rfl
  | false =>
    have hpos : 0 < ts.length := by
      cases ts with
      | nil => cases he
      | cons t ts => simp
    obtain ⟨r, D1, e1, p1, p2, k1⟩ := take_ok (size := 3) h (by omega) (by decide) (by decide)
    by_cases hr : r > 0
    · refine ⟨ts, false, D1, ?_, ht, hl, k1.mono (by omega)⟩
      show resOf (f__law_bent ⟨[.sh .drw, .sh (.lst (ts.map tkT)), .no, .no, .no, .no], D⟩) = _
      unfold f__law_bent
      apply Tv.rSeqR
      · walk_at "ev"
      · rfl
    · obtain ⟨a, D2, e2, p3, p4, k2⟩ := take_ok (size := ts.length) k1 (by omega) (by omega) (by omega)
      obtain ⟨c, D3, hc, e3, k3⟩ := pickL (is := [1, -1, 2, 8]) k2 (by omega) (by decide) (by decide)
      obtain ⟨i, rfl⟩ := Int.eq_ofNat_of_zero_le p3
      have hi : i < ts.length := by omega
      have q2 : opLen [.lst (ts.map tkT)] = some (.val (.int (ts.length : Nat))) := by rw [lenL, List.length_map]
      have q3 : (ts.map tkT)[i]? = some (tkT ts[i]) := by rw [List.getElem?_map, List.getElem?_eq_getElem hi]; rfl
      have hti := ht ts[i] (List.getElem_mem hi)
      generalize ts[i] = t at q3 hti
      have q4 : opIx (.lst (ts.map tkT)) (.int (i : Nat)) = some (.val (.tup [.tup [.int t.p, .int t.q], .int t.k, .int t.w])) := ixL q3
      have q5 : opSl none (some (i : Int)) (.lst (ts.map tkT)) = some (.frs (.lst ((ts.take i).map tkT))) := by
        show some (R.frs (.lst (cutT _ _ _))) = _
        rw [cutTake (by simp; omega), List.map_take]
      have q6 : opSl (some ((i : Int) + 1)) none (.lst (ts.map tkT)) = some (.frs (.lst ((ts.drop (i + 1)).map tkT))) := by
        show some (R.frs (.lst (cutT _ _ _))) = _
        have : ((i : Nat) : Int) + 1 = ((i + 1 : Nat) : Int) := by omega
        rw [this, cutDrop (by simp; omega), List.map_drop]
      have q7 := addL (a := (ts.take i).map tkT) (b := [T.tup [.tup [.int t.p, .int t.q], .int t.k, .int (t.w + c)]]) (by simp; omega)
      have q8 := addL (a := (ts.take i).map tkT ++ [T.tup [.tup [.int t.p, .int t.q], .int t.k, .int (t.w + c)]]) (b := (ts.drop (i + 1)).map tkT) (by simp; omega)
      refine ⟨ts.take i ++ [⟨t.p, t.q, t.k, t.w + c⟩] ++ ts.drop (i + 1), true, D3, ?_, ?_, ?_, k3.mono (by omega)⟩
      · simp only [List.map_cons, List.map_nil] at e3
        show resOf (f__law_bent ⟨[.sh .drw, .sh (.lst (ts.map tkT)), .no, .no, .no, .no], D⟩) = _
        unfold f__law_bent
        apply Tv.rSeq
        · walk_at "ev"
        apply Tv.rSeq
        · walk_at "ev"
        apply Tv.rSeq
        · walk_at "ev"
        apply Tv.eRes
        · walk_at "ev"
        · rw [List.map_append, List.map_append]; rfl
        · rfl
      · intro u hu
        rcases List.mem_append.mp hu with z | z
        · rcases List.mem_append.mp z with z | z
          · exact ht u (List.mem_of_mem_take z)
          · rw [List.mem_singleton.mp z]; exact ⟨hti.fr, hti.qs, hti.k1, hti.k8⟩
        · exact ht u (List.mem_of_mem_drop z)
      · simp only [List.length_append, List.length_take, List.length_drop, List.length_cons, List.length_nil]; omega
end K67
namespace K67
open PySem PySem.Spec PyProof.Rows L2 Tv
local macro_rules | `(tactic| walk_at "lit") => `(tactic| first
  | with_reducible exact Tv.withD_mk | with_reducible exact Tv.D_mk
  | ((with_reducible apply Tv.putE); (repeat (with_reducible apply Tv.setSE)); with_reducible exact Tv.set0E)
  | ((with_reducible apply Tv.wipeS); repeat' (first | with_reducible exact Tv.set0E | with_reducible apply Tv.setSE | with_reducible apply Tv.wipeEC | with_reducible exact Tv.wipeE0)))
local macro_rules | `(tactic| walk_at "evb") => `(tactic| first
  | with_reducible assumption | exact decide_eq_true (by first | with_reducible assumption | omega) | exact decide_eq_false (by first | with_reducible assumption | omega) | exact Tv.notD (by first | with_reducible assumption | omega) | exact Tv.notD' (by first | with_reducible assumption | omega) | exact Tv.notTe (by with_reducible assumption) | exact Tv.notFe (by with_reducible assumption) | rfl
  | (simp only [decide_eq_true_eq, decide_eq_false_iff_not, T.isNon, Bool.not_true, Bool.not_false, beq_self_eq_true]; first | done | with_reducible assumption | omega))
local macro_rules | `(tactic| walk_at "evop") => `(tactic| first
  | with_reducible assumption | with_reducible exact Tv.cmpI | with_reducible exact Tv.addI | with_reducible exact Tv.subI | with_reducible exact Tv.ixT0 | with_reducible exact Tv.ixT1 | with_reducible exact Tv.ixT2 | with_reducible exact Tv.lenT | with_reducible exact Tv.lenL | with_reducible exact Tv.maxL2 | with_reducible exact Tv.minL2 | with_reducible exact Tv.isF | with_reducible exact Tv.isT
  | ((with_reducible apply Tv.mulI); first | with_reducible assumption | omega; first | with_reducible assumption | omega) | ((with_reducible apply Tv.fdvI); first | with_reducible assumption | omega; first | with_reducible assumption | omega) | ((with_reducible apply Tv.modI); first | with_reducible assumption | omega)
  | ((with_reducible apply Tv.ixL); assumption) | ((with_reducible apply Tv.mAppE); first | with_reducible assumption | omega | (simp only [List.length_map]; omega))
  | rfl)
local macro_rules | `(tactic| walk_at "ev1") => `(tactic| first
  | with_reducible assumption | with_reducible apply Tv.eV | with_reducible apply Tv.eB | with_reducible apply Tv.eCons
  | ((with_reducible apply Tv.eVar); rfl) | ((with_reducible apply Tv.eVarO); rfl)
  | with_reducible apply Tv.eBin | with_reducible apply Tv.eDef | with_reducible apply Tv.eCall
  | with_reducible apply Tv.eSeq | with_reducible apply Tv.seqK_nx
  | with_reducible exact Tv.eNilS | with_reducible exact Tv.eRetN | with_reducible exact Tv.eK | with_reducible exact Tv.eNil | with_reducible exact Tv.tYes | with_reducible exact Tv.eONone
  | with_reducible exact Tv.seqK_rt | with_reducible exact Tv.seqK_bk | with_reducible exact Tv.seqK_ct
  | with_reducible exact Tv.retK_v | with_reducible exact Tv.retK_f | ((with_reducible apply Tv.retK_b); rfl)
  | with_reducible exact Tv.bK_v | with_reducible exact Tv.bK_f | with_reducible exact Tv.bK_b
  | with_reducible exact Tv.vK_v | with_reducible exact Tv.vK_f | ((with_reducible apply Tv.vK_b); rfl; walk_at "lit")
  | with_reducible exact Tv.trV | ((with_reducible apply Tv.trO); rfl) | with_reducible exact Tv.trs0 | with_reducible apply Tv.trsC
  | with_reducible exact Tv.defK_v | with_reducible exact Tv.defK_f | with_reducible exact Tv.gNlE
  | ((with_reducible apply Tv.setK_v); walk_at "lit") | ((with_reducible apply Tv.setK_f); walk_at "lit") | ((with_reducible apply Tv.setK_b); rfl; walk_at "lit"; walk_at "lit")
  | ((with_reducible apply Tv.gNmE); walk_at "lit") | with_reducible apply Tv.gCnE | ((with_reducible apply Tv.gTpE); rfl)
  | with_reducible apply Tv.eIf | with_reducible apply Tv.eVIf | with_reducible apply Tv.eRet | with_reducible apply Tv.eSet | with_reducible apply Tv.eDrop
  | ((with_reducible apply Tv.iteT); walk_at "evb") | ((with_reducible apply Tv.iteF); walk_at "evb")
  | with_reducible exact Tv.eOk
  | with_reducible apply Tv.eTup
  | with_reducible apply Tv.eLst | with_reducible apply Tv.eNeg | with_reducible apply Tv.eOInt | with_reducible apply Tv.eSl
  | with_reducible apply Tv.eAsT | with_reducible apply Tv.eTNot | with_reducible apply Tv.eTAnd | with_reducible apply Tv.eTOr | with_reducible apply Tv.eAnd | with_reducible apply Tv.eOr | with_reducible apply Tv.eNot
  | with_reducible exact Tv.notT | with_reducible exact Tv.notF | with_reducible exact Tv.notS
  | with_reducible apply Tv.eIsi | with_reducible apply Tv.eIsi2 | with_reducible apply Tv.eChain
  | ((with_reducible apply Tv.chT); walk_at "evb") | ((with_reducible apply Tv.chF); walk_at "evb")
  | with_reducible apply Tv.eAsg | with_reducible apply Tv.eFor | with_reducible apply Tv.eItE | with_reducible apply Tv.eItR1 | with_reducible apply Tv.eItZ
  | ((with_reducible apply Tv.eIsOw); rfl) | with_reducible apply Tv.eMut | with_reducible apply Tv.eSetIx | with_reducible apply Tv.eAug
  | with_reducible apply Tv.eProp | with_reducible apply Tv.eMake | with_reducible apply Tv.eFld | with_reducible apply Tv.eSetA | with_reducible apply Tv.eGet
  | walk_at "lit"
  | exact Nat.le_of_ble_eq_true rfl
  | walk_at "evop" | with_reducible apply Tv.andS | with_reducible apply Tv.chS | walk_at "evb" | omega
  )
local macro_rules | `(tactic| walk_at "ev") => `(tactic| repeat' (walk_at "ev1"))
open P67 (Tk Bx chg met nar narL ror full emp zmet lmet wid fit inB Sub60 Gs wishM aps fits outc isf Good)
theorem mPopI {ts : List T} {i : Nat} {t : T} (h : ts[i]? = some t) (hl : ts.length ≤ 1000) : mPop ts [.int (i : Nat)] = some (t, ts.eraseIdx i) := by
  have hi : i < ts.length := (List.getElem?_eq_some_iff.mp h).1
  have h1 : -(2 ^ 63) ≤ ((i : Nat) : Int) ∧ ((i : Nat) : Int) < 2 ^ 63 := ⟨by omega, by omega⟩
  have h2 : seqIndex? ((i : Nat) : Int) ts.length = some i := by
    unfold seqIndex?
    dsimp only
    rw [if_neg (show ¬ ((i : Nat) : Int) < 0 by omega)]
    have : (decide (0 ≤ ((i : Nat) : Int)) && decide (((i : Nat) : Int) < (ts.length : Nat))) = true := by
      rw [Bool.and_eq_true, decide_eq_true_eq, decide_eq_true_eq]; omega
    rw [if_pos this, Int.toNat_natCast]
  unfold mPop
  dsimp only
  rw [if_pos h1, h2]
  dsimp only
  rw [h]; rfl
noncomputable abbrev mxT : S → Out Bool := (asT (fBin (opEq true) (fB (fVar 2)) (fB (fLst (aNil)))))
noncomputable abbrev mxB : S → Out Fl := (fDrop (isOw 3 (fMut 3 mApp (aCons (fV (isOw 2 (fMut 2 mPop (aCons (fV (fDef 2 φ__law_take (aCons (fV (fVar 0)) (aCons (fV (fCall opLen (aCons (fB (fVar 2)) (aNil)))) (aNil))))) (aNil))))) (aNil)))))
theorem mixLoop {b1 : Sl} : ∀ (m : Nat) (ls fs : List Tk) (n : Nat) (D : Dr), ls.length = m → DOk n D → n + m < 900000000 → ls.length + fs.length ≤ 1000 →
    ∃ (us : List Tk) (D' : Dr), resOf (fSeq (fWh mxT mxB) (fRet (fVar 3)) ⟨[.sh .drw, b1, .ow (.lst (ls.map tkT)), .ow (.lst (fs.map tkT))], D⟩) = .ok (.lst (us.map tkT)) true D' ∧ (∀ t, t ∈ us ↔ t ∈ fs ∨ t ∈ ls) ∧ us.length = ls.length + fs.length ∧ DOk (n + m) D'
  | 0, ls, fs, n, D, hl, h, hn, hb => by
    have : ls = [] := List.eq_nil_of_length_eq_zero hl
    subst this
    have q1 := (eq_nilL tkT shp_tk (by decide) ([] : List Tk)).2
    refine ⟨fs, D, ?_, fun t => by simp, by simp, h⟩
    apply Tv.rWh0
    · walk_at "ev"
    · rfl
  | m + 1, ls, fs, n, D, hl, h, hn, hb => by
    have q1 := (eq_nilL tkT shp_tk (by decide) ls).2
    have he : ls.isEmpty = false := by
      cases ls with
      | nil => cases hl
      | cons t ts => rfl
    rw [he, Bool.not_false] at q1
    obtain ⟨a, D1, e1, p1, p2, k1⟩ := take_ok (size := ls.length) h (by omega) (by omega) (by omega)
    obtain ⟨i, rfl⟩ := Int.eq_ofNat_of_zero_le p1
    have hi : i < ls.length := by omega
    have q2 : opLen [.lst (ls.map tkT)] = some (.val (.int (ls.length : Nat))) := by rw [lenL, List.length_map]
    have q3 : (ls.map tkT)[i]? = some (tkT ls[i]) := by rw [List.getElem?_map, List.getElem?_eq_getElem hi]; rfl
    have q4 := mPopI q3 (by simp; omega)
    have q5 := mAppE (ts := fs.map tkT) (u := tkT ls[i]) (by simp; omega)
    have e4 : (ls.eraseIdx i).map tkT = (ls.map tkT).eraseIdx i := by rw [List.eraseIdx_eq_take_drop_succ, List.eraseIdx_eq_take_drop_succ, List.map_append, List.map_take, List.map_drop]
    have e5 : (fs ++ [ls[i]]).map tkT = fs.map tkT ++ [tkT ls[i]] := by rw [List.map_append]; rfl
    have l1 : (ls.eraseIdx i).length = m := by rw [List.length_eraseIdx_of_lt hi]; omega
    obtain ⟨us, D2, e2, h2, l2, k2⟩ := mixLoop m (ls.eraseIdx i) (fs ++ [ls[i]]) (n + 1) D1 l1 k1 (by omega) (by simp; omega)
    rw [e4, e5] at e2
    refine ⟨us, D2, ?_, fun t => ?_, by rw [l2, l1]; simp; omega, k2.mono (by omega)⟩
    · rw [← e2]
      apply Tv.rWhN
      · walk_at "ev"
      · apply Tv.eDrop
        apply Tv.eIsOw
        · rfl
        apply Tv.eMut
        · apply Tv.eCons
          · apply Tv.eV
            · apply Tv.eIsOw
              · rfl
              apply Tv.eMut
              · walk_at "ev"
              · rfl
              · exact q4
              · walk_at "lit"
            · walk_at "ev"
          · walk_at "ev"
        · rfl
        · exact q5
        · walk_at "lit"
      · rfl
    · rw [h2]
      simp only [List.mem_append, List.mem_singleton]
      have hm : t ∈ ls ↔ t = ls[i] ∨ t ∈ ls.eraseIdx i := by
        have : ls = ls.take i ++ ls[i] :: ls.drop (i + 1) := by rw [← List.drop_eq_getElem_cons hi, List.take_append_drop]
        rw [List.eraseIdx_eq_take_drop_succ]
        conv => lhs; rw [this]
        simp only [List.mem_append, List.mem_cons]
        constructor
        · rintro (z | z | z)
          · exact .inr (.inl z)
          · exact .inl z
          · exact .inr (.inr z)
        · rintro (z | z | z)
          · exact .inr (.inl z)
          · exact .inl z
          · exact .inr (.inr z)
      rw [hm]
      exact or_assoc
theorem mixed_ok {n : Nat} {D : Dr} {ts : List Tk} (hl : ts.length ≤ 100) (h : DOk n D) (hn : n < 800000000) :
    ∃ (us : List Tk) (D' : Dr), φ__law_mixed [.drw, .lst (ts.map tkT)] D = .ok (.lst (us.map tkT)) true D' ∧ (∀ t, t ∈ us ↔ t ∈ ts) ∧ us.length = ts.length ∧ DOk (n + 100) D' := by
  obtain ⟨us, D1, e1, h1, l1, k1⟩ := mixLoop (b1 := .sh (.lst (ts.map tkT))) ts.length ts [] n D rfl h (by omega) (by simp; omega)
  refine ⟨us, D1, ?_, fun t => by rw [h1]; simp, by simpa using l1, k1.mono (by omega)⟩
  rw [← e1]
  show resOf (f__law_mixed ⟨[.sh .drw, .sh (.lst (ts.map tkT)), .no, .no], D⟩) = _
  unfold f__law_mixed
  apply Tv.rSeq
  · apply Tv.eParF
    · walk_at "ev"
    · walk_at "ev"
    · walk_at "lit"
    · walk_at "lit"
  rfl
end K67
namespace K67
open PySem PySem.Spec PyProof.Rows L2 Tv
local macro_rules | `(tactic| walk_at "lit") => `(tactic| first
  | with_reducible exact Tv.withD_mk | with_reducible exact Tv.D_mk
  | ((with_reducible apply Tv.putE); (repeat (with_reducible apply Tv.setSE)); with_reducible exact Tv.set0E)
  | ((with_reducible apply Tv.wipeS); repeat' (first | with_reducible exact Tv.set0E | with_reducible apply Tv.setSE | with_reducible apply Tv.wipeEC | with_reducible exact Tv.wipeE0)))
local macro_rules | `(tactic| walk_at "evb") => `(tactic| first
  | with_reducible assumption | exact decide_eq_true (by first | with_reducible assumption | omega) | exact decide_eq_false (by first | with_reducible assumption | omega) | exact Tv.notD (by first | with_reducible assumption | omega) | exact Tv.notD' (by first | with_reducible assumption | omega) | exact Tv.notTe (by with_reducible assumption) | exact Tv.notFe (by with_reducible assumption) | rfl
  | (simp only [decide_eq_true_eq, decide_eq_false_iff_not, T.isNon, Bool.not_true, Bool.not_false, beq_self_eq_true]; first | done | with_reducible assumption | omega))
local macro_rules | `(tactic| walk_at "evop") => `(tactic| first
  | with_reducible assumption | with_reducible exact Tv.cmpI | with_reducible exact Tv.addI | with_reducible exact Tv.subI | with_reducible exact Tv.ixT0 | with_reducible exact Tv.ixT1 | with_reducible exact Tv.ixT2 | with_reducible exact Tv.lenT | with_reducible exact Tv.lenL | with_reducible exact Tv.maxL2 | with_reducible exact Tv.minL2 | with_reducible exact Tv.isF | with_reducible exact Tv.isT
  | ((with_reducible apply Tv.mulI); first | with_reducible assumption | omega; first | with_reducible assumption | omega) | ((with_reducible apply Tv.fdvI); first | with_reducible assumption | omega; first | with_reducible assumption | omega) | ((with_reducible apply Tv.modI); first | with_reducible assumption | omega)
  | ((with_reducible apply Tv.ixL); assumption) | ((with_reducible apply Tv.mAppE); first | with_reducible assumption | omega | (simp only [List.length_map]; omega))
  | rfl)
local macro_rules | `(tactic| walk_at "ev1") => `(tactic| first
  | with_reducible assumption | with_reducible apply Tv.eV | with_reducible apply Tv.eB | with_reducible apply Tv.eCons
  | ((with_reducible apply Tv.eVar); rfl) | ((with_reducible apply Tv.eVarO); rfl)
  | with_reducible apply Tv.eBin | with_reducible apply Tv.eDef | with_reducible apply Tv.eCall
  | with_reducible apply Tv.eSeq | with_reducible apply Tv.seqK_nx
  | with_reducible exact Tv.eNilS | with_reducible exact Tv.eRetN | with_reducible exact Tv.eK | with_reducible exact Tv.eNil | with_reducible exact Tv.tYes | with_reducible exact Tv.eONone
  | with_reducible exact Tv.seqK_rt | with_reducible exact Tv.seqK_bk | with_reducible exact Tv.seqK_ct
  | with_reducible exact Tv.retK_v | with_reducible exact Tv.retK_f | ((with_reducible apply Tv.retK_b); rfl)
  | with_reducible exact Tv.bK_v | with_reducible exact Tv.bK_f | with_reducible exact Tv.bK_b
  | with_reducible exact Tv.vK_v | with_reducible exact Tv.vK_f | ((with_reducible apply Tv.vK_b); rfl; walk_at "lit")
  | with_reducible exact Tv.trV | ((with_reducible apply Tv.trO); rfl) | with_reducible exact Tv.trs0 | with_reducible apply Tv.trsC
  | with_reducible exact Tv.defK_v | with_reducible exact Tv.defK_f | with_reducible exact Tv.gNlE
  | ((with_reducible apply Tv.setK_v); walk_at "lit") | ((with_reducible apply Tv.setK_f); walk_at "lit") | ((with_reducible apply Tv.setK_b); rfl; walk_at "lit"; walk_at "lit")
  | ((with_reducible apply Tv.gNmE); walk_at "lit") | with_reducible apply Tv.gCnE | ((with_reducible apply Tv.gTpE); rfl)
  | with_reducible apply Tv.eIf | with_reducible apply Tv.eVIf | with_reducible apply Tv.eRet | with_reducible apply Tv.eSet | with_reducible apply Tv.eDrop
  | ((with_reducible apply Tv.iteT); walk_at "evb") | ((with_reducible apply Tv.iteF); walk_at "evb")
  | with_reducible exact Tv.eOk
  | with_reducible apply Tv.eTup
  | with_reducible apply Tv.eLst | with_reducible apply Tv.eNeg | with_reducible apply Tv.eOInt | with_reducible apply Tv.eSl
  | with_reducible apply Tv.eAsT | with_reducible apply Tv.eTNot | with_reducible apply Tv.eTAnd | with_reducible apply Tv.eTOr | with_reducible apply Tv.eAnd | with_reducible apply Tv.eOr | with_reducible apply Tv.eNot
  | with_reducible exact Tv.notT | with_reducible exact Tv.notF | with_reducible exact Tv.notS
  | with_reducible apply Tv.eIsi | with_reducible apply Tv.eIsi2 | with_reducible apply Tv.eChain
  | ((with_reducible apply Tv.chT); walk_at "evb") | ((with_reducible apply Tv.chF); walk_at "evb")
  | with_reducible apply Tv.eAsg | with_reducible apply Tv.eFor | with_reducible apply Tv.eItE | with_reducible apply Tv.eItR1 | with_reducible apply Tv.eItZ
  | ((with_reducible apply Tv.eIsOw); rfl) | with_reducible apply Tv.eMut | with_reducible apply Tv.eSetIx | with_reducible apply Tv.eAug
  | with_reducible apply Tv.eProp | with_reducible apply Tv.eMake | with_reducible apply Tv.eFld | with_reducible apply Tv.eSetA | with_reducible apply Tv.eGet
  | walk_at "lit"
  | exact Nat.le_of_ble_eq_true rfl
  | walk_at "evop" | with_reducible apply Tv.andS | with_reducible apply Tv.chS | walk_at "evb" | omega
  )
local macro_rules | `(tactic| walk_at "ev") => `(tactic| repeat' (walk_at "ev1"))
open P67 (Tk Bx chg met nar narL ror full emp zmet lmet wid fit inB Sub60 Gs wishM aps fits outc isf Good)
theorem toldE {ss : List Sh} {ts : List Tk} {f : S → Out (List T)} {s s1 s2 : S} {D : Dr} (h : SsOk ss) (ht : ∀ t ∈ ts, TkOk t) (e : f s = .ok [.lst (ss.map shT), .lst (ts.map tkT)] s1) (hD : s1.D = D) (h2 : s1.withD D = s2) :
    fTold 7 "at" "told" "none" (fV (fDef 2 φ_ranges f)) s = .ok (.val (tdT (ror ss ts (full ss) 0))) s2 := by
  have e1 := ranges_ok (D := D) h ht
  cases hr : ror ss ts (full ss) 0 with
  | inl b =>
    rw [hr] at e1
    unfold rngR at e1
    dsimp only at e1
    apply Tv.eToldT
    apply Tv.eV
    · apply Tv.eDef
      · exact e
      · rfl
      · exact hD
      · exact e1
      · rfl
      · exact h2
    · rfl
  | inr i =>
    rw [hr] at e1
    unfold rngR at e1
    dsimp only at e1
    apply Tv.eToldN
    · apply Tv.eVX
      apply Tv.eDefX
      · exact e
      · rfl
      · exact hD
      · exact e1
      · exact h2
    · rfl
theorem zmet_zip : ∀ (b a : Bx), zmet b a = (b.zip a).map fun x => met x.1 x.2
  | [], a => by simp [zmet]
  | x :: b, [] => by simp [zmet]
  | x :: b, y :: a => by simp [zmet, zmet_zip b a]
theorem filter_emp (b : Bx) : (b.filter fun x => decide (x.1 > x.2)).isEmpty = !emp b := by
  unfold emp
  induction b with
  | nil => rfl
  | cons x b ih =>
    by_cases h : x.1 > x.2
    · rw [List.filter_cons_of_pos (by simpa using h)]; simp [h]
    · rw [List.filter_cons_of_neg (by simpa using h), ih]; simp [h]
theorem shp_pr (x : Int × Int) : pl (prT x) = true ∧ PyData.canLay0 (toD (prT x)) = true ∧ PyData.depth (toD (prT x)) ≤ 10 := by
  simp [prT, pl, pls, toD, toDs, PyData.canLay0, PyData.canLayAll0, PyData.depth, PyData.depthAll]
theorem shp_none : shp (.str "none") = true := shp_lit _ (by decide +kernel)
theorem shp_told : shp (.str "told") = true := shp_lit _ (by decide +kernel)
theorem q_tn : opEq false (.str "told") (.str "none") = some (.val (.bl false)) := by
  have e : (("told" : Str) == ("none" : Str)) = false := by decide +kernel
  rw [eq_str _ _ shp_told shp_none, e]
theorem q_nn : opEq false (.str "none") (.str "none") = some (.val (.bl true)) := by rw [eq_str _ _ shp_none shp_none]; simp
theorem q_tt : opEq false (.str "told") (.str "told") = some (.val (.bl true)) := by rw [eq_str _ _ shp_told shp_told]; simp
theorem q_nt : opEq false (.str "none") (.str "told") = some (.val (.bl false)) := by
  have e : (("none" : Str) == ("told" : Str)) = false := by decide +kernel
  rw [eq_str _ _ shp_none shp_told, e]
theorem n_tt : opEq true (.str "told") (.str "told") = some (.val (.bl false)) := by rw [ne_str _ _ shp_told shp_told]; simp
theorem n_nn : opEq true (.str "none") (.str "none") = some (.val (.bl false)) := by rw [ne_str _ _ shp_none shp_none]; simp
theorem td0l (b : Bx) : opIx (tdT (.inl b)) (.int 0) = some (.val (.str "told")) := ixT0
theorem td0r (i : Nat) : opIx (tdT (.inr i)) (.int 0) = some (.val (.str "none")) := ixT0
theorem td1l (b : Bx) : opIx (tdT (.inl b)) (.int 1) = some (.val (.lst (b.map prT))) := ixT1
noncomputable abbrev lmGf : T → S → Option S := (gTp 2 (gCn (gNm 3) (gCn (gNm 5) (gNl))))
noncomputable abbrev lmA : S → Out Fl := (fSet 4 (fTold 7 "at" "told" "none" (fV (fDef 2 φ_ranges (aCons (fV (fVar 0)) (aCons (fV (fLst (aCons (fV (fVar 5)) (aNil)))) (aNil)))))))
noncomputable abbrev lmB : S → Out Fl := (fIf (asT (fBin (opEq false) (fB (fBin opIx (fB (fVar 4)) (fB (fK (.int 0))))) (fB (fK (.str "none"))))) (fRet (fTup (aCons (fV (fK (.str "none"))) (aCons (fV (fVar 3)) (aNil))))) (fNil))
noncomputable abbrev lmZ : S → Out R := (fLc (itZ2 (fV (fVar 2)) (fV (fBin opIx (fB (fVar 4)) (fB (fK (.int 1)))))) [6, 7] (gTp 2 (gCn (gNm 6) (gCn (gNm 7) (gNl)))) (tYesF) (fV (fTup (aCons (fV (fCall opMax (aCons (fB (fBin opIx (fB (fVar 6)) (fB (fK (.int 0))))) (aCons (fB (fBin opIx (fB (fVar 7)) (fB (fK (.int 0))))) (aNil))))) (aCons (fV (fCall opMin (aCons (fB (fBin opIx (fB (fVar 6)) (fB (fK (.int 1))))) (aCons (fB (fBin opIx (fB (fVar 7)) (fB (fK (.int 1))))) (aNil))))) (aNil))))))
noncomputable abbrev lmP : S → Out R := (fLc (itS (fV (fVar 2))) [8] (gNm 8) (asT (fBin opGt (fB (fBin opIx (fB (fVar 8)) (fB (fK (.int 0))))) (fB (fBin opIx (fB (fVar 8)) (fB (fK (.int 1))))))) (fV (fVar 8)))
noncomputable abbrev lmBody : S → Out Fl := (fSeq lmA (fSeq lmB (fSeq (fSet 2 lmZ) (fIf (asT (fBin (opEq true) (fB lmP) (fB (fLst (aNil))))) (fRet (fTup (aCons (fV (fK (.str "none"))) (aCons (fV (fVar 3)) (aNil))))) (fNil)))))
theorem maxI {i j : Int} : opMax [.int i, .int j] = some (.val (.int (if j > i then j else i))) := rfl
theorem minI {i j : Int} : opMin [.int i, .int j] = some (.val (.int (if j < i then j else i))) := rfl
theorem lmetLoop {ss : List Sh} {c1 : Sl} {D : Dr} (h : SsOk ss) : ∀ (ts : List Tk) (i : Nat) (b : Bx) (b2 b3 b4 b5 : Sl), b.length ≤ 1000 → (∀ t ∈ ts, TkOk t) → (b2 = .ow (.lst (b.map prT)) ∨ b2 = .sh (.lst (b.map prT))) →
    resOf (fSeq (forL lmGf lmBody (enumT i (ts.map tkT))) (fRet (fTup (aCons (fV (fK (.str "told"))) (aCons (fV (fVar 2)) (aNil))))) ⟨[.sh (.lst (ss.map shT)), c1, b2, b3, b4, b5, .no, .no, .no], D⟩) = .ok (tdT (lmet ss ts b i)) false D
  | [], i, b, b2, b3, b4, b5, hl, ht, hb => by
    apply Tv.rFor0
    rcases hb with rfl | rfl
    · apply Tv.eRes
      · walk_at "ev"
      · rfl
      · rfl
    · apply Tv.eRes
      · walk_at "ev"
      · rfl
      · rfl
  | t :: ts, i, b, b2, b3, b4, b5, hl, ht, hb => by
    have h1 : ∀ u ∈ [t], TkOk u := fun u hu => by rw [List.mem_singleton.mp hu]; exact ht t (by simp)
    have q1 := q_tn
    have q2 := q_nn
    show resOf (fSeq (forL lmGf lmBody (.tup [.int (i : Nat), tkT t] :: enumT (i + 1) (ts.map tkT))) _ _) = .ok (tdT (match ror ss [t] (full ss) 0 with
      | .inr _ => .inr i
      | .inl a => if emp (zmet b a) = true then .inr i else lmet ss ts (zmet b a) (i + 1))) false D
    have eA : ∀ b2, lmA ⟨[.sh (.lst (ss.map shT)), c1, b2, .sh (.int (i : Nat)), b4, .sh (tkT t), .no, .no, .no], D⟩ = .ok .nx ⟨[.sh (.lst (ss.map shT)), c1, b2, .sh (.int (i : Nat)), .sh (tdT (ror ss [t] (full ss) 0)), .sh (tkT t), .no, .no, .no], D⟩ := fun b2 => by
      apply Tv.eSet
      · apply toldE h h1
        · walk_at "ev"
        · rfl
        · walk_at "lit"
      · walk_at "ev"
    cases hr : ror ss [t] (full ss) 0 with
    | inr j =>
      rw [hr] at eA
      have q3 := td0r j
      have eA := eA b2
      apply Tv.rForR
      · walk_at "ev"
      · walk_at "ev"
      · rfl
    | inl a =>
      rw [hr] at eA
      have q3 := td0l a
      have q4 := td1l a
      have q5 := (eq_nilL prT shp_pr (by decide) ((zmet b a).filter fun x => decide (x.1 > x.2))).2
      rw [filter_emp, Bool.not_not] at q5
      have la := (ror_facts h h1 hr).1
      have l4 := h.l4
      have lz : (zmet b a).length ≤ 1000 := by rw [zmet_zip, List.length_map, List.length_zip]; omega
      have eZ : ∀ b2, (b2 = Sl.ow (.lst (b.map prT)) ∨ b2 = .sh (.lst (b.map prT))) → lmZ ⟨[.sh (.lst (ss.map shT)), c1, b2, .sh (.int (i : Nat)), .sh (tdT (.inl a)), .sh (tkT t), .no, .no, .no], D⟩ = .ok (.frs (.lst ((zmet b a).map prT))) ⟨[.sh (.lst (ss.map shT)), c1, .sh (.lst (b.map prT)), .sh (.int (i : Nat)), .sh (tdT (.inl a)), .sh (tkT t), .no, .no, .no], D⟩ := by
        rw [zmet_zip, List.map_map]
        intro b2 hb
        apply Tv.eLcA (l := b.zip a) (fun x => .tup [prT x.1, prT x.2])
        · rcases hb with rfl | rfl
          · apply Tv.eItZ
            · walk_at "ev"
            · walk_at "ev"
            · rfl
            · rfl
          · apply Tv.eItZ
            · walk_at "ev"
            · walk_at "ev"
            · rfl
            · rfl
        · exact zipT_map prT prT b a
        · rfl
        · walk_at "lit"
        · rw [List.length_zip]; omega
        · intro y hy
          obtain ⟨⟨y1, y2⟩, ⟨y3, y4⟩⟩ := y
          have w1 : opIx (prT (y1, y2)) (.int 0) = some (.val (.int y1)) := ixT0
          have w2 : opIx (prT (y1, y2)) (.int 1) = some (.val (.int y2)) := ixT1
          have w3 : opIx (prT (y3, y4)) (.int 0) = some (.val (.int y3)) := ixT0
          have w4 : opIx (prT (y3, y4)) (.int 1) = some (.val (.int y4)) := ixT1
          have w5 := maxI (i := y1) (j := y3)
          have w6 := minI (i := y2) (j := y4)
          apply Tv.lcTnA
          · walk_at "ev"
          · show _ = Out.ok (T.tup [T.int (if y3 > y1 then y3 else y1), T.int (if y4 < y2 then y4 else y2)]) _
            walk_at "ev"
          · rfl
        · rfl
      have eP : lmP ⟨[.sh (.lst (ss.map shT)), c1, .ow (.lst ((zmet b a).map prT)), .sh (.int (i : Nat)), .sh (tdT (.inl a)), .sh (tkT t), .no, .no, .no], D⟩ = .ok (.frs (.lst (((zmet b a).filter fun x => decide (x.1 > x.2)).map prT))) ⟨[.sh (.lst (ss.map shT)), c1, .sh (.lst ((zmet b a).map prT)), .sh (.int (i : Nat)), .sh (tdT (.inl a)), .sh (tkT t), .no, .no, .no], D⟩ := by
        apply Tv.eLc (l := zmet b a) prT (fun x => decide (x.1 > x.2)) prT
        · apply Tv.eItS
          walk_at "ev"
        · rfl
        · rfl
        · walk_at "lit"
        · omega
        · intro y hy
          have w1 : opIx (prT y) (.int 0) = some (.val (.int y.1)) := ixT0
          have w2 : opIx (prT y) (.int 1) = some (.val (.int y.2)) := ixT1
          apply Tv.lcTn
          · walk_at "ev"
          · walk_at "ev"
          · walk_at "ev"
          · rfl
          · rfl
        · rfl
      cases he : emp (zmet b a) with
      | true =>
        rw [he] at q5
        dsimp only
        rw [he, if_pos rfl]
        have eZ := eZ b2 hb
        have eA := eA b2
        apply Tv.rForR
        · walk_at "ev"
        · walk_at "ev"
        · rfl
      | false =>
        rw [he] at q5
        dsimp only
        rw [he, if_neg Bool.false_ne_true, ← lmetLoop (c1 := c1) (D := D) h ts (i + 1) (zmet b a) _ (.sh (.int (i : Nat))) (.sh (tdT (.inl a))) (.sh (tkT t)) lz (fun u hu => ht u (by simp [hu])) (.inr rfl)]
        have eZ := eZ b2 hb
        have eA := eA b2
        apply Tv.rForN
        · walk_at "ev"
        · walk_at "ev"
        · rfl
end K67
namespace K67
open PySem PySem.Spec PyProof.Rows L2 Tv
local macro_rules | `(tactic| walk_at "lit") => `(tactic| first
  | with_reducible exact Tv.withD_mk | with_reducible exact Tv.D_mk
  | ((with_reducible apply Tv.putE); (repeat (with_reducible apply Tv.setSE)); with_reducible exact Tv.set0E)
  | ((with_reducible apply Tv.wipeS); repeat' (first | with_reducible exact Tv.set0E | with_reducible apply Tv.setSE | with_reducible apply Tv.wipeEC | with_reducible exact Tv.wipeE0)))
local macro_rules | `(tactic| walk_at "evb") => `(tactic| first
  | with_reducible assumption | exact decide_eq_true (by first | with_reducible assumption | omega) | exact decide_eq_false (by first | with_reducible assumption | omega) | exact Tv.notD (by first | with_reducible assumption | omega) | exact Tv.notD' (by first | with_reducible assumption | omega) | exact Tv.notTe (by with_reducible assumption) | exact Tv.notFe (by with_reducible assumption) | rfl
  | (simp only [decide_eq_true_eq, decide_eq_false_iff_not, T.isNon, Bool.not_true, Bool.not_false, beq_self_eq_true]; first | done | with_reducible assumption | omega))
local macro_rules | `(tactic| walk_at "evop") => `(tactic| first
  | with_reducible assumption | with_reducible exact Tv.cmpI | with_reducible exact Tv.addI | with_reducible exact Tv.subI | with_reducible exact Tv.ixT0 | with_reducible exact Tv.ixT1 | with_reducible exact Tv.ixT2 | with_reducible exact Tv.lenT | with_reducible exact Tv.lenL | with_reducible exact Tv.maxL2 | with_reducible exact Tv.minL2 | with_reducible exact Tv.isF | with_reducible exact Tv.isT
  | ((with_reducible apply Tv.mulI); first | with_reducible assumption | omega; first | with_reducible assumption | omega) | ((with_reducible apply Tv.fdvI); first | with_reducible assumption | omega; first | with_reducible assumption | omega) | ((with_reducible apply Tv.modI); first | with_reducible assumption | omega)
  | ((with_reducible apply Tv.ixL); assumption) | ((with_reducible apply Tv.mAppE); first | with_reducible assumption | omega | (simp only [List.length_map]; omega))
  | rfl)
local macro_rules | `(tactic| walk_at "ev1") => `(tactic| first
  | with_reducible assumption | with_reducible apply Tv.eV | with_reducible apply Tv.eB | with_reducible apply Tv.eCons
  | ((with_reducible apply Tv.eVar); rfl) | ((with_reducible apply Tv.eVarO); rfl)
  | with_reducible apply Tv.eBin | with_reducible apply Tv.eDef | with_reducible apply Tv.eCall
  | with_reducible apply Tv.eSeq | with_reducible apply Tv.seqK_nx
  | with_reducible exact Tv.eNilS | with_reducible exact Tv.eRetN | with_reducible exact Tv.eK | with_reducible exact Tv.eNil | with_reducible exact Tv.tYes | with_reducible exact Tv.eONone
  | with_reducible exact Tv.seqK_rt | with_reducible exact Tv.seqK_bk | with_reducible exact Tv.seqK_ct
  | with_reducible exact Tv.retK_v | with_reducible exact Tv.retK_f | ((with_reducible apply Tv.retK_b); rfl)
  | with_reducible exact Tv.bK_v | with_reducible exact Tv.bK_f | with_reducible exact Tv.bK_b
  | with_reducible exact Tv.vK_v | with_reducible exact Tv.vK_f | ((with_reducible apply Tv.vK_b); rfl; walk_at "lit")
  | with_reducible exact Tv.trV | ((with_reducible apply Tv.trO); rfl) | with_reducible exact Tv.trs0 | with_reducible apply Tv.trsC
  | with_reducible exact Tv.defK_v | with_reducible exact Tv.defK_f | with_reducible exact Tv.gNlE
  | ((with_reducible apply Tv.setK_v); walk_at "lit") | ((with_reducible apply Tv.setK_f); walk_at "lit") | ((with_reducible apply Tv.setK_b); rfl; walk_at "lit"; walk_at "lit")
  | ((with_reducible apply Tv.gNmE); walk_at "lit") | with_reducible apply Tv.gCnE | ((with_reducible apply Tv.gTpE); rfl)
  | with_reducible apply Tv.eIf | with_reducible apply Tv.eVIf | with_reducible apply Tv.eRet | with_reducible apply Tv.eSet | with_reducible apply Tv.eDrop
  | ((with_reducible apply Tv.iteT); walk_at "evb") | ((with_reducible apply Tv.iteF); walk_at "evb")
  | with_reducible exact Tv.eOk
  | with_reducible apply Tv.eTup
  | with_reducible apply Tv.eLst | with_reducible apply Tv.eNeg | with_reducible apply Tv.eOInt | with_reducible apply Tv.eSl
  | with_reducible apply Tv.eAsT | with_reducible apply Tv.eTNot | with_reducible apply Tv.eTAnd | with_reducible apply Tv.eTOr | with_reducible apply Tv.eAnd | with_reducible apply Tv.eOr | with_reducible apply Tv.eNot
  | with_reducible exact Tv.notT | with_reducible exact Tv.notF | with_reducible exact Tv.notS
  | with_reducible apply Tv.eIsi | with_reducible apply Tv.eIsi2 | with_reducible apply Tv.eChain
  | ((with_reducible apply Tv.chT); walk_at "evb") | ((with_reducible apply Tv.chF); walk_at "evb")
  | with_reducible apply Tv.eAsg | with_reducible apply Tv.eFor | with_reducible apply Tv.eItE | with_reducible apply Tv.eItR1 | with_reducible apply Tv.eItZ
  | ((with_reducible apply Tv.eIsOw); rfl) | with_reducible apply Tv.eMut | with_reducible apply Tv.eSetIx | with_reducible apply Tv.eAug
  | with_reducible apply Tv.eProp | with_reducible apply Tv.eMake | with_reducible apply Tv.eFld | with_reducible apply Tv.eSetA | with_reducible apply Tv.eGet
  | walk_at "lit"
  | exact Nat.le_of_ble_eq_true rfl
  | walk_at "evop" | with_reducible apply Tv.andS | with_reducible apply Tv.chS | walk_at "evb" | omega
  )
local macro_rules | `(tactic| walk_at "ev") => `(tactic| repeat' (walk_at "ev1"))
open P67 (Tk Bx chg met nar narL ror full emp zmet lmet wid fit inB Sub60 Gs wishM aps fits outc isf Good)
theorem lawmet_ok {ss : List Sh} {ts : List Tk} {D : Dr} (h : SsOk ss) (ht : ∀ t ∈ ts, TkOk t) : φ__law_met [.lst (ss.map shT), .lst (ts.map tkT)] D = .ok (tdT (ror ss ts (full ss) 0)) false D := by
  have e0 := mulRep (a := .tup [.int 1, .int 60]) (n := ss.length) (by have := h.l4; omega)
  have e2 : opLen [.lst (ss.map shT)] = some (.val (.int (ss.length : Nat))) := by rw [lenL, List.length_map]
  rw [← P67.lmet_eq (gs_of h.sh) ts (full ss) 0 (fun t hm => (ht t hm).tok) (P67.full_len ss) (P67.full_60 ss)]
  show resOf (f__law_met ⟨[.sh (.lst (ss.map shT)), .sh (.lst (ts.map tkT)), .no, .no, .no, .no, .no, .no, .no], D⟩) = _
  unfold f__law_met
  apply Tv.rSeq
  · walk_at "ev"
  apply Tv.rFor
  · walk_at "ev"
  have e1 : (full ss).map prT = List.replicate ss.length (.tup [.int 1, .int 60]) := by unfold full; rw [List.map_replicate]; rfl
  rw [← e1]
  exact lmetLoop h ts 0 (full ss) _ _ _ _ (by rw [P67.full_len]; have := h.l4; omega) ht (.inl rfl)
def manyZ (z : Bx ⊕ Nat) : Int := match z with
  | .inl b => wid b
  | .inr _ => 0
noncomputable abbrev myGf : T → S → Option S := (gTp 2 (gCn (gNm 2) (gCn (gNm 3) (gNl))))
noncomputable abbrev myBody : S → Out Fl := (fSet 1 (fBin opMul (fB (fVar 1)) (fB (fBin opAdd (fB (fBin opSub (fB (fVar 3)) (fB (fVar 2)))) (fB (fK (.int 1)))))))
theorem pow60 (n : Nat) : (1 : Int) ≤ 60 ^ n := by
  have := Nat.one_le_pow n 60 (by decide)
  exact_mod_cast this
theorem myLoop {c0 : Sl} {D : Dr} : ∀ (b : Bx) (acc : Int) (b2 b3 : Sl), Sub60 b → Good b → 0 ≤ acc → acc * 60 ^ b.length ≤ 60 ^ 4 → resOf (fSeq (forL myGf myBody (b.map prT)) (fRet (fVar 1)) ⟨[c0, .sh (.int acc), b2, b3], D⟩) = .ok (.int (acc * wid b)) false D
  | [], acc, b2, b3, _, _, _, _ => by
    have : wid [] = 1 := rfl
    rw [this, Int.mul_one]; rfl
  | x :: b, acc, b2, b3, h6, hg, h0, hb => by
    have hx := h6 x (by simp)
    have hy := hg x (by simp)
    obtain ⟨lo, hi⟩ := x
    dsimp only at hx hy
    have p1 := pow60 b.length
    have p2 := pow60 (b.length + 1)
    simp only [List.length_cons] at hb
    have a1 : acc * 1 ≤ acc * 60 ^ (b.length + 1) := Int.mul_le_mul_of_nonneg_left p2 h0
    have e60 : (60 : Int) ^ 4 = 12960000 := by decide
    have a2 : 0 ≤ acc * (hi - lo + 1) := Int.mul_nonneg h0 (by omega)
    have a3 : acc * (hi - lo + 1) ≤ acc * 60 := Int.mul_le_mul_of_nonneg_left (by omega) h0
    have a4 : acc * (hi - lo + 1) * 60 ^ b.length ≤ acc * 60 * 60 ^ b.length := Int.mul_le_mul_of_nonneg_right a3 (by omega)
    have a5 : acc * 60 * 60 ^ b.length = acc * 60 ^ (b.length + 1) := by rw [Int.pow_succ, Int.mul_assoc, Int.mul_comm 60]
    have e1 : opMul (.int acc) (.int (hi - lo + 1)) = some (.val (.int (acc * (hi - lo + 1)))) := mulI (by omega) (by omega)
    have e : acc * wid ((lo, hi) :: b) = acc * (hi - lo + 1) * wid b := by simp only [wid]; rw [Int.mul_assoc]
    rw [e, ← myLoop (c0 := c0) (D := D) b (acc * (hi - lo + 1)) (.sh (.int lo)) (.sh (.int hi)) h6.tl (fun y hy => hg y (List.mem_cons_of_mem _ hy)) a2 (by omega)]
    rw [List.map_cons]
    apply Tv.rForN
    · apply Tv.gTpE
      · rfl
      · walk_at "ev"
    · walk_at "ev"
    · rfl
theorem many_ok {z : Bx ⊕ Nat} {D : Dr} (h : match z with | .inl b => Sub60 b ∧ Good b ∧ b.length ≤ 4 | .inr i => True) : φ__law_many [tdT z] D = .ok (.int (manyZ z)) false D := by
  have q1 := q_tt
  have q2 := q_nt
  have q3 : opInt [.bl true] = some (.val (.int 1)) := rfl
  have q4 : opInt [.bl false] = some (.val (.int 0)) := rfl
  have q5 := eq_int 1 1
  have q6 := eq_int 0 1
  show resOf (f__law_many ⟨[.sh (tdT z), .no, .no, .no], D⟩) = _
  unfold f__law_many
  cases z with
  | inl b =>
    obtain ⟨h1, h2, h3⟩ := h
    have q7 := td0l b
    have q8 := td1l b
    apply Tv.rSeq
    · walk_at "ev"
    apply Tv.rFor
    · apply Tv.eItS
      walk_at "ev"
    rw [myLoop b 1 _ _ h1 h2 (by decide) (by
      have : (60 : Int) ^ b.length ≤ 60 ^ 4 := by exact_mod_cast Nat.pow_le_pow_right (by decide) h3
      omega), Int.one_mul]
    rfl
  | inr i =>
    have q7 := td0r i
    apply Tv.rSeq
    · walk_at "ev"
    apply Tv.rFor
    · apply Tv.eItS
      walk_at "ev"
    rfl
theorem ror_bd {ss : List Sh} : ∀ (ts : List Tk) (b : Bx) (i j : Nat), ror ss ts b i = .inr j → j < i + ts.length
  | [], b, i, j, h => by simp [ror] at h
  | t :: ts, b, i, j, h => by
    simp only [ror] at h
    simp only [List.length_cons]
    cases hn : nar ss b t with
    | none => rw [hn] at h; cases h; omega
    | some b' =>
      rw [hn] at h
      dsimp only at h
      split at h
      · cases h; omega
      · have := ror_bd ts b' (i + 1) j h
        omega
theorem ror_td {ss : List Sh} {ts : List Tk} (h : SsOk ss) (ht : ∀ t ∈ ts, TkOk t) (hl : ts.length ≤ 1000) : match ror ss ts (full ss) 0 with | .inl b => Sub60 b ∧ Good b ∧ b.length ≤ 4 | .inr i => i ≤ 1000 := by
  cases hr : ror ss ts (full ss) 0 with
  | inl b =>
    obtain ⟨b1, b2, b3⟩ := ror_facts h ht hr
    exact ⟨b2, b3, by rw [b1]; exact h.l4⟩
  | inr i => have z := ror_bd _ _ _ _ hr; dsimp only; omega
theorem fit_many (ss : List Sh) (ts : List Tk) : fit ss ts = manyZ (ror ss ts (full ss) 0) := rfl
theorem notin_bools (l : List Bool) : opIn true (.bl false) (.lst (l.map T.bl)) = some (.val (.bl (l.all id))) := by
  have s1 : shp (.bl false) = true := by decide +kernel
  have s2 : shp (.lst (l.map T.bl)) = true := shp_map T.bl (k := 5) (fun b => by simp [pl, toD, PyData.canLay0, PyData.depth]) (by decide) l
  show (if shp (.bl false) = true ∧ shp (.lst (l.map T.bl)) = true then some (R.val (.bl (if true = true then !(toDs (l.map T.bl)).any (fun z => PyData.eqv z (toD (.bl false))) else _))) else none) = _
  rw [if_pos ⟨s1, s2⟩, if_pos rfl, toDs_map, List.any_map]
  congr 3
  induction l with
  | nil => rfl
  | cons b l ih =>
    have s2' : shp (.lst (l.map T.bl)) = true := shp_map T.bl (k := 5) (fun b => by simp [pl, toD, PyData.canLay0, PyData.depth]) (by decide) l
    have := ih s2'
    rw [List.any_cons, List.all_cons, Bool.not_or, this]
    simp only [Function.comp, toD, PyData.eqv]
    cases b <;> simp
end K67
namespace K67
open PySem PySem.Spec PyProof.Rows L2 Tv
local macro_rules | `(tactic| walk_at "lit") => `(tactic| first
  | with_reducible exact Tv.withD_mk | with_reducible exact Tv.D_mk
  | ((with_reducible apply Tv.putE); (repeat (with_reducible apply Tv.setSE)); with_reducible exact Tv.set0E)
  | ((with_reducible apply Tv.wipeS); repeat' (first | with_reducible exact Tv.set0E | with_reducible apply Tv.setSE | with_reducible apply Tv.wipeEC | with_reducible exact Tv.wipeE0)))
local macro_rules | `(tactic| walk_at "evb") => `(tactic| first
  | with_reducible assumption | exact decide_eq_true (by first | with_reducible assumption | omega) | exact decide_eq_false (by first | with_reducible assumption | omega) | exact Tv.notD (by first | with_reducible assumption | omega) | exact Tv.notD' (by first | with_reducible assumption | omega) | exact Tv.notTe (by with_reducible assumption) | exact Tv.notFe (by with_reducible assumption) | rfl
  | (simp only [decide_eq_true_eq, decide_eq_false_iff_not, T.isNon, Bool.not_true, Bool.not_false, beq_self_eq_true]; first | done | with_reducible assumption | omega))
local macro_rules | `(tactic| walk_at "evop") => `(tactic| first
  | with_reducible assumption | with_reducible exact Tv.cmpI | with_reducible exact Tv.addI | with_reducible exact Tv.subI | with_reducible exact Tv.ixT0 | with_reducible exact Tv.ixT1 | with_reducible exact Tv.ixT2 | with_reducible exact Tv.lenT | with_reducible exact Tv.lenL | with_reducible exact Tv.maxL2 | with_reducible exact Tv.minL2 | with_reducible exact Tv.isF | with_reducible exact Tv.isT
  | ((with_reducible apply Tv.mulI); first | with_reducible assumption | omega; first | with_reducible assumption | omega) | ((with_reducible apply Tv.fdvI); first | with_reducible assumption | omega; first | with_reducible assumption | omega) | ((with_reducible apply Tv.modI); first | with_reducible assumption | omega)
  | ((with_reducible apply Tv.ixL); assumption) | ((with_reducible apply Tv.mAppE); first | with_reducible assumption | omega | (simp only [List.length_map]; omega))
  | rfl)
local macro_rules | `(tactic| walk_at "ev1") => `(tactic| first
  | with_reducible assumption | with_reducible apply Tv.eV | with_reducible apply Tv.eB | with_reducible apply Tv.eCons
  | ((with_reducible apply Tv.eVar); rfl) | ((with_reducible apply Tv.eVarO); rfl)
  | with_reducible apply Tv.eBin | with_reducible apply Tv.eDef | with_reducible apply Tv.eCall
  | with_reducible apply Tv.eSeq | with_reducible apply Tv.seqK_nx
  | with_reducible exact Tv.eNilS | with_reducible exact Tv.eRetN | with_reducible exact Tv.eK | with_reducible exact Tv.eNil | with_reducible exact Tv.tYes | with_reducible exact Tv.eONone
  | with_reducible exact Tv.seqK_rt | with_reducible exact Tv.seqK_bk | with_reducible exact Tv.seqK_ct
  | with_reducible exact Tv.retK_v | with_reducible exact Tv.retK_f | ((with_reducible apply Tv.retK_b); rfl)
  | with_reducible exact Tv.bK_v | with_reducible exact Tv.bK_f | with_reducible exact Tv.bK_b
  | with_reducible exact Tv.vK_v | with_reducible exact Tv.vK_f | ((with_reducible apply Tv.vK_b); rfl; walk_at "lit")
  | with_reducible exact Tv.trV | ((with_reducible apply Tv.trO); rfl) | with_reducible exact Tv.trs0 | with_reducible apply Tv.trsC
  | with_reducible exact Tv.defK_v | with_reducible exact Tv.defK_f | with_reducible exact Tv.gNlE
  | ((with_reducible apply Tv.setK_v); walk_at "lit") | ((with_reducible apply Tv.setK_f); walk_at "lit") | ((with_reducible apply Tv.setK_b); rfl; walk_at "lit"; walk_at "lit")
  | ((with_reducible apply Tv.gNmE); walk_at "lit") | with_reducible apply Tv.gCnE | ((with_reducible apply Tv.gTpE); rfl)
  | with_reducible apply Tv.eIf | with_reducible apply Tv.eVIf | with_reducible apply Tv.eRet | with_reducible apply Tv.eSet | with_reducible apply Tv.eDrop
  | ((with_reducible apply Tv.iteT); walk_at "evb") | ((with_reducible apply Tv.iteF); walk_at "evb")
  | with_reducible exact Tv.eOk
  | with_reducible apply Tv.eTup
  | with_reducible apply Tv.eLst | with_reducible apply Tv.eNeg | with_reducible apply Tv.eOInt | with_reducible apply Tv.eSl
  | with_reducible apply Tv.eAsT | with_reducible apply Tv.eTNot | with_reducible apply Tv.eTAnd | with_reducible apply Tv.eTOr | with_reducible apply Tv.eAnd | with_reducible apply Tv.eOr | with_reducible apply Tv.eNot
  | with_reducible exact Tv.notT | with_reducible exact Tv.notF | with_reducible exact Tv.notS
  | with_reducible apply Tv.eIsi | with_reducible apply Tv.eIsi2 | with_reducible apply Tv.eChain
  | ((with_reducible apply Tv.chT); walk_at "evb") | ((with_reducible apply Tv.chF); walk_at "evb")
  | with_reducible apply Tv.eAsg | with_reducible apply Tv.eFor | with_reducible apply Tv.eItE | with_reducible apply Tv.eItR1 | with_reducible apply Tv.eItZ
  | ((with_reducible apply Tv.eIsOw); rfl) | with_reducible apply Tv.eMut | with_reducible apply Tv.eSetIx | with_reducible apply Tv.eAug
  | with_reducible apply Tv.eProp | with_reducible apply Tv.eMake | with_reducible apply Tv.eFld | with_reducible apply Tv.eSetA | with_reducible apply Tv.eGet
  | walk_at "lit"
  | exact Nat.le_of_ble_eq_true rfl
  | walk_at "evop" | with_reducible apply Tv.andS | with_reducible apply Tv.chS | walk_at "evb" | omega
  )
local macro_rules | `(tactic| walk_at "ev") => `(tactic| repeat' (walk_at "ev1"))
open P67 (Tk Bx chg met nar narL ror full emp zmet lmet wid fit inB Sub60 Gs wishM aps fits outc isf Good)
/-- a comprehension that draws -/
theorem lcDr {α β : Type} {own : List Nat} {gf : T → S → Option S} {fe : S → Out T} {enc : α → T} {F : β → T} {e0 : List Sl} {c : Nat} (Q : α → β → Prop) : ∀ (l : List α) (acc : List T) (n : Nat) (D : Dr), DOk n D → n + c * l.length < 900000000 → acc.length + l.length ≤ 1000 →
    (∀ a ∈ l, ∀ (n : Nat) (D : Dr), DOk n D → n < 900000000 → ∃ (v : β) (D' : Dr) (s1 s3 : S), gf (enc a) ⟨e0, D⟩ = some s1 ∧ fe s1 = .ok (F v) s3 ∧ s3.wipe own = ⟨e0, D'⟩ ∧ DOk (n + c) D' ∧ Q a v) →
    ∃ (vs : List β) (D' : Dr), lcL own gf tYesF fe (l.map enc) acc ⟨e0, D⟩ = .ok (acc ++ vs.map F) ⟨e0, D'⟩ ∧ DOk (n + c * l.length) D' ∧ vs.length = l.length ∧ (∀ x ∈ l.zip vs, Q x.1 x.2)
  | [], acc, n, D, h, hn, hl, hs => ⟨[], D, by simp [lcL], by simpa using h, rfl, fun x hx => by simp at hx⟩
  | a :: l, acc, n, D, h, hn, hl, hs => by
    simp only [List.length_cons, Nat.mul_succ] at hn hl ⊢
    obtain ⟨v, D1, s1, s3, g1, g2, g3, k1, q1⟩ := hs a (by simp) n D h (by omega)
    obtain ⟨vs, D2, e2, k2, l2, q2⟩ := lcDr Q l (acc ++ [F v]) (n + c) D1 k1 (by omega) (by simp; omega) fun b hb => hs b (by simp [hb])
    refine ⟨v :: vs, D2, ?_, k2.mono (by omega), by simp [l2], ?_⟩
    · rw [List.map_cons]
      unfold lcL
      rw [g1]
      dsimp only [tYesF]
      rw [g2]
      dsimp only
      rw [if_pos (by omega), g3, e2, List.map_cons, List.append_assoc]; rfl
    · intro x hx
      rw [List.zip_cons_cons] at hx
      rcases List.mem_cons.mp hx with rfl | z
      · exact q1
      · exact q2 x z
theorem eLcDr {α β : Type} {own : List Nat} {it : S → Out (List T)} {gf : T → S → Option S} {fe : S → Out T} {s : S} {ts : List T} {l : List α} {enc : α → T} {F : β → T} {vs : List β} {e0 e1 : List Sl} {D D' : Dr}
    (h1 : it s = .ok ts ⟨e1, D⟩) (h2 : ts = l.map enc) (h3 : noOw ⟨e1, D⟩ own = true) (h4 : S.wipe ⟨e1, D⟩ own = ⟨e0, D⟩) (h5 : lcL own gf tYesF fe (l.map enc) [] ⟨e0, D⟩ = .ok ([] ++ vs.map F) ⟨e0, D'⟩) (h6 : S.back ⟨e0, D'⟩ ⟨e1, D⟩ own = ⟨e1, D'⟩) :
    fLc it own gf tYesF fe s = .ok (.frs (.lst (vs.map F))) ⟨e1, D'⟩ := by
  subst h2
  unfold fLc; rw [h1]; dsimp only [Out.bind]; rw [if_pos h3, h4, h5]; dsimp only [List.nil_append]; rw [h6]
theorem zip_right {α β : Type} {P : β → Prop} : ∀ {l : List α} {vs : List β}, vs.length = l.length → (∀ x ∈ l.zip vs, P x.2) → ∀ v ∈ vs, P v
  | [], [], _, _ => fun v hv => by cases hv
  | [], v :: vs, h, _ => by simp at h
  | a :: l, [], h, _ => by simp at h
  | a :: l, v :: vs, h, hp => by
    intro u hu
    rcases List.mem_cons.mp hu with rfl | z
    · exact hp (a, u) (by simp)
    · exact zip_right (l := l) (by simpa using h) (fun x hx => hp x (by simp [hx])) u z
theorem zip_inB : ∀ {b : Bx} {vs : List Int}, vs.length = b.length → (∀ x ∈ b.zip vs, x.1.1 ≤ x.2 ∧ x.2 ≤ x.1.2) → inB vs b = true
  | [], [], _, _ => rfl
  | [], v :: vs, h, _ => by simp at h
  | a :: l, [], h, _ => by simp at h
  | a :: l, v :: vs, h, hp => by
    have := hp (a, v) (by simp)
    simp only [inB, Bool.and_eq_true, decide_eq_true_eq]
    exact ⟨this, zip_inB (by simpa using h) fun x hx => hp x (by simp [hx])⟩
theorem inB_60 : ∀ {b : Bx} {ms : List Int}, Sub60 b → inB ms b = true → ∀ m ∈ ms, 1 ≤ m ∧ m ≤ 60
  | [], [], _, _ => fun m hm => by cases hm
  | [], m :: ms, _, h => by simp [inB] at h
  | x :: b, [], _, h => by simp [inB] at h
  | x :: b, m :: ms, h6, h => by
    simp only [inB, Bool.and_eq_true, decide_eq_true_eq] at h
    have hx := h6 x (by simp)
    intro k hk
    rcases List.mem_cons.mp hk with rfl | z
    · omega
    · exact inB_60 h6.tl h.2 k z
noncomputable abbrev rrM1 : S → Out R := (fLc (itS (fV (fVar 1))) [10] (gNm 10) (tYesF) (fV (fBin opAdd (fB (fK (.int 1))) (fB (fDef 2 φ__law_take (aCons (fV (fVar 0)) (aCons (fV (fK (.int 60))) (aNil))))))))
noncomputable abbrev rrM2 : S → Out R := (fLc (itS (fV (fBin opIx (fB (fVar 3)) (fB (fK (.int 1)))))) [11, 12] (gTp 2 (gCn (gNm 11) (gCn (gNm 12) (gNl)))) (tYesF) (fV (fBin opAdd (fB (fVar 11)) (fB (fDef 2 φ__law_take (aCons (fV (fVar 0)) (aCons (fV (fBin opAdd (fB (fBin opSub (fB (fVar 12)) (fB (fVar 11)))) (fB (fK (.int 1))))) (aNil))))))))
noncomputable abbrev rrM3 : S → Out R := (fLc (itS (fV (fVar 2))) [9] (gNm 9) (tYesF) (fV (fDef 3 φ_is_fitting (aCons (fV (fVar 1)) (aCons (fV (fLst (aCons (fV (fVar 9)) (aNil)))) (aCons (fV (fVar 6)) (aNil)))))))
noncomputable abbrev rrBody : S → Out Fl := (fSeq (fSet 6 (fCall opTuple (aCons (fB rrM1) (aNil)))) (fSeq (fIf (tAndF (asT (fBin (opEq false) (fB (fBin opIx (fB (fVar 3)) (fB (fK (.int 0))))) (fB (fK (.str "told"))))) (asT (fBin opLt (fB (fVar 5)) (fB (fK (.int 2)))))) (fSet 6 (fCall opTuple (aCons (fB rrM2) (aNil)))) (fNil)) (fSeq (fSet 7 rrM3) (fIf (asT (fBin (opEq true) (fB (fCall opRepr (aCons (fB (fDef 3 φ_is_fitting (aCons (fV (fVar 1)) (aCons (fV (fVar 2)) (aCons (fV (fVar 6)) (aNil)))))) (aNil)))) (fB (fCall opRepr (aCons (fB (fBin (opIn true) (fB (fK (.bl false))) (fB (fVar 7)))) (aNil)))))) (fRet (fK (.bl false))) (fNil)))))
section
variable {ss : List Sh} {ts : List Tk} (h : SsOk ss) (ht : ∀ t ∈ ts, TkOk t) (hl : ts.length ≤ 12) {c3 c4 c5 b6 b7 c8 : Sl}
include h
theorem m1_ok {n : Nat} {D : Dr} (hd : DOk n D) (hn : n < 800000000) : ∃ (ms : List Int) (D' : Dr), rrM1 ⟨[.sh .drw, .sh (.lst (ss.map shT)), .sh (.lst (ts.map tkT)), c3, c4, c5, b6, b7, c8, .no, .no, .no, .no], D⟩ = .ok (.frs (.lst (ms.map T.int))) ⟨[.sh .drw, .sh (.lst (ss.map shT)), .sh (.lst (ts.map tkT)), c3, c4, c5, b6, b7, c8, .no, .no, .no, .no], D'⟩ ∧ ms.length = ss.length ∧ (∀ m ∈ ms, 1 ≤ m ∧ m ≤ 60) ∧ DOk (n + 4) D' := by
  have l4 := h.l4
  obtain ⟨vs, D', e, k, l, q⟩ := lcDr (own := [10]) (gf := gNm 10) (fe := fV (fBin opAdd (fB (fK (.int 1))) (fB (fDef 2 φ__law_take (aCons (fV (fVar 0)) (aCons (fV (fK (.int 60))) (aNil))))))) (enc := shT) (F := T.int) (e0 := [.sh .drw, .sh (.lst (ss.map shT)), .sh (.lst (ts.map tkT)), c3, c4, c5, b6, b7, c8, .no, .no, .no, .no]) (c := 1)
    (fun _ v => 1 ≤ v ∧ v ≤ 60) ss [] n D hd (by omega) (by simp; omega) (fun a ha n D hd hn => by
      obtain ⟨r, D1, e1, p1, p2, k1⟩ := take_ok (size := 60) hd (by omega) (by decide) (by decide)
      refine ⟨1 + r, D1, ⟨[.sh .drw, .sh (.lst (ss.map shT)), .sh (.lst (ts.map tkT)), c3, c4, c5, b6, b7, c8, .no, .sh (shT a), .no, .no], D⟩, ⟨[.sh .drw, .sh (.lst (ss.map shT)), .sh (.lst (ts.map tkT)), c3, c4, c5, b6, b7, c8, .no, .sh (shT a), .no, .no], D1⟩, rfl, ?_, rfl, k1, by omega, by omega⟩
      walk_at "ev")
  refine ⟨vs, D', ?_, l, zip_right l q, k.mono (by omega)⟩
  apply eLcDr
  · apply Tv.eItS
    walk_at "ev"
  · rfl
  · rfl
  · rfl
  · exact e
  · rfl
theorem m2_ok {n : Nat} {D : Dr} {b : Bx} (h6 : Sub60 b) (hg : Good b) (hb : b.length = ss.length) (hd : DOk n D) (hn : n < 800000000) : ∃ (ms : List Int) (D' : Dr), rrM2 ⟨[.sh .drw, .sh (.lst (ss.map shT)), .sh (.lst (ts.map tkT)), .sh (tdT (.inl b)), c4, c5, b6, b7, c8, .no, .no, .no, .no], D⟩ = .ok (.frs (.lst (ms.map T.int))) ⟨[.sh .drw, .sh (.lst (ss.map shT)), .sh (.lst (ts.map tkT)), .sh (tdT (.inl b)), c4, c5, b6, b7, c8, .no, .no, .no, .no], D'⟩ ∧ ms.length = ss.length ∧ (∀ m ∈ ms, 1 ≤ m ∧ m ≤ 60) ∧ DOk (n + 4) D' := by
  have l4 := h.l4
  obtain ⟨vs, D', e, k, l, q⟩ := lcDr (own := [11, 12]) (gf := (gTp 2 (gCn (gNm 11) (gCn (gNm 12) (gNl))))) (fe := (fV (fBin opAdd (fB (fVar 11)) (fB (fDef 2 φ__law_take (aCons (fV (fVar 0)) (aCons (fV (fBin opAdd (fB (fBin opSub (fB (fVar 12)) (fB (fVar 11)))) (fB (fK (.int 1))))) (aNil)))))))) (enc := prT) (F := T.int) (e0 := [.sh .drw, .sh (.lst (ss.map shT)), .sh (.lst (ts.map tkT)), .sh (tdT (.inl b)), c4, c5, b6, b7, c8, .no, .no, .no, .no]) (c := 1)
    (fun x v => x.1 ≤ v ∧ v ≤ x.2) b [] n D hd (by omega) (by simp; omega) (fun a ha n D hd hn => by
      have ha6 := h6 a ha
      have hag := hg a ha
      obtain ⟨lo, hi⟩ := a
      dsimp only at ha6 hag
      obtain ⟨r, D1, e1, p1, p2, k1⟩ := take_ok (size := hi - lo + 1) hd (by omega) (by omega) (by omega)
      refine ⟨lo + r, D1, ⟨[.sh .drw, .sh (.lst (ss.map shT)), .sh (.lst (ts.map tkT)), .sh (tdT (.inl b)), c4, c5, b6, b7, c8, .no, .no, .sh (.int lo), .sh (.int hi)], D⟩, ⟨[.sh .drw, .sh (.lst (ss.map shT)), .sh (.lst (ts.map tkT)), .sh (tdT (.inl b)), c4, c5, b6, b7, c8, .no, .no, .sh (.int lo), .sh (.int hi)], D1⟩, rfl, ?_, rfl, k1, by show lo ≤ lo + r; omega, by show lo + r ≤ hi; omega⟩
      walk_at "ev")
  have hi := zip_inB l q
  have q4 := td1l b
  refine ⟨vs, D', ?_, by omega, inB_60 h6 hi, k.mono (by omega)⟩
  apply eLcDr
  · apply Tv.eItS
    walk_at "ev"
  · rfl
  · rfl
  · rfl
  · exact e
  · rfl
include ht hl
theorem m3_ok {D : Dr} {ms : List Int} (hm : ms.length = ss.length) : rrM3 ⟨[.sh .drw, .sh (.lst (ss.map shT)), .sh (.lst (ts.map tkT)), c3, c4, c5, .sh (.tup (ms.map T.int)), b7, c8, .no, .no, .no, .no], D⟩ = .ok (.frs (.lst ((ts.map fun t => isf ss [t] ms).map T.bl))) ⟨[.sh .drw, .sh (.lst (ss.map shT)), .sh (.lst (ts.map tkT)), c3, c4, c5, .sh (.tup (ms.map T.int)), b7, c8, .no, .no, .no, .no], D⟩ := by
  rw [List.map_map]
  apply Tv.eLcA (l := ts) tkT
  · apply Tv.eItS
    walk_at "ev"
  · rfl
  · rfl
  · walk_at "lit"
  · omega
  · intro t htm
    have e1 : φ_is_fitting [.lst (ss.map shT), .lst [tkT t], .tup (ms.map T.int)] D = .ok (.bl (isf ss [t] ms)) false D := isfitting_ok (ts := [t]) h (fun u hu => by rw [List.mem_singleton.mp hu]; exact ht t htm) hm
    apply Tv.lcTnA
    · walk_at "ev"
    · show _ = Out.ok (T.bl (isf ss [t] ms)) _
      walk_at "ev"
    · rfl
  · rfl
theorem m4_ok {D : Dr} {ms : List Int} (hm : ms.length = ss.length) (h60 : ∀ m ∈ ms, 1 ≤ m ∧ m ≤ 60) :
    (fSeq (fSet 7 rrM3) (fIf (asT (fBin (opEq true) (fB (fCall opRepr (aCons (fB (fDef 3 φ_is_fitting (aCons (fV (fVar 1)) (aCons (fV (fVar 2)) (aCons (fV (fVar 6)) (aNil)))))) (aNil)))) (fB (fCall opRepr (aCons (fB (fBin (opIn true) (fB (fK (.bl false))) (fB (fVar 7)))) (aNil)))))) (fRet (fK (.bl false))) (fNil))) ⟨[.sh .drw, .sh (.lst (ss.map shT)), .sh (.lst (ts.map tkT)), c3, c4, c5, .sh (.tup (ms.map T.int)), b7, c8, .no, .no, .no, .no], D⟩
      = .ok .nx ⟨[.sh .drw, .sh (.lst (ss.map shT)), .sh (.lst (ts.map tkT)), c3, c4, c5, .sh (.tup (ms.map T.int)), .ow (.lst ((ts.map fun t => isf ss [t] ms).map T.bl)), c8, .no, .no, .no, .no], D⟩ := by
  have e3 := m3_ok h ht hl (c3 := c3) (c4 := c4) (c5 := c5) (b7 := b7) (c8 := c8) (D := D) hm
  have e1 := isfitting_ok (D := D) h ht hm
  have e2 := notin_bools (ts.map fun t => isf ss [t] ms)
  rw [← P67.isf_alone (gs_of h.sh) (fun t hm => (ht t hm).tok) (P67.full_in hm h60)] at e2
  have e4 := (repr_op (t := .bl (isf ss ts ms)) rfl (by simp only [toD]; exact Rp.bool) (by decide) (by decide)).1
  have e5 := (repr_same (t := .bl (isf ss ts ms)) rfl (by simp only [toD]; exact Rp.bool) (by decide) (by decide)).1
  apply Tv.eSeq
  · walk_at "ev"
  · walk_at "ev"
theorem lap_ok {n : Nat} {D : Dr} {z : Bx ⊕ Nat} (hz : match z with | .inl b => Sub60 b ∧ Good b ∧ b.length = ss.length | .inr i => True) {lap : Int} (hd : DOk n D) (hn : n < 700000000) :
    ∃ c6 c7 D', rrBody ⟨[.sh .drw, .sh (.lst (ss.map shT)), .sh (.lst (ts.map tkT)), .sh (tdT z), c4, .sh (.int lap), b6, b7, c8, .no, .no, .no, .no], D⟩ = .ok .nx ⟨[.sh .drw, .sh (.lst (ss.map shT)), .sh (.lst (ts.map tkT)), .sh (tdT z), c4, .sh (.int lap), c6, c7, c8, .no, .no, .no, .no], D'⟩ ∧ DOk (n + 8) D' := by
  obtain ⟨ms, D1, e1, l1, m1, k1⟩ := m1_ok (ts := ts) (c3 := .sh (tdT z)) (c4 := c4) (c5 := .sh (.int lap)) (b6 := b6) (b7 := b7) (c8 := c8) h hd (by omega)
  have q0 : opTuple [.lst (ms.map T.int)] = some (.val (.tup (ms.map T.int))) := rfl
  have q1 := q_tt
  have q2 := q_nt
  by_cases hc : (∃ b, z = .inl b) ∧ lap < 2
  · obtain ⟨⟨b, rfl⟩, hlap⟩ := hc
    obtain ⟨z1, z2, z3⟩ := hz
    obtain ⟨ms', D2, e2, l2, m2, k2⟩ := m2_ok (ts := ts) (c4 := c4) (c5 := .sh (.int lap)) (b6 := .sh (.tup (ms.map T.int))) (b7 := b7) (c8 := c8) h z1 z2 z3 k1 (by omega)
    have q3 : opTuple [.lst (ms'.map T.int)] = some (.val (.tup (ms'.map T.int))) := rfl
    have q4 := td0l b
    have e3 := m4_ok h ht hl (c3 := .sh (tdT (.inl b))) (c4 := c4) (c5 := .sh (.int lap)) (b7 := b7) (c8 := c8) (D := D2) l2 m2
    refine ⟨.sh (.tup (ms'.map T.int)), .ow (.lst ((ts.map fun t => isf ss [t] ms').map T.bl)), D2, ?_, k2⟩
    · apply Tv.eSeq
      · walk_at "ev"
      apply Tv.seqK_nx
      apply Tv.eSeq
      · walk_at "ev"
      apply Tv.seqK_nx
      exact e3
  · have e3 := m4_ok h ht hl (c3 := .sh (tdT z)) (c4 := c4) (c5 := .sh (.int lap)) (b7 := b7) (c8 := c8) (D := D1) l1 m1
    have eI : fIf (tAndF (asT (fBin (opEq false) (fB (fBin opIx (fB (fVar 3)) (fB (fK (.int 0))))) (fB (fK (.str "told"))))) (asT (fBin opLt (fB (fVar 5)) (fB (fK (.int 2)))))) (fSet 6 (fCall opTuple (aCons (fB rrM2) (aNil)))) (fNil)
        ⟨[.sh .drw, .sh (.lst (ss.map shT)), .sh (.lst (ts.map tkT)), .sh (tdT z), c4, .sh (.int lap), .sh (.tup (ms.map T.int)), b7, c8, .no, .no, .no, .no], D1⟩ = .ok .nx ⟨[.sh .drw, .sh (.lst (ss.map shT)), .sh (.lst (ts.map tkT)), .sh (tdT z), c4, .sh (.int lap), .sh (.tup (ms.map T.int)), b7, c8, .no, .no, .no, .no], D1⟩ := by
      cases z with
      | inl b =>
        have q4 := td0l b
        have hlap : ¬ lap < 2 := fun z => hc ⟨⟨b, rfl⟩, z⟩
        walk_at "ev"
      | inr i =>
        have q4 := td0r i
        walk_at "ev"
    refine ⟨.sh (.tup (ms.map T.int)), .ow (.lst ((ts.map fun t => isf ss [t] ms).map T.bl)), D1, ?_, k1.mono (by omega)⟩
    · apply Tv.eSeq
      · walk_at "ev"
      apply Tv.seqK_nx
      apply Tv.eSeq
      · exact eI
      apply Tv.seqK_nx
      exact e3
end
end K67
namespace K67
open PySem PySem.Spec PyProof.Rows L2 Tv
local macro_rules | `(tactic| walk_at "lit") => `(tactic| first
  | with_reducible exact Tv.withD_mk | with_reducible exact Tv.D_mk
  | ((with_reducible apply Tv.putE); (repeat (with_reducible apply Tv.setSE)); with_reducible exact Tv.set0E)
  | ((with_reducible apply Tv.wipeS); repeat' (first | with_reducible exact Tv.set0E | with_reducible apply Tv.setSE | with_reducible apply Tv.wipeEC | with_reducible exact Tv.wipeE0)))
local macro_rules | `(tactic| walk_at "evb") => `(tactic| first
  | with_reducible assumption | exact decide_eq_true (by first | with_reducible assumption | omega) | exact decide_eq_false (by first | with_reducible assumption | omega) | exact Tv.notD (by first | with_reducible assumption | omega) | exact Tv.notD' (by first | with_reducible assumption | omega) | exact Tv.notTe (by with_reducible assumption) | exact Tv.notFe (by with_reducible assumption) | rfl
  | (simp only [decide_eq_true_eq, decide_eq_false_iff_not, T.isNon, Bool.not_true, Bool.not_false, beq_self_eq_true]; first | done | with_reducible assumption | omega))
local macro_rules | `(tactic| walk_at "evop") => `(tactic| first
  | with_reducible assumption | with_reducible exact Tv.cmpI | with_reducible exact Tv.addI | with_reducible exact Tv.subI | with_reducible exact Tv.ixT0 | with_reducible exact Tv.ixT1 | with_reducible exact Tv.ixT2 | with_reducible exact Tv.lenT | with_reducible exact Tv.lenL | with_reducible exact Tv.maxL2 | with_reducible exact Tv.minL2 | with_reducible exact Tv.isF | with_reducible exact Tv.isT
  | ((with_reducible apply Tv.mulI); first | with_reducible assumption | omega; first | with_reducible assumption | omega) | ((with_reducible apply Tv.fdvI); first | with_reducible assumption | omega; first | with_reducible assumption | omega) | ((with_reducible apply Tv.modI); first | with_reducible assumption | omega)
  | ((with_reducible apply Tv.ixL); assumption) | ((with_reducible apply Tv.mAppE); first | with_reducible assumption | omega | (simp only [List.length_map]; omega))
  | rfl)
local macro_rules | `(tactic| walk_at "ev1") => `(tactic| first
  | with_reducible assumption | with_reducible apply Tv.eV | with_reducible apply Tv.eB | with_reducible apply Tv.eCons
  | ((with_reducible apply Tv.eVar); rfl) | ((with_reducible apply Tv.eVarO); rfl)
  | with_reducible apply Tv.eBin | with_reducible apply Tv.eDef | with_reducible apply Tv.eCall
  | with_reducible apply Tv.eSeq | with_reducible apply Tv.seqK_nx
  | with_reducible exact Tv.eNilS | with_reducible exact Tv.eRetN | with_reducible exact Tv.eK | with_reducible exact Tv.eNil | with_reducible exact Tv.tYes | with_reducible exact Tv.eONone
  | with_reducible exact Tv.seqK_rt | with_reducible exact Tv.seqK_bk | with_reducible exact Tv.seqK_ct
  | with_reducible exact Tv.retK_v | with_reducible exact Tv.retK_f | ((with_reducible apply Tv.retK_b); rfl)
  | with_reducible exact Tv.bK_v | with_reducible exact Tv.bK_f | with_reducible exact Tv.bK_b
  | with_reducible exact Tv.vK_v | with_reducible exact Tv.vK_f | ((with_reducible apply Tv.vK_b); rfl; walk_at "lit")
  | with_reducible exact Tv.trV | ((with_reducible apply Tv.trO); rfl) | with_reducible exact Tv.trs0 | with_reducible apply Tv.trsC
  | with_reducible exact Tv.defK_v | with_reducible exact Tv.defK_f | with_reducible exact Tv.gNlE
  | ((with_reducible apply Tv.setK_v); walk_at "lit") | ((with_reducible apply Tv.setK_f); walk_at "lit") | ((with_reducible apply Tv.setK_b); rfl; walk_at "lit"; walk_at "lit")
  | ((with_reducible apply Tv.gNmE); walk_at "lit") | with_reducible apply Tv.gCnE | ((with_reducible apply Tv.gTpE); rfl)
  | with_reducible apply Tv.eIf | with_reducible apply Tv.eVIf | with_reducible apply Tv.eRet | with_reducible apply Tv.eSet | with_reducible apply Tv.eDrop
  | ((with_reducible apply Tv.iteT); walk_at "evb") | ((with_reducible apply Tv.iteF); walk_at "evb")
  | with_reducible exact Tv.eOk
  | with_reducible apply Tv.eTup
  | with_reducible apply Tv.eLst | with_reducible apply Tv.eNeg | with_reducible apply Tv.eOInt | with_reducible apply Tv.eSl
  | with_reducible apply Tv.eAsT | with_reducible apply Tv.eTNot | with_reducible apply Tv.eTAnd | with_reducible apply Tv.eTOr | with_reducible apply Tv.eAnd | with_reducible apply Tv.eOr | with_reducible apply Tv.eNot
  | with_reducible exact Tv.notT | with_reducible exact Tv.notF | with_reducible exact Tv.notS
  | with_reducible apply Tv.eIsi | with_reducible apply Tv.eIsi2 | with_reducible apply Tv.eChain
  | ((with_reducible apply Tv.chT); walk_at "evb") | ((with_reducible apply Tv.chF); walk_at "evb")
  | with_reducible apply Tv.eAsg | with_reducible apply Tv.eFor | with_reducible apply Tv.eItE | with_reducible apply Tv.eItR1 | with_reducible apply Tv.eItZ
  | ((with_reducible apply Tv.eIsOw); rfl) | with_reducible apply Tv.eMut | with_reducible apply Tv.eSetIx | with_reducible apply Tv.eAug
  | with_reducible apply Tv.eProp | with_reducible apply Tv.eMake | with_reducible apply Tv.eFld | with_reducible apply Tv.eSetA | with_reducible apply Tv.eGet
  | walk_at "lit"
  | exact Nat.le_of_ble_eq_true rfl
  | walk_at "evop" | with_reducible apply Tv.andS | with_reducible apply Tv.chS | walk_at "evb" | omega
  )
local macro_rules | `(tactic| walk_at "ev") => `(tactic| repeat' (walk_at "ev1"))
open P67 (Tk Bx chg met nar narL ror full emp zmet lmet wid fit inB Sub60 Gs wishM aps fits outc isf Good)
theorem lapLoop {ss : List Sh} {ts : List Tk} (h : SsOk ss) (ht : ∀ t ∈ ts, TkOk t) (hl : ts.length ≤ 12) {c4 c8 : Sl} {z : Bx ⊕ Nat} (hz : match z with | .inl b => Sub60 b ∧ Good b ∧ b.length = ss.length | .inr i => True) : ∀ (xs : List Int) (n : Nat) (D : Dr) (b5 b6 b7 : Sl), DOk n D → n + 8 * xs.length < 600000000 →
    ∃ D', resOf (fSeq (forL (gNm 5) rrBody (xs.map T.int)) (fRet (fK (.bl true))) ⟨[.sh .drw, .sh (.lst (ss.map shT)), .sh (.lst (ts.map tkT)), .sh (tdT z), c4, b5, b6, b7, c8, .no, .no, .no, .no], D⟩) = .ok (.bl true) false D' ∧ DOk (n + 8 * xs.length) D'
  | [], n, D, b5, b6, b7, hd, hn => ⟨D, rfl, hd⟩
  | x :: xs, n, D, b5, b6, b7, hd, hn => by
    simp only [List.length_cons] at hn ⊢
    obtain ⟨c6, c7, D1, e1, k1⟩ := lap_ok (c4 := c4) (b6 := b6) (b7 := b7) (c8 := c8) h ht hl hz (lap := x) hd (by omega)
    obtain ⟨D2, e2, k2⟩ := lapLoop h ht hl (c4 := c4) (c8 := c8) hz xs (n + 8) D1 (.sh (.int x)) c6 c7 k1 (by omega)
    refine ⟨D2, ?_, k2.mono (by omega)⟩
    rw [← e2, List.map_cons]
    apply Tv.rForN
    · walk_at "ev"
    · exact e1
    · rfl
theorem td_same (b : Bx) : opEq true (tdT (.inl b)) (tdT (.inl b)) = some (.val (.bl false)) := by
  have hs : pl (tdT (.inl b)) = true ∧ PyData.canLay0 (toD (tdT (.inl b))) = true ∧ PyData.depth (toD (tdT (.inl b))) ≤ 20 := by
    obtain ⟨h1, h2, h3⟩ := lay_map prT shp_pr b
    have e : PyData.canLay0 (.str "told") = true := by decide +kernel
    refine ⟨by simp only [tdT, pl, pls, h1]; rfl, ?_, ?_⟩
    · simp only [tdT, toD, toDs, PyData.canLay0, PyData.canLayAll0, h2, Bool.and_true, Bool.true_and] at e ⊢
      exact e
    · simp only [tdT, toD, toDs, PyData.depth, PyData.depthAll]; omega
  have h1 : shp (tdT (.inl b)) = true := by
    unfold shp SeqAt.shaped
    rw [hs.1, hs.2.1]
    simp only [Bool.true_and, decide_eq_true_eq]; omega
  unfold opEq
  rw [if_pos ⟨h1, h1⟩, if_pos rfl, PySem.SeqAt.eqv_refl _ hs.2.1]; rfl
theorem rangesright_ok {n : Nat} {D : Dr} {ss : List Sh} {ts : List Tk} (h : SsOk ss) (ht : ∀ t ∈ ts, TkOk t) (hl : ts.length ≤ 12) (hd : DOk n D) (hn : n < 500000000) :
    ∃ D', φ__law_ranges_right [.drw, .lst (ss.map shT), .lst (ts.map tkT)] D = .ok (.bl true) false D' ∧ DOk (n + 1000) D' := by
  have ht2 : ∀ t ∈ ts ++ ts.take 2, TkOk t := fun t hm => by
    rcases List.mem_append.mp hm with z | z
    · exact ht t z
    · exact ht t (List.mem_of_mem_take z)
  obtain ⟨us, D1, e1, m1, l1, k1⟩ := mixed_ok (ts := ts ++ ts.take 2) (by simp; omega) hd (by omega)
  have hm : ∀ t, t ∈ us ↔ t ∈ ts := fun t => by
    rw [m1, List.mem_append]
    exact ⟨fun z => z.elim id List.mem_of_mem_take, fun z => .inl z⟩
  have hu : ∀ t ∈ us, TkOk t := fun t hh => ht t ((hm t).mp hh)
  have hz := ror_td h ht (by omega)
  have hz2 : match ror ss ts (full ss) 0 with | .inl b => Sub60 b ∧ Good b ∧ b.length ≤ 4 | .inr i => True := by
    cases hr : ror ss ts (full ss) 0 with
    | inl b => rw [hr] at hz; exact hz
    | inr i => trivial
  have hz3 : match ror ss ts (full ss) 0 with | .inl b => Sub60 b ∧ Good b ∧ b.length = ss.length | .inr i => True := by
    cases hr : ror ss ts (full ss) 0 with
    | inl b => obtain ⟨b1, b2, b3⟩ := ror_facts h ht hr; exact ⟨b2, b3, b1⟩
    | inr i => trivial
  have hrp := rp_td hz
  have q1 := (repr_op (pl_td _) hrp (by decide) (by decide)).1
  have q2 := (repr_same (pl_td _) hrp (by decide) (by decide)).1
  have q3 := lawmet_ok (D := D) h ht
  have q4 := fitting_ok (D := D) h ht
  have q5 := many_ok (D := D) hz2
  have q5' := many_ok (D := D1) hz2
  have q6 := fitting_ok (D := D1) h hu
  rw [P67.fit_same (gs_of h.sh) (fun t hm => (ht t hm).tok) hm] at q6
  rw [fit_many] at q4 q6
  have q7 := ne_int (manyZ (ror ss ts (full ss) 0)) (manyZ (ror ss ts (full ss) 0))
  have hsame := P67.ror_same (gs_of h.sh) (fun t hm => (ht t hm).tok) hm
  have q8 : opSl none (some 2) (.lst (ts.map tkT)) = some (.frs (.lst ((ts.take 2).map tkT))) := by
    show some (R.frs (.lst (cutT _ none (some ((2 : Nat) : Int))))) = _
    by_cases h2 : 2 ≤ ts.length
    · rw [cutTake (by simpa using h2), List.map_take]
    · unfold cutT
      rw [HT.sIx_none, HT.sIx_nat, List.drop_zero, Nat.sub_zero, Nat.min_eq_right (by rw [List.length_map]; omega), List.take_of_length_le (Nat.le_refl _), List.take_of_length_le (by omega)]
  have q9 := addL (a := ts.map tkT) (b := (ts.take 2).map tkT) (by simp; omega)
  rw [← List.map_append] at q9
  show ∃ D', resOf (f__law_ranges_right ⟨[.sh .drw, .sh (.lst (ss.map shT)), .sh (.lst (ts.map tkT)), .no, .no, .no, .no, .no, .no, .no, .no, .no, .no], D⟩) = _ ∧ _
  unfold f__law_ranges_right
  generalize hzz : ror ss ts (full ss) 0 = z at *
  have eT : fTold 7 "at" "told" "none" (fV (fDef 2 φ_ranges (aCons (fV (fVar 1)) (aCons (fV (fVar 2)) (aNil))))) ⟨[.sh .drw, .sh (.lst (ss.map shT)), .sh (.lst (ts.map tkT)), .sh (tdT z), .no, .no, .no, .no, .no, .no, .no, .no, .no], D⟩ = .ok (.val (tdT z)) ⟨[.sh .drw, .sh (.lst (ss.map shT)), .sh (.lst (ts.map tkT)), .sh (tdT z), .no, .no, .no, .no, .no, .no, .no, .no, .no], D⟩ := by
    rw [← hzz]
    apply toldE h ht
    · walk_at "ev"
    · rfl
    · rfl
  have eU : fTold 7 "at" "told" "none" (fV (fDef 2 φ_ranges (aCons (fV (fVar 1)) (aCons (fV (fVar 8)) (aNil))))) ⟨[.sh .drw, .sh (.lst (ss.map shT)), .sh (.lst (ts.map tkT)), .sh (tdT z), .no, .no, .no, .no, .ow (.lst (us.map tkT)), .no, .no, .no, .no], D1⟩ = .ok (.val (tdT (ror ss us (full ss) 0))) ⟨[.sh .drw, .sh (.lst (ss.map shT)), .sh (.lst (ts.map tkT)), .sh (tdT z), .no, .no, .no, .no, .sh (.lst (us.map tkT)), .no, .no, .no, .no], D1⟩ := by
    apply toldE h hu
    · walk_at "ev"
    · rfl
    · rfl
  have eE : (fIf (tOrF (asT (fBin (opEq true) (fB (fBin opIx (fB (fVar 4)) (fB (fK (.int 0))))) (fB (fBin opIx (fB (fVar 3)) (fB (fK (.int 0))))))) (tOrF (tAndF (asT (fBin (opEq false) (fB (fBin opIx (fB (fVar 3)) (fB (fK (.int 0))))) (fB (fK (.str "told"))))) (asT (fBin (opEq true) (fB (fVar 4)) (fB (fVar 3))))) (asT (fBin (opEq true) (fB (fDef 2 φ_fitting (aCons (fV (fVar 1)) (aCons (fV (fVar 8)) (aNil))))) (fB (fDef 1 φ__law_many (aCons (fV (fVar 3)) (aNil)))))))) (fRet (fK (.bl false))) (fNil)) ⟨[.sh .drw, .sh (.lst (ss.map shT)), .sh (.lst (ts.map tkT)), .sh (tdT z), .sh (tdT (ror ss us (full ss) 0)), .no, .no, .no, .sh (.lst (us.map tkT)), .no, .no, .no, .no], D1⟩ = .ok .nx ⟨[.sh .drw, .sh (.lst (ss.map shT)), .sh (.lst (ts.map tkT)), .sh (tdT z), .sh (tdT (ror ss us (full ss) 0)), .no, .no, .no, .sh (.lst (us.map tkT)), .no, .no, .no, .no], D1⟩ := by
    clear eU eT hz hz2 hrp q1 q2 q3 q4 q5 hz3
    rcases hsame with ⟨b, s1, s2⟩ | ⟨i, j, s1, s2⟩
    · subst s1
      rw [s2]
      have w1 := td0l b
      have w2 := n_tt
      have w3 := q_tt
      have w4 := td_same b
      walk_at "ev"
    · subst s1
      rw [s2]
      have w1 := td0r i
      have w5 := td0r j
      have w2 := n_nn
      have w3 := q_nt
      walk_at "ev"
  obtain ⟨D2, e2, k2⟩ := lapLoop h ht hl (c4 := .sh (tdT (ror ss us (full ss) 0))) (c8 := .sh (.lst (us.map tkT))) (z := z) hz3 [0, 1, 2, 3] (n + 100) D1 .no .no .no k1 (by simp; omega)
  refine ⟨D2, ?_, k2.mono (by simp only [List.length_cons, List.length_nil]; omega)⟩
  rw [← e2]
  apply Tv.rSeq
  · walk_at "ev"
  apply Tv.rSeq
  · walk_at "ev"
  apply Tv.rSeq
  · walk_at "ev"
  apply Tv.rSeq
  · walk_at "ev"
  apply Tv.rSeq
  · exact eE
  apply Tv.rFor
  · apply Tv.eItR1
    · walk_at "ev"
    · decide
  rfl
end K67
namespace K67
open PySem PySem.Spec PyProof.Rows L2 Tv
local macro_rules | `(tactic| walk_at "lit") => `(tactic| first
  | with_reducible exact Tv.withD_mk | with_reducible exact Tv.D_mk
  | ((with_reducible apply Tv.putE); (repeat (with_reducible apply Tv.setSE)); with_reducible exact Tv.set0E)
  | ((with_reducible apply Tv.wipeS); repeat' (first | with_reducible exact Tv.set0E | with_reducible apply Tv.setSE | with_reducible apply Tv.wipeEC | with_reducible exact Tv.wipeE0)))
local macro_rules | `(tactic| walk_at "evb") => `(tactic| first
  | with_reducible assumption | exact decide_eq_true (by first | with_reducible assumption | omega) | exact decide_eq_false (by first | with_reducible assumption | omega) | exact Tv.notD (by first | with_reducible assumption | omega) | exact Tv.notD' (by first | with_reducible assumption | omega) | exact Tv.notTe (by with_reducible assumption) | exact Tv.notFe (by with_reducible assumption) | rfl
  | (simp only [decide_eq_true_eq, decide_eq_false_iff_not, T.isNon, Bool.not_true, Bool.not_false, beq_self_eq_true]; first | done | with_reducible assumption | omega))
local macro_rules | `(tactic| walk_at "evop") => `(tactic| first
  | with_reducible assumption | with_reducible exact Tv.cmpI | with_reducible exact Tv.addI | with_reducible exact Tv.subI | with_reducible exact Tv.ixT0 | with_reducible exact Tv.ixT1 | with_reducible exact Tv.ixT2 | with_reducible exact Tv.lenT | with_reducible exact Tv.lenL | with_reducible exact Tv.maxL2 | with_reducible exact Tv.minL2 | with_reducible exact Tv.isF | with_reducible exact Tv.isT
  | ((with_reducible apply Tv.mulI); first | with_reducible assumption | omega; first | with_reducible assumption | omega) | ((with_reducible apply Tv.fdvI); first | with_reducible assumption | omega; first | with_reducible assumption | omega) | ((with_reducible apply Tv.modI); first | with_reducible assumption | omega)
  | ((with_reducible apply Tv.ixL); assumption) | ((with_reducible apply Tv.mAppE); first | with_reducible assumption | omega | (simp only [List.length_map]; omega))
  | rfl)
local macro_rules | `(tactic| walk_at "ev1") => `(tactic| first
  | with_reducible assumption | with_reducible apply Tv.eV | with_reducible apply Tv.eB | with_reducible apply Tv.eCons
  | ((with_reducible apply Tv.eVar); rfl) | ((with_reducible apply Tv.eVarO); rfl)
  | with_reducible apply Tv.eBin | with_reducible apply Tv.eDef | with_reducible apply Tv.eCall
  | with_reducible apply Tv.eSeq | with_reducible apply Tv.seqK_nx
  | with_reducible exact Tv.eNilS | with_reducible exact Tv.eRetN | with_reducible exact Tv.eK | with_reducible exact Tv.eNil | with_reducible exact Tv.tYes | with_reducible exact Tv.eONone
  | with_reducible exact Tv.seqK_rt | with_reducible exact Tv.seqK_bk | with_reducible exact Tv.seqK_ct
  | with_reducible exact Tv.retK_v | with_reducible exact Tv.retK_f | ((with_reducible apply Tv.retK_b); rfl)
  | with_reducible exact Tv.bK_v | with_reducible exact Tv.bK_f | with_reducible exact Tv.bK_b
  | with_reducible exact Tv.vK_v | with_reducible exact Tv.vK_f | ((with_reducible apply Tv.vK_b); rfl; walk_at "lit")
  | with_reducible exact Tv.trV | ((with_reducible apply Tv.trO); rfl) | with_reducible exact Tv.trs0 | with_reducible apply Tv.trsC
  | with_reducible exact Tv.defK_v | with_reducible exact Tv.defK_f | with_reducible exact Tv.gNlE
  | ((with_reducible apply Tv.setK_v); walk_at "lit") | ((with_reducible apply Tv.setK_f); walk_at "lit") | ((with_reducible apply Tv.setK_b); rfl; walk_at "lit"; walk_at "lit")
  | ((with_reducible apply Tv.gNmE); walk_at "lit") | with_reducible apply Tv.gCnE | ((with_reducible apply Tv.gTpE); rfl)
  | with_reducible apply Tv.eIf | with_reducible apply Tv.eVIf | with_reducible apply Tv.eRet | with_reducible apply Tv.eSet | with_reducible apply Tv.eDrop
  | ((with_reducible apply Tv.iteT); walk_at "evb") | ((with_reducible apply Tv.iteF); walk_at "evb")
  | with_reducible exact Tv.eOk
  | with_reducible apply Tv.eTup
  | with_reducible apply Tv.eLst | with_reducible apply Tv.eNeg | with_reducible apply Tv.eOInt | with_reducible apply Tv.eSl
  | with_reducible apply Tv.eAsT | with_reducible apply Tv.eTNot | with_reducible apply Tv.eTAnd | with_reducible apply Tv.eTOr | with_reducible apply Tv.eAnd | with_reducible apply Tv.eOr | with_reducible apply Tv.eNot
  | with_reducible exact Tv.notT | with_reducible exact Tv.notF | with_reducible exact Tv.notS
  | with_reducible apply Tv.eIsi | with_reducible apply Tv.eIsi2 | with_reducible apply Tv.eChain
  | ((with_reducible apply Tv.chT); walk_at "evb") | ((with_reducible apply Tv.chF); walk_at "evb")
  | with_reducible apply Tv.eAsg | with_reducible apply Tv.eFor | with_reducible apply Tv.eItE | with_reducible apply Tv.eItR1 | with_reducible apply Tv.eItZ
  | ((with_reducible apply Tv.eIsOw); rfl) | with_reducible apply Tv.eMut | with_reducible apply Tv.eSetIx | with_reducible apply Tv.eAug
  | with_reducible apply Tv.eProp | with_reducible apply Tv.eMake | with_reducible apply Tv.eFld | with_reducible apply Tv.eSetA | with_reducible apply Tv.eGet
  | walk_at "lit"
  | exact Nat.le_of_ble_eq_true rfl
  | walk_at "evop" | with_reducible apply Tv.andS | with_reducible apply Tv.chS | walk_at "evb" | omega
  )
local macro_rules | `(tactic| walk_at "ev") => `(tactic| repeat' (walk_at "ev1"))
open P67 (Tk Bx chg met nar narL ror full emp zmet lmet wid fit inB Sub60 Gs wishM aps fits outc isf Good Wok)
theorem intsOf_map : ∀ l : List Int, intsOf (l.map T.int) = some l
  | [] => rfl
  | a :: l => by
    show (intsOf (l.map T.int)).map (a :: ·) = _
    rw [intsOf_map l]; rfl
theorem sortSetE {l : List Int} (h : l.length < 60) : opSortSet [.lst (l.map T.int)] = some (.frs (.lst ((sortI l).map T.int))) := by
  unfold opSortSet
  dsimp only
  rw [intsOf_map]
  exact if_pos h
theorem sumE (l : List Int) : opSum [.lst (l.map T.int)] = some (.val (.int l.sum)) := by
  unfold opSum
  dsimp only
  rw [intsOf_map]
def wv (k : Int) (s : Sh) : Int := if s.1 = true then k + s.2 else k - s.2
theorem wv_eq (k : Int) (s : Sh) : wv k s = k + chg s := by
  unfold wv chg
  split <;> omega
noncomputable abbrev wsBody : S → Out Fl := (fDrop (isOw 2 (fMut 2 mApp (aCons (fV (vIf (asT (fBin (opEq false) (fB (fVar 3)) (fB (fK (.str "over"))))) (fBin opAdd (fB (fVar 1)) (fB (fVar 4))) (fBin opSub (fB (fVar 1)) (fB (fVar 4))))) (aNil)))))
noncomputable abbrev wsEnd : S → Out Fl := (fRet (fCall opSortSet (aCons (fB (fVar 2)) (aNil))))
theorem wsLoop {c0 : Sl} {k : Int} {D : Dr} : ∀ (ss : List Sh) (fs : List Int) (b3 b4 : Sl), fs.length + ss.length < 60 →
    resOf (fSeq (forL (gTp 2 (gCn (gNm 3) (gCn (gNm 4) (gNl)))) wsBody (ss.map shT)) wsEnd ⟨[c0, .sh (.int k), .ow (.lst (fs.map T.int)), b3, b4], D⟩) = .ok (.lst ((sortI (fs ++ ss.map (wv k))).map T.int)) true D
  | [], fs, b3, b4, h => by
    have e := sortSetE (l := fs) (by simpa using h)
    simp only [List.map_nil, List.append_nil]
    apply Tv.rFor0
    apply Tv.eRes
    · walk_at "ev"
    · rfl
    · rfl
  | (b, c) :: ss, fs, b3, b4, h => by
    simp only [List.length_cons] at h
    have ih := wsLoop (c0 := c0) (k := k) (D := D) ss (fs ++ [wv k (b, c)]) (.sh (.str (kind b))) (.sh (.int c)) (by simp; omega)
    have e1 := eq_kind b
    have e2 := mAppE (ts := fs.map T.int) (u := T.int (wv k (b, c))) (by simp; omega)
    have e3 : fs ++ ((b, c) :: ss).map (wv k) = fs ++ [wv k (b, c)] ++ ss.map (wv k) := by simp
    rw [e3, ← ih, List.map_append]
    show resOf (fSeq (forL _ _ (T.tup [.str (kind b), .int c] :: ss.map shT)) _ _) = _
    cases b with
    | true =>
      apply Tv.rForN
      · walk_at "ev"
      · walk_at "ev"
      · rfl
    | false =>
      apply Tv.rForN
      · walk_at "ev"
      · walk_at "ev"
      · rfl
def wsL (ss : List Sh) (k : Int) : List Int := sortI (k :: ss.map (wv k))
theorem wishes_ok {ss : List Sh} {k : Int} {D : Dr} (h : SsOk ss) : φ__law_wishes [.lst (ss.map shT), .int k] D = .ok (.lst ((wsL ss k).map T.int)) true D := by
  have l4 := h.l4
  show resOf (f__law_wishes ⟨[.sh (.lst (ss.map shT)), .sh (.int k), .no, .no, .no], D⟩) = _
  unfold f__law_wishes
  apply Tv.rSeq
  · walk_at "ev"
  apply Tv.rFor
  · apply Tv.eItS
    walk_at "ev"
  exact wsLoop ss [k] _ _ (by simp; omega)
theorem wok_ok (ss : List Sh) (k : Int) : Wok ss k (wsL ss k) := by
  refine ⟨?_, ?_, fun s hs => ?_⟩
  · exact (sortI_pw _).imp fun h => by omega
  · rw [wsL, sortI_mem]; simp
  · rw [wsL, sortI_mem, ← wv_eq]
    exact List.mem_cons_of_mem _ (List.mem_map_of_mem hs)
theorem in_ints (a : Int) (l : List Int) : opIn true (.int a) (.lst (l.map T.int)) = some (.val (.bl (!decide (a ∈ l)))) := by
  show (if shp (.int a) = true ∧ shp (.lst (l.map T.int)) = true then some (R.val (.bl (if true = true then !(toDs (l.map T.int)).any (fun z => PyData.eqv z (toD (.int a))) else _))) else none) = _
  rw [if_pos ⟨shp_int a, shp_ints l⟩, if_pos rfl, toDs_map, List.any_map]
  congr 4
  induction l with
  | nil => rfl
  | cons b l ih =>
    rw [List.any_cons, ih]
    simp only [Function.comp, toD, PyData.eqv]
    by_cases h : b = a
    · subst h; simp
    · have h' : ¬ a = b := fun z => h z.symm
      simp [h, h']
def hadL (ss : List Sh) (ts : List Tk) (p q k : Int) : List Int := (wsL ss k).filter fun w => decide (fit ss (ts ++ [⟨p, q, k, w⟩]) > 0)
section
variable {ss : List Sh} {ts : List Tk} {p q k : Int} {b : Bx} (h : SsOk ss) (ht : ∀ t ∈ ts, TkOk t) (hq : 0 < q * k) (hr : ror ss ts (full ss) 0 = .inl b)
include h ht hq hr
theorem had_mem (w : Int) : w ∈ hadL ss ts p q k ↔ w ∈ (outc p q k [] ss b).map (·.1) := by
  unfold hadL
  rw [List.mem_filter, decide_eq_true_eq]
  have z := P67.fit_pos (gs_of h.sh) (fun t hm => (ht t hm).tok) (p := p) hq hr (w := w)
  constructor
  · exact fun x => z.mp x.2
  · intro x
    refine ⟨?_, z.mpr x⟩
    rcases P67.outc_w x with e | ⟨s, h1, e⟩
    · rw [e]; exact (wok_ok ss k).kk
    · rw [e]; exact (wok_ok ss k).s s h1
theorem had_nodup : (hadL ss ts p q k).Nodup := List.Nodup.sublist List.filter_sublist (wok_ok ss k).nd
theorem had_one {e : Int × List Int} (ho : outc p q k [] ss b = [e]) : hadL ss ts p q k = [e.1] := by
  have nd := had_nodup (p := p) h ht hq hr
  have hm := had_mem (p := p) h ht hq hr
  rw [ho] at hm
  generalize hadL ss ts p q k = l at nd hm
  match l, nd, hm with
  | [], _, hm => exact absurd ((hm e.1).mpr (by simp)) (by simp)
  | [x], _, hm => have := (hm x).mp (by simp); simp at this; rw [this]
  | x :: y :: l, nd, hm =>
    have h1 := (hm x).mp (by simp)
    have h2 := (hm y).mp (by simp)
    simp at h1 h2
    exact absurd (h1.trans h2.symm) (fun z => (List.nodup_cons.mp nd).1 (by rw [z]; simp))
theorem had_two {e f : Int × List Int} {o : List (Int × List Int)} (ho : outc p q k [] ss b = e :: f :: o) : e.1 ∈ hadL ss ts p q k ∧ f.1 ∈ hadL ss ts p q k ∧ e.1 ≠ f.1 ∧ 2 ≤ (hadL ss ts p q k).length := by
  have hm := had_mem (p := p) h ht hq hr
  have nd := P67.outc_nodup (p := p) (q := q) (k := k) (b := b) (pre := []) (gs_of h.sh)
  rw [ho] at hm nd
  have h1 := (hm e.1).mpr (by simp)
  have h2 := (hm f.1).mpr (by simp)
  have h3 : e.1 ≠ f.1 := by
    rw [List.map_cons, List.map_cons] at nd
    exact fun z => (List.nodup_cons.mp nd).1 (by rw [z]; simp)
  refine ⟨h1, h2, h3, ?_⟩
  generalize hadL ss ts p q k = l at h1 h2
  match l, h1, h2 with
  | [x], h1, h2 => simp at h1 h2; exact absurd (h1.trans h2.symm) h3
  | x :: y :: l, _, _ => simp
end
end K67
namespace K67
open PySem PySem.Spec PyProof.Rows L2 Tv
local macro_rules | `(tactic| walk_at "lit") => `(tactic| first
  | with_reducible exact Tv.withD_mk | with_reducible exact Tv.D_mk
  | ((with_reducible apply Tv.putE); (repeat (with_reducible apply Tv.setSE)); with_reducible exact Tv.set0E)
  | ((with_reducible apply Tv.wipeS); repeat' (first | with_reducible exact Tv.set0E | with_reducible apply Tv.setSE | with_reducible apply Tv.wipeEC | with_reducible exact Tv.wipeE0)))
local macro_rules | `(tactic| walk_at "evb") => `(tactic| first
  | with_reducible assumption | exact decide_eq_true (by first | with_reducible assumption | omega) | exact decide_eq_false (by first | with_reducible assumption | omega) | exact Tv.notD (by first | with_reducible assumption | omega) | exact Tv.notD' (by first | with_reducible assumption | omega) | exact Tv.notTe (by with_reducible assumption) | exact Tv.notFe (by with_reducible assumption) | rfl
  | (simp only [decide_eq_true_eq, decide_eq_false_iff_not, T.isNon, Bool.not_true, Bool.not_false, beq_self_eq_true]; first | done | with_reducible assumption | omega))
local macro_rules | `(tactic| walk_at "evop") => `(tactic| first
  | with_reducible assumption | with_reducible exact Tv.cmpI | with_reducible exact Tv.addI | with_reducible exact Tv.subI | with_reducible exact Tv.ixT0 | with_reducible exact Tv.ixT1 | with_reducible exact Tv.ixT2 | with_reducible exact Tv.lenT | with_reducible exact Tv.lenL | with_reducible exact Tv.maxL2 | with_reducible exact Tv.minL2 | with_reducible exact Tv.isF | with_reducible exact Tv.isT
  | ((with_reducible apply Tv.mulI); first | with_reducible assumption | omega; first | with_reducible assumption | omega) | ((with_reducible apply Tv.fdvI); first | with_reducible assumption | omega; first | with_reducible assumption | omega) | ((with_reducible apply Tv.modI); first | with_reducible assumption | omega)
  | ((with_reducible apply Tv.ixL); assumption) | ((with_reducible apply Tv.mAppE); first | with_reducible assumption | omega | (simp only [List.length_map]; omega))
  | rfl)
local macro_rules | `(tactic| walk_at "ev1") => `(tactic| first
  | with_reducible assumption | with_reducible apply Tv.eV | with_reducible apply Tv.eB | with_reducible apply Tv.eCons
  | ((with_reducible apply Tv.eVar); rfl) | ((with_reducible apply Tv.eVarO); rfl)
  | with_reducible apply Tv.eBin | with_reducible apply Tv.eDef | with_reducible apply Tv.eCall
  | with_reducible apply Tv.eSeq | with_reducible apply Tv.seqK_nx
  | with_reducible exact Tv.eNilS | with_reducible exact Tv.eRetN | with_reducible exact Tv.eK | with_reducible exact Tv.eNil | with_reducible exact Tv.tYes | with_reducible exact Tv.eONone
  | with_reducible exact Tv.seqK_rt | with_reducible exact Tv.seqK_bk | with_reducible exact Tv.seqK_ct
  | with_reducible exact Tv.retK_v | with_reducible exact Tv.retK_f | ((with_reducible apply Tv.retK_b); rfl)
  | with_reducible exact Tv.bK_v | with_reducible exact Tv.bK_f | with_reducible exact Tv.bK_b
  | with_reducible exact Tv.vK_v | with_reducible exact Tv.vK_f | ((with_reducible apply Tv.vK_b); rfl; walk_at "lit")
  | with_reducible exact Tv.trV | ((with_reducible apply Tv.trO); rfl) | with_reducible exact Tv.trs0 | with_reducible apply Tv.trsC
  | with_reducible exact Tv.defK_v | with_reducible exact Tv.defK_f | with_reducible exact Tv.gNlE
  | ((with_reducible apply Tv.setK_v); walk_at "lit") | ((with_reducible apply Tv.setK_f); walk_at "lit") | ((with_reducible apply Tv.setK_b); rfl; walk_at "lit"; walk_at "lit")
  | ((with_reducible apply Tv.gNmE); walk_at "lit") | with_reducible apply Tv.gCnE | ((with_reducible apply Tv.gTpE); rfl)
  | with_reducible apply Tv.eIf | with_reducible apply Tv.eVIf | with_reducible apply Tv.eRet | with_reducible apply Tv.eSet | with_reducible apply Tv.eDrop
  | ((with_reducible apply Tv.iteT); walk_at "evb") | ((with_reducible apply Tv.iteF); walk_at "evb")
  | with_reducible exact Tv.eOk
  | with_reducible apply Tv.eTup
  | with_reducible apply Tv.eLst | with_reducible apply Tv.eNeg | with_reducible apply Tv.eOInt | with_reducible apply Tv.eSl
  | with_reducible apply Tv.eAsT | with_reducible apply Tv.eTNot | with_reducible apply Tv.eTAnd | with_reducible apply Tv.eTOr | with_reducible apply Tv.eAnd | with_reducible apply Tv.eOr | with_reducible apply Tv.eNot
  | with_reducible exact Tv.notT | with_reducible exact Tv.notF | with_reducible exact Tv.notS
  | with_reducible apply Tv.eIsi | with_reducible apply Tv.eIsi2 | with_reducible apply Tv.eChain
  | ((with_reducible apply Tv.chT); walk_at "evb") | ((with_reducible apply Tv.chF); walk_at "evb")
  | with_reducible apply Tv.eAsg | with_reducible apply Tv.eFor | with_reducible apply Tv.eItE | with_reducible apply Tv.eItR1 | with_reducible apply Tv.eItZ
  | ((with_reducible apply Tv.eIsOw); rfl) | with_reducible apply Tv.eMut | with_reducible apply Tv.eSetIx | with_reducible apply Tv.eAug
  | with_reducible apply Tv.eProp | with_reducible apply Tv.eMake | with_reducible apply Tv.eFld | with_reducible apply Tv.eSetA | with_reducible apply Tv.eGet
  | walk_at "lit"
  | exact Nat.le_of_ble_eq_true rfl
  | walk_at "evop" | with_reducible apply Tv.andS | with_reducible apply Tv.chS | walk_at "evb" | omega
  )
local macro_rules | `(tactic| walk_at "ev") => `(tactic| repeat' (walk_at "ev1"))
open P67 (Tk Bx chg met nar narL ror full emp zmet lmet wid fit inB Sub60 Gs wishM aps fits outc isf Good Wok)
noncomputable abbrev ptC1 : S → Out R := (fLc (itS (fV (fDef 2 φ__law_wishes (aCons (fV (fVar 0)) (aCons (fV (fVar 3)) (aNil)))))) [11] (gNm 11) (tYesF) (fV (fTup (aCons (fV (fVar 11)) (aCons (fV (fDef 2 φ_fitting (aCons (fV (fVar 0)) (aCons (fV (fBin opAdd (fB (fVar 1)) (fB (fLst (aCons (fV (fTup (aCons (fV (fVar 2)) (aCons (fV (fVar 3)) (aCons (fV (fVar 11)) (aNil)))))) (aNil)))))) (aNil))))) (aNil))))))
noncomputable abbrev ptC2 : S → Out R := (fLc (itS (fV (fVar 4))) [11, 12] (gTp 2 (gCn (gNm 11) (gCn (gNm 12) (gNl)))) (tYesF) (fV (fVar 12)))
noncomputable abbrev ptC3 : S → Out R := (fLc (itS (fV (fVar 4))) [11, 12] (gTp 2 (gCn (gNm 11) (gCn (gNm 12) (gNl)))) (asT (fBin opGt (fB (fVar 12)) (fB (fK (.int 0))))) (fV (fVar 11)))
noncomputable abbrev ptC4 : S → Out R := (fLc (itS (fV (fSl (fB (fVar 6)) (oInt (fK (.int 1))) (oNone)))) [13] (gNm 13) (tYesF) (fV (fDef 2 φ__law_made (aCons (fV (fVar 0)) (aCons (fV (fVar 13)) (aNil))))))
noncomputable abbrev ptC5 : S → Out R := (fLc (itS (fV (fVar 8))) [14] (gNm 14) (tYesF) (fV (fDef 3 φ_wish (aCons (fV (fVar 14)) (aCons (fV (fVar 3)) (aCons (fV (fVar 2)) (aNil)))))))
section
variable {ss : List Sh} {ts : List Tk} {t : Tk} (h : SsOk ss) (ht : ∀ t ∈ ts, TkOk t) (hl : ts.length ≤ 12) (h1 : TkOk t) {D : Dr}
def tkW (t : Tk) (w : Int) : Tk := ⟨t.p, t.q, t.k, w⟩
include ht h1 in
theorem add_ok (w : Int) : ∀ u ∈ ts ++ [tkW t w], TkOk u := fun u hu => by
  rcases List.mem_append.mp hu with z | z
  · exact ht u z
  · rw [List.mem_singleton.mp z]; exact ⟨h1.fr, h1.qs, h1.k1, h1.k8⟩
include hl in
theorem add_op (w : Int) : opAdd (.lst (ts.map tkT)) (.lst [.tup [.tup [.int t.p, .int t.q], .int t.k, .int w]]) = some (.frs (.lst ((ts ++ [tkW t w]).map tkT))) := by
  rw [addL (by simp; omega), List.map_append]; rfl
def pts (ss : List Sh) (ts : List Tk) (t : Tk) : Bx := (wsL ss t.k).map fun w => (w, fit ss (ts ++ [tkW t w]))
theorem wsL_len (ss : List Sh) (k : Int) (h4 : ss.length ≤ 4) : (wsL ss k).length ≤ 1000 := by
  have : ∀ l : List Int, (sortI l).length ≤ l.length := fun l => by
    induction l with
    | nil => exact Nat.le_refl _
    | cons i l ih =>
      have hi : ∀ l : List Int, (insI i l).length ≤ l.length + 1 := fun l => by
        induction l with
        | nil => exact Nat.le_refl _
        | cons j l ih =>
          unfold insI
          split
          · simp
          · split
            · simp
            · simp only [List.length_cons]; omega
      have := hi (sortI l)
      show (insI i (sortI l)).length ≤ _
      simp only [List.length_cons]; omega
  have := this (k :: ss.map (wv k))
  unfold wsL
  simp only [List.length_cons, List.length_map] at this
  omega
include h ht hl h1 in
theorem c1_ok : ptC1 ⟨[.sh (.lst (ss.map shT)), .sh (.lst (ts.map tkT)), .sh (.tup [.int t.p, .int t.q]), .sh (.int t.k), .no, .no, .no, .no, .no, .no, .no, .no, .no, .no, .no], D⟩ = .ok (.frs (.lst ((pts ss ts t).map prT))) ⟨[.sh (.lst (ss.map shT)), .sh (.lst (ts.map tkT)), .sh (.tup [.int t.p, .int t.q]), .sh (.int t.k), .no, .no, .no, .no, .no, .no, .no, .no, .no, .no, .no], D⟩ := by
  have e1 := wishes_ok (k := t.k) (D := D) h
  unfold pts
  rw [List.map_map]
  apply Tv.eLcA (l := wsL ss t.k) T.int
  · apply Tv.eItS
    walk_at "ev"
  · rfl
  · rfl
  · walk_at "lit"
  · have := wsL_len ss t.k h.l4; omega
  · intro w hw
    have e2 := fitting_ok (D := D) h (add_ok ht h1 w)
    have e3 := add_op (t := t) hl w
    apply Tv.lcTnA
    · walk_at "ev"
    · show _ = Out.ok (T.tup [T.int w, T.int (fit ss (ts ++ [tkW t w]))]) _
      walk_at "ev"
    · rfl
  · rfl
variable {b5 b6 b7 b8 b9 b10 : Sl} {x0 x1 x2 x3 : Sl}
theorem c2_ok {b : Bx} (hb : b.length ≤ 1000) {b4 : Sl} (h4 : b4 = .ow (.lst (b.map prT)) ∨ b4 = .sh (.lst (b.map prT))) : ptC2 ⟨[x0, x1, x2, x3, b4, b5, b6, b7, b8, b9, b10, .no, .no, .no, .no], D⟩ = .ok (.frs (.lst ((b.map (·.2)).map T.int))) ⟨[x0, x1, x2, x3, .sh (.lst (b.map prT)), b5, b6, b7, b8, b9, b10, .no, .no, .no, .no], D⟩ := by
  rw [List.map_map]
  apply Tv.eLcA (l := b) prT
  · rcases h4 with rfl | rfl
    · apply Tv.eItS
      walk_at "ev"
    · apply Tv.eItS
      walk_at "ev"
  · rfl
  · rfl
  · walk_at "lit"
  · omega
  · intro y hy
    obtain ⟨y1, y2⟩ := y
    apply Tv.lcTnA
    · apply Tv.gTpE
      · rfl
      · walk_at "ev"
    · show _ = Out.ok (T.int y2) _
      walk_at "ev"
    · rfl
  · rfl
theorem c3_ok {b : Bx} (hb : b.length ≤ 1000) : ptC3 ⟨[x0, x1, x2, x3, .sh (.lst (b.map prT)), b5, b6, b7, b8, b9, b10, .no, .no, .no, .no], D⟩ = .ok (.frs (.lst (((b.filter fun y => decide (y.2 > 0)).map (·.1)).map T.int))) ⟨[x0, x1, x2, x3, .sh (.lst (b.map prT)), b5, b6, b7, b8, b9, b10, .no, .no, .no, .no], D⟩ := by
  rw [List.map_map]
  apply Tv.eLc (l := b) prT (fun y => decide (y.2 > 0))
  · apply Tv.eItS
    walk_at "ev"
  · rfl
  · rfl
  · walk_at "lit"
  · omega
  · intro y hy
    obtain ⟨y1, y2⟩ := y
    apply Tv.lcTn
    · apply Tv.gTpE
      · rfl
      · walk_at "ev"
    · show _ = Out.ok (decide (y2 > 0)) _
      walk_at "ev"
    · show _ = Out.ok (T.int y1) _
      walk_at "ev"
    · rfl
    · rfl
  · rfl
theorem pts_had : ((pts ss ts t).filter fun y => decide (y.2 > 0)).map (·.1) = hadL ss ts t.p t.q t.k := by
  unfold pts hadL
  rw [List.filter_map, List.map_map]
  have : ((fun x : Int × Int => x.1) ∘ fun w => (w, fit ss (ts ++ [tkW t w]))) = id := rfl
  rw [this, List.map_id]; rfl
include h ht h1 in
theorem pts_sum : ((pts ss ts t).map (·.2)).sum = fit ss ts := by
  unfold pts
  rw [List.map_map]
  exact P67.parts_sum (gs_of h.sh) (fun t hm => (ht t hm).tok) h1.tok.q (wok_ok ss t.k)
theorem pts_len (h4 : ss.length ≤ 4) : (pts ss ts t).length ≤ 1000 := by
  unfold pts
  rw [List.length_map]
  exact wsL_len ss t.k h4
end
end K67
namespace K67
open PySem PySem.Spec PyProof.Rows L2 Tv
local macro_rules | `(tactic| walk_at "lit") => `(tactic| first
  | with_reducible exact Tv.withD_mk | with_reducible exact Tv.D_mk
  | ((with_reducible apply Tv.putE); (repeat (with_reducible apply Tv.setSE)); with_reducible exact Tv.set0E)
  | ((with_reducible apply Tv.wipeS); repeat' (first | with_reducible exact Tv.set0E | with_reducible apply Tv.setSE | with_reducible apply Tv.wipeEC | with_reducible exact Tv.wipeE0)))
local macro_rules | `(tactic| walk_at "evb") => `(tactic| first
  | with_reducible assumption | exact decide_eq_true (by first | with_reducible assumption | omega) | exact decide_eq_false (by first | with_reducible assumption | omega) | exact Tv.notD (by first | with_reducible assumption | omega) | exact Tv.notD' (by first | with_reducible assumption | omega) | exact Tv.notTe (by with_reducible assumption) | exact Tv.notFe (by with_reducible assumption) | rfl
  | (simp only [decide_eq_true_eq, decide_eq_false_iff_not, T.isNon, Bool.not_true, Bool.not_false, beq_self_eq_true]; first | done | with_reducible assumption | omega))
local macro_rules | `(tactic| walk_at "evop") => `(tactic| first
  | with_reducible assumption | with_reducible exact Tv.cmpI | with_reducible exact Tv.addI | with_reducible exact Tv.subI | with_reducible exact Tv.ixT0 | with_reducible exact Tv.ixT1 | with_reducible exact Tv.ixT2 | with_reducible exact Tv.lenT | with_reducible exact Tv.lenL | with_reducible exact Tv.maxL2 | with_reducible exact Tv.minL2 | with_reducible exact Tv.isF | with_reducible exact Tv.isT
  | ((with_reducible apply Tv.mulI); first | with_reducible assumption | omega; first | with_reducible assumption | omega) | ((with_reducible apply Tv.fdvI); first | with_reducible assumption | omega; first | with_reducible assumption | omega) | ((with_reducible apply Tv.modI); first | with_reducible assumption | omega)
  | ((with_reducible apply Tv.ixL); assumption) | ((with_reducible apply Tv.mAppE); first | with_reducible assumption | omega | (simp only [List.length_map]; omega))
  | rfl)
local macro_rules | `(tactic| walk_at "ev1") => `(tactic| first
  | with_reducible assumption | with_reducible apply Tv.eV | with_reducible apply Tv.eB | with_reducible apply Tv.eCons
  | ((with_reducible apply Tv.eVar); rfl) | ((with_reducible apply Tv.eVarO); rfl)
  | with_reducible apply Tv.eBin | with_reducible apply Tv.eDef | with_reducible apply Tv.eCall
  | with_reducible apply Tv.eSeq | with_reducible apply Tv.seqK_nx
  | with_reducible exact Tv.eNilS | with_reducible exact Tv.eRetN | with_reducible exact Tv.eK | with_reducible exact Tv.eNil | with_reducible exact Tv.tYes | with_reducible exact Tv.eONone
  | with_reducible exact Tv.seqK_rt | with_reducible exact Tv.seqK_bk | with_reducible exact Tv.seqK_ct
  | with_reducible exact Tv.retK_v | with_reducible exact Tv.retK_f | ((with_reducible apply Tv.retK_b); rfl)
  | with_reducible exact Tv.bK_v | with_reducible exact Tv.bK_f | with_reducible exact Tv.bK_b
  | with_reducible exact Tv.vK_v | with_reducible exact Tv.vK_f | ((with_reducible apply Tv.vK_b); rfl; walk_at "lit")
  | with_reducible exact Tv.trV | ((with_reducible apply Tv.trO); rfl) | with_reducible exact Tv.trs0 | with_reducible apply Tv.trsC
  | with_reducible exact Tv.defK_v | with_reducible exact Tv.defK_f | with_reducible exact Tv.gNlE
  | ((with_reducible apply Tv.setK_v); walk_at "lit") | ((with_reducible apply Tv.setK_f); walk_at "lit") | ((with_reducible apply Tv.setK_b); rfl; walk_at "lit"; walk_at "lit")
  | ((with_reducible apply Tv.gNmE); walk_at "lit") | with_reducible apply Tv.gCnE | ((with_reducible apply Tv.gTpE); rfl)
  | with_reducible apply Tv.eIf | with_reducible apply Tv.eVIf | with_reducible apply Tv.eRet | with_reducible apply Tv.eSet | with_reducible apply Tv.eDrop
  | ((with_reducible apply Tv.iteT); walk_at "evb") | ((with_reducible apply Tv.iteF); walk_at "evb")
  | with_reducible exact Tv.eOk
  | with_reducible apply Tv.eTup
  | with_reducible apply Tv.eLst | with_reducible apply Tv.eNeg | with_reducible apply Tv.eOInt | with_reducible apply Tv.eSl
  | with_reducible apply Tv.eAsT | with_reducible apply Tv.eTNot | with_reducible apply Tv.eTAnd | with_reducible apply Tv.eTOr | with_reducible apply Tv.eAnd | with_reducible apply Tv.eOr | with_reducible apply Tv.eNot
  | with_reducible exact Tv.notT | with_reducible exact Tv.notF | with_reducible exact Tv.notS
  | with_reducible apply Tv.eIsi | with_reducible apply Tv.eIsi2 | with_reducible apply Tv.eChain
  | ((with_reducible apply Tv.chT); walk_at "evb") | ((with_reducible apply Tv.chF); walk_at "evb")
  | with_reducible apply Tv.eAsg | with_reducible apply Tv.eFor | with_reducible apply Tv.eItE | with_reducible apply Tv.eItR1 | with_reducible apply Tv.eItZ
  | ((with_reducible apply Tv.eIsOw); rfl) | with_reducible apply Tv.eMut | with_reducible apply Tv.eSetIx | with_reducible apply Tv.eAug
  | with_reducible apply Tv.eProp | with_reducible apply Tv.eMake | with_reducible apply Tv.eFld | with_reducible apply Tv.eSetA | with_reducible apply Tv.eGet
  | walk_at "lit"
  | exact Nat.le_of_ble_eq_true rfl
  | walk_at "evop" | with_reducible apply Tv.andS | with_reducible apply Tv.chS | walk_at "evb" | omega
  )
local macro_rules | `(tactic| walk_at "ev") => `(tactic| repeat' (walk_at "ev1"))
open P67 (Tk Bx chg met nar narL ror full emp zmet lmet wid fit inB Sub60 Gs wishM aps fits outc isf Good Wok)
theorem shp_sure : shp (.str "sure") = true := shp_lit _ (by decide +kernel)
theorem shp_open : shp (.str "open") = true := shp_lit _ (by decide +kernel)
theorem q_ss : opEq false (.str "sure") (.str "sure") = some (.val (.bl true)) := by rw [eq_str _ _ shp_sure shp_sure]; simp
theorem q_os : opEq false (.str "open") (.str "sure") = some (.val (.bl false)) := by
  have e : (("open" : Str) == ("sure" : Str)) = false := by decide +kernel
  rw [eq_str _ _ shp_open shp_sure, e]
section
variable {ss : List Sh} {ts : List Tk} {t : Tk} (h : SsOk ss) (ht : ∀ t ∈ ts, TkOk t) (hl : ts.length ≤ 12) (h1 : TkOk t) {D : Dr}
include h ht hl h1
theorem partedright_ok : φ__law_parted_right [.lst (ss.map shT), .lst (ts.map tkT), .tup [.int t.p, .int t.q], .int t.k] D = .ok (.bl true) false D := by
  have k1 := c1_ok h ht hl h1 (D := D)
  have hp := pts_len (t := t) (ts := ts) h.l4
  have hsum := pts_sum h ht h1
  have k2 := c2_ok (D := D) (x0 := .sh (.lst (ss.map shT))) (x1 := .sh (.lst (ts.map tkT))) (x2 := .sh (.tup [.int t.p, .int t.q])) (x3 := .sh (.int t.k)) (b5 := .no) (b6 := .no) (b7 := .no) (b8 := .no) (b9 := .no) (b10 := .no) hp (.inl rfl)
  have k3 := c3_ok (D := D) (x0 := .sh (.lst (ss.map shT))) (x1 := .sh (.lst (ts.map tkT))) (x2 := .sh (.tup [.int t.p, .int t.q])) (x3 := .sh (.int t.k)) (b5 := .no) (b6 := .no) (b7 := .no) (b8 := .no) (b9 := .no) (b10 := .no) hp
  rw [pts_had] at k3
  have q1 := sumE ((pts ss ts t).map (·.2))
  rw [hsum] at q1
  have q2 := ne_int (fit ss ts) (fit ss ts)
  have q3 := eq_int (fit ss ts) 0
  have e1 := fitting_ok (D := D) h ht
  have e2 := sure_ok (D := D) h ht h1
  show resOf (f__law_parted_right ⟨[.sh (.lst (ss.map shT)), .sh (.lst (ts.map tkT)), .sh (.tup [.int t.p, .int t.q]), .sh (.int t.k), .no, .no, .no, .no, .no, .no, .no, .no, .no, .no, .no], D⟩) = _
  unfold f__law_parted_right
  apply Tv.rSeq
  · walk_at "ev"
  apply Tv.rSeq
  · walk_at "ev"
  apply Tv.rSeq
  · walk_at "ev"
  cases hr : ror ss ts (full ss) 0 with
  | inr i =>
    rw [hr] at e2
    dsimp only at e2
    have hz : fit ss ts = 0 := P67.fit_none hr
    have eT : fTold 7 "at" "told" "none" (fV (fDef 4 φ_sure (aCons (fV (fVar 0)) (aCons (fV (fVar 1)) (aCons (fV (fVar 2)) (aCons (fV (fVar 3)) (aNil))))))) ⟨[.sh (.lst (ss.map shT)), .sh (.lst (ts.map tkT)), .sh (.tup [.int t.p, .int t.q]), .sh (.int t.k), .sh (.lst ((pts ss ts t).map prT)), .ow (.lst ((hadL ss ts t.p t.q t.k).map T.int)), .no, .no, .no, .no, .no, .no, .no, .no, .no], D⟩
        = .ok (.val (.tup [.str "none", .int (i : Nat)])) ⟨[.sh (.lst (ss.map shT)), .sh (.lst (ts.map tkT)), .sh (.tup [.int t.p, .int t.q]), .sh (.int t.k), .sh (.lst ((pts ss ts t).map prT)), .ow (.lst ((hadL ss ts t.p t.q t.k).map T.int)), .no, .no, .no, .no, .no, .no, .no, .no, .no], D⟩ := by
      apply Tv.eToldN
      · apply Tv.eVX
        apply Tv.eDefX
        · walk_at "ev"
        · rfl
        · walk_at "lit"
        · exact e2
        · walk_at "lit"
      · rfl
    have w1 := q_nn
    apply Tv.rSeqR
    · walk_at "ev"
    · rfl
  | inl b =>
    rw [hr] at e2
    dsimp only at e2
    obtain ⟨b1, b2, b3⟩ := ror_facts h ht hr
    have hpos : 0 < fit ss ts := by
      unfold fit; rw [hr]; exact P67.wid_pos b3
    have hne : ¬ fit ss ts = 0 := by omega
    apply Tv.rSeq
    · walk_at "ev"
    have hq := h1.tok.q
    have one := fun e => had_one (p := t.p) h ht hq hr (e := e)
    have two := fun e f o => had_two (p := t.p) h ht hq hr (e := e) (f := f) (o := o)
    have wi := fun e => P67.out_wish (gs_of h.sh) (fun t hm => (ht t hm).tok) (p := t.p) hq hr (e := e)
    have fi := fun e => P67.isf_out (gs_of h.sh) (fun t hm => (ht t hm).tok) (p := t.p) hq hr (e := e)
    have sa := fun e => P67.sure_same (gs_of h.sh) (fun t hm => (ht t hm).tok) (p := t.p) hq hr (e := e)
    have ne := P67.out_ne (gs_of h.sh) (fun t hm => (ht t hm).tok) (p := t.p) hq hr
    generalize outc t.p t.q t.k [] ss b = o at e2 one two wi fi sa ne
    match o, e2, one, two, wi, fi, sa, ne with
    | [e], e2, one, _, wi, fi, sa, _ =>
      have o1 := one e rfl
      have s1 := sa e rfl
      have e3 := ranges_ok (D := D) h (add_ok ht h1 e.1)
      have e4 := ranges_ok (D := D) h ht
      have : ror ss (ts ++ [tkW t e.1]) (full ss) 0 = .inl b := s1
      rw [this] at e3
      rw [hr] at e4
      unfold rngR at e3 e4
      unfold sureR at e2
      dsimp only at e2 e3 e4
      have e5 := add_op (t := t) hl e.1
      have w1 := q_ss
      have w2 := eq_ints (hadL ss ts t.p t.q t.k) [e.1]
      rw [List.map_cons, List.map_nil] at w2
      have rb := rp_box b2 b3 (by have := h.l4; omega)
      rw [List.map_map] at rb
      have rb' : Rp (toD (.lst (b.map prT))) 100000 4 := by
        simp only [toD, toDs_map]; exact rb
      have pb : pl (.lst (b.map prT)) = true := by
        simp only [pl]; exact pls_map prT (fun a => by simp [prT, pl, pls]) b
      have w3 := (repr_op pb rb' (by decide) (by decide)).1
      have w4 := (repr_same pb rb' (by decide) (by decide)).2
      apply Tv.rSeq
      · walk_at "ev"
      apply Tv.rSeqR
      · apply Tv.eIf
        · walk_at "ev"
        · walk_at "ev"
      · rfl
    | e :: f :: o, e2, _, two, wi, fi, sa, _ =>
      obtain ⟨t1, t2, t3, t4⟩ := two e f o rfl
      obtain ⟨u1, u2, u3, u4⟩ := wi e (by simp)
      obtain ⟨v1, v2, v3, v4⟩ := wi f (by simp)
      have f1 := fi e (by simp)
      have f2 := fi f (by simp)
      unfold sureR at e2
      dsimp only at e2
      have w1 := q_os
      have m1 := made_ok (D := D) h u4
      have m2 := made_ok (D := D) h v4
      have z1 : ∀ x ∈ ss.zip e.2, PaOk x := fun x hx => ⟨h.sh.ks _ (List.of_mem_zip hx).1, u4 _ (List.of_mem_zip hx).2⟩
      have z2 : ∀ x ∈ ss.zip f.2, PaOk x := fun x hx => ⟨h.sh.ks _ (List.of_mem_zip hx).1, v4 _ (List.of_mem_zip hx).2⟩
      have i1 := wish_ok (D := D) z1 h1.fr h1.k1 h1.k8 h1.qs
      have i2 := wish_ok (D := D) z2 h1.fr h1.k1 h1.k8 h1.qs
      rw [u1] at i1
      rw [v1] at i2
      have g1 := isfitting_ok (D := D) (ms := e.2) h (add_ok ht h1 e.1) u3
      have g2 := isfitting_ok (D := D) (ms := f.2) h (add_ok ht h1 e.1) v3
      have g3 := isfitting_ok (D := D) (ms := f.2) h (add_ok ht h1 f.1) v3
      have g4 := isfitting_ok (D := D) (ms := e.2) h (add_ok ht h1 f.1) u3
      rw [show isf ss (ts ++ [tkW t e.1]) e.2 = true from by have := f1 e.1; simpa [tkW] using this] at g1
      rw [show isf ss (ts ++ [tkW t e.1]) f.2 = false from by have := f2 e.1; rw [decide_eq_false (fun z => t3 z.symm)] at this; exact this] at g2
      rw [show isf ss (ts ++ [tkW t f.1]) f.2 = true from by have := f2 f.1; simpa [tkW] using this] at g3
      rw [show isf ss (ts ++ [tkW t f.1]) e.2 = false from by have := f1 f.1; rw [decide_eq_false t3] at this; exact this] at g4
      have a1 := add_op (t := t) hl e.1
      have a2 := add_op (t := t) hl f.1
      have w5 : opLen [.lst ((hadL ss ts t.p t.q t.k).map T.int)] = some (.val (.int ((hadL ss ts t.p t.q t.k).length : Nat))) := by rw [lenL, List.length_map]
      have w6 := eq_int e.1 f.1
      have w7 := in_ints e.1 (hadL ss ts t.p t.q t.k)
      have w8 := in_ints f.1 (hadL ss ts t.p t.q t.k)
      have w9 := ixLc0 (a := T.int e.1) (l := [T.int f.1])
      have w10 := ixLc1 (a := T.int e.1) (b := T.int f.1) (l := [])
      have w11 : ¬ (((hadL ss ts t.p t.q t.k).length : Nat) : Int) < 2 := by omega
      have y1 : opIx (.tup [.str "open", .tup (e.2.map T.int), .tup (f.2.map T.int)]) (.int (1 + 0)) = some (.val (.tup (e.2.map T.int))) := ixT1
      have y2 : opIx (.tup [.str "open", .tup (e.2.map T.int), .tup (f.2.map T.int)]) (.int (2 - 0)) = some (.val (.tup (f.2.map T.int))) := ixT2
      have y3 : opIx (.tup [.str "open", .tup (e.2.map T.int), .tup (f.2.map T.int)]) (.int (1 + 1)) = some (.val (.tup (f.2.map T.int))) := ixT2
      have y4 : opIx (.tup [.str "open", .tup (e.2.map T.int), .tup (f.2.map T.int)]) (.int (2 - 1)) = some (.val (.tup (e.2.map T.int))) := ixT1
      have c4 : ptC4 ⟨[.sh (.lst (ss.map shT)), .sh (.lst (ts.map tkT)), .sh (.tup [.int t.p, .int t.q]), .sh (.int t.k), .sh (.lst ((pts ss ts t).map prT)), .ow (.lst ((hadL ss ts t.p t.q t.k).map T.int)), .sh (.tup [.str "open", .tup (e.2.map T.int), .tup (f.2.map T.int)]), .no, .no, .no, .no, .no, .no, .no, .no], D⟩
         = .ok (.frs (.lst ([e.2, f.2].map fun m => ruT (ss.zip m)))) ⟨[.sh (.lst (ss.map shT)), .sh (.lst (ts.map tkT)), .sh (.tup [.int t.p, .int t.q]), .sh (.int t.k), .sh (.lst ((pts ss ts t).map prT)), .ow (.lst ((hadL ss ts t.p t.q t.k).map T.int)), .sh (.tup [.str "open", .tup (e.2.map T.int), .tup (f.2.map T.int)]), .no, .no, .no, .no, .no, .no, .no, .no], D⟩ := by
        apply Tv.eLcA (l := [e.2, f.2]) (fun m => .tup (m.map T.int))
        · apply Tv.eItSt
          walk_at "ev"
        · rfl
        · rfl
        · walk_at "lit"
        · exact Nat.le_of_ble_eq_true rfl
        · intro m hm
          have mm : φ__law_made [.lst (ss.map shT), .tup (m.map T.int)] D = .ok (ruT (ss.zip m)) false D := by
            simp only [List.mem_cons, List.not_mem_nil, or_false] at hm
            rcases hm with rfl | rfl
            · exact m1
            · exact m2
          apply Tv.lcTnA
          · walk_at "ev"
          · walk_at "ev"
          · rfl
        · rfl
      have c5 : ptC5 ⟨[.sh (.lst (ss.map shT)), .sh (.lst (ts.map tkT)), .sh (.tup [.int t.p, .int t.q]), .sh (.int t.k), .sh (.lst ((pts ss ts t).map prT)), .ow (.lst ((hadL ss ts t.p t.q t.k).map T.int)), .sh (.tup [.str "open", .tup (e.2.map T.int), .tup (f.2.map T.int)]), .no, .ow (.lst ([e.2, f.2].map fun m => ruT (ss.zip m))), .no, .no, .no, .no, .no, .no], D⟩
         = .ok (.frs (.lst ([(e.2, e.1), (f.2, f.1)].map fun m => T.int m.2))) ⟨[.sh (.lst (ss.map shT)), .sh (.lst (ts.map tkT)), .sh (.tup [.int t.p, .int t.q]), .sh (.int t.k), .sh (.lst ((pts ss ts t).map prT)), .ow (.lst ((hadL ss ts t.p t.q t.k).map T.int)), .sh (.tup [.str "open", .tup (e.2.map T.int), .tup (f.2.map T.int)]), .no, .sh (.lst ([e.2, f.2].map fun m => ruT (ss.zip m))), .no, .no, .no, .no, .no, .no], D⟩ := by
        apply Tv.eLcA (l := [(e.2, e.1), (f.2, f.1)]) (fun m => ruT (ss.zip m.1))
        · apply Tv.eItS
          walk_at "ev"
        · rfl
        · rfl
        · walk_at "lit"
        · exact Nat.le_of_ble_eq_true rfl
        · intro m hm
          have mm : φ_wish [ruT (ss.zip m.1), .int t.k, .tup [.int t.p, .int t.q]] D = .ok (.int m.2) false D := by
            simp only [List.mem_cons, List.not_mem_nil, or_false] at hm
            rcases hm with rfl | rfl
            · exact i1
            · exact i2
          apply Tv.lcTnA
          · walk_at "ev"
          · walk_at "ev"
          · rfl
        · rfl
      have c6 : List.map (fun m : List Int × Int => T.int m.2) [(e.2, e.1), (f.2, f.1)] = [T.int e.1, T.int f.1] := rfl
      rw [c6] at c5
      apply Tv.rSeq
      · walk_at "ev"
      apply Tv.rSeq
      · walk_at "ev"
      apply Tv.rSeq
      · walk_at "ev"
      apply Tv.rSeq
      · walk_at "ev"
      apply Tv.rSeq
      · walk_at "ev"
      apply Tv.rFor
      · apply Tv.eItR1
        · walk_at "ev"
        · decide
      show resOf (fSeq (forL _ _ [T.int 0, T.int 1]) _ _) = _
      apply Tv.rForN
      · walk_at "ev"
      · walk_at "ev"
      apply Tv.rForN
      · walk_at "ev"
      · walk_at "ev"
      rfl
end
end K67
namespace K67
open PySem PySem.Spec PyProof.Rows L2 Tv
local macro_rules | `(tactic| walk_at "lit") => `(tactic| first
  | with_reducible exact Tv.withD_mk | with_reducible exact Tv.D_mk
  | ((with_reducible apply Tv.putE); (repeat (with_reducible apply Tv.setSE)); with_reducible exact Tv.set0E)
  | ((with_reducible apply Tv.wipeS); repeat' (first | with_reducible exact Tv.set0E | with_reducible apply Tv.setSE | with_reducible apply Tv.wipeEC | with_reducible exact Tv.wipeE0)))
local macro_rules | `(tactic| walk_at "evb") => `(tactic| first
  | with_reducible assumption | exact decide_eq_true (by first | with_reducible assumption | omega) | exact decide_eq_false (by first | with_reducible assumption | omega) | exact Tv.notD (by first | with_reducible assumption | omega) | exact Tv.notD' (by first | with_reducible assumption | omega) | exact Tv.notTe (by with_reducible assumption) | exact Tv.notFe (by with_reducible assumption) | rfl
  | (simp only [decide_eq_true_eq, decide_eq_false_iff_not, T.isNon, Bool.not_true, Bool.not_false, beq_self_eq_true]; first | done | with_reducible assumption | omega))
local macro_rules | `(tactic| walk_at "evop") => `(tactic| first
  | with_reducible assumption | with_reducible exact Tv.cmpI | with_reducible exact Tv.addI | with_reducible exact Tv.subI | with_reducible exact Tv.ixT0 | with_reducible exact Tv.ixT1 | with_reducible exact Tv.ixT2 | with_reducible exact Tv.lenT | with_reducible exact Tv.lenL | with_reducible exact Tv.maxL2 | with_reducible exact Tv.minL2 | with_reducible exact Tv.isF | with_reducible exact Tv.isT
  | ((with_reducible apply Tv.mulI); first | with_reducible assumption | omega; first | with_reducible assumption | omega) | ((with_reducible apply Tv.fdvI); first | with_reducible assumption | omega; first | with_reducible assumption | omega) | ((with_reducible apply Tv.modI); first | with_reducible assumption | omega)
  | ((with_reducible apply Tv.ixL); assumption) | ((with_reducible apply Tv.mAppE); first | with_reducible assumption | omega | (simp only [List.length_map]; omega))
  | rfl)
local macro_rules | `(tactic| walk_at "ev1") => `(tactic| first
  | with_reducible assumption | with_reducible apply Tv.eV | with_reducible apply Tv.eB | with_reducible apply Tv.eCons
  | ((with_reducible apply Tv.eVar); rfl) | ((with_reducible apply Tv.eVarO); rfl)
  | with_reducible apply Tv.eBin | with_reducible apply Tv.eDef | with_reducible apply Tv.eCall
  | with_reducible apply Tv.eSeq | with_reducible apply Tv.seqK_nx
  | with_reducible exact Tv.eNilS | with_reducible exact Tv.eRetN | with_reducible exact Tv.eK | with_reducible exact Tv.eNil | with_reducible exact Tv.tYes | with_reducible exact Tv.eONone
  | with_reducible exact Tv.seqK_rt | with_reducible exact Tv.seqK_bk | with_reducible exact Tv.seqK_ct
  | with_reducible exact Tv.retK_v | with_reducible exact Tv.retK_f | ((with_reducible apply Tv.retK_b); rfl)
  | with_reducible exact Tv.bK_v | with_reducible exact Tv.bK_f | with_reducible exact Tv.bK_b
  | with_reducible exact Tv.vK_v | with_reducible exact Tv.vK_f | ((with_reducible apply Tv.vK_b); rfl; walk_at "lit")
  | with_reducible exact Tv.trV | ((with_reducible apply Tv.trO); rfl) | with_reducible exact Tv.trs0 | with_reducible apply Tv.trsC
  | with_reducible exact Tv.defK_v | with_reducible exact Tv.defK_f | with_reducible exact Tv.gNlE
  | ((with_reducible apply Tv.setK_v); walk_at "lit") | ((with_reducible apply Tv.setK_f); walk_at "lit") | ((with_reducible apply Tv.setK_b); rfl; walk_at "lit"; walk_at "lit")
  | ((with_reducible apply Tv.gNmE); walk_at "lit") | with_reducible apply Tv.gCnE | ((with_reducible apply Tv.gTpE); rfl)
  | with_reducible apply Tv.eIf | with_reducible apply Tv.eVIf | with_reducible apply Tv.eRet | with_reducible apply Tv.eSet | with_reducible apply Tv.eDrop
  | ((with_reducible apply Tv.iteT); walk_at "evb") | ((with_reducible apply Tv.iteF); walk_at "evb")
  | with_reducible exact Tv.eOk
  | with_reducible apply Tv.eTup
  | with_reducible apply Tv.eLst | with_reducible apply Tv.eNeg | with_reducible apply Tv.eOInt | with_reducible apply Tv.eSl
  | with_reducible apply Tv.eAsT | with_reducible apply Tv.eTNot | with_reducible apply Tv.eTAnd | with_reducible apply Tv.eTOr | with_reducible apply Tv.eAnd | with_reducible apply Tv.eOr | with_reducible apply Tv.eNot
  | with_reducible exact Tv.notT | with_reducible exact Tv.notF | with_reducible exact Tv.notS
  | with_reducible apply Tv.eIsi | with_reducible apply Tv.eIsi2 | with_reducible apply Tv.eChain
  | ((with_reducible apply Tv.chT); walk_at "evb") | ((with_reducible apply Tv.chF); walk_at "evb")
  | with_reducible apply Tv.eAsg | with_reducible apply Tv.eFor | with_reducible apply Tv.eItE | with_reducible apply Tv.eItR1 | with_reducible apply Tv.eItZ
  | ((with_reducible apply Tv.eIsOw); rfl) | with_reducible apply Tv.eMut | with_reducible apply Tv.eSetIx | with_reducible apply Tv.eAug
  | with_reducible apply Tv.eProp | with_reducible apply Tv.eMake | with_reducible apply Tv.eFld | with_reducible apply Tv.eSetA | with_reducible apply Tv.eGet
  | walk_at "lit"
  | exact Nat.le_of_ble_eq_true rfl
  | walk_at "evop" | with_reducible apply Tv.andS | with_reducible apply Tv.chS | walk_at "evb" | omega
  )
local macro_rules | `(tactic| walk_at "ev") => `(tactic| repeat' (walk_at "ev1"))
open P67 (Tk Bx chg met nar narL ror full emp zmet lmet wid fit inB Sub60 Gs wishM aps fits outc isf Good Wok)
theorem frac_q {tp b : Int} (hb1 : 0 < b) (hb2 : b < 2 ^ 200) : b / Int.gcd tp b < 2 ^ 200 := by
  have := Int.ediv_le_self (Int.gcd tp b : Nat) (show 0 ≤ b by omega)
  omega
theorem far2_ok {n : Nat} {D : Dr} (h : DOk n D) (hn : n < 900000000) :
    ∃ (t : Tk) (D' : Dr), φ__law_far [.drw] D = .ok (.tup [.tup [.int t.p, .int t.q], .int t.k]) false D' ∧ TkOk t ∧ DOk (n + 4) D' := by
  obtain ⟨b, D1, hb, e1, k1⟩ := pickL (is := [1, 1, big]) h (by omega) (by decide) (by decide)
  obtain ⟨r, D2, e2, p1, p2, k2⟩ := take_ok (size := 300) k1 (by omega) (by decide) (by decide)
  obtain ⟨c, D3, hc, e3, k3⟩ := pickL (is := [0, 1, -1]) k2 (by omega) (by decide) (by decide)
  obtain ⟨j, D4, e4, p3, p4, k4⟩ := take_ok (size := 8) k3 (by omega) (by decide) (by decide)
  have hb1 : 0 < b ∧ b < 2 ^ 200 := by
    have := big_lt
    have h1 : (2 : Int) ^ 150 < 2 ^ 200 := by decide
    have h2 : (0 : Int) < big := by decide
    simp only [List.mem_cons, List.not_mem_nil, or_false] at hb
    rcases hb with z | z | z <;> subst z <;> omega
  obtain ⟨hb1, hb2⟩ := hb1
  have q1 : opMul (.int r) (.int b) = some (.val (.int (r * b))) := mulI (by omega) (by omega)
  let tp : Int := if r * b + c > 0 then r * b + c else 0
  have ht0 : 0 ≤ tp := by show 0 ≤ (if r * b + c > 0 then r * b + c else 0); split <;> omega
  have e6 : opMax [.int 0, .int (r * b + c)] = some (.val (.int tp)) := rfl
  have hb9 : b < (2 ^ 9000 : Nat) := by
    have : (2 : Int) ^ 200 ≤ ((2 ^ 9000 : Nat) : Int) := by exact_mod_cast Nat.pow_le_pow_right (by decide) (by decide : 200 ≤ 9000)
    omega
  have e7 := fraction_ok (D := D3) ht0 hb1 hb9
  have hf := frOk_of ht0 hb1
  have hq := frac_q (tp := tp) hb1 hb2
  have e9 := pow26
  have e10 := add26
  simp only [List.map_cons, List.map_nil] at e1 e3
  refine ⟨⟨tp / Int.gcd tp b, b / Int.gcd tp b, 1 + j, 0⟩, D4, ?_, ⟨hf, hq, by show 1 ≤ 1 + j; omega, by show 1 + j ≤ 8; omega⟩, k4⟩
  generalize tp / Int.gcd tp b = P at *
  generalize b / Int.gcd tp b = Q at *
  show resOf (f__law_far ⟨[.sh .drw, .no, .no], D⟩) = _
  unfold f__law_far
  apply Tv.rSeq
  · walk_at "ev"
  apply Tv.rSeq
  · walk_at "ev"
  apply Tv.eRes
  · walk_at "ev"
  · rfl
  · rfl
noncomputable abbrev lpBody : S → Out Fl := (fSeq (fAsg (gTp 2 (gCn (gNm 7) (gCn (gNm 8) (gNl)))) (fV (fDef 1 φ__law_far (aCons (fV (fVar 1)) (aNil))))) (fSeq (fIf (asT (fBin (opEq false) (fB (fDef 2 φ__law_take (aCons (fV (fVar 1)) (aCons (fV (fK (.int 2))) (aNil))))) (fB (fK (.int 0))))) (fSet 7 (fDef 2 φ__law_fraction (aCons (fV (fBin opAdd (fB (fBin opMul (fB (fBin opMul (fB (fDef 2 φ__law_pick (aCons (fV (fVar 1)) (aCons (fV (fCall opList (aCons (fB (fVar 4)) (aNil)))) (aNil))))) (fB (fVar 8)))) (fB (fK (.int 2))))) (fB (fDef 2 φ__law_pick (aCons (fV (fVar 1)) (aCons (fV (fLst (aCons (fV (fK (.int 0))) (aCons (fV (fK (.int 1))) (aNil))))) (aNil))))))) (aCons (fV (fK (.int 2))) (aNil))))) (fNil)) (fIf (tNotF (asT (fDef 4 φ__law_parted_right (aCons (fV (fVar 3)) (aCons (fV (fVar 5)) (aCons (fV (fVar 7)) (aCons (fV (fVar 8)) (aNil)))))))) (fRet (fK (.bl false))) (fNil))))
section
variable {ss : List Sh} {ts : List Tk} {ms : List Int} (h : SsOk ss) (ht : ∀ t ∈ ts, TkOk t) (hl : ts.length ≤ 12) (hm : MsOk ms) (hm1 : 1 ≤ ms.length) {c0 c2 : Sl}
include h ht hl hm hm1
theorem lp_ok {n : Nat} {D : Dr} {x b7 b8 : Sl} (hd : DOk n D) (hn : n < 800000000) :
    ∃ (c7 c8 : Sl) (D' : Dr), lpBody ⟨[c0, .sh .drw, c2, .sh (.lst (ss.map shT)), .sh (.tup (ms.map T.int)), .sh (.lst (ts.map tkT)), x, b7, b8, .no], D⟩ = .ok .nx ⟨[c0, .sh .drw, c2, .sh (.lst (ss.map shT)), .sh (.tup (ms.map T.int)), .sh (.lst (ts.map tkT)), x, c7, c8, .no], D'⟩ ∧ DOk (n + 10) D' := by
  obtain ⟨t, D1, e1, h1, k1⟩ := far2_ok hd (by omega)
  obtain ⟨r, D2, e2, p1, p2, k2⟩ := take_ok (size := 2) k1 (by omega) (by decide) (by decide)
  have q1 := eq_int r 0
  by_cases hr : r = 0
  · obtain ⟨m, D3, hmm, e3, k3⟩ := pickL (is := ms) k2 (by omega) (by omega) (by have := hm.l; omega)
    obtain ⟨c, D4, hc, e4, k4⟩ := pickL (is := [0, 1]) k3 (by omega) (by decide) (by decide)
    have hm3 := hm.m m hmm
    have hk1 := h1.k1
    have hk8 := h1.k8
    have a1 : 0 ≤ m * t.k := Int.mul_nonneg (by omega) (by omega)
    have a2 : m * t.k ≤ 60 * 8 := Int.mul_le_mul hm3.2 hk8 (by omega) (by omega)
    have w1 : opMul (.int m) (.int t.k) = some (.val (.int (m * t.k))) := mulI (by omega) (by omega)
    have w2 : opMul (.int (m * t.k)) (.int 2) = some (.val (.int (m * t.k * 2))) := mulI (by omega) (by decide)
    have hc0 : 0 ≤ c := by
      simp only [List.mem_cons, List.not_mem_nil, or_false] at hc
      omega
    have ht0 : 0 ≤ m * t.k * 2 + c := by omega
    have hb9 : (2 : Int) < (2 ^ 9000 : Nat) := by
      have : (2 : Int) ^ 200 ≤ ((2 ^ 9000 : Nat) : Int) := by exact_mod_cast Nat.pow_le_pow_right (by decide) (by decide : 200 ≤ 9000)
      omega
    have e7 := fraction_ok (D := D4) ht0 (show (0 : Int) < 2 by decide) hb9
    have hf := frOk_of ht0 (show (0 : Int) < 2 by decide)
    have hq := frac_q (tp := m * t.k * 2 + c) (show (0 : Int) < 2 by decide) (by decide)
    have w3 : opList [.tup (ms.map T.int)] = some (.frs (.lst (ms.map T.int))) := rfl
    generalize (m * t.k * 2 + c) / (Int.gcd (m * t.k * 2 + c) 2 : Nat) = P at *
    generalize (2 : Int) / (Int.gcd (m * t.k * 2 + c) 2 : Nat) = Q at *
    have h2 : TkOk ⟨P, Q, t.k, 0⟩ := ⟨hf, hq, hk1, hk8⟩
    have e8 := partedright_ok (D := D4) h ht hl h2
    dsimp only at e8
    simp only [List.map_cons, List.map_nil] at e4
    refine ⟨.sh (.tup [.int P, .int Q]), .sh (.int t.k), D4, ?_, k4.mono (by omega)⟩
    apply Tv.eSeq
    · walk_at "ev"
    apply Tv.seqK_nx
    apply Tv.eSeq
    · walk_at "ev"
    apply Tv.seqK_nx
    walk_at "ev"
  · have e8 := partedright_ok (D := D2) h ht hl h1
    refine ⟨.sh (.tup [.int t.p, .int t.q]), .sh (.int t.k), D2, ?_, k2.mono (by omega)⟩
    apply Tv.eSeq
    · walk_at "ev"
    apply Tv.seqK_nx
    apply Tv.eSeq
    · walk_at "ev"
    apply Tv.seqK_nx
    walk_at "ev"
theorem lpLoop : ∀ (xs : List T) (n : Nat) (D : Dr) (b6 b7 b8 : Sl), DOk n D → n + 10 * xs.length < 700000000 →
    ∃ (c6 c7 c8 : Sl) (D' : Dr), forL (gNm 6) lpBody xs ⟨[c0, .sh .drw, c2, .sh (.lst (ss.map shT)), .sh (.tup (ms.map T.int)), .sh (.lst (ts.map tkT)), b6, b7, b8, .no], D⟩ = .ok .nx ⟨[c0, .sh .drw, c2, .sh (.lst (ss.map shT)), .sh (.tup (ms.map T.int)), .sh (.lst (ts.map tkT)), c6, c7, c8, .no], D'⟩ ∧ DOk (n + 10 * xs.length) D'
  | [], n, D, b6, b7, b8, hd, hn => ⟨b6, b7, b8, D, rfl, hd⟩
  | x :: xs, n, D, b6, b7, b8, hd, hn => by
    simp only [List.length_cons] at hn ⊢
    obtain ⟨c7, c8, D1, e1, k1⟩ := lp_ok (c0 := c0) (c2 := c2) (x := .sh x) (b7 := b7) (b8 := b8) h ht hl hm hm1 hd (by omega)
    obtain ⟨d6, d7, d8, D2, e2, k2⟩ := lpLoop xs (n + 10) D1 (.sh x) c7 c8 k1 (by omega)
    refine ⟨d6, d7, d8, D2, ?_, k2.mono (by omega)⟩
    apply Tv.forN
    · walk_at "ev"
    · exact e1
    · exact e2
end
end K67
namespace K67
open PySem PySem.Spec PyProof.Rows L2 Tv
local macro_rules | `(tactic| walk_at "lit") => `(tactic| first
  | with_reducible exact Tv.withD_mk | with_reducible exact Tv.D_mk
  | ((with_reducible apply Tv.putE); (repeat (with_reducible apply Tv.setSE)); with_reducible exact Tv.set0E)
  | ((with_reducible apply Tv.wipeS); repeat' (first | with_reducible exact Tv.set0E | with_reducible apply Tv.setSE | with_reducible apply Tv.wipeEC | with_reducible exact Tv.wipeE0)))
local macro_rules | `(tactic| walk_at "evb") => `(tactic| first
  | with_reducible assumption | exact decide_eq_true (by first | with_reducible assumption | omega) | exact decide_eq_false (by first | with_reducible assumption | omega) | exact Tv.notD (by first | with_reducible assumption | omega) | exact Tv.notD' (by first | with_reducible assumption | omega) | exact Tv.notTe (by with_reducible assumption) | exact Tv.notFe (by with_reducible assumption) | rfl
  | (simp only [decide_eq_true_eq, decide_eq_false_iff_not, T.isNon, Bool.not_true, Bool.not_false, beq_self_eq_true]; first | done | with_reducible assumption | omega))
local macro_rules | `(tactic| walk_at "evop") => `(tactic| first
  | with_reducible assumption | with_reducible exact Tv.cmpI | with_reducible exact Tv.addI | with_reducible exact Tv.subI | with_reducible exact Tv.ixT0 | with_reducible exact Tv.ixT1 | with_reducible exact Tv.ixT2 | with_reducible exact Tv.lenT | with_reducible exact Tv.lenL | with_reducible exact Tv.maxL2 | with_reducible exact Tv.minL2 | with_reducible exact Tv.isF | with_reducible exact Tv.isT
  | ((with_reducible apply Tv.mulI); first | with_reducible assumption | omega; first | with_reducible assumption | omega) | ((with_reducible apply Tv.fdvI); first | with_reducible assumption | omega; first | with_reducible assumption | omega) | ((with_reducible apply Tv.modI); first | with_reducible assumption | omega)
  | ((with_reducible apply Tv.ixL); assumption) | ((with_reducible apply Tv.mAppE); first | with_reducible assumption | omega | (simp only [List.length_map]; omega))
  | rfl)
local macro_rules | `(tactic| walk_at "ev1") => `(tactic| first
  | with_reducible assumption | with_reducible apply Tv.eV | with_reducible apply Tv.eB | with_reducible apply Tv.eCons
  | ((with_reducible apply Tv.eVar); rfl) | ((with_reducible apply Tv.eVarO); rfl)
  | with_reducible apply Tv.eBin | with_reducible apply Tv.eDef | with_reducible apply Tv.eCall
  | with_reducible apply Tv.eSeq | with_reducible apply Tv.seqK_nx
  | with_reducible exact Tv.eNilS | with_reducible exact Tv.eRetN | with_reducible exact Tv.eK | with_reducible exact Tv.eNil | with_reducible exact Tv.tYes | with_reducible exact Tv.eONone
  | with_reducible exact Tv.seqK_rt | with_reducible exact Tv.seqK_bk | with_reducible exact Tv.seqK_ct
  | with_reducible exact Tv.retK_v | with_reducible exact Tv.retK_f | ((with_reducible apply Tv.retK_b); rfl)
  | with_reducible exact Tv.bK_v | with_reducible exact Tv.bK_f | with_reducible exact Tv.bK_b
  | with_reducible exact Tv.vK_v | with_reducible exact Tv.vK_f | ((with_reducible apply Tv.vK_b); rfl; walk_at "lit")
  | with_reducible exact Tv.trV | ((with_reducible apply Tv.trO); rfl) | with_reducible exact Tv.trs0 | with_reducible apply Tv.trsC
  | with_reducible exact Tv.defK_v | with_reducible exact Tv.defK_f | with_reducible exact Tv.gNlE
  | ((with_reducible apply Tv.setK_v); walk_at "lit") | ((with_reducible apply Tv.setK_f); walk_at "lit") | ((with_reducible apply Tv.setK_b); rfl; walk_at "lit"; walk_at "lit")
  | ((with_reducible apply Tv.gNmE); walk_at "lit") | with_reducible apply Tv.gCnE | ((with_reducible apply Tv.gTpE); rfl)
  | with_reducible apply Tv.eIf | with_reducible apply Tv.eVIf | with_reducible apply Tv.eRet | with_reducible apply Tv.eSet | with_reducible apply Tv.eDrop
  | ((with_reducible apply Tv.iteT); walk_at "evb") | ((with_reducible apply Tv.iteF); walk_at "evb")
  | with_reducible exact Tv.eOk
  | with_reducible apply Tv.eTup
  | with_reducible apply Tv.eLst | with_reducible apply Tv.eNeg | with_reducible apply Tv.eOInt | with_reducible apply Tv.eSl
  | with_reducible apply Tv.eAsT | with_reducible apply Tv.eTNot | with_reducible apply Tv.eTAnd | with_reducible apply Tv.eTOr | with_reducible apply Tv.eAnd | with_reducible apply Tv.eOr | with_reducible apply Tv.eNot
  | with_reducible exact Tv.notT | with_reducible exact Tv.notF | with_reducible exact Tv.notS
  | with_reducible apply Tv.eIsi | with_reducible apply Tv.eIsi2 | with_reducible apply Tv.eChain
  | ((with_reducible apply Tv.chT); walk_at "evb") | ((with_reducible apply Tv.chF); walk_at "evb")
  | with_reducible apply Tv.eAsg | with_reducible apply Tv.eFor | with_reducible apply Tv.eItE | with_reducible apply Tv.eItR1 | with_reducible apply Tv.eItZ
  | ((with_reducible apply Tv.eIsOw); rfl) | with_reducible apply Tv.eMut | with_reducible apply Tv.eSetIx | with_reducible apply Tv.eAug
  | with_reducible apply Tv.eProp | with_reducible apply Tv.eMake | with_reducible apply Tv.eFld | with_reducible apply Tv.eSetA | with_reducible apply Tv.eGet
  | walk_at "lit"
  | exact Nat.le_of_ble_eq_true rfl
  | walk_at "evop" | with_reducible apply Tv.andS | with_reducible apply Tv.chS | walk_at "evb" | omega
  )
local macro_rules | `(tactic| walk_at "ev") => `(tactic| repeat' (walk_at "ev1"))
open P67 (Tk Bx chg met nar narL ror full emp zmet lmet wid fit inB Sub60 Gs wishM aps fits outc isf Good Wok)
noncomputable abbrev twM : S → Out R := (fLc (itS (fV (fVar 3))) [9] (gNm 9) (tYesF) (fV (fBin opAdd (fB (fK (.int 1))) (fB (fDef 2 φ__law_take (aCons (fV (fVar 1)) (aCons (fV (fDef 2 φ__law_pick (aCons (fV (fVar 1)) (aCons (fV (fLst (aCons (fV (fK (.int 12))) (aCons (fV (fK (.int 60))) (aNil))))) (aNil))))) (aNil))))))))
noncomputable abbrev twZ : S → Out Fl := (fIf (tAndF (asT (fBin (opEq true) (fB (fVar 5)) (fB (fLst (aNil))))) (tNotF (asT (fDef 3 φ__law_ranges_right (aCons (fV (fVar 1)) (aCons (fV (fVar 3)) (aCons (fV (fSl (fB (fVar 5)) (oNone) (oInt (fBin opAdd (fB (fK (.int 1))) (fB (fDef 2 φ__law_take (aCons (fV (fVar 1)) (aCons (fV (fCall opLen (aCons (fB (fVar 5)) (aNil)))) (aNil))))))))) (aNil)))))))) (fRet (fK (.bl false))) (fNil))
noncomputable abbrev twBody : S → Out Fl := (fSeq (fSet 3 (fDef 2 φ__law_shapes (aCons (fV (fVar 1)) (aCons (fV (fK (.int 4))) (aNil))))) (fSeq (fSet 4 (fCall opTuple (aCons (fB twM) (aNil)))) (fSeq (fSet 5 (fDef 2 φ__law_bent (aCons (fV (fVar 1)) (aCons (fV (fDef 4 φ__law_ticks (aCons (fV (fVar 1)) (aCons (fV (fDef 2 φ__law_made (aCons (fV (fVar 3)) (aCons (fV (fVar 4)) (aNil))))) (aCons (fV (fVar 4)) (aCons (fV (fK (.int 12))) (aNil))))))) (aNil))))) (fSeq (fIf (tNotF (asT (fDef 3 φ__law_ranges_right (aCons (fV (fVar 1)) (aCons (fV (fVar 3)) (aCons (fV (fVar 5)) (aNil))))))) (fRet (fK (.bl false))) (fNil)) (fSeq (fFor (itR1 (fK (.int 2))) (gNm 6) lpBody) twZ)))))
section
variable {c0 c2 : Sl}
theorem twM_ok {ss : List Sh} (h : SsOk ss) {b4 b5 b6 b7 b8 : Sl} {n : Nat} {D : Dr} (hd : DOk n D) (hn : n < 800000000) :
    ∃ (ms : List Int) (D' : Dr), twM ⟨[c0, .sh .drw, c2, .ow (.lst (ss.map shT)), b4, b5, b6, b7, b8, .no], D⟩ = .ok (.frs (.lst (ms.map T.int))) ⟨[c0, .sh .drw, c2, .sh (.lst (ss.map shT)), b4, b5, b6, b7, b8, .no], D'⟩ ∧ ms.length = ss.length ∧ (∀ m ∈ ms, 1 ≤ m ∧ m ≤ 60) ∧ DOk (n + 8) D' := by
  have l4 := h.l4
  obtain ⟨vs, D', e, k, l, q⟩ := lcDr (own := [9]) (gf := gNm 9) (fe := fV (fBin opAdd (fB (fK (.int 1))) (fB (fDef 2 φ__law_take (aCons (fV (fVar 1)) (aCons (fV (fDef 2 φ__law_pick (aCons (fV (fVar 1)) (aCons (fV (fLst (aCons (fV (fK (.int 12))) (aCons (fV (fK (.int 60))) (aNil))))) (aNil))))) (aNil))))))) (enc := shT) (F := T.int) (e0 := [c0, .sh .drw, c2, .sh (.lst (ss.map shT)), b4, b5, b6, b7, b8, .no]) (c := 2)
    (fun _ v => 1 ≤ v ∧ v ≤ 60) ss [] n D hd (by omega) (by simp; omega) (fun a ha n D hd hn => by
      obtain ⟨sz, D0, hsz, e0, k0⟩ := pickL (is := [12, 60]) hd (by omega) (by decide) (by decide)
      have hsz2 : 0 < sz ∧ sz ≤ 60 := by
        simp only [List.mem_cons, List.not_mem_nil, or_false] at hsz
        omega
      obtain ⟨r, D1, e1, p1, p2, k1⟩ := take_ok (size := sz) k0 (by omega) (by omega) (by omega)
      simp only [List.map_cons, List.map_nil] at e0
      refine ⟨1 + r, D1, ⟨[c0, .sh .drw, c2, .sh (.lst (ss.map shT)), b4, b5, b6, b7, b8, .sh (shT a)], D⟩, ⟨[c0, .sh .drw, c2, .sh (.lst (ss.map shT)), b4, b5, b6, b7, b8, .sh (shT a)], D1⟩, rfl, ?_, rfl, k1, by omega, by omega⟩
      walk_at "ev")
  refine ⟨vs, D', ?_, l, zip_right l q, k.mono (by omega)⟩
  apply eLcDr
  · apply Tv.eItS
    walk_at "ev"
  · rfl
  · rfl
  · rfl
  · exact e
  · rfl
theorem tw_ok {b3 b4 b5 b6 b7 b8 : Sl} {n : Nat} {D : Dr} (hd : DOk n D) (hn : n < 400000000) :
    ∃ (c3 c4 c5 c6 c7 c8 : Sl) (D' : Dr), twBody ⟨[c0, .sh .drw, c2, b3, b4, b5, b6, b7, b8, .no], D⟩ = .ok .nx ⟨[c0, .sh .drw, c2, c3, c4, c5, c6, c7, c8, .no], D'⟩ ∧ DOk (n + 10000) D' := by
  obtain ⟨ss, D1, e1, so, s1, s4, k1⟩ := shapes_ok (many := 4) hd (by omega) (by decide) (by decide)
  have h : SsOk ss := ⟨so, by omega, s1⟩
  obtain ⟨ms, D2, e2, ml, m6, k2⟩ := twM_ok (c0 := c0) (c2 := c2) h (b4 := b4) (b5 := b5) (b6 := b6) (b7 := b7) (b8 := b8) k1 (by omega)
  have hm : MsOk ms := ⟨m6, by have := h.l4; omega⟩
  have hm1 : 1 ≤ ms.length := by omega
  have e3 := made_ok (D := D2) h m6
  obtain ⟨us, D3, e4, hu, lu, k3⟩ := ticks_ok h hm k2 (by omega)
  obtain ⟨ts, fr, D4, e5, ht, lt, k4⟩ := bent_ok hu lu k3 (by omega)
  obtain ⟨D5, e6, k5⟩ := rangesright_ok h ht lt k4 (by omega)
  obtain ⟨c6, c7, c8, D6, e7, k6⟩ := lpLoop (c0 := c0) (c2 := c2) h ht lt hm hm1 [T.int 0, T.int 1] _ D5 b6 b7 b8 k5 (by simp; omega)
  simp only [List.length_cons, List.length_nil] at k6
  have q0 : opTuple [.lst (ms.map T.int)] = some (.val (.tup (ms.map T.int))) := rfl
  have q1 := (eq_nilL tkT shp_tk (by decide) ts).2
  -- the last look
  have last : ∃ D', twZ ⟨[c0, .sh .drw, c2, .sh (.lst (ss.map shT)), .sh (.tup (ms.map T.int)), .sh (.lst (ts.map tkT)), c6, c7, c8, .no], D6⟩ = .ok .nx ⟨[c0, .sh .drw, c2, .sh (.lst (ss.map shT)), .sh (.tup (ms.map T.int)), .sh (.lst (ts.map tkT)), c6, c7, c8, .no], D'⟩ ∧ DOk (n + 10000) D' := by
    cases he : ts.isEmpty with
    | true =>
      rw [he] at q1
      refine ⟨D6, ?_, k6.mono (by omega)⟩
      walk_at "ev"
    | false =>
      rw [he] at q1
      have hpos : 0 < ts.length := by
        cases ts with
        | nil => cases he
        | cons t ts => simp
      obtain ⟨r, D7, e8, p1, p2, k7⟩ := take_ok (size := ts.length) k6 (by omega) (by omega) (by omega)
      obtain ⟨i, rfl⟩ := Int.eq_ofNat_of_zero_le p1
      have q2 : opLen [.lst (ts.map tkT)] = some (.val (.int (ts.length : Nat))) := by rw [lenL, List.length_map]
      have q3 : opSl none (some (1 + (i : Int))) (.lst (ts.map tkT)) = some (.frs (.lst ((ts.take (1 + i)).map tkT))) := by
        show some (R.frs (.lst (cutT _ _ _))) = _
        have : 1 + (i : Int) = ((1 + i : Nat) : Int) := by omega
        rw [this, cutTake (by simp; omega), List.map_take]
      obtain ⟨D8, e9, k8⟩ := rangesright_ok (ts := ts.take (1 + i)) h (fun t hm => ht t (List.mem_of_mem_take hm)) (by simp; omega) k7 (by omega)
      refine ⟨D8, ?_, k8.mono (by omega)⟩
      walk_at "ev"
  obtain ⟨D9, e10, k9⟩ := last
  refine ⟨.sh (.lst (ss.map shT)), .sh (.tup (ms.map T.int)), .sh (.lst (ts.map tkT)), c6, c7, c8, D9, ?_, k9⟩
  apply Tv.eSeq
  · walk_at "ev"
  apply Tv.seqK_nx
  apply Tv.eSeq
  · walk_at "ev"
  apply Tv.seqK_nx
  have e11 : fFor (itR1 (fK (.int 2))) (gNm 6) lpBody ⟨[c0, .sh .drw, c2, .sh (.lst (ss.map shT)), .sh (.tup (ms.map T.int)), .sh (.lst (ts.map tkT)), b6, b7, b8, .no], D5⟩ = .ok .nx ⟨[c0, .sh .drw, c2, .sh (.lst (ss.map shT)), .sh (.tup (ms.map T.int)), .sh (.lst (ts.map tkT)), c6, c7, c8, .no], D6⟩ := by
    apply Tv.eFor
    · apply Tv.eItR1
      · walk_at "ev"
      · decide
    · exact e7
  clear e7 q1 q0 e1 e2
  cases fr with
  | true =>
    apply Tv.eSeq
    · walk_at "ev"
    apply Tv.seqK_nx
    apply Tv.eSeq
    · walk_at "ev"
    apply Tv.seqK_nx
    apply Tv.eSeq
    · exact e11
    apply Tv.seqK_nx
    exact e10
  | false =>
    apply Tv.eSeq
    · walk_at "ev"
    apply Tv.seqK_nx
    apply Tv.eSeq
    · walk_at "ev"
    apply Tv.seqK_nx
    apply Tv.eSeq
    · exact e11
    apply Tv.seqK_nx
    exact e10
theorem twLoop : ∀ (xs : List T) (n : Nat) (D : Dr) (b2 b3 b4 b5 b6 b7 b8 : Sl), DOk n D → n + 10000 * xs.length < 300000000 →
    ∃ s', fSeq (forL (gNm 2) twBody xs) (fRet (fK (.bl true))) ⟨[c0, .sh .drw, b2, b3, b4, b5, b6, b7, b8, .no], D⟩ = .ok (.rt (.bl true) false) s'
  | [], n, D, b2, b3, b4, b5, b6, b7, b8, hd, hn => ⟨_, rfl⟩
  | x :: xs, n, D, b2, b3, b4, b5, b6, b7, b8, hd, hn => by
    simp only [List.length_cons] at hn
    obtain ⟨c3, c4, c5, c6, c7, c8, D1, e1, k1⟩ := tw_ok (c0 := c0) (c2 := .sh x) (b3 := b3) (b4 := b4) (b5 := b5) (b6 := b6) (b7 := b7) (b8 := b8) hd (by omega)
    obtain ⟨s', e2⟩ := twLoop xs (n + 10000) D1 (.sh x) c3 c4 c5 c6 c7 c8 k1 (by omega)
    refine ⟨s', ?_⟩
    rw [← e2]
    have e3 : forL (gNm 2) twBody (x :: xs) ⟨[c0, .sh .drw, b2, b3, b4, b5, b6, b7, b8, .no], D⟩ = forL (gNm 2) twBody xs ⟨[c0, .sh .drw, .sh x, c3, c4, c5, c6, c7, c8, .no], D1⟩ := by
      apply Tv.forN
      · walk_at "ev"
      · exact e1
      · rfl
    unfold fSeq
    rw [e3]
end
theorem lgs_nn : ∀ (is : List Int) (c : Int), c ∈ lgs is → 0 ≤ c
  | [], c, h => by simp [lgs] at h
  | i :: is, c, h => by
    rw [lgs] at h
    split at h
    · rename_i hle
      rcases List.mem_cons.mp h with z | z
      · have : (0 : Int) ≤ 10 ^ 18 := by decide
        omega
      · exact lgs_nn is c z
    · exact lgs_nn is c h
theorem law_ok (is : List Int) (h1 : ∀ i ∈ is, i.natAbs.log2 ≤ 3000000) (h2 : is.length ≤ 16000000) : ∃ s', f_law (lawEnt N_law is) = .ok (.rt (.bl true) false) s' := by
  have hd : DOk 0 ⟨lgs is, is, 0, 0, 7⟩ := by
    refine ⟨h1, h2, fun c hc => ?_, Int.le_refl _, Int.le_refl _, Int.le_refl _, by show (0 : Int) ≤ 7; decide, by show (7 : Int) < 2147483629; decide⟩
    exact lgs_nn is c hc
  show ∃ s', f_law ⟨[.sh (.scr is), .sh .drw, .no, .no, .no, .no, .no, .no, .no, .no], ⟨lgs is, is, 0, 0, 7⟩⟩ = .ok (.rt (.bl true) false) s'
  let m : Int := if (10 : Int) < is.length then 10 else is.length
  have hlen : (rngT 0 (4 + m).toNat).length = (4 + m).toNat := rngT_length _ _
  have hm : 0 ≤ m ∧ m ≤ 10 := by show 0 ≤ (if (10 : Int) < is.length then 10 else (is.length : Int)) ∧ (if (10 : Int) < is.length then 10 else (is.length : Int)) ≤ 10; split <;> omega
  obtain ⟨s', e⟩ := twLoop (c0 := .sh (.scr is)) (rngT 0 (4 + m).toNat) 0 ⟨lgs is, is, 0, 0, 7⟩ .no .no .no .no .no .no .no hd (by rw [hlen]; omega)
  refine ⟨s', ?_⟩
  rw [← e]
  have q1 : opLen [.scr is] = some (.val (.int is.length)) := rfl
  have q2 : opMin [.int is.length, .int 10] = some (.val (.int m)) := rfl
  unfold f_law
  unfold fSeq
  refine congrArg (fun o => Out.bind o _) ?_
  apply Tv.eFor
  · apply Tv.eItR1
    · walk_at "ev"
    · omega
  · rfl
end K67
set_option Elab.async false
set_option linter.all false
set_option maxRecDepth 100000
set_option maxHeartbeats 8000000
namespace K67
open PySem PySem.Spec PyProof.Rows L2 Tv
def hCl (K : KF) : Nat → Addr := fun i => match i with
  | 7 => He.ga K "NoMarks"
  | 8 => He.ga K "Rule"
  | _ => 0
def hTb (K : KF) : List (Addr × Str) := hTf.map fun p => ((lamOf K p p.1).P, (lamOf K p p.1).q)
def hG (w : World) (K : KF) (mg : Str → Option Value) (base : Heap) (da la ca : Addr) : G := ⟨hP, w, K, mg, base, hCl K, da, la, ca, hTb K⟩
def hL (K : KF) : GL := ⟨lamOf K ("_law_met", none) "_law_met", lamOf K ("_law_ranges_right", none) "_law_ranges_right", lamOf K ("_law_parted_right", none) "_law_parted_right"⟩
theorem nodup_inj {α β : Type} {f : α → β} : ∀ {l : List α}, (l.map f).Nodup → ∀ a ∈ l, ∀ b ∈ l, f a = f b → a = b
  | [], _ => fun a ha => by cases ha
  | x :: l, h => by
    rw [List.map_cons, List.nodup_cons] at h
    intro a ha b hb e
    rcases List.mem_cons.mp ha with ea | ha'
    · rcases List.mem_cons.mp hb with eb | hb'
      · rw [ea, eb]
      · exact absurd (by rw [← ea, e]; exact List.mem_map_of_mem hb') h.1
    · rcases List.mem_cons.mp hb with eb | hb'
      · exact absurd (by rw [← eb, ← e]; exact List.mem_map_of_mem ha') h.1
      · exact nodup_inj h.2 a ha' b hb' e
section
variable {w : World} {K : KF} {h base : Heap} {mg : Str → Option Value} {da la ca : Addr} (X : K.In h) (G : h.Ns mainGlobals mg) (c : SaysA hC w h K)
include X G c
theorem hGd : Gd (hG w K mg base da la ca) where
  f_len := He.free_ok X G (c.t.d.fact 0 (f := .free "len") rfl)
  f_isinstance := He.free_ok X G (c.t.d.fact 1 (f := .free "isinstance") rfl)
  f_all := He.free_ok X G (c.t.d.fact 2 (f := .free "all") rfl)
  f_any := He.free_ok X G (c.t.d.fact 3 (f := .free "any") rfl)
  f_sum := He.free_ok X G (c.t.d.fact 4 (f := .free "sum") rfl)
  f_min := He.free_ok X G (c.t.d.fact 5 (f := .free "min") rfl)
  f_max := He.free_ok X G (c.t.d.fact 6 (f := .free "max") rfl)
  f_abs := He.free_ok X G (c.t.d.fact 7 (f := .free "abs") rfl)
  f_sorted := He.free_ok X G (c.t.d.fact 8 (f := .free "sorted") rfl)
  f_repr := He.free_ok X G (c.t.d.fact 9 (f := .free "repr") rfl)
  f_divmod := He.free_ok X G (c.t.d.fact 10 (f := .free "divmod") rfl)
  f_range := He.free_ok X G (c.t.d.fact 11 (f := .free "range") rfl)
  f_enumerate := He.free_ok X G (c.t.d.fact 12 (f := .free "enumerate") rfl)
  f_zip := He.free_ok X G (c.t.d.fact 13 (f := .free "zip") rfl)
  f_list := He.free_ok X G (c.t.d.fact 14 (f := .free "list") rfl)
  f_tuple := He.free_ok X G (c.t.d.fact 15 (f := .free "tuple") rfl)
  f_int := He.free_ok X G (c.t.d.fact 16 (f := .free "int") rfl)
  f_str := He.free_ok X G (c.t.d.fact 17 (f := .free "str") rfl)
  f_bool := He.free_ok X G (c.t.d.fact 18 (f := .free "bool") rfl)
  f_set := He.free_ok X G (c.t.d.fact 19 (f := .free "set") rfl)
  f_dict := He.free_ok X G (c.t.d.fact 20 (f := .free "dict") rfl)
theorem hexs : hEx0 K = true ∧ hEx1 K = true ∧ hEx2 K = true ∧ hEx3 K = true ∧ hEx4 K = true := by
  have z : hEx K = true := c.ex
  unfold hEx at z
  rw [Bool.and_eq_true, Bool.and_eq_true, Bool.and_eq_true, Bool.and_eq_true] at z
  exact z
theorem hxf : fnA K (pgA K "Rule" "parts") = hdP.val ∧ fnA K (xiA K "NoMarks") = hdX.val := by
  have z : [fnA K (pgA K "Rule" "parts"), fnA K (xiA K "NoMarks")] = [hdP.val, hdX.val] := c.xf
  exact ⟨(List.cons.inj z).1, (List.cons.inj (List.cons.inj z).2).1⟩
theorem hTold : Told (hG w K mg base da la ca) 7 "_law_told" "NoMarks" "at" "told" "none" := by
  obtain ⟨fd, F⟩ := c.t.d.def_ 42 (d := hd64) rfl
  obtain ⟨oc, od, dV, kV, doc, pm, an, cdv, ct, osl, e, lk, hc, hd, _⟩ := F.ex
  subst e
  obtain rfl := dfl0 hd
  obtain ⟨_, x1, _⟩ := hexs (w := w) (h := h) X G c
  unfold hEx1 at x1
  rw [Bool.and_eq_true, Bool.and_eq_true] at x1
  have hb : defBody (top 64) = toldBody "told" "none" "NoMarks" "at" qT 0 0 := rfl
  refine ⟨⟨_, oc, od, defArgs (top 64), defScope (top 64), qT, 0, 0, kV, doc, pm, an, cdv, ct, osl, ?_, hc, (He.glo_ok X G (c.t.d.fact 71 (f := .glo "_law_told") rfl)), F.kp, ⟨C8.fnScope_by (by decide), rfl, rfl, rfl, rfl, rfl⟩, fun us hl => match us, hl with | [_], _ => rfl⟩, (He.glo_ok X G (c.t.d.fact 80 (f := .glo "NoMarks") rfl)), xfB_ok x1.2.2, He.noat_ok (c.t.d.fact 88 (f := .noat "NoMarks" "at") rfl), He.exm_ok (c.t.d.fact 87 (f := .exm "NoMarks" "NoMarks" true) rfl), by decide, hGd X G c⟩
  rw [← hb]
  exact lk
theorem hXc : Xc (hG w K mg base da la ca) 1 7 "NoMarks" "at" := by
  obtain ⟨_, x1, x2, x3, _⟩ := hexs (w := w) (h := h) X G c
  unfold hEx1 at x1
  unfold hEx2 at x2
  unfold hEx3 at x3
  rw [Bool.and_eq_true, Bool.and_eq_true] at x1 x2 x3
  obtain ⟨oc, od, kV, doc, pm, an, cda, cc, ct, osl, lk, hcd, ⟨ccl, cdd, vs, ccs, file, tf, c1, c2, c3⟩, ⟨cl, cld, csl, hcell⟩⟩ := xiB_ok (hxf X G c).2 x1.2.1
  have T := oexB_ok x1.1
  refine ⟨(He.glo_ok X G (c.t.d.fact 80 (f := .glo "NoMarks") rfl)), T, xiA K "NoMarks", PySem.W.fnX hdX.name hdX.qual hdX.params hdX.body hdX.scope [(("__class__" : Str), cc)] .none kV doc pm an (.ref cda) ct, He.eqO_ok x2.2.1, of_decide_eq_true x2.1, ?_, ?_⟩
  rotate_left 1
  · exact .all fun us hl => match us, hl with | [_, _], _ => rfl
  · exact xinit_ok (P := hP) T (He.free_ok X G (c.t.d.fact 21 (f := .free "super") rfl)) lk hcd c1 c2 c3 hcell (of_decide_eq_true x2.2.2) (He.eqO_ok x3.1) (He.eqO_ok x3.2.1) (of_decide_eq_true x3.2.2) (He.noat_ok (c.t.d.fact 88 (f := .noat "NoMarks" "at") rfl)) (by decide +kernel) (fun env => ⟨_, rfl⟩) ⟨rfl, rfl, rfl, by decide, rfl, by decide +kernel, by decide +kernel, by decide +kernel, by decide +kernel⟩ rfl _ rfl rfl (by decide) (by decide) (fun _ => rfl)
variable (TB : ∀ p ∈ hTf, LamX.TabB base mg (He.cT K p).1 (He.cT K p).2)
include TB
theorem hGK : GK (hG w K mg base da la ca) (hL K) := by
  obtain ⟨x0, _, _, _, x4⟩ := hexs (w := w) (h := h) X G c
  unfold hEx0 at x0
  rw [Bool.and_eq_true, Bool.and_eq_true] at x0
  obtain ⟨es, n, KD⟩ := c.t.tab 0 (t := (fun K => He.ga K "SIZES", ["over", "under", "aim"])) rfl
  have nd : (hTf.map fun p => (He.cT K p).2).Nodup := of_decide_eq_true x4
  have uq : ∀ p ∈ hTf, ∀ z ∈ hTb K, z.1 = (lamOf K p p.1).P → z.2 = (lamOf K p p.1).q := by
    intro p hp z hz e
    obtain ⟨q, hq, rfl⟩ := List.mem_map.mp hz
    have : q = p := (nodup_inj nd) q hq p hp e
    rw [this]
  have mm : ∀ p ∈ hTf, ((lamOf K p p.1).P, (lamOf K p p.1).q) ∈ hTb K := fun p hp => List.mem_map.mpr ⟨p, hp, rfl⟩
  have c8 := He.cls_ok (c.t.d.fact 82 (f := .cls "Rule") rfl)
  have n0 := He.noat_ok (c.t.d.fact 83 (f := .noat "Rule" "r_parts") rfl)
  have n1 := He.noat_ok (c.t.d.fact 84 (f := .noat "Rule" "r_bounds") rfl)
  have n2 := He.noat_ok (c.t.d.fact 85 (f := .noat "Rule" "r_limits") rfl)
  exact {
    gd := hGd X G c
    told := hTold X G c
    a_8_r_bounds := fun i hi => by rw [List.mem_singleton.mp hi]; exact ⟨c8, n1⟩
    s_8_r_bounds := ⟨c8, n1⟩
    a_8_r_limits := fun i hi => by rw [List.mem_singleton.mp hi]; exact ⟨c8, n2⟩
    s_8_r_limits := ⟨c8, n2⟩
    a_8_r_parts := fun i hi => by rw [List.mem_singleton.mp hi]; exact ⟨c8, n0⟩
    s_8_r_parts := ⟨c8, n0⟩
    i_HIGHEST_MARK := He.int_ok X G (c.t.d.fact 22 (f := .int "HIGHEST_MARK" 60) rfl)
    i_LONGEST_WINDOW := He.int_ok X G (c.t.d.fact 23 (f := .int "LONGEST_WINDOW" 3) rfl)
    i_MOST_MARK := He.int_ok X G (c.t.d.fact 24 (f := .int "MOST_MARK" 60) rfl)
    i_MOST_PARTS := He.int_ok X G (c.t.d.fact 25 (f := .int "MOST_PARTS" 4) rfl)
    i_MOST_SERVERS_marks := He.int_ok X G (c.t.d.fact 26 (f := .int "MOST_SERVERS_marks" 8) rfl)
    i_MOST_SERVERS_rules := He.int_ok X G (c.t.d.fact 27 (f := .int "MOST_SERVERS_rules" 8) rfl)
    i_MOST_SHAPES := He.int_ok X G (c.t.d.fact 28 (f := .int "MOST_SHAPES" 4) rfl)
    x_NoMarks := hXc X G c
    t_SIZES := HTab.of (l := hSz) (He.glo_ok X G (c.t.d.fact 81 (f := .glo "SIZES") rfl)) KD x0.1
    d_is_integer := (c.t.d.def_ 0 (d := hd10) rfl).elim fun fd F => DefAt.ofD F (He.glo_ok X G (c.t.d.fact 29 (f := .glo "is_integer") rfl))
    d_divisor := (c.t.d.def_ 1 (d := hd11) rfl).elim fun fd F => DefAt.ofD F (He.glo_ok X G (c.t.d.fact 30 (f := .glo "divisor") rfl))
    d_is_load := (c.t.d.def_ 2 (d := hd12) rfl).elim fun fd F => DefAt.ofD F (He.glo_ok X G (c.t.d.fact 31 (f := .glo "is_load") rfl))
    d_need_load := (c.t.d.def_ 3 (d := hd13) rfl).elim fun fd F => DefAt.ofD F (He.glo_ok X G (c.t.d.fact 32 (f := .glo "need_load") rfl))
    d_is_shape := (c.t.d.def_ 4 (d := hd18) rfl).elim fun fd F => DefAt.ofD F (He.glo_ok X G (c.t.d.fact 33 (f := .glo "is_shape") rfl))
    d_need_shapes := (c.t.d.def_ 5 (d := hd19) rfl).elim fun fd F => DefAt.ofD F (He.glo_ok X G (c.t.d.fact 34 (f := .glo "need_shapes") rfl))
    d_is_seen := (c.t.d.def_ 6 (d := hd20) rfl).elim fun fd F => DefAt.ofD F (He.glo_ok X G (c.t.d.fact 35 (f := .glo "is_seen") rfl))
    d_need_seen := (c.t.d.def_ 7 (d := hd21) rfl).elim fun fd F => DefAt.ofD F (He.glo_ok X G (c.t.d.fact 36 (f := .glo "need_seen") rfl))
    d_greatest_applying := (c.t.d.def_ 8 (d := hd22) rfl).elim fun fd F => DefAt.ofD F (He.glo_ok X G (c.t.d.fact 37 (f := .glo "greatest_applying") rfl))
    d_least_applying := (c.t.d.def_ 9 (d := hd23) rfl).elim fun fd F => DefAt.ofD F (He.glo_ok X G (c.t.d.fact 38 (f := .glo "least_applying") rfl))
    d_applying := (c.t.d.def_ 10 (d := hd24) rfl).elim fun fd F => DefAt.ofD F (He.glo_ok X G (c.t.d.fact 39 (f := .glo "applying") rfl))
    d_idle := (c.t.d.def_ 11 (d := hd25) rfl).elim fun fd F => DefAt.ofD F (He.glo_ok X G (c.t.d.fact 40 (f := .glo "idle") rfl))
    d_change_of := (c.t.d.def_ 12 (d := hd26) rfl).elim fun fd F => DefAt.ofD F (He.glo_ok X G (c.t.d.fact 41 (f := .glo "change_of") rfl))
    d_met := (c.t.d.def_ 13 (d := hd27) rfl).elim fun fd F => DefAt.ofD F (He.glo_ok X G (c.t.d.fact 42 (f := .glo "met") rfl))
    d_narrowed := (c.t.d.def_ 14 (d := hd28) rfl).elim fun fd F => DefAt.ofD F (He.glo_ok X G (c.t.d.fact 43 (f := .glo "narrowed") rfl))
    d_ranges_or_tick := (c.t.d.def_ 15 (d := hd29) rfl).elim fun fd F => DefAt.ofD F (He.glo_ok X G (c.t.d.fact 44 (f := .glo "ranges_or_tick") rfl))
    d_needed_ranges := (c.t.d.def_ 16 (d := hd30) rfl).elim fun fd F => DefAt.ofD F (He.glo_ok X G (c.t.d.fact 45 (f := .glo "needed_ranges") rfl))
    d_ranges := (c.t.d.def_ 17 (d := hd31) rfl).elim fun fd F => DefAt.ofD F (He.glo_ok X G (c.t.d.fact 46 (f := .glo "ranges") rfl))
    d_fitting := (c.t.d.def_ 18 (d := hd32) rfl).elim fun fd F => DefAt.ofD F (He.glo_ok X G (c.t.d.fact 47 (f := .glo "fitting") rfl))
    d_is_fitting := (c.t.d.def_ 19 (d := hd33) rfl).elim fun fd F => DefAt.ofD F (He.glo_ok X G (c.t.d.fact 48 (f := .glo "is_fitting") rfl))
    d_outcomes := (c.t.d.def_ 20 (d := hd34) rfl).elim fun fd F => DefAt.ofD F (He.glo_ok X G (c.t.d.fact 49 (f := .glo "outcomes") rfl))
    d_sure := (c.t.d.def_ 21 (d := hd35) rfl).elim fun fd F => DefAt.ofD F (He.glo_ok X G (c.t.d.fact 50 (f := .glo "sure") rfl))
    d_is_between := (c.t.d.def_ 22 (d := hd42) rfl).elim fun fd F => DefAt.ofD F (He.glo_ok X G (c.t.d.fact 51 (f := .glo "is_between") rfl))
    d_is_part := (c.t.d.def_ 23 (d := hd43) rfl).elim fun fd F => DefAt.ofD F (He.glo_ok X G (c.t.d.fact 52 (f := .glo "is_part") rfl))
    d_are_parts := (c.t.d.def_ 24 (d := hd44) rfl).elim fun fd F => DefAt.ofD F (He.glo_ok X G (c.t.d.fact 53 (f := .glo "are_parts") rfl))
    d_is_limit := (c.t.d.def_ 25 (d := hd45) rfl).elim fun fd F => DefAt.ofD F (He.glo_ok X G (c.t.d.fact 54 (f := .glo "is_limit") rfl))
    d_need_limits := (c.t.d.def_ 26 (d := hd46) rfl).elim fun fd F => DefAt.ofD F (He.glo_ok X G (c.t.d.fact 55 (f := .glo "need_limits") rfl))
    d_raised := (c.t.d.def_ 27 (d := hd47) rfl).elim fun fd F => DefAt.ofD F (He.glo_ok X G (c.t.d.fact 56 (f := .glo "raised") rfl))
    d_is_below_times := (c.t.d.def_ 28 (d := hd49) rfl).elim fun fd F => DefAt.ofD F (He.glo_ok X G (c.t.d.fact 57 (f := .glo "is_below_times") rfl))
    d_is_above_times := (c.t.d.def_ 29 (d := hd50) rfl).elim fun fd F => DefAt.ofD F (He.glo_ok X G (c.t.d.fact 58 (f := .glo "is_above_times") rfl))
    d_wish_of := (c.t.d.def_ 30 (d := hd51) rfl).elim fun fd F => DefAt.ofD F (He.glo_ok X G (c.t.d.fact 59 (f := .glo "wish_of") rfl))
    d_first_wish := (c.t.d.def_ 31 (d := hd52) rfl).elim fun fd F => DefAt.ofD F (He.glo_ok X G (c.t.d.fact 60 (f := .glo "first_wish") rfl))
    d_wish := (c.t.d.def_ 32 (d := hd53) rfl).elim fun fd F => DefAt.ofD F (He.glo_ok X G (c.t.d.fact 61 (f := .glo "wish") rfl))
    d__law_begin := (c.t.d.def_ 33 (d := hd55) rfl).elim fun fd F => DefAt.ofD F (He.glo_ok X G (c.t.d.fact 62 (f := .glo "_law_begin") rfl))
    d__law_take := (c.t.d.def_ 34 (d := hd56) rfl).elim fun fd F => DefAt.ofD F (He.glo_ok X G (c.t.d.fact 63 (f := .glo "_law_take") rfl))
    d__law_pick := (c.t.d.def_ 35 (d := hd57) rfl).elim fun fd F => DefAt.ofD F (He.glo_ok X G (c.t.d.fact 64 (f := .glo "_law_pick") rfl))
    d__law_fraction := (c.t.d.def_ 36 (d := hd58) rfl).elim fun fd F => DefAt.ofD F (He.glo_ok X G (c.t.d.fact 65 (f := .glo "_law_fraction") rfl))
    d__law_shapes := (c.t.d.def_ 37 (d := hd59) rfl).elim fun fd F => DefAt.ofD F (He.glo_ok X G (c.t.d.fact 66 (f := .glo "_law_shapes") rfl))
    d__law_made := (c.t.d.def_ 38 (d := hd60) rfl).elim fun fd F => DefAt.ofD F (He.glo_ok X G (c.t.d.fact 67 (f := .glo "_law_made") rfl))
    d__law_ticks := (c.t.d.def_ 39 (d := hd61) rfl).elim fun fd F => DefAt.ofD F (He.glo_ok X G (c.t.d.fact 68 (f := .glo "_law_ticks") rfl))
    d__law_far := (c.t.d.def_ 40 (d := hd62) rfl).elim fun fd F => DefAt.ofD F (He.glo_ok X G (c.t.d.fact 69 (f := .glo "_law_far") rfl))
    d__law_bent := (c.t.d.def_ 41 (d := hd63) rfl).elim fun fd F => DefAt.ofD F (He.glo_ok X G (c.t.d.fact 70 (f := .glo "_law_bent") rfl))
    d__law_told := (c.t.d.def_ 42 (d := hd64) rfl).elim fun fd F => DefAt.ofD F (He.glo_ok X G (c.t.d.fact 71 (f := .glo "_law_told") rfl))
    d__law_met := (c.t.d.def_ 43 (d := hd65) rfl).elim fun fd F => DefAtL.ofD (p := ("_law_met", none)) F (He.glo_ok X G (c.t.d.fact 72 (f := .glo "_law_met") rfl)) (TB ("_law_met", none) (by decide)) (mm ("_law_met", none) (by decide)) (uq ("_law_met", none) (by decide))
    d__law_many := (c.t.d.def_ 44 (d := hd66) rfl).elim fun fd F => DefAt.ofD F (He.glo_ok X G (c.t.d.fact 73 (f := .glo "_law_many") rfl))
    d__law_mixed := (c.t.d.def_ 45 (d := hd67) rfl).elim fun fd F => DefAt.ofD F (He.glo_ok X G (c.t.d.fact 74 (f := .glo "_law_mixed") rfl))
    d__law_ranges_right := (c.t.d.def_ 46 (d := hd68) rfl).elim fun fd F => DefAtL.ofD (p := ("_law_ranges_right", none)) F (He.glo_ok X G (c.t.d.fact 75 (f := .glo "_law_ranges_right") rfl)) (TB ("_law_ranges_right", none) (by decide)) (mm ("_law_ranges_right", none) (by decide)) (uq ("_law_ranges_right", none) (by decide))
    d__law_wishes := (c.t.d.def_ 47 (d := hd69) rfl).elim fun fd F => DefAt.ofD F (He.glo_ok X G (c.t.d.fact 76 (f := .glo "_law_wishes") rfl))
    d__law_parted_right := (c.t.d.def_ 48 (d := hd70) rfl).elim fun fd F => DefAtL.ofD (p := ("_law_parted_right", none)) F (He.glo_ok X G (c.t.d.fact 77 (f := .glo "_law_parted_right") rfl)) (TB ("_law_parted_right", none) (by decide)) (mm ("_law_parted_right", none) (by decide)) (uq ("_law_parted_right", none) (by decide))
    d_law := (c.t.d.def_ 49 (d := hd71) rfl).elim fun fd F => DefAt.ofD F (He.glo_ok X G (c.t.d.fact 78 (f := .glo "law") rfl))
    mk_Rule := (c.t.d.def_ 50 (d := hdR) rfl).elim fun fd F => ⟨_, fd, (He.glo_ok X G (c.t.d.fact 79 (f := .glo "Rule") rfl)), He.mkr_ok (c.t.d.fact 86 (f := .mkr "Rule") rfl), F⟩
    p_parts := ⟨_, _, prB_ok x0.2.1, FnAt.of (d := hdP) (hxf X G c).1 x0.2.2⟩ }
end
end K67
set_option Elab.async false
set_option linter.all false
set_option maxRecDepth 100000
set_option maxHeartbeats 8000000
namespace K67
open PySem PySem.Spec PyProof.Rows L2 Tv
def PB (is : List Int) : Prop := (∀ i ∈ is, i.natAbs.log2 ≤ 3000000) ∧ is.length ≤ 16000000
theorem bits_log {z : Int} (h : Builtin.Int.intBits z ≤ 1048576) : z.natAbs.log2 ≤ 3000000 := by
  unfold Builtin.Int.intBits at h
  split at h
  · rename_i hz
    have : z = 0 := by simpa using hz
    subst this
    decide
  · omega
theorem hLawAt {w : World} {K : KF} {h : Heap} {mg : Str → Option Value} (X : K.In h) (G : h.Ns mainGlobals mg) (c : SaysA hC w h K) : LawAtG PySem.Challenge.rw_allloads_k67_whole_marks_told_back_in_pa w K 11 63 "script" mg (He.fAd K ("law", none)) h := by
  obtain ⟨fd, F⟩ := c.t.d.def_ 49 (d := hd71) rfl
  have b := FunD.bindsA (ps := ["script"]) F fun _ _ _ _ _ _ us hl => match us, hl with | [_], _ => rfl
  obtain ⟨oc, od, dV, kV, doc, pm, an, cdv, ct, osl, e, lk, hc, hd, _⟩ := F.ex
  subst e
  obtain rfl := dfl0 hd
  refine ⟨_, hTf.map (He.cT K), spLaw (hG w K mg h 0 0 0) PB, fun p hp => ?_, fun p hp => ?_, fun p hp => ?_, fun s u => b s [u] rfl, fun H a is hlen hbits hH hS => ?_, fun base hK hM hT => ?_⟩
  · obtain ⟨q, hq, rfl⟩ := List.mem_map.mp hp
    exact (c.tab q hq).2.2
  · obtain ⟨q, hq, rfl⟩ := List.mem_map.mp hp
    exact (c.tab q hq).2.1
  · obtain ⟨q, hq, rfl⟩ := List.mem_map.mp hp
    exact PySem.W.codeHd_of_K X (c.tab q hq).1
  · refine ⟨a, is, rfl, hS, Nat.le_trans hlen (by decide), ⟨fun i hi => bits_log (hbits i hi), by omega⟩, fun p hp => ?_, fun _ => rfl⟩
    obtain ⟨q, hq, rfl⟩ := List.mem_map.mp hp
    exact ⟨#[], hH _ (List.mem_map.mpr ⟨q, hq, rfl⟩), trivial, fun pos cv z => by cases z⟩
  · have TB : ∀ p ∈ hTf, LamX.TabB base mg (He.cT K p).1 (He.cT K p).2 := fun p hp => hT _ (List.mem_map.mpr ⟨p, hp, rfl⟩)
    refine ⟨hG w K mg base 0 0 0, rfl, rfl, rfl, rfl, rfl, ?_⟩
    have gk : ∀ da la ca, GK (withDr (hG w K mg base 0 0 0) da la ca) (hL K) := fun da la ca => hGK X G c TB
    exact lawFnC (g := hG w K mg base 0 0 0) (k := 10) (N := ["turn", "shapes", "marks", "seen", "lap", "one", "k", "shape"]) (P := PB) (rest := (defBody (top 71)).drop 1) (φ := f_law) lk hc c_law (Bg_at (hGK (da := 0) (la := 0) (ca := 0) X G c TB)) (by decide) rfl (.inr rfl) rfl (fun da la ca => w_law (gk da la ca)) fun is h => law_ok is h.1 h.2
end K67
open PySem PySem.W PySem.Calls PyProof.Rows
theorem PySem.Challenge.cw_allloads_k67_whole_marks_told_back_in_pa_holds : PySem.Challenge.rw_allloads_k67_whole_marks_told_back_in_pa.Holds := by
  w_on; o_law
  refine HandSHeadRun.head_any (r := K67.hR) (q := K67.hQ) (H := Tv.hookA K67.hC) (ob := Tv.obA K67.hC) (M := 6000) (loose := K67.hNm) (d := HandSHeadRun.topDef K67.hR.prog 71) (kwd := []) (Tv.obA_eq K67.hC)
    (by kernel_rfl) (fun s => by kernel_rfl) K67.run (by kernel_rfl) (by kernel_rfl) (by kernel_rfl) (by rfl) (by first | assumption | decide +kernel) (by decide +kernel) ⟨rfl, rfl, rfl, rfl, rfl, by decide +kernel⟩ ?hw ?hc
  case hw => w_witness2
  case hc =>
    refine Tv.walk_ofG (l := PySem.Challenge.rw_allloads_k67_whole_marks_told_back_in_pa) (n := 63) (k := 11) (x := "script") rfl (by decide) (by kernel_rfl) ⟨rfl, by decide, by decide⟩ ?F
    intro w mg fa h Y G hmg0
    obtain ⟨K, KX, c⟩ := Y
    have hmg : mg ("law" : PySem.Str) = some (.ref fa) := by
      have e : (HandSHeadRun.topDef K67.hR.prog 71).name = ("law" : PySem.Str) := by kernel_rfl
      rw [← e]
      exact hmg0
    have e2 := hmg.symm.trans (He.glo_ok KX G (c.t.d.fact 78 (f := .glo "law") rfl))
    cases e2
    exact ⟨K, KX, K67.hLawAt KX G c⟩
