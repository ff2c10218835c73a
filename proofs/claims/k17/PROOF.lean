import PyProof.Rows.All
import Wide.All
import OpenK.AllK
import Wide.FinOn
import HandS.ForMost
import HandS.ForExc
import HandS.Wide
import HandS.Lambda
import HandS.TupAny
import HandS.IsInst
import HandS.Style
import HandS.Flow
import HandS.ExcSuper
import HandS.Iter
import HandS.Comp
import HandS.SortInts
import HandS.SortKw
import HandS.Gcd
import HandS.Deep
import HandS.Slots
import HandS.ExcIs
import KE.KExcIs
import PyProof.ExcBaseAll.ValueError
import HandS.Star
import KE.GoesMore
import HandS.SetFor
import HandS.Conv
import HandS.EndOwn
import KE.KTupSum
import HandS.Nested
import HandS.ExcInit
import KE.KExcSuper
import HandS.ExcField
import HandS.TupMul
import HandS.ExcValue
import HandS.Defaults
import PyProof.ReprRoads
import HandS.Strs
import KE.DataFind
import PySem.Challenge.RW_etasure_k17_whole_roots_along_words
set_option Elab.async false
set_option linter.all false
set_option maxRecDepth 100000
set_option maxHeartbeats 4000000
/-! Dv1: values without addresses over the hand layer: data, how they lie in a heap, outcomes, the frames' slots. -/
namespace Dv
open PySem PySem.Spec PyProof.Rows L2

/-! ### data -/
inductive D where
  | non | bl (b : Bool) | int (i : Int) | str (x : Str)
  | tup (xs : List D) | lst (xs : List D)
  /-- a list that is read alone: the script, a list of the written part -/
  | rol (xs : List D)
  | dic (ks : List (Key × D))
  | exc (c : Nat) (fs : List (Str × D))
  | clo (k : Nat)

/-- the tables of code objects -/
class TabC where
  T : List (Addr × Str)
variable [TabC]
/-- what the rep leans on: the written part; the exceptions' classes; closures of the frame -/
structure RC where
  K : PySem.W.Frag
  cl : Nat → Addr
  co : Nat → Addr → Addr → HO
  cq : Str

/-- an exception held as a value: its class, its own dict -/
def ExV (C : Addr) (d : Option Addr) (a : Addr) : HO := .ext fun h => ∃ (oe : Obj) (vs : Array Value), h.get? a = some oe ∧ oe.cls = .ref C ∧ oe.dict = d ∧ oe.data = .fields vs

def XdOk (F : Hp) (fs : List (Str × V)) : Option Addr → Prop
  | none => fs = []
  | some d => Rd F d (.xd fs)

mutual
def Rep (R : RC) (F : Hp) : D → V → Prop
  | .non, v => v = .non
  | .bl b, v => v = .bl b
  | .int i, v => v = .int i
  | .str x, v => v = .str x
  | .tup xs, v => ∃ a vs, v = .ref a ∧ SqT R.K F a vs ∧ Reps R F xs vs
  | .lst xs, v => ∃ a vs, v = .ref a ∧ F a = some (.lst vs) ∧ Reps R F xs vs
  | .rol xs, v => ∃ a vs, v = .ref a ∧ SqL R.K F a vs ∧ Reps R F xs vs
  | .dic ks, v => ∃ a kvs, v = .ref a ∧ Rd F a (.dK kvs) ∧ RepK R F ks kvs
  | .exc c fs, v => ∃ a d kvs, v = .ref a ∧ Rd F a (ExV (R.cl c) d a) ∧ XdOk F kvs d ∧ RepX R F fs kvs
  | .clo k, v => ∃ a c', v = .ref a ∧ Rd F a (R.co k a c') ∧ F c' = some (LamX.CodeO c' R.cq)
def Reps (R : RC) (F : Hp) : List D → List V → Prop
  | [], vs => vs = []
  | x :: xs, vs => ∃ v r, vs = v :: r ∧ Rep R F x v ∧ Reps R F xs r
def RepK (R : RC) (F : Hp) : List (Key × D) → List (Key × V) → Prop
  | [], vs => vs = []
  | x :: xs, vs => ∃ v r, vs = (x.1, v) :: r ∧ Rep R F x.2 v ∧ RepK R F xs r
def RepX (R : RC) (F : Hp) : List (Str × D) → List (Str × V) → Prop
  | [], vs => vs = []
  | x :: xs, vs => ∃ v r, vs = (x.1, v) :: r ∧ Rep R F x.2 v ∧ RepX R F xs r
end

/-- F is part of H; a dict of F may be locked in H -/
def Le (F H : Hp) : Prop := ∀ a u, F a = some u → H a = some u ∨ ∃ kvs o, u = .dK kvs ∧ H a = some (.frz o u)
theorem Le.refl (F : Hp) : Le F F := fun _ _ h => .inl h
theorem Le.ofEx {F F' : Hp} (h : ∀ a u, F a = some u → F' a = some u) : Le F F' := fun a u q => .inl (h a u q)
theorem Le.trans_ex {F G H : Hp} (a : Le F G) (b : Le G H) : Le F H := fun c u h => by
  rcases a c u h with z | ⟨kvs, o, e, z⟩
  · exact b c u z
  · rcases b c _ z with w | ⟨_, _, w, _⟩
    · exact .inr ⟨kvs, o, e, w⟩
    · cases w
theorem Le.rd {F H : Hp} (e : Le F H) : ∀ a u, Rd F a u → Rd H a u := fun a u h => by
  rcases h with h | ⟨o, h⟩
  · rcases e a u h with z | ⟨_, o, _, z⟩
    · exact .inl z
    · exact .inr ⟨o, z⟩
  · rcases e a _ h with z | ⟨kvs, o', z, _⟩
    · exact .inr ⟨o, z⟩
    · cases z
theorem Le.code {F F' : Hp} (e : Le F F') {c : Addr} {q : Str} (h : F c = some (LamX.CodeO c q)) : F' c = some (LamX.CodeO c q) := by
  rcases e c _ h with z | ⟨kvs, o, e1, z⟩
  · exact z
  · cases e1
theorem Le.lst {F H : Hp} (e : Le F H) {a : Addr} {vs : List V} (h : F a = some (.lst vs)) : H a = some (.lst vs) := by
  rcases e a _ h with z | ⟨kvs, o', z, _⟩
  · exact z
  · cases z
theorem Le.tup {F H : Hp} (e : Le F H) {a : Addr} {vs : List V} (h : F a = some (.tup vs)) : H a = some (.tup vs) := by
  rcases e a _ h with z | ⟨kvs, o', z, _⟩
  · exact z
  · cases z
theorem Le.sqL {K} {F H : Hp} (e : Le F H) {a xs} (h : SqL K F a xs) : SqL K H a xs := h.elim (fun z => .inl (e.rd _ _ z)) .inr
theorem Le.sqT {K} {F H : Hp} (e : Le F H) {a xs} (h : SqT K F a xs) : SqT K H a xs := h.elim (fun z => .inl (e.rd _ _ z)) .inr
theorem Le.ne {F H : Hp} (e : Le F H) {a : Addr} (h : F a ≠ none) : H a ≠ none := fun z => by
  cases q : F a with
  | none => exact h q
  | some u => rcases e a u q with w | ⟨_, o, _, w⟩ <;> (rw [z] at w; cases w)
theorem XdOk.mono {F H : Hp} (e : Le F H) {fs : List (Str × V)} : ∀ {d : Option Addr}, XdOk F fs d → XdOk H fs d
  | none, h => h
  | some _, h => e.rd _ _ h

mutual
theorem Rep.mono {R : RC} {F H : Hp} (e : Le F H) : ∀ {d : D} {v : V}, Rep R F d v → Rep R H d v
  | .non, _, h => h
  | .bl _, _, h => h
  | .int _, _, h => h
  | .str _, _, h => h
  | .tup _, _, h => by
    obtain ⟨a, vs, e1, h1, h2⟩ := h
    exact ⟨a, vs, e1, e.sqT h1, Reps.mono e h2⟩
  | .lst _, _, h => by
    obtain ⟨a, vs, e1, h1, h2⟩ := h
    exact ⟨a, vs, e1, e.lst h1, Reps.mono e h2⟩
  | .rol _, _, h => by
    obtain ⟨a, vs, e1, h1, h2⟩ := h
    exact ⟨a, vs, e1, e.sqL h1, Reps.mono e h2⟩
  | .dic _, _, h => by
    obtain ⟨a, vs, e1, h1, h2⟩ := h
    exact ⟨a, vs, e1, e.rd _ _ h1, RepK.mono e h2⟩
  | .exc _ _, _, h => by
    obtain ⟨a, d, vs, e1, h1, h3, h2⟩ := h
    exact ⟨a, d, vs, e1, e.rd _ _ h1, h3.mono e, RepX.mono e h2⟩
  | .clo _, _, h => by
    obtain ⟨a, c', e1, h1, h2⟩ := h
    exact ⟨a, c', e1, e.rd _ _ h1, e.code h2⟩
theorem Reps.mono {R : RC} {F H : Hp} (e : Le F H) : ∀ {d : List D} {v : List V}, Reps R F d v → Reps R H d v
  | [], _, h => h
  | _ :: _, _, h => by
    obtain ⟨v, r, e1, h1, h2⟩ := h
    exact ⟨v, r, e1, Rep.mono e h1, Reps.mono e h2⟩
theorem RepK.mono {R : RC} {F H : Hp} (e : Le F H) : ∀ {d : List (Key × D)} {v : List (Key × V)}, RepK R F d v → RepK R H d v
  | [], _, h => h
  | _ :: _, _, h => by
    obtain ⟨v, r, e1, h1, h2⟩ := h
    exact ⟨v, r, e1, Rep.mono e h1, RepK.mono e h2⟩
theorem RepX.mono {R : RC} {F H : Hp} (e : Le F H) : ∀ {d : List (Str × D)} {v : List (Str × V)}, RepX R F d v → RepX R H d v
  | [], _, h => h
  | _ :: _, _, h => by
    obtain ⟨v, r, e1, h1, h2⟩ := h
    exact ⟨v, r, e1, Rep.mono e h1, RepX.mono e h2⟩
end

theorem Reps.length {R : RC} {F : Hp} : ∀ {d : List D} {v : List V}, Reps R F d v → v.length = d.length
  | [], _, h => by
    have h : _ = [] := h
    subst h; rfl
  | _ :: _, _, h => by
    obtain ⟨v, r, rfl, _, h2⟩ := h
    show r.length + 1 = _ + 1
    rw [h2.length]
theorem Reps.append {R : RC} {F : Hp} : ∀ {d e : List D} {v w : List V}, Reps R F d v → Reps R F e w → Reps R F (d ++ e) (v ++ w)
  | [], _, _, _, h, k => by
    have h : _ = [] := h
    subst h; exact k
  | _ :: _, _, _, _, h, k => by
    obtain ⟨v, r, rfl, h1, h2⟩ := h
    exact ⟨v, r ++ _, rfl, h1, h2.append k⟩
theorem Reps.get {R : RC} {F : Hp} : ∀ {d : List D} {v : List V} {i : Nat} {x : D}, Reps R F d v → d[i]? = some x → ∃ u, v[i]? = some u ∧ Rep R F x u
  | [], _, _, _, _, e => by cases e
  | _ :: _, _, 0, _, h, e => by
    obtain ⟨v, r, rfl, h1, h2⟩ := h
    cases e
    exact ⟨v, rfl, h1⟩
  | _ :: _, _, i + 1, x, h, e => by
    obtain ⟨v, r, rfl, h1, h2⟩ := h
    exact h2.get (i := i) (x := x) e
theorem Reps.get' {R : RC} {F : Hp} : ∀ {d : List D} {v : List V} {i : Nat} {u : V}, Reps R F d v → v[i]? = some u → ∃ x, d[i]? = some x ∧ Rep R F x u
  | [], _, _, _, h, e => by
    have h : _ = [] := h
    subst h; cases e
  | _ :: _, _, 0, _, h, e => by
    obtain ⟨v, r, rfl, h1, h2⟩ := h
    cases e
    exact ⟨_, rfl, h1⟩
  | _ :: _, _, i + 1, x, h, e => by
    obtain ⟨v, r, rfl, h1, h2⟩ := h
    exact h2.get' (i := i) e
theorem Reps.take {R : RC} {F : Hp} : ∀ {d : List D} {v : List V} (n : Nat), Reps R F d v → Reps R F (d.take n) (v.take n)
  | _, _, 0, _ => rfl
  | [], _, n + 1, h => by
    have h : _ = [] := h
    subst h; rfl
  | _ :: _, _, n + 1, h => by
    obtain ⟨v, r, rfl, h1, h2⟩ := h
    exact ⟨v, r.take n, rfl, h1, h2.take n⟩
theorem Reps.drop {R : RC} {F : Hp} : ∀ {d : List D} {v : List V} (n : Nat), Reps R F d v → Reps R F (d.drop n) (v.drop n)
  | _, _, 0, h => h
  | [], _, n + 1, h => by
    have h : _ = [] := h
    subst h; rfl
  | _ :: _, _, n + 1, h => by
    obtain ⟨v, r, rfl, h1, h2⟩ := h
    exact h2.drop n
theorem Reps.set {R : RC} {F : Hp} {x : D} {u : V} (hx : Rep R F x u) : ∀ {d : List D} {v : List V} (n : Nat), Reps R F d v → Reps R F (d.set n x) (v.set n u)
  | [], _, _, h => by
    have h : _ = [] := h
    subst h; rfl
  | _ :: _, _, 0, h => by
    obtain ⟨v, r, rfl, h1, h2⟩ := h
    exact ⟨u, r, rfl, hx, h2⟩
  | _ :: _, _, n + 1, h => by
    obtain ⟨v, r, rfl, h1, h2⟩ := h
    exact ⟨v, r.set n u, rfl, h1, h2.set hx n⟩
theorem Reps.ints {R : RC} {F : Hp} : ∀ {ns : List Int} {v : List V}, Reps R F (ns.map .int) v → v = ns.map .int
  | [], _, h => h
  | _ :: _, _, h => by
    obtain ⟨v, r, rfl, h1, h2⟩ := h
    have e : v = _ := h1
    subst e
    rw [h2.ints]; rfl
theorem Reps.of_ints {R : RC} {F : Hp} : ∀ (ns : List Int), Reps R F (ns.map .int) (ns.map V.int)
  | [] => rfl
  | n :: r => ⟨.int n, r.map V.int, rfl, rfl, Reps.of_ints r⟩

/-! ### what a frame owns -/
/-- the source of draws -/
structure Drw where
  large : List Int
  cells : List Int
  rest : Int
  turn : Int

inductive O where
  | lst (xs : List D)
  | dic (ks : List (Key × D))
  | drw (s : Drw)

def drwKeys (s : Drw) (l c : Addr) : List (Key × V) :=
  [(.inr "large", .ref l), (.inr "cells", .ref c), (.inr "rest", .int s.rest), (.inr "turn", .int s.turn)]

def RepO (R : RC) (F H : Hp) : O → V → (Addr → Prop) → Prop
  | .lst xs, v, S => ∃ a vs, v = .ref a ∧ S a ∧ H a = some (.lst vs) ∧ Reps R F xs vs
  | .dic ks, v, S => ∃ a kvs, v = .ref a ∧ S a ∧ H a = some (.dK kvs) ∧ RepK R F ks kvs
  | .drw s, v, S => ∃ a l c, v = .ref a ∧ S a ∧ S l ∧ H a = some (.dK (drwKeys s l c)) ∧ H l = some (.lst (s.large.map V.int)) ∧ F c = some (.lst (s.cells.map V.int))

/-- no table -/
def NT (u : HO) : Prop := ∀ ps, u ≠ .tbl ps
theorem nt_lst {xs} : NT (.lst xs) := fun _ z => by cases z
theorem nt_dK {xs} : NT (.dK xs) := fun _ z => by cases z
theorem RepO.mono {R : RC} {F F' H H' : Hp} {S S' : Addr → Prop} (e : Le F F') (h : ∀ a u, S a → NT u → H a = some u → H' a = some u) (hs : ∀ a, S a → S' a) : ∀ {o : O} {v : V}, RepO R F H o v S → RepO R F' H' o v S'
  | .lst _, _, q => by
    obtain ⟨a, vs, e1, s, q1, q2⟩ := q
    exact ⟨a, vs, e1, hs a s, h a _ s nt_lst q1, q2.mono e⟩
  | .dic _, _, q => by
    obtain ⟨a, vs, e1, s, q1, q2⟩ := q
    exact ⟨a, vs, e1, hs a s, h a _ s nt_dK q1, q2.mono e⟩
  | .drw _, _, q => by
    obtain ⟨a, l, c, e1, s1, s2, q1, q2, q3⟩ := q
    exact ⟨a, l, c, e1, hs a s1, hs l s2, h a _ s1 nt_dK q1, h l _ s2 nt_lst q2, e.lst q3⟩

/-! ### frames -/
inductive Sl where
  | d (x : D)
  | o (x : O)
abbrev En := List (Option Sl)
def gt : En → Nat → Option Sl
  | [], _ => none
  | x :: _, 0 => x
  | _ :: r, i + 1 => gt r i
def st : En → Nat → Option Sl → En
  | [], _, _ => []
  | _ :: r, 0, s => s :: r
  | x :: r, i + 1, s => x :: st r i s
theorem st_len : ∀ (e : En) (i : Nat) (s), (st e i s).length = e.length
  | [], _, _ => rfl
  | _ :: _, 0, _ => rfl
  | _ :: r, i + 1, s => by
    show (st r i s).length + 1 = r.length + 1
    rw [st_len r i s]
theorem gt_st_same : ∀ (e : En) (i : Nat) (s), i < e.length → gt (st e i s) i = s
  | [], _, _, h => absurd h (Nat.not_lt_zero _)
  | _ :: _, 0, _, _ => rfl
  | _ :: r, i + 1, s, h => gt_st_same r i s (Nat.lt_of_succ_lt_succ h)
theorem gt_st_ne : ∀ (e : En) {i j : Nat} (s), j ≠ i → gt (st e i s) j = gt e j
  | [], _, _, _, _ => rfl
  | _ :: _, 0, 0, _, h => absurd rfl h
  | _ :: _, 0, _ + 1, _, _ => rfl
  | _ :: _, _ + 1, 0, _, _ => rfl
  | _ :: r, i + 1, j + 1, s, h => gt_st_ne r s fun e => h (by rw [e])
theorem gt_lt : ∀ {e : En} {i : Nat} {s}, gt e i = some s → i < e.length
  | [], _, _, h => by cases h
  | _ :: _, 0, _, _ => Nat.succ_pos _
  | _ :: _, _ + 1, _, h => Nat.succ_lt_succ (gt_lt h)

/-- no table is frozen -/
def nT (F : Hp) : Prop := ∀ a u, F a = some u → NT u
theorem nT.put {F : Hp} {a : Addr} {u : HO} (h : nT F) (n : NT u) : nT (upd F a u) := fun b w q => by
  by_cases e : b = a
  · rw [e, upd_same] at q; cases q; exact n
  · rw [upd_ne e] at q; exact h b w q
/-- no object of ours stands at a (a table of code objects may) -/
def Ov (H : Hp) (a : Addr) : Prop := ∀ u, H a = some u → ∃ ps, u = .tbl ps
theorem Ov.of {H : Hp} {a : Addr} (h : H a = none) : Ov H a := fun u q => by rw [h] at q; cases q
theorem Ov.no {H : Hp} {a : Addr} {u : HO} (h : Ov H a) (q : H a = some u) (nt : NT u) : False := by
  obtain ⟨ps, e⟩ := h u q
  exact nt ps e
theorem Ov.eq {H H' : Hp} {a : Addr} (h : Ov H a) (e : H' a = H a) : Ov H' a := fun u q => h u (e ▸ q)
/-- what is locked stays -/
def Fz (H H' : Hp) : Prop := ∀ a o u, H a = some (.frz o u) → H' a = some (.frz o u)
/-- the tables of code objects, all of whose code objects are frozen -/
def TabsC (F H : Hp) : Prop := LamX.Tabs TabC.T H ∧ ∀ c q, H c = some (LamX.CodeO c q) → F c = some (LamX.CodeO c q)
structure Step (F H : Hp) (ow : Addr → Prop) (F' H' : Hp) (ow' : Addr → Prop) : Prop where
  ex : ∀ a u, F a = some u → F' a = some u
  keep : ∀ a u, H a = some u → F a = none → ¬ ow a → NT u → H' a = some u
  fresh : ∀ a, F' a ≠ none → F a ≠ none ∨ Ov H a ∨ ow a
  owf : ∀ a, ow' a → ow a ∨ Ov H a
  dom : ∀ a, Ov H' a → Ov H a
  tb : TabsC F H → TabsC F' H'
  nt : nT F → nT F'
  fz : Fz H H'
theorem Step.refl (F H : Hp) (ow : Addr → Prop) : Step F H ow F H ow := ⟨fun _ _ h => h, fun _ _ h _ _ _ => h, fun _ h => .inl h, fun _ h => .inl h, fun _ h => h, fun h => h, fun h => h, fun _ _ _ h => h⟩
theorem Step.le {F H ow F' H' ow'} (s : Step F H ow F' H' ow') : Le F F' := .ofEx s.ex
theorem Step.trans {F H ow F1 H1 ow1 F2 H2 ow2} (l1 : ∀ a, ow a → F a = none) (a : Step F H ow F1 H1 ow1) (b : Step F1 H1 ow1 F2 H2 ow2) : Step F H ow F2 H2 ow2 where
  ex := fun x u h => b.ex x u (a.ex x u h)
  keep := fun x u h n w nt => by
    have h1 := a.keep x u h n w nt
    have nf : F1 x = none := by
      cases q : F1 x with
      | none => rfl
      | some z =>
        rcases a.fresh x (by rw [q]; exact fun z => nomatch z) with k | k | k
        · exact absurd n k
        · exact (k.no h nt).elim
        · exact absurd k w
    exact b.keep x u h1 nf (fun k => (a.owf x k).elim w fun z => z.no h nt) nt
  fresh := fun x h => by
    rcases b.fresh x h with k | k | k
    · exact a.fresh x k
    · exact .inr (.inl (a.dom x k))
    · rcases a.owf x k with z | z
      · exact .inr (.inr z)
      · exact .inr (.inl z)
  owf := fun x h => by
    rcases b.owf x h with k | k
    · exact a.owf x k
    · exact .inr (a.dom x k)
  dom := fun x h => a.dom x (b.dom x h)
  tb := fun h => b.tb (a.tb h)
  nt := fun h => b.nt (a.nt h)
  fz := fun x o u h => b.fz x o u (a.fz x o u h)

def SlOk (R : RC) (F H : Hp) (v : V) (S : Addr → Prop) : Sl → Prop
  | .d x => Rep R F x v
  | .o x => RepO R F H x v S

structure SR (R : RC) (F H : Hp) (σ : L2.St) (env : En) (ow : Nat → Addr → Prop) : Prop where
  le : Le F H
  nof : ∀ i a, ow i a → F a = none ∧ ¬ Ov H a
  dis : ∀ i j a, ow i a → ow j a → i = j
  len : env.length = σ.length
  sl : ∀ i s, gt env i = some s → ∃ v, σ[i]? = some (some v) ∧ SlOk R F H v (ow i) s
  tb : TabsC F H
  nt : nT F
def un (ow : Nat → Addr → Prop) (a : Addr) : Prop := ∃ i, ow i a

/-! ### outcomes -/
inductive Res (α : Type) where
  | ok (a : α) (e : En)
  | ex (c : Nat) (fs : List (Str × D)) (e : En)
  | no
abbrev M (α : Type) := En → Res α
def bnd {α β : Type} (m : M α) (f : α → M β) : M β := fun e => match m e with
  | .ok a e' => f a e'
  | .ex c fs e' => .ex c fs e'
  | .no => .no
def pur {α : Type} (a : α) : M α := fun e => .ok a e
def nop {α : Type} : M α := fun _ => .no
def opt {α : Type} (o : Option α) : M α := fun e => match o with
  | some a => .ok a e
  | none => .no

theorem bnd_assoc {α β γ : Type} (m : M α) (f : α → M β) (g : β → M γ) : bnd (bnd m f) g = bnd m fun a => bnd (f a) g := by
  funext e
  unfold bnd
  cases m e <;> rfl
/-- a value; a slot's own object, not read yet; a new object that nothing else holds -/
inductive Opd where
  | d (x : D)
  | s (i : Nat)
  | n (o : O)

def freeze : O → Option D
  | .lst xs => some (.lst xs)
  | .dic ks => some (.dic ks)
  | .drw _ => none

/-- Fr: what an object may be that nothing held at the start -/
def OpdOk (R : RC) (F H : Hp) (σ : L2.St) (ow : Nat → Addr → Prop) (Fr : Addr → Prop) (v : V) : Opd → Prop
  | .d x => Rep R F x v
  | .s i => σ[i]? = some (some v)
  | .n o => ∃ S, RepO R F H o v S ∧ (∀ a, S a → F a = none ∧ ¬ Ov H a ∧ Fr a) ∧ ∀ i a, ow i a → ¬ S a

def frs (H : Hp) (ow : Addr → Prop) (a : Addr) : Prop := ow a ∨ Ov H a

abbrev KT (α : Type) := α → En → Hp → Hp → (Nat → Addr → Prop) → Prop
/-- behind a piece of code: from the base F, H, ow -/
def Post {α : Type} (R : RC) (W : WX) (σ : L2.St) (F H : Hp) (ow : Nat → Addr → Prop) (K : KT α) : Res α → Prop
  | .ok a env' => ∀ F' H' ow', Step F H (un ow) F' H' (un ow') → SR R F' H' σ env' ow' → K a env' F' H' ow'
  | .ex c fs env' => ∀ d kvs F' H' ow', Step F H (un ow) F' H' (un ow') → SR R F' H' σ env' ow' → XdOk F' kvs d → RepX R F' fs kvs → W (.ref (R.cl c)) d σ H'
  | .no => False
/-- what is wanted of an expression's value -/
def KE (R : RC) (σ : L2.St) (H : Hp) (ow : Nat → Addr → Prop) (Q : VK) : KT Opd := fun p _ F' H' ow' => ∀ v, OpdOk R F' H' σ ow' (frs H (un ow)) v p → Q v H'
/-- an expression's reading by its denotation -/
def LE (R : RC) (W : WX) (m : M Opd) : TE := fun σ H Q => ∃ F env ow, SR R F H σ env ow ∧ Post R W σ F H ow (KE R σ H ow Q) (m env)

theorem SR.nofU {R F H σ env ow} (s : SR R F H σ env ow) : ∀ a, un ow a → F a = none := fun a ⟨i, h⟩ => (s.nof i a h).1
theorem OpdOk.frs {R F H σ} {ow : Nat → Addr → Prop} {Fr Fr' : Addr → Prop} {v : V} {p : Opd} (h : OpdOk R F H σ ow Fr v p) (e : ∀ a, Fr a → Fr' a) : OpdOk R F H σ ow Fr' v p := by
  cases p with
  | d x => exact h
  | s i => exact h
  | n o =>
    obtain ⟨S, h1, h2, h3⟩ := h
    exact ⟨S, h1, fun a z => ⟨(h2 a z).1, (h2 a z).2.1, e a (h2 a z).2.2⟩, h3⟩
theorem Step.frs {F H ow F1 H1 ow1} (st : Step F H ow F1 H1 ow1) : ∀ a, Dv.frs H1 ow1 a → Dv.frs H ow a := fun a h => by
  rcases h with h | h
  · exact st.owf a h
  · exact .inr (st.dom a h)
section
variable {α β : Type} {R : RC} {W : WX} {σ : L2.St} {F H F1 H1 : Hp} {env : En} {ow ow1 : Nat → Addr → Prop} {K K' : KT α}
theorem Post.step {r : Res α} (h : Post R W σ F H ow K r) (l : ∀ a, un ow a → F a = none) (st : Step F H (un ow) F1 H1 (un ow1)) : Post R W σ F1 H1 ow1 K r := by
  cases r with
  | ok p e => exact fun F' H' ow' s2 sr => h F' H' ow' (st.trans l s2) sr
  | ex c fs e => exact fun d kvs F' H' ow' s2 sr xd rx => h d kvs F' H' ow' (st.trans l s2) sr xd rx
  | no => exact h
theorem Post.mono {r : Res α} (h : Post R W σ F H ow K r) (q : ∀ a e F' H' ow', Step F H (un ow) F' H' (un ow') → SR R F' H' σ e ow' → K a e F' H' ow' → K' a e F' H' ow') : Post R W σ F H ow K' r := by
  cases r with
  | ok p e => exact fun F' H' ow' s2 sr => q _ _ _ _ _ s2 sr (h F' H' ow' s2 sr)
  | ex c fs e => exact h
  | no => exact h
/-- the first of two: what the second is to reach stands in the end of the first -/
theorem Post.fst {m : M β} {f : β → M α} (h : Post R W σ F H ow K (bnd m f env)) :
    Post R W σ F H ow (fun b env1 F1 H1 ow1 => Post R W σ F H ow K (f b env1)) (m env) := by
  unfold bnd at h
  cases e : m env with
  | ok p env1 =>
    rw [e] at h
    exact fun _ _ _ _ _ => h
  | ex c fs env1 =>
    rw [e] at h
    exact h
  | no =>
    rw [e] at h
    exact h
theorem LE_mono {m : M Opd} {Q Q' : VK} (h : LE R W m σ H Q) (q : ∀ v H', Q v H' → Q' v H') : LE R W m σ H Q' := by
  obtain ⟨F, env, ow, s, h⟩ := h
  exact ⟨F, env, ow, s, h.mono fun _ _ _ _ _ _ _ k v ok => q _ _ (k v ok)⟩
theorem LE_bnd {m : M Opd} {f : Opd → M α} (s : SR R F H σ env ow) (h : Post R W σ F H ow K (bnd m f env)) :
    LE R W m σ H fun v H1 => ∃ p env1 F1 ow1, SR R F1 H1 σ env1 ow1 ∧ Step F H (un ow) F1 H1 (un ow1) ∧ OpdOk R F1 H1 σ ow1 (frs H (un ow)) v p ∧ Post R W σ F H ow K (f p env1) :=
  ⟨F, env, ow, s, h.fst.mono fun p env1 F1 H1 ow1 st sr k v ok => ⟨p, env1, F1, ow1, sr, st, ok, k⟩⟩
theorem Post.ofOpt {o : Option β} {f : β → M α} (h : Post R W σ F H ow K (bnd (opt o) f env)) : ∃ b, o = some b ∧ Post R W σ F H ow K (f b env) := by
  cases o with
  | none => exact h.elim
  | some b => exact ⟨b, rfl, h⟩
theorem Post.ofOpt' {o : Option α} (h : Post R W σ F H ow K (opt o env)) : ∃ b, o = some b ∧ Post R W σ F H ow K (.ok b env) := by
  cases o with
  | none => exact h.elim
  | some b => exact ⟨b, rfl, h⟩
end

/-! ### publishing, holding, reading -/
/-- a new object is held as data -/
def holdF : Opd → Option Opd
  | .n o => (freeze o).map .d
  | .d x => some (.d x)
  | .s i => some (.s i)
/-- published: data from now on -/
def pubF (e : En) : Opd → Option (D × En)
  | .d x => some (x, e)
  | .n o => (freeze o).map fun x => (x, e)
  | .s i => match gt e i with
    | some (.d x) => some (x, e)
    | some (.o o) => (freeze o).map fun x => (x, st e i (some (.d x)))
    | none => none
/-- what it holds now, nothing published -/
def rdF (e : En) : Opd → Option D
  | .d x => some x
  | .n o => freeze o
  | .s i => match gt e i with
    | some (.d x) => some x
    | some (.o o) => freeze o
    | none => none
def hold (p : Opd) : M Opd := opt (holdF p)
def pub (p : Opd) : M D := fun e => match pubF e p with
  | some (x, e') => .ok x e'
  | none => .no
def rd (p : Opd) : M D := fun e => match rdF e p with
  | some x => .ok x e
  | none => .no

/-- at the top it may lie in the heap alone, its parts are frozen -/
def RepT (R : RC) (F H : Hp) : D → V → Prop
  | .lst xs, v => ∃ a vs, v = .ref a ∧ H a = some (.lst vs) ∧ Reps R F xs vs
  | .dic ks, v => ∃ a kvs, v = .ref a ∧ Rd H a (.dK kvs) ∧ RepK R F ks kvs
  | d, v => Rep R F d v
theorem RepT.of {R F H} (e : Le F H) : ∀ {d : D} {v : V}, Rep R F d v → RepT R F H d v
  | .lst _, _, h => by
    obtain ⟨a, vs, e1, h1, h2⟩ := h
    exact ⟨a, vs, e1, e.lst h1, h2⟩
  | .dic _, _, h => by
    obtain ⟨a, vs, e1, h1, h2⟩ := h
    exact ⟨a, vs, e1, e.rd _ _ h1, h2⟩
  | .non, _, h => h
  | .bl _, _, h => h
  | .int _, _, h => h
  | .str _, _, h => h
  | .tup _, _, h => h
  | .rol _, _, h => h
  | .exc _ _, _, h => h
  | .clo _, _, h => h
theorem RepT.rep {R F H} (e : Le F H) : ∀ {d : D} {v : V}, RepT R F H d v → Rep R H d v
  | .lst _, _, h => by
    obtain ⟨a, vs, e1, h1, h2⟩ := h
    exact ⟨a, vs, e1, h1, h2.mono e⟩
  | .dic _, _, h => by
    obtain ⟨a, vs, e1, h1, h2⟩ := h
    exact ⟨a, vs, e1, h1, RepK.mono e h2⟩
  | .non, _, h => h
  | .bl _, _, h => h
  | .int _, _, h => h
  | .str _, _, h => h
  | .tup xs, _, h => Rep.mono (d := .tup xs) e h
  | .rol xs, _, h => Rep.mono (d := .rol xs) e h
  | .exc c fs, _, h => Rep.mono (d := .exc c fs) e h
  | .clo k, _, h => Rep.mono (d := .clo k) e h
theorem RepO.repT {R F H o v S x} (h : RepO R F H o v S) (e : freeze o = some x) : RepT R F H x v := by
  cases o with
  | lst xs =>
    cases e
    obtain ⟨a, vs, e1, _, q1, q2⟩ := h
    exact ⟨a, vs, e1, q1, q2⟩
  | dic ks =>
    cases e
    obtain ⟨a, vs, e1, _, q1, q2⟩ := h
    exact ⟨a, vs, e1, .inl q1, q2⟩
  | drw s => cases e

/-- an owned object is frozen: its address joins F -/
theorem RepO.freeze {R F H o v S x} (le : Le F H) (h : RepO R F H o v S) (hs : ∀ a, S a → F a = none) (e : Dv.freeze o = some x) :
    ∃ a u, v = .ref a ∧ S a ∧ NT u ∧ H a = some u ∧ Le (upd F a u) H ∧ (∀ b w, F b = some w → upd F a u b = some w) ∧ Rep R (upd F a u) x v := by
  have key : ∀ a u, S a → H a = some u → Le (upd F a u) H ∧ (∀ b w, F b = some w → upd F a u b = some w) := fun a u s q => by
    have ex : ∀ b w, F b = some w → upd F a u b = some w := fun b w hb => by
      rw [upd_ne (ne_of_none hb (hs a s))]; exact hb
    refine ⟨fun b w hb => ?_, ex⟩
    by_cases e : b = a
    · subst e
      rw [upd_same] at hb
      cases hb
      exact .inl q
    · rw [upd_ne e] at hb
      exact le _ _ hb
  have up : ∀ a u, (∀ b w, F b = some w → upd F a u b = some w) → Le F (upd F a u) := fun a u ex => .ofEx ex
  cases o with
  | lst xs =>
    cases e
    obtain ⟨a, vs, e1, s, q1, q2⟩ := h
    obtain ⟨k1, k2⟩ := key a _ s q1
    exact ⟨a, _, e1, s, nt_lst, q1, k1, k2, a, vs, e1, upd_same, q2.mono (up _ _ k2)⟩
  | dic ks =>
    cases e
    obtain ⟨a, vs, e1, s, q1, q2⟩ := h
    obtain ⟨k1, k2⟩ := key a _ s q1
    exact ⟨a, _, e1, s, nt_dK, q1, k1, k2, a, vs, e1, .inl upd_same, RepK.mono (up _ _ k2) q2⟩
  | drw s => cases e

theorem SlOk.mono {R F F' H H' v S S' s} (e : Le F F') (h : ∀ a u, S a → NT u → H a = some u → H' a = some u) (hs : ∀ a, S a → S' a) (q : SlOk R F H v S s) : SlOk R F' H' v S' s := by
  cases s with
  | d x => exact Rep.mono e q
  | o x => exact RepO.mono e h hs q

/-- F grows by addresses that no slot owns, the heap stays -/
theorem SR.grow {R F F' H σ env ow} (s : SR R F H σ env ow) (e : Le F F') (le : Le F' H) (nof : ∀ i a, ow i a → F' a = none) (nt : nT F') : SR R F' H σ env ow :=
  ⟨le, fun i a h => ⟨nof i a h, (s.nof i a h).2⟩, s.dis, s.len, fun i sl h => let ⟨v, h1, h2⟩ := s.sl i sl h; ⟨v, h1, h2.mono e (fun _ _ _ _ q => q) fun _ q => q⟩, ⟨s.tb.1, fun c q z => e.code (s.tb.2 c q z)⟩, nt⟩

/-- grown by what was fresh -/
structure Gr (F F1 : Hp) (Fr : Addr → Prop) : Prop where
  ex : ∀ a u, F a = some u → F1 a = some u
  fr : ∀ a, F1 a ≠ none → F a ≠ none ∨ Fr a
  nt : nT F → nT F1
theorem Gr.le {F F1 Fr} (g : Gr F F1 Fr) : Le F F1 := .ofEx g.ex
theorem Gr.refl (F : Hp) (Fr) : Gr F F Fr := ⟨fun _ _ h => h, fun _ h => .inl h, fun h => h⟩
/-- a growth behind a step is a step -/
theorem Step.gr {F H ow F1 H1 ow1 F2} (s : Step F H ow F1 H1 ow1) (g : Gr F1 F2 (Dv.frs H ow)) : Step F H ow F2 H1 ow1 where
  ex := fun a u h => g.ex a u (s.ex a u h)
  keep := s.keep
  fresh := fun a h => by
    rcases g.fr a h with k | k | k
    · exact s.fresh a k
    · exact .inr (.inr k)
    · exact .inr (.inl k)
  owf := s.owf
  dom := s.dom
  tb := fun h => ⟨(s.tb h).1, fun c q z => g.ex _ _ ((s.tb h).2 c q z)⟩
  nt := fun h => g.nt (s.nt h)
  fz := s.fz
theorem hold_ok {R σ F H env ow Fr v p p1} (s : SR R F H σ env ow) (ok : OpdOk R F H σ ow Fr v p) (h : holdF p = some p1) :
    ∃ F1, SR R F1 H σ env ow ∧ Gr F F1 Fr ∧ ∀ Fr', OpdOk R F1 H σ ow Fr' v p1 := by
  cases p with
  | d x =>
    cases h
    exact ⟨F, s, .refl _ _, fun _ => ok⟩
  | s i =>
    cases h
    exact ⟨F, s, .refl _ _, fun _ => ok⟩
  | n o =>
    obtain ⟨S, h1, h2, h3⟩ := ok
    obtain ⟨x, e, rfl⟩ := Option.map_eq_some_iff.mp h
    obtain ⟨a, u, e1, sa, nu, q1, k1, k2, k3⟩ := h1.freeze s.le (fun a z => (h2 a z).1) e
    have g : Gr F (upd F a u) Fr := ⟨k2, fun b hb => by
      by_cases e : b = a
      · exact .inr (e ▸ (h2 a sa).2.2)
      · rw [upd_ne e] at hb
        exact .inl hb, fun h => h.put nu⟩
    refine ⟨upd F a u, s.grow g.le k1 (fun i b hb => ?_) (s.nt.put nu), g, fun _ => k3⟩
    have : b ≠ a := fun e => h3 i b hb (e ▸ sa)
    rw [upd_ne this]
    exact (s.nof i b hb).1
/-- a held operand, at a later state -/
theorem OpdOk.later {R F H σ ow F1 H1} {ow1 : Nat → Addr → Prop} {Fr Fr' v p} (h : OpdOk R F H σ ow Fr v p) (hn : ∀ o, p ≠ .n o) (e : Le F F1) : OpdOk R F1 H1 σ ow1 Fr' v p := by
  cases p with
  | d x => exact Rep.mono e h
  | s i => exact h
  | n o => exact absurd rfl (hn o)
theorem holdF_n {p p1} (h : holdF p = some p1) : ∀ o, p1 ≠ .n o := fun o e => by
  subst e
  cases p with
  | d x => cases h
  | s i => cases h
  | n o' =>
    obtain ⟨x, e, z⟩ := Option.map_eq_some_iff.mp h
    cases z
theorem rd_ok {R σ F H env ow Fr v p x} (s : SR R F H σ env ow) (ok : OpdOk R F H σ ow Fr v p) (h : rdF env p = some x) : RepT R F H x v := by
  cases p with
  | d y =>
    cases h
    exact .of s.le ok
  | s i =>
    have ok : σ[i]? = some (some v) := ok
    cases e : gt env i with
    | none =>
      simp only [rdF, e] at h
      cases h
    | some sl =>
      obtain ⟨v', e1, k⟩ := s.sl i _ e
      rw [e1] at ok
      cases ok
      cases sl with
      | d y =>
        simp only [rdF, e] at h
        cases h
        exact .of s.le k
      | o o =>
        simp only [rdF, e] at h
        exact RepO.repT k h
  | n o =>
    obtain ⟨S, h1, h2, h3⟩ := ok
    exact h1.repT h
/-- one slot's object is given up, a frozen value stands in its place -/
theorem pub_ok {R σ F H env ow Fr v p x env1} (s : SR R F H σ env ow) (ok : OpdOk R F H σ ow Fr v p) (h : pubF env p = some (x, env1)) :
    ∃ F1 ow1, SR R F1 H σ env1 ow1 ∧ Gr F F1 (fun a => Fr a ∨ un ow a) ∧ (∀ i a, ow1 i a → ow i a) ∧ Rep R F1 x v := by
  cases p with
  | d y =>
    cases h
    exact ⟨F, ow, s, .refl _ _, fun _ _ z => z, ok⟩
  | n o =>
    obtain ⟨y, e, z⟩ := Option.map_eq_some_iff.mp h
    cases z
    obtain ⟨F1, s1, g, k⟩ := hold_ok (p := .n o) (p1 := .d x) s ok (by simp only [holdF, e, Option.map_some])
    exact ⟨F1, ow, s1, ⟨g.ex, fun a q => (g.fr a q).imp id .inl, g.nt⟩, fun _ _ z => z, k Fr⟩
  | s i =>
    have ok : σ[i]? = some (some v) := ok
    cases e : gt env i with
    | none =>
      simp only [pubF, e] at h
      cases h
    | some sl =>
    obtain ⟨v', e1, k⟩ := s.sl i _ e
    rw [e1] at ok
    cases ok
    cases sl with
    | d y =>
      simp only [pubF, e] at h
      cases h
      exact ⟨F, ow, s, .refl _ _, fun _ _ z => z, k⟩
    | o o =>
      simp only [pubF, e] at h
      obtain ⟨y, e2, z⟩ := Option.map_eq_some_iff.mp h
      cases z
      obtain ⟨a, u, e3, sa, nu, q1, k1, k2, k3⟩ := RepO.freeze s.le k (fun a z => (s.nof i a z).1) e2
      have g : Gr F (upd F a u) (fun a => Fr a ∨ un ow a) := ⟨k2, fun b hb => by
        by_cases e : b = a
        · exact .inr (.inr ⟨i, e ▸ sa⟩)
        · rw [upd_ne e] at hb
          exact .inl hb, fun h => h.put nu⟩
      refine ⟨upd F a u, fun j b => ow j b ∧ j ≠ i, ⟨k1, fun j b hb => ?_, fun j l b h1 h2 => s.dis j l b h1.1 h2.1, ?_, fun j sl hj => ?_, ⟨s.tb.1, fun c q z => g.ex _ _ (s.tb.2 c q z)⟩, s.nt.put nu⟩, g, fun _ _ z => z.1, k3⟩
      · have : b ≠ a := fun e => hb.2 (s.dis j i b hb.1 (e ▸ sa))
        rw [upd_ne this]
        exact s.nof j b hb.1
      · rw [st_len]; exact s.len
      · by_cases hji : j = i
        · subst hji
          rw [gt_st_same _ _ _ (gt_lt e)] at hj
          cases hj
          exact ⟨v, e1, k3⟩
        · rw [gt_st_ne _ _ hji] at hj
          obtain ⟨w, h1, h2⟩ := s.sl j sl hj
          exact ⟨w, h1, h2.mono g.le (fun _ _ _ _ q => q) fun a q => ⟨q, hji⟩⟩

section
variable {α : Type} {R : RC} {W : WX} {σ : L2.St} {F H : Hp} {env : En} {ow : Nat → Addr → Prop} {K : KT α}
theorem Post.ofHold {p : Opd} {f : Opd → M α} (h : Post R W σ F H ow K (bnd (hold p) f env)) : ∃ p1, holdF p = some p1 ∧ Post R W σ F H ow K (f p1 env) := h.ofOpt
theorem Post.ofRd {p : Opd} {f : D → M α} (h : Post R W σ F H ow K (bnd (rd p) f env)) : ∃ x, rdF env p = some x ∧ Post R W σ F H ow K (f x env) := by
  unfold bnd rd at h
  cases e : rdF env p with
  | none => rw [e] at h; exact h.elim
  | some p1 => rw [e] at h; exact ⟨p1, rfl, h⟩
theorem Post.ofPub {p : Opd} {f : D → M α} (h : Post R W σ F H ow K (bnd (pub p) f env)) : ∃ x env1, pubF env p = some (x, env1) ∧ Post R W σ F H ow K (f x env1) := by
  unfold bnd pub at h
  cases e : pubF env p with
  | none => rw [e] at h; exact h.elim
  | some p1 =>
    rw [e] at h
    exact ⟨p1.1, p1.2, rfl, h⟩
end
end Dv
set_option Elab.async false
set_option linter.all false
set_option maxRecDepth 100000
set_option maxHeartbeats 4000000
/-! Dv2: expressions: names, constants, operators, tests, displays, argument lists. -/
namespace Dv
open PySem PySem.Spec PyProof.Rows L2
variable [TabC]

theorem wkE {X e t t'} (h : PE X e t) (i : ∀ σ H Q, t' σ H Q → t σ H Q) : PE X e t' := ⟨fun pins s σ H Q I q => h.run pins s σ H Q I (i σ H Q q)⟩
theorem wkT {X e t t'} (h : PT X e t) (i : ∀ σ H Q, t' σ H Q → t σ H Q) : PT X e t' := ⟨fun pins s σ H Q I q => h.run pins s σ H Q I (i σ H Q q)⟩
theorem wkA {X e t t'} (h : PA X e t) (i : ∀ σ H Q, t' σ H Q → t σ H Q) : PA X e t' := ⟨fun pos pins s σ H Q I q => h.run pos pins s σ H Q I (i σ H Q q)⟩

section
variable {X : Cx} {R : RC} {W : WX}

/-! ### names, constants -/
def dNm (i : Nat) : M Opd := fun e => match gt e i with
  | some (.d x) => .ok (.d x) e
  | some (.o _) => .ok (.s i) e
  | none => .no
theorem je_nm (i : Nat) {x : Str} {pos : Pos} (hN : X.N[i]? = some x := by rfl) (hv : Vis X.env.scope x := by first | exact Or.inl rfl | exact Or.inr (Or.inl rfl) | exact Or.inr (Or.inr rfl)) (hd : (x == ("__debug__" : Str)) = false := by decide)
    (hcd : (x == ("__classdict__" : Str)) = false := by decide) : PE X (.Name x pos) (LE R W (dNm i)) := by
  refine wkE (pv i hN hv hd hcd) fun σ H Q ⟨F, env, ow, s, h⟩ => ?_
  unfold dNm at h
  cases e : gt env i with
  | none =>
    rw [e] at h
    exact h.elim
  | some sl =>
    rw [e] at h
    obtain ⟨v, e1, k⟩ := s.sl i _ e
    cases sl with
    | d y => exact ⟨v, e1, h F H ow (.refl _ _ _) s v k⟩
    | o y => exact ⟨v, e1, h F H ow (.refl _ _ _) s v e1⟩

def dC (d : D) : M Opd := pur (.d d)
/-- flat data that lie nowhere -/
def cst : D → Option V
  | .non => some .non
  | .bl b => some (.bl b)
  | .int i => some (.int i)
  | .str x => some (.str x)
  | _ => none
theorem cst_rep {R F d v} (h : cst d = some v) : Rep R F d v := by
  cases d <;> cases h <;> exact rfl
theorem je_c {e : Expr} {d : D} {v : V} (h : PE X e (tC v)) (hv : cst d = some v) : PE X e (LE R W (dC d)) :=
  wkE h fun σ H Q ⟨F, env, ow, s, q⟩ => q F H ow (.refl _ _ _) s v (cst_rep hv)
theorem je_int {i j pos} : PE X (.Constant (.int i) j pos) (LE R W (dC (.int i))) := je_c pe_int rfl
theorem je_bl {b j pos} : PE X (.Constant (.bool b) j pos) (LE R W (dC (.bl b))) := je_c pe_bl rfl
theorem je_non {j pos} : PE X (.Constant .none j pos) (LE R W (dC .non)) := je_c pe_non rfl
theorem je_str {x j pos} : PE X (.Constant (.str x) j pos) (LE R W (dC (.str x))) := je_c pe_str rfl

/-! ### operations on values -/
/-- nothing changes but what is new -/
structure Ext (F H F' H' : Hp) : Prop where
  st : Step F H (fun _ => False) F' H' (fun _ => False)
  le : Le F' H'
theorem Ext.refl {F H} (e : Le F H) : Ext F H F H := ⟨.refl _ _ _, e⟩
def OpdR (R : RC) (F' H' H : Hp) (w : V) : Opd → Prop
  | .d z => Rep R F' z w
  | .s _ => False
  | .n o => ∃ S, RepO R F' H' o w S ∧ ∀ a, S a → F' a = none ∧ ¬ Ov H' a ∧ Ov H a
/-- behind an operation -/
theorem Ext.fin {R F H F' H' σ env ow p w} (s : SR R F H σ env ow) (x : Ext F H F' H') (k : OpdR R F' H' H w p) :
    Step F H (un ow) F' H' (un ow) ∧ SR R F' H' σ env ow ∧ OpdOk R F' H' σ ow (frs H (un ow)) w p := by
  have nf : ∀ i a, ow i a → F' a = none := fun i a h => by
    cases q : F' a with
    | none => rfl
    | some u =>
      rcases x.st.fresh a (by rw [q]; exact fun z => nomatch z) with z | z | z
      · exact absurd (s.nof i a h).1 z
      · exact absurd z (s.nof i a h).2
      · exact z.elim
  have kp : ∀ i a, ow i a → ∀ u, NT u → H a = some u → H' a = some u := fun i a h u nt q => x.st.keep a u q (s.nof i a h).1 (fun z => z) nt
  refine ⟨⟨x.st.ex, fun a u q n _ nt => x.st.keep a u q n (fun z => z) nt, fun a h => (x.st.fresh a h).imp id fun z => z.imp id False.elim, fun a h => .inl h, x.st.dom, x.st.tb, x.st.nt, x.st.fz⟩, ⟨x.le, fun i a h => ⟨nf i a h, fun z => (s.nof i a h).2 (x.st.dom a z)⟩, s.dis, s.len, fun i sl h => ?_, x.st.tb s.tb, x.st.nt s.nt⟩, ?_⟩
  · obtain ⟨v, h1, h2⟩ := s.sl i sl h
    exact ⟨v, h1, h2.mono (.ofEx x.st.ex) (fun a u z nt q => kp i a z u nt q) fun _ z => z⟩
  · cases p with
    | d z => exact k
    | s i => exact k.elim
    | n o =>
      obtain ⟨S, h1, h2⟩ := k
      exact ⟨S, h1, fun a z => ⟨(h2 a z).1, (h2 a z).2.1, .inr (h2 a z).2.2⟩, fun i a h z => (s.nof i a h).2 (h2 a z).2.2⟩
theorem tabs_new {F H : Hp} {p : Addr} {u : HO} (hp : H p = none) : TabsC F H → TabsC (upd F p u) (upd H p u) := fun h => ⟨h.1.ext fun a w e => by
  rw [upd_ne (ne_of_none e hp)]; exact e, fun c q z => by
    by_cases e : c = p
    · rw [e, upd_same] at z ⊢; exact z
    · rw [upd_ne e] at z ⊢; exact h.2 c q z⟩
theorem tabs_newO {F H : Hp} {p : Addr} {u : HO} (hp : H p = none) (nc : ∀ c q, u ≠ LamX.CodeO c q) : TabsC F H → TabsC F (upd H p u) := fun h => ⟨h.1.ext fun a w e => by
  rw [upd_ne (ne_of_none e hp)]; exact e, fun c q z => by
    by_cases e : c = p
    · rw [e, upd_same] at z; exact absurd (Option.some.inj z) (nc p q)
    · rw [upd_ne e] at z; exact h.2 c q z⟩
/-- a new list, a new tuple: laid in F, or kept apart -/
theorem Ext.new {F H : Hp} (e : Le F H) {p : Addr} {u : HO} (hp : H p = none) (nu : NT u := by intro _ z; cases z) : Ext F H (upd F p u) (upd H p u) := by
  have fp : F p = none := by
    cases q : F p with
    | none => rfl
    | some w => exact absurd hp (e.ne (by rw [q]; exact fun z => nomatch z))
  refine ⟨⟨fun a w h => by rw [upd_ne (ne_of_none h fp)]; exact h, fun a w h _ _ _ => by rw [upd_ne (ne_of_none h hp)]; exact h, fun a h => ?_, fun _ h => h.elim, fun a h => ?_, tabs_new hp, fun h => h.put nu, fun a o w h => by rw [upd_ne (ne_of_none h hp)]; exact h⟩, fun a w h => ?_⟩
  · by_cases z : a = p
    · exact .inr (.inl (.of (z ▸ hp)))
    · rw [upd_ne z] at h; exact .inl h
  · by_cases z : a = p
    · exact .of (z ▸ hp)
    · exact h.eq (upd_ne z).symm
  · by_cases z : a = p
    · subst z
      rw [upd_same] at h
      cases h
      exact .inl upd_same
    · rw [upd_ne z] at h
      rcases e a w h with h | ⟨kvs, o, e1, h⟩
      · exact .inl (by rw [upd_ne z]; exact h)
      · exact .inr ⟨kvs, o, e1, by rw [upd_ne z]; exact h⟩
theorem Ext.newO {F H : Hp} (e : Le F H) {p : Addr} {u : HO} (hp : H p = none) (nc : ∀ c q, u ≠ LamX.CodeO c q := by intro _ _ z; cases z) : Ext F H F (upd H p u) ∧ F p = none := by
  have fp : F p = none := by
    cases q : F p with
    | none => rfl
    | some w => exact absurd hp (e.ne (by rw [q]; exact fun z => nomatch z))
  refine ⟨⟨⟨fun _ _ h => h, fun a w h _ _ _ => by rw [upd_ne (ne_of_none h hp)]; exact h, fun _ h => .inl h, fun _ h => h.elim, fun a h => ?_, tabs_newO hp nc, fun h => h, fun a o w h => by rw [upd_ne (ne_of_none h hp)]; exact h⟩, fun a w h => ?_⟩, fp⟩
  · by_cases z : a = p
    · exact .of (z ▸ hp)
    · exact h.eq (upd_ne z).symm
  · have z : a ≠ p := ne_of_none h fp
    rcases e a w h with h | ⟨kvs, o, e1, h⟩
    · exact .inl (by rw [upd_ne z]; exact h)
    · exact .inr ⟨kvs, o, e1, by rw [upd_ne z]; exact h⟩

/-- an operation of two values, of one, of several: what it tells and what the layer's rule asks -/
def Op2 (R : RC) (g : D → D → Option Opd) (r : R2) : Prop := ∀ F H x y v u p Q, Le F H → RepT R F H x v → RepT R F H y u → g x y = some p → (∀ w F' H', Ext F H F' H' → OpdR R F' H' H w p → Q w H') → r v u H Q
def Op1 (R : RC) (g : D → Option Opd) (r : V → Hp → VK → Prop) : Prop := ∀ F H x v p Q, Le F H → RepT R F H x v → g x = some p → (∀ w F' H', Ext F H F' H' → OpdR R F' H' H w p → Q w H') → r v H Q
def RepTs (R : RC) (F H : Hp) : List D → List V → Prop
  | [], vs => vs = []
  | x :: xs, vs => ∃ v r, vs = v :: r ∧ RepT R F H x v ∧ RepTs R F H xs r
def OpN (R : RC) (g : List D → Option Opd) (r : List V → Hp → VK → Prop) : Prop := ∀ F H xs vs p Q, Le F H → RepTs R F H xs vs → g xs = some p → (∀ w F' H', Ext F H F' H' → OpdR R F' H' H w p → Q w H') → r vs H Q

/-- two operands, then g -/
def dOp2 (g : D → D → Option Opd) (ma mb : M Opd) : M Opd := bnd ma fun p => bnd (hold p) fun p => bnd mb fun q => bnd (rd p) fun x => bnd (rd q) fun y => opt (g x y)
def dOp1 (g : D → Option Opd) (ma : M Opd) : M Opd := bnd ma fun p => bnd (rd p) fun x => opt (g x)

theorem LE_op2 {g r ma mb σ H Q} (hg : Op2 R g r) (h : LE R W (dOp2 g ma mb) σ H Q) : tOp r (LE R W ma) (LE R W mb) σ H Q := by
  obtain ⟨F, env, ow, s, h⟩ := h
  refine LE_mono (LE_bnd s h) fun v H1 ⟨p, env1, F1, ow1, s1, st1, ok1, h⟩ => ?_
  obtain ⟨p1, e1, h⟩ := h.ofHold
  obtain ⟨F2, s2, g2, ok2⟩ := hold_ok s1 ok1 e1
  have st2 := st1.gr g2
  refine LE_mono (LE_bnd s2 (h.step s.nofU st2)) fun u H3 ⟨q, env3, F3, ow3, s3, st3, ok3, h⟩ => ?_
  obtain ⟨x, ex, h⟩ := h.ofRd
  obtain ⟨y, ey, h⟩ := h.ofRd
  obtain ⟨r', er, h⟩ := h.ofOpt'
  refine hg F3 H3 x y v u r' Q s3.le (rd_ok s3 ((ok2 (fun _ => True)).later (Fr' := fun _ => True) (holdF_n e1) st3.le) ex) (rd_ok s3 ok3 ey) er fun w F' H' xt k => ?_
  obtain ⟨k1, k2, k3⟩ := xt.fin s3 k
  exact h F' H' ow3 (st3.trans s2.nofU k1) k2 w (k3.frs fun a z => st2.frs a (st3.frs a z))
theorem LE_op1 {g r ma σ H Q} (hg : Op1 R g r) (h : LE R W (dOp1 g ma) σ H Q) : LE R W ma σ H fun x H1 => r x H1 Q := by
  obtain ⟨F, env, ow, s, h⟩ := h
  refine LE_mono (LE_bnd s h) fun v H1 ⟨p, env1, F1, ow1, s1, st1, ok1, h⟩ => ?_
  obtain ⟨x, ex, h⟩ := h.ofRd
  obtain ⟨r', er, h⟩ := h.ofOpt'
  refine hg F1 H1 x v r' Q s1.le (rd_ok s1 ok1 ex) er fun w F' H' xt k => ?_
  obtain ⟨k1, k2, k3⟩ := xt.fin s1 k
  exact h F' H' ow1 (st1.trans s.nofU k1) k2 w (k3.frs fun a z => st1.frs a z)
/-! ### the operators -/
theorem je_op {op : Operator} {g r} {a b : Expr} {ma mb : M Opd} {pos : Pos} (ho : OpR X (binaryOp op) r) (hg : Op2 R g r) (ha : PE X a (LE R W ma)) (hb : PE X b (LE R W mb)) : PE X (.BinOp a op b pos) (LE R W (dOp2 g ma mb)) :=
  wkE (pe_op ho ha hb) fun _ _ _ h => LE_op2 hg h
theorem je_cmp {op : CmpOp} {g r} {a b : Expr} {ma mb : M Opd} {pos : Pos} (ho : OpR X (compareOp op) r) (hg : Op2 R g r) (ha : PE X a (LE R W ma)) (hb : PE X b (LE R W mb)) (hm : behindInMarks op b = false) : PE X (.Compare a [op] [b] pos) (LE R W (dOp2 g ma mb)) :=
  wkE (pe_cmpR ho ha hb hm) fun _ _ _ h => LE_op2 hg h
theorem je_un {op : UnaryOp} {g r} {a : Expr} {ma : M Opd} {pos : Pos} (ho : UnR X (unaryOp op) r) (hg : Op1 R g r) (ha : PE X a (LE R W ma)) : PE X (.UnaryOp op a pos) (LE R W (dOp1 g ma)) :=
  wkE (pe_un ho ha) fun _ _ _ h => LE_op1 hg h
theorem je_ix {g r} {a b : Expr} {ma mb : M Opd} {pos : Pos} (ho : IxR X r) (hg : Op2 R g r) (ha : PE X a (LE R W ma)) (hb : PE X b (LE R W mb)) (hs : PlainIx b) : PE X (.Subscript a b pos) (LE R W (dOp2 g ma mb)) :=
  wkE (pe_ix ho ha hb hs) fun _ _ _ h => LE_op2 hg h
end

/-- an int out of ints -/
def gI (C : Int → Int → Bool) (f : Int → Int → D) : D → D → Option Opd
  | .int i, .int j => if C i j = true then some (.d (f i j)) else none
  | _, _ => none
theorem op2_I {R} {C : Int → Int → Prop} {b : Int → Int → Bool} {f : Int → Int → D} {g : Int → Int → V} (hb : ∀ i j, b i j = true → C i j) (hf : ∀ i j, cst (f i j) = some (g i j)) : Op2 R (gI b f) (rI C g) := by
  intro F H x y v u p Q le h1 h2 e q
  unfold gI at e
  split at e
  · rename_i i j
    split at e
    · rename_i c
      cases e
      have h1 : v = _ := h1
      have h2 : u = _ := h2
      exact ⟨i, j, h1, h2, hb i j c, q _ F H (.refl le) (cst_rep (hf i j))⟩
    · cases e
  · cases e
theorem op2_I0 {R} {f : Int → Int → D} {g : Int → Int → V} (hf : ∀ i j, cst (f i j) = some (g i j)) : Op2 R (gI (fun _ _ => true) f) (rI0 g) := by
  intro F H x y v u p Q le h1 h2 e q
  unfold gI at e
  split at e
  · rename_i i j
    cases e
    have h1 : v = _ := h1
    have h2 : u = _ := h2
    exact ⟨i, j, h1, h2, q _ F H (.refl le) (cst_rep (hf i j))⟩
  · cases e
/-- the one or the other, by the operands -/
def gOr (g g' : D → D → Option Opd) : D → D → Option Opd := fun x y => match g x y with
  | some p => some p
  | none => g' x y
theorem op2_or {R g g' r r'} (h : Op2 R g r) (h' : Op2 R g' r') : Op2 R (gOr g g') (fun x y H Q => r x y H Q ∨ r' x y H Q) := by
  intro F H x y v u p Q le h1 h2 e q
  unfold gOr at e
  cases e1 : g x y with
  | some p' =>
    rw [e1] at e
    cases e
    exact .inl (h F H x y v u _ Q le h1 h2 e1 q)
  | none =>
    rw [e1] at e
    exact .inr (h' F H x y v u p Q le h1 h2 e q)

def SZ : Nat := 16777216
theorem SZ_eq : SZ = sizeLine := rfl
/-- tuples, lists joined -/
def gCatT : D → D → Option Opd
  | .tup xs, .tup ys => if xs.length + ys.length ≤ SZ then some (.d (.tup (xs ++ ys))) else none
  | _, _ => none
def gCatL : D → D → Option Opd
  | .lst xs, .lst ys => if xs.length + ys.length ≤ SZ then some (.n (.lst (xs ++ ys))) else none
  | _, _ => none
theorem new_lst {R F H p vs xs} (le : Le F H) (hp : H p = none) (h : Reps R F xs vs) : Ext F H F (upd H p (.lst vs)) ∧ OpdR R F (upd H p (.lst vs)) H (.ref p) (.n (.lst xs)) := by
  obtain ⟨x, fp⟩ := Ext.newO (u := .lst vs) le hp
  refine ⟨x, fun a => a = p, ⟨p, vs, rfl, rfl, upd_same, h⟩, fun a e => ?_⟩
  cases e
  exact ⟨fp, fun z => z.no upd_same nt_lst, .of hp⟩
theorem new_tup {R F H p vs xs} (le : Le F H) (hp : H p = none) (h : Reps R F xs vs) : Ext F H (upd F p (.tup vs)) (upd H p (.tup vs)) ∧ OpdR R (upd F p (.tup vs)) (upd H p (.tup vs)) H (.ref p) (.d (.tup xs)) := by
  have x : Ext F H (upd F p (.tup vs)) (upd H p (.tup vs)) := Ext.new le hp
  exact ⟨x, p, vs, rfl, .of upd_same, h.mono (.ofEx x.st.ex)⟩
theorem op2_catL {R} : Op2 R gCatL rCat := by
  intro F H x y v u p Q le h1 h2 e q
  unfold gCatL at e
  split at e
  · rename_i xs ys
    split at e
    · rename_i c
      cases e
      obtain ⟨a, vs, rfl, a1, a2⟩ := h1
      obtain ⟨b, us, rfl, b1, b2⟩ := h2
      refine ⟨a, b, vs, us, rfl, rfl, a1, b1, by rw [a2.length, b2.length]; exact c, fun p hp => ?_⟩
      obtain ⟨k1, k2⟩ := new_lst le hp (a2.append b2)
      exact q _ _ _ k1 k2
    · cases e
  · cases e
theorem op2_catT {R : RC} : Op2 R gCatT (rCatA R.K) := by
  intro F H x y v u p Q le h1 h2 e q
  unfold gCatT at e
  split at e
  · rename_i xs ys
    split at e
    · rename_i c
      cases e
      obtain ⟨a, vs, rfl, a1, a2⟩ := h1
      obtain ⟨b, us, rfl, b1, b2⟩ := h2
      refine ⟨a, b, vs, us, rfl, rfl, le.sqT a1, le.sqT b1, by rw [a2.length, b2.length]; exact c, fun e1 => ?_, fun e1 e2 => ?_, fun _ _ p hp => ?_⟩
      · subst e1
        have : xs = [] := List.length_eq_zero_iff.mp (by rw [← a2.length]; rfl)
        subst this
        exact q _ F H (.refl le) ⟨b, us, rfl, b1, b2⟩
      · subst e2
        have : ys = [] := List.length_eq_zero_iff.mp (by rw [← b2.length]; rfl)
        subst this
        refine q _ F H (.refl le) ?_
        rw [List.append_nil]
        exact ⟨a, vs, rfl, a1, a2⟩
      · obtain ⟨k1, k2⟩ := new_tup le hp (a2.append b2)
        exact q _ _ _ k1 k2
    · cases e
  · cases e

section
variable {X : Cx} {R : RC} {W : WX} {a b : Expr} {ma mb : M Opd} {pos : Pos}
def fAdd : D → D → Option Opd := gOr (gI (fun _ _ => true) fun i j => .int (i + j)) (gOr gCatT gCatL)
theorem je_add (ha : PE X a (LE R W ma)) (hb : PE X b (LE R W mb)) (hK : X.K = R.K := by rfl) : PE X (.BinOp a .Add b pos) (LE R W (dOp2 fAdd ma mb)) :=
  je_op (OpR.or op_add (OpR.or op_catA op_cat)) (op2_or (op2_I0 fun _ _ => rfl) (op2_or (hK ▸ op2_catT) op2_catL)) ha hb
def fSub : D → D → Option Opd := gI (fun _ _ => true) fun i j => .int (i - j)
theorem je_sub (ha : PE X a (LE R W ma)) (hb : PE X b (LE R W mb)) : PE X (.BinOp a .Sub b pos) (LE R W (dOp2 fSub ma mb)) := je_op op_sub (op2_I0 fun _ _ => rfl) ha hb
/-- products: one factor short, or both together below a million bits -/
def okMul (i j : Int) : Bool := decide (i.natAbs < 2 ^ 64) || decide (j.natAbs < 2 ^ 64) || decide (i.natAbs.log2 + j.natAbs.log2 < 1000000)
def fMul : D → D → Option Opd := gI okMul fun i j => .int (i * j)
theorem op_mulA : OpR X (binaryOp .Mult) (rI (fun i j => CMul i j ∨ CMulW i j) fun i j => .int (i * j)) :=
  opI fun i j _ _ _ _ _ hc q => mul_int q (hc.elim CMul.ok CMulW.ok)
theorem je_mul (ha : PE X a (LE R W ma)) (hb : PE X b (LE R W mb)) : PE X (.BinOp a .Mult b pos) (LE R W (dOp2 fMul ma mb)) :=
  je_op op_mulA (op2_I (fun i j h => by
    unfold okMul at h
    simp only [Bool.or_eq_true, decide_eq_true_eq] at h
    rcases h with (h | h) | h
    · exact .inl (.inl ⟨by omega, by omega⟩)
    · exact .inl (.inr ⟨by omega, by omega⟩)
    · exact .inr h) fun _ _ => rfl) ha hb
def okDiv (_ j : Int) : Bool := decide (0 < j) && decide (j.natAbs.log2 < 9000)
/-- floors, by a divisor below zero too -/
def fDiv : D → D → Option Opd
  | .int i, .int j => if okDiv i j = true then some (.d (.int (i / j))) else if decide (j < 0) && decide (j.natAbs.log2 < 9000) then some (.d (.int (i.fdiv j))) else none
  | _, _ => none
theorem op_fdivA : OpR X (binaryOp .FloorDiv) (rI (fun _ j => j ≠ 0 ∧ j.natAbs.log2 < 9000) fun i j => .int (i.fdiv j)) := opI fun _ _ _ _ _ _ _ hc q => floordiv_int hc.1 q (.inl (PyProof.noPylong_of_log2 hc.2))
theorem op2_fdiv {R : RC} : Op2 R fDiv (rI (fun _ j => j ≠ 0 ∧ j.natAbs.log2 < 9000) fun i j => .int (i.fdiv j)) := by
  intro F H x y v u p Q le h1 h2 e q
  unfold fDiv at e
  split at e
  · rename_i i j
    have h1 : v = _ := h1
    have h2 : u = _ := h2
    subst h1 h2
    refine ⟨i, j, rfl, rfl, ?_⟩
    split at e
    · rename_i c
      cases e
      unfold okDiv at c
      simp only [Bool.and_eq_true, decide_eq_true_eq] at c
      refine ⟨⟨by omega, c.2⟩, ?_⟩
      show Q (.int (i.fdiv j)) H
      rw [Int.fdiv_eq_ediv_of_nonneg i (show 0 ≤ j by omega)]
      exact q _ F H (.refl le) rfl
    · split at e
      · rename_i c
        cases e
        simp only [Bool.and_eq_true, decide_eq_true_eq] at c
        exact ⟨⟨by omega, c.2⟩, q _ F H (.refl le) rfl⟩
      · cases e
  · cases e
theorem je_div (ha : PE X a (LE R W ma)) (hb : PE X b (LE R W mb)) : PE X (.BinOp a .FloorDiv b pos) (LE R W (dOp2 fDiv ma mb)) :=
  je_op op_fdivA op2_fdiv ha hb
def fMod : D → D → Option Opd := gI (fun _ j => decide (0 < j)) fun i j => .int (i % j)
theorem je_mod (ha : PE X a (LE R W ma)) (hb : PE X b (LE R W mb)) : PE X (.BinOp a .Mod b pos) (LE R W (dOp2 fMod ma mb)) :=
  je_op op_mod (op2_I (fun i j h => of_decide_eq_true h) fun _ _ => rfl) ha hb
def fPow : D → D → Option Opd := gI (fun i j => decide (0 ≤ j) && (decide (j ≤ 1000000) && decide (i.natAbs < 2 ^ 64))) fun i j => .int (i ^ j.toNat)
theorem je_pow (ha : PE X a (LE R W ma)) (hb : PE X b (LE R W mb)) : PE X (.BinOp a .Pow b pos) (LE R W (dOp2 fPow ma mb)) :=
  je_op op_pow (op2_I (fun i j h => by
    simp only [Bool.and_eq_true, decide_eq_true_eq] at h
    exact ⟨h.1, h.2.1, h.2.2⟩) fun _ _ => rfl) ha hb
def fNeg : D → Option Opd
  | .int i => some (.d (.int (-i)))
  | _ => none
theorem je_neg (ha : PE X a (LE R W ma)) : PE X (.UnaryOp .USub a pos) (LE R W (dOp1 fNeg ma)) := je_un un_neg (fun F H x v p Q le h e q => by
  unfold fNeg at e
  split at e
  · rename_i i
    cases e
    have h : v = _ := h
    exact ⟨i, h, q _ F H (.refl le) rfl⟩
  · cases e) ha

/-! ### comparisons -/
def fLt : D → D → Option Opd := gI (fun _ _ => true) fun i j => .bl (decide (i < j))
def fLe : D → D → Option Opd := gI (fun _ _ => true) fun i j => .bl (decide (i ≤ j))
def fGt : D → D → Option Opd := gI (fun _ _ => true) fun i j => .bl (decide (j < i))
def fGe : D → D → Option Opd := gI (fun _ _ => true) fun i j => .bl (decide (j ≤ i))
theorem je_lt (ha : PE X a (LE R W ma)) (hb : PE X b (LE R W mb)) : PE X (.Compare a [.Lt] [b] pos) (LE R W (dOp2 fLt ma mb)) := je_cmp op_lt (op2_I0 fun _ _ => rfl) ha hb (nomark _)
theorem je_le (ha : PE X a (LE R W ma)) (hb : PE X b (LE R W mb)) : PE X (.Compare a [.LtE] [b] pos) (LE R W (dOp2 fLe ma mb)) := je_cmp op_le (op2_I0 fun _ _ => rfl) ha hb (nomark _)
theorem je_gt (ha : PE X a (LE R W ma)) (hb : PE X b (LE R W mb)) : PE X (.Compare a [.Gt] [b] pos) (LE R W (dOp2 fGt ma mb)) := je_cmp op_gt (op2_I0 fun _ _ => rfl) ha hb (nomark _)
theorem je_ge (ha : PE X a (LE R W ma)) (hb : PE X b (LE R W mb)) : PE X (.Compare a [.GtE] [b] pos) (LE R W (dOp2 fGe ma mb)) := je_cmp op_ge (op2_I0 fun _ _ => rfl) ha hb (nomark _)

/-! data as the library's data -/
mutual
def toP : D → Option PyData
  | .non => some .none
  | .bl b => some (.bool b)
  | .int i => some (.int i)
  | .str x => some (.str x)
  | .tup xs => (toPs xs).map .tuple
  | .lst xs => (toPs xs).map .list
  | .rol xs => (toPs xs).map .list
  | _ => none
def toPs : List D → Option (List PyData)
  | [] => some []
  | x :: xs => match toP x, toPs xs with
    | some d, some ds => some (d :: ds)
    | _, _ => none
end
mutual
theorem toP_ok {F : Hp} : ∀ {d : D} {v : V} {p : PyData}, Rep R F d v → toP d = some p → Dp R.K F v p
  | .non, v, p, h, e => by
    have h : v = _ := h
    subst h; cases e; exact .non
  | .bl _, v, p, h, e => by
    have h : v = _ := h
    subst h; cases e; exact .bl _
  | .int _, v, p, h, e => by
    have h : v = _ := h
    subst h; cases e; exact .int _
  | .str _, v, p, h, e => by
    have h : v = _ := h
    subst h; cases e; exact .str _
  | .tup xs, v, p, h, e => by
    obtain ⟨a, vs, rfl, h1, h2⟩ := h
    obtain ⟨ds, e1, rfl⟩ := Option.map_eq_some_iff.mp e
    exact .tup h1 (toPs_ok h2 e1)
  | .lst xs, v, p, h, e => by
    obtain ⟨a, vs, rfl, h1, h2⟩ := h
    obtain ⟨ds, e1, rfl⟩ := Option.map_eq_some_iff.mp e
    exact .lst (.of h1) (toPs_ok h2 e1)
  | .rol xs, v, p, h, e => by
    obtain ⟨a, vs, rfl, h1, h2⟩ := h
    obtain ⟨ds, e1, rfl⟩ := Option.map_eq_some_iff.mp e
    exact .lst h1 (toPs_ok h2 e1)
  | .dic _, _, _, _, e => by cases e
  | .exc _ _, _, _, _, e => by cases e
  | .clo _, _, _, _, e => by cases e
theorem toPs_ok {F : Hp} : ∀ {d : List D} {v : List V} {p : List PyData}, Reps R F d v → toPs d = some p → DpAll R.K F v p
  | [], v, p, h, e => by
    have h : v = _ := h
    subst h; cases e; exact .nil
  | x :: xs, v, p, h, e => by
    obtain ⟨w, r, rfl, h1, h2⟩ := h
    unfold toPs at e
    split at e
    · rename_i d ds e1 e2
      cases e
      exact .cons (toP_ok h1 e1) (toPs_ok h2 e2)
    · cases e
end
def gEq (neg : Bool) : D → D → Option Opd := fun x y => match toP x, toP y with
  | some d, some e => if SeqAt.shaped d = true ∧ SeqAt.shaped e = true then some (.d (.bl (if neg then !PyData.eqv d e else PyData.eqv d e))) else none
  | _, _ => none
theorem op2_eq : Op2 R (gEq false) (rEqD R.K) := by
  intro F H x y v u p Q le h1 h2 e q
  unfold gEq at e
  split at e
  · rename_i d e' e1 e2
    split at e
    · rename_i c
      cases e
      exact ⟨d, e', toP_ok (h1.rep le) e1, toP_ok (h2.rep le) e2, c.1, c.2, q _ F H (.refl le) rfl⟩
    · cases e
  · cases e
theorem op2_ne : Op2 R (gEq true) (rNeD R.K) := by
  intro F H x y v u p Q le h1 h2 e q
  unfold gEq at e
  split at e
  · rename_i d e' e1 e2
    split at e
    · rename_i c
      cases e
      exact ⟨d, e', toP_ok (h1.rep le) e1, toP_ok (h2.rep le) e2, c.1, c.2, q _ F H (.refl le) rfl⟩
    · cases e
  · cases e
theorem je_eq (hu : X.A.units + 64 < cLine) (ha : PE X a (LE R W ma)) (hb : PE X b (LE R W mb)) (hK : X.K = R.K := by rfl) : PE X (.Compare a [.Eq] [b] pos) (LE R W (dOp2 (gEq false) ma mb)) := je_cmp (op_eqD hu) (hK ▸ op2_eq) ha hb (nomark _)
theorem je_ne (hu : X.A.units + 64 < cLine) (ha : PE X a (LE R W ma)) (hb : PE X b (LE R W mb)) (hK : X.K = R.K := by rfl) : PE X (.Compare a [.NotEq] [b] pos) (LE R W (dOp2 (gEq true) ma mb)) := je_cmp (op_neD hu) (hK ▸ op2_ne) ha hb (nomark _)

/-- is None, is not None; is True, is not True -/
def isNon : D → Bool
  | .non => true
  | _ => false
def gIs (neg : Bool) : D → D → Option Opd
  | x, .non => some (.d (.bl (if neg then !isNon x else isNon x)))
  | .bl a, .bl b => some (.d (.bl (if neg then !decide (a = b) else decide (a = b))))
  | _, _ => none
theorem rep_non {F H d v} (h : RepT R F H d v) : decide (v = V.non) = isNon d := by
  cases d <;> first
    | (have h : v = _ := h; subst h; rfl)
    | (obtain ⟨_, _, h, _⟩ := h; subst h; rfl)
    | (obtain ⟨_, _, _, h, _⟩ := h; subst h; rfl)
    | (obtain ⟨_, h, _⟩ := h; subst h; rfl)
theorem op2_is : Op2 R (gIs false) (fun x y H Q => (y = V.non ∧ Q (.bl (decide (x = .non))) H) ∨ rIsB x y H Q) := by
  intro F H x y v u p Q le h1 h2 e q
  unfold gIs at e
  split at e
  · cases e
    have h2 : u = _ := h2
    refine .inl ⟨h2, ?_⟩
    rw [rep_non h1]
    exact q _ F H (.refl le) rfl
  · rename_i a b
    cases e
    have h1 : v = _ := h1
    have h2 : u = _ := h2
    exact .inr ⟨a, b, h1, h2, q _ F H (.refl le) rfl⟩
  · cases e
theorem op2_isnot : Op2 R (gIs true) (fun x y H Q => (y = V.non ∧ Q (.bl (!decide (x = .non))) H) ∨ rNotB x y H Q) := by
  intro F H x y v u p Q le h1 h2 e q
  unfold gIs at e
  split at e
  · cases e
    have h2 : u = _ := h2
    refine .inl ⟨h2, ?_⟩
    rw [rep_non h1]
    exact q _ F H (.refl le) rfl
  · rename_i a b
    cases e
    have h1 : v = _ := h1
    have h2 : u = _ := h2
    exact .inr ⟨a, b, h1, h2, q _ F H (.refl le) rfl⟩
  · cases e
theorem je_is (ha : PE X a (LE R W ma)) (hb : PE X b (LE R W mb)) : PE X (.Compare a [.Is] [b] pos) (LE R W (dOp2 (gIs false) ma mb)) := je_cmp (OpR.or op_isN op_isBl) op2_is ha hb (nomark _)
theorem je_isnot (ha : PE X a (LE R W ma)) (hb : PE X b (LE R W mb)) : PE X (.Compare a [.IsNot] [b] pos) (LE R W (dOp2 (gIs true) ma mb)) := je_cmp (OpR.or op_notN op_notBl) op2_isnot ha hb (nomark _)
end
end Dv
set_option Elab.async false
set_option linter.all false
set_option maxRecDepth 100000
set_option maxHeartbeats 4000000
/-! Dv3: tests, and/or/not, displays, argument lists, calls of defs, statements, the rule of a def. -/
namespace Dv
open PySem PySem.Spec PyProof.Rows L2
variable [TabC]

def KB (Q : Bool → Hp → Prop) : KT Bool := fun b _ _ H' _ => Q b H'
/-- a test's reading -/
def LT (R : RC) (W : WX) (m : M Bool) : TT := fun σ H Q => ∃ F env ow, SR R F H σ env ow ∧ Post R W σ F H ow (KB Q) (m env)
def truth : D → Option Bool
  | .bl b => some b
  | .int i => some (i != 0)
  | .non => some false
  | .str x => if x.length ≤ SZ then some ((x.length : Int) != 0) else none
  | .tup xs => some (!xs.isEmpty)
  | .lst xs => some (!xs.isEmpty)
  | .rol xs => some (!xs.isEmpty)
  | _ => none
def dTru (m : M Opd) : M Bool := bnd m fun p => bnd (rd p) fun x => opt (truth x)
/-- a value that must be a bool -/
def tobl : D → Option Bool
  | .bl b => some b
  | _ => none
def dBl (m : M Opd) : M Bool := bnd m fun p => bnd (rd p) fun x => opt (tobl x)

theorem isEmpty_reps {R F} {xs : List D} {vs : List V} (h : Reps R F xs vs) : (!vs.isEmpty) = !xs.isEmpty := by
  cases xs with
  | nil =>
    have h : vs = [] := h
    subst h; rfl
  | cons x r =>
    obtain ⟨v, r', rfl, _⟩ := h
    rfl
section
variable {X : Cx} {R : RC} {W : WX} {a b c : Expr} {ma mb mc : M Opd} {ta tb : M Bool} {pos : Pos} {rest : List Expr}
theorem tru_of {F H d v k} (le : Le F H) (h : RepT R F H d v) (e : truth d = some k) : TruV R.K v H k := by
  unfold TruV
  cases d with
  | non =>
    have h : v = _ := h
    subst h; cases e; rfl
  | bl b =>
    have h : v = _ := h
    subst h; cases e; rfl
  | int i =>
    have h : v = _ := h
    subst h; cases e; rfl
  | str x =>
    have h : v = _ := h
    subst h
    have e : (if x.length ≤ SZ then some ((x.length : Int) != 0) else none) = some k := e
    by_cases c : x.length ≤ SZ
    · rw [if_pos c] at e
      cases e
      exact ⟨c, rfl⟩
    · rw [if_neg c] at e
      cases e
  | tup xs =>
    obtain ⟨a, vs, rfl, h1, h2⟩ := h
    cases e
    exact .inr (.inl ⟨vs, le.sqT h1, (isEmpty_reps h2).symm⟩)
  | lst xs =>
    obtain ⟨a, vs, rfl, h1, h2⟩ := h
    cases e
    exact .inl ⟨vs, .of h1, (isEmpty_reps h2).symm⟩
  | rol xs =>
    obtain ⟨a, vs, rfl, h1, h2⟩ := h
    cases e
    exact .inl ⟨vs, le.sqL h1, (isEmpty_reps h2).symm⟩
  | dic ks => cases e
  | exc c fs => cases e
  | clo k => cases e
theorem jt_tru (ha : PE X a (LE R W ma)) (he : ∀ whole, isTrue a X.env whole = (do let v ← whole; standAt a.pos; holding [v] (truthy v)) := by intro _; rfl) (hK : X.K = R.K := by rfl) : PT X a (LT R W (dTru ma)) := by
  refine wkT (pt_truth ha he) fun σ H Q ⟨F, env, ow, s, h⟩ => ?_
  refine LE_mono (LE_bnd s h) fun v H1 ⟨p, env1, F1, ow1, s1, st1, ok1, h⟩ => ?_
  obtain ⟨x, ex, h⟩ := h.ofRd
  obtain ⟨k, ek, h⟩ := h.ofOpt'
  exact ⟨k, hK ▸ tru_of s1.le (rd_ok s1 ok1 ex) ek, h F1 H1 ow1 st1 s1⟩
/-- a comparison as a test -/
theorem LT_bl {m : M Opd} {σ H} {Q : Bool → Hp → Prop} (h : LT R W (dBl m) σ H Q) : LE R W m σ H fun x H1 => ∃ k, x = .bl k ∧ Q k H1 := by
  obtain ⟨F, env, ow, s, h⟩ := h
  refine LE_mono (LE_bnd s h) fun v H1 ⟨p, env1, F1, ow1, s1, st1, ok1, h⟩ => ?_
  obtain ⟨x, ex, h⟩ := h.ofRd
  obtain ⟨k, ek, h⟩ := h.ofOpt'
  have r := rd_ok s1 ok1 ex
  cases x <;> cases ek
  have r : v = _ := r
  exact ⟨k, r, h F1 H1 ow1 st1 s1⟩
theorem jt_cmp {op : CmpOp} {g r} (ho : OpR X (compareOp op) r) (hg : Op2 R g r) (ha : PE X a (LE R W ma)) (hb : PE X b (LE R W mb)) (hm : behindInMarks op b = false) : PT X (.Compare a [op] [b] pos) (LT R W (dBl (dOp2 g ma mb))) := by
  refine wkT (pt_cmpR ho ha hb hm) fun σ H Q h => ?_
  have h := LT_bl h
  exact LE_op2 hg h
theorem jt_lt (ha : PE X a (LE R W ma)) (hb : PE X b (LE R W mb)) : PT X (.Compare a [.Lt] [b] pos) (LT R W (dBl (dOp2 fLt ma mb))) := jt_cmp op_lt (op2_I0 fun _ _ => rfl) ha hb (nomark _)
theorem jt_le (ha : PE X a (LE R W ma)) (hb : PE X b (LE R W mb)) : PT X (.Compare a [.LtE] [b] pos) (LT R W (dBl (dOp2 fLe ma mb))) := jt_cmp op_le (op2_I0 fun _ _ => rfl) ha hb (nomark _)
theorem jt_gt (ha : PE X a (LE R W ma)) (hb : PE X b (LE R W mb)) : PT X (.Compare a [.Gt] [b] pos) (LT R W (dBl (dOp2 fGt ma mb))) := jt_cmp op_gt (op2_I0 fun _ _ => rfl) ha hb (nomark _)
theorem jt_ge (ha : PE X a (LE R W ma)) (hb : PE X b (LE R W mb)) : PT X (.Compare a [.GtE] [b] pos) (LT R W (dBl (dOp2 fGe ma mb))) := jt_cmp op_ge (op2_I0 fun _ _ => rfl) ha hb (nomark _)
theorem jt_eq (hu : X.A.units + 64 < cLine) (ha : PE X a (LE R W ma)) (hb : PE X b (LE R W mb)) (hK : X.K = R.K := by rfl) : PT X (.Compare a [.Eq] [b] pos) (LT R W (dBl (dOp2 (gEq false) ma mb))) := jt_cmp (op_eqD hu) (hK ▸ op2_eq) ha hb (nomark _)
theorem jt_ne (hu : X.A.units + 64 < cLine) (ha : PE X a (LE R W ma)) (hb : PE X b (LE R W mb)) (hK : X.K = R.K := by rfl) : PT X (.Compare a [.NotEq] [b] pos) (LT R W (dBl (dOp2 (gEq true) ma mb))) := jt_cmp (op_neD hu) (hK ▸ op2_ne) ha hb (nomark _)
theorem jt_is (ha : PE X a (LE R W ma)) (hb : PE X b (LE R W mb)) : PT X (.Compare a [.Is] [b] pos) (LT R W (dBl (dOp2 (gIs false) ma mb))) := jt_cmp (OpR.or op_isN op_isBl) op2_is ha hb (nomark _)
theorem jt_isnot (ha : PE X a (LE R W ma)) (hb : PE X b (LE R W mb)) : PT X (.Compare a [.IsNot] [b] pos) (LT R W (dBl (dOp2 (gIs true) ma mb))) := jt_cmp (OpR.or op_notN op_notBl) op2_isnot ha hb (nomark _)

/-! ### chains: a op1 b op2 c -/
def dChain (g g' : D → D → Option Opd) (ma mb mc : M Opd) : M Opd := bnd ma fun p => bnd (hold p) fun p => bnd mb fun q => bnd (hold q) fun q => bnd (rd p) fun x => bnd (rd q) fun y =>
  match g x y with
  | some (.d (.bl true)) => bnd mc fun r => bnd (rd q) fun y => bnd (rd r) fun z => opt (g' y z)
  | some (.d (.bl false)) => pur (.d (.bl false))
  | _ => nop
theorem LE_chain {g g' r r' σ H Q} (hg : Op2 R g r) (hg' : Op2 R g' r') (h : LE R W (dChain g g' ma mb mc) σ H Q) : tChain r r' (LE R W ma) (LE R W mb) (LE R W mc) σ H Q := by
  obtain ⟨F, env, ow, s, h⟩ := h
  refine LE_mono (LE_bnd s h) fun v H1 ⟨p, env1, F1, ow1, s1, st1, ok1, h⟩ => ?_
  obtain ⟨p1, e1, h⟩ := h.ofHold
  obtain ⟨F2, s2, g2, ok2⟩ := hold_ok s1 ok1 e1
  have st2 := st1.gr g2
  refine LE_mono (LE_bnd s2 (h.step s.nofU st2)) fun u H3 ⟨q, env3, F3, ow3, s3, st3, ok3, h⟩ => ?_
  obtain ⟨q1, e3, h⟩ := h.ofHold
  obtain ⟨F4, s4, g4, ok4⟩ := hold_ok s3 ok3 e3
  have st4 := st3.gr g4
  obtain ⟨x, ex, h⟩ := h.ofRd
  obtain ⟨y, ey, h⟩ := h.ofRd
  have tx := rd_ok s4 ((ok2 (fun _ => True)).later (Fr' := fun _ => True) (holdF_n e1) st4.le) ex
  have ty := rd_ok s4 (ok4 fun _ => True) ey
  cases e : g x y with
  | none => rw [e] at h; exact h.elim
  | some r0 =>
    rw [e] at h
    cases r0 with
    | s i => exact h.elim
    | n o => exact h.elim
    | d z =>
      cases z with
      | bl k =>
        refine hg F4 H3 x y v u _ _ s4.le tx ty e fun w F' H' xt kk => ?_
        obtain ⟨k1, k2, k3⟩ := xt.fin s4 kk
        have kk : w = .bl k := kk
        refine ⟨k, kk, ?_⟩
        have st5 := st4.trans s2.nofU k1
        cases k with
        | false => exact iteF (h F' H' ow3 st5 k2 (.bl false) rfl)
        | true =>
          refine iteT ?_
          refine LE_mono (LE_bnd k2 (h.step s2.nofU st5)) fun z H6 ⟨r1, env6, F6, ow6, s6, st6, ok6, h⟩ => ?_
          obtain ⟨y', ey', h⟩ := h.ofRd
          obtain ⟨z', ez', h⟩ := h.ofRd
          obtain ⟨p', ep', h⟩ := h.ofOpt'
          refine hg' F6 H6 y' z' u z p' Q s6.le (rd_ok s6 ((ok4 (fun _ => True)).later (Fr' := fun _ => True) (holdF_n e3) ((Le.ofEx k1.ex).trans_ex st6.le)) ey') (rd_ok s6 ok6 ez') ep' fun w' F7 H7 xt7 kk7 => ?_
          obtain ⟨j1, j2, j3⟩ := xt7.fin s6 kk7
          exact h F7 H7 ow6 (st6.trans k2.nofU j1) j2 w' (j3.frs fun a z => st2.frs a (st5.frs a (st6.frs a z)))
      | _ => exact h.elim
theorem je_chain {op op' : CmpOp} {g g' r r'} (ho : OpR X (compareOp op) r) (ho' : OpR X (compareOp op') r') (hg : Op2 R g r) (hg' : Op2 R g' r') (ha : PE X a (LE R W ma)) (hb : PE X b (LE R W mb)) (hc : PE X c (LE R W mc))
    (hm : lastMarks [op, op'] [b, c] = false := by with_unfolding_all rfl) : PE X (.Compare a [op, op'] [b, c] pos) (LE R W (dChain g g' ma mb mc)) := wkE (pe_chain ho ho' ha hb hc hm) fun _ _ _ h => LE_chain hg hg' h
theorem jt_chain {op op' : CmpOp} {g g' r r'} (ho : OpR X (compareOp op) r) (ho' : OpR X (compareOp op') r') (hg : Op2 R g r) (hg' : Op2 R g' r') (ha : PE X a (LE R W ma)) (hb : PE X b (LE R W mb)) (hc : PE X c (LE R W mc))
    (hm : lastMarks [op, op'] [b, c] = false := by with_unfolding_all rfl) : PT X (.Compare a [op, op'] [b, c] pos) (LT R W (dBl (dChain g g' ma mb mc))) := wkT (pt_chain ho ho' ha hb hc hm) fun _ _ _ h => LE_chain hg hg' (LT_bl h)
theorem je_lele (ha : PE X a (LE R W ma)) (hb : PE X b (LE R W mb)) (hc : PE X c (LE R W mc)) (hm : lastMarks [.LtE, .LtE] [b, c] = false := by with_unfolding_all rfl) : PE X (.Compare a [.LtE, .LtE] [b, c] pos) (LE R W (dChain fLe fLe ma mb mc)) :=
  je_chain op_le op_le (op2_I0 fun _ _ => rfl) (op2_I0 fun _ _ => rfl) ha hb hc hm
theorem jt_lele (ha : PE X a (LE R W ma)) (hb : PE X b (LE R W mb)) (hc : PE X c (LE R W mc)) (hm : lastMarks [.LtE, .LtE] [b, c] = false := by with_unfolding_all rfl) : PT X (.Compare a [.LtE, .LtE] [b, c] pos) (LT R W (dBl (dChain fLe fLe ma mb mc))) :=
  jt_chain op_le op_le (op2_I0 fun _ _ => rfl) (op2_I0 fun _ _ => rfl) ha hb hc hm
theorem je_ltlt (ha : PE X a (LE R W ma)) (hb : PE X b (LE R W mb)) (hc : PE X c (LE R W mc)) (hm : lastMarks [.Lt, .Lt] [b, c] = false := by with_unfolding_all rfl) : PE X (.Compare a [.Lt, .Lt] [b, c] pos) (LE R W (dChain fLt fLt ma mb mc)) :=
  je_chain op_lt op_lt (op2_I0 fun _ _ => rfl) (op2_I0 fun _ _ => rfl) ha hb hc hm
theorem jt_ltlt (ha : PE X a (LE R W ma)) (hb : PE X b (LE R W mb)) (hc : PE X c (LE R W mc)) (hm : lastMarks [.Lt, .Lt] [b, c] = false := by with_unfolding_all rfl) : PT X (.Compare a [.Lt, .Lt] [b, c] pos) (LT R W (dBl (dChain fLt fLt ma mb mc))) :=
  jt_chain op_lt op_lt (op2_I0 fun _ _ => rfl) (op2_I0 fun _ _ => rfl) ha hb hc hm

/-! ### and, or, not -/
theorem LT_bnd {α} {m : M Bool} {f : Bool → M α} {σ F H env ow} {K : KT α} (s : SR R F H σ env ow) (h : Post R W σ F H ow K (bnd m f env)) :
    LT R W m σ H fun b H1 => ∃ env1 F1 ow1, SR R F1 H1 σ env1 ow1 ∧ Step F H (un ow) F1 H1 (un ow1) ∧ Post R W σ F H ow K (f b env1) :=
  ⟨F, env, ow, s, h.fst.mono fun b env1 F1 H1 ow1 st sr k => ⟨env1, F1, ow1, sr, st, k⟩⟩
theorem LT_mono {m : M Bool} {σ H} {Q Q' : Bool → Hp → Prop} (h : LT R W m σ H Q) (q : ∀ v H', Q v H' → Q' v H') : LT R W m σ H Q' := by
  obtain ⟨F, env, ow, s, h⟩ := h
  exact ⟨F, env, ow, s, h.mono fun _ _ _ _ _ _ _ k => q _ _ k⟩
def dAnd (ta tb : M Bool) : M Bool := bnd ta fun b => if b = true then tb else pur false
def dOr (ta tb : M Bool) : M Bool := bnd ta fun b => if b = true then pur true else tb
def dNot (ta : M Bool) : M Bool := bnd ta fun b => pur (!b)
theorem LT_and {σ H} {Q : Bool → Hp → Prop} (h : LT R W (dAnd ta tb) σ H Q) : tAnd (LT R W ta) (LT R W tb) σ H Q := by
  obtain ⟨F, env, ow, s, h⟩ := h
  refine LT_mono (LT_bnd s h) fun b H1 ⟨env1, F1, ow1, s1, st1, h⟩ => ?_
  cases b with
  | true => exact iteT ⟨F1, env1, ow1, s1, h.step s.nofU st1⟩
  | false => exact iteF (h F1 H1 ow1 st1 s1)
theorem LT_or {σ H} {Q : Bool → Hp → Prop} (h : LT R W (dOr ta tb) σ H Q) : tOr (LT R W ta) (LT R W tb) σ H Q := by
  obtain ⟨F, env, ow, s, h⟩ := h
  refine LT_mono (LT_bnd s h) fun b H1 ⟨env1, F1, ow1, s1, st1, h⟩ => ?_
  cases b with
  | true => exact iteT (h F1 H1 ow1 st1 s1)
  | false => exact iteF ⟨F1, env1, ow1, s1, h.step s.nofU st1⟩
theorem wkW {X e t t'} (h : PW X e t) (i : ∀ σ H Q, t' σ H Q → t σ H Q) : PW X e t' := ⟨fun wh pins s σ H Q I q => h.run wh pins s σ H Q I (i σ H Q q)⟩
theorem jw_and1 (ha : PT X a (LT R W ta)) : PW X (.BoolOp .And [a] pos) (LT R W ta) := pw_and1 ha
theorem jw_or1 (ha : PT X a (LT R W ta)) : PW X (.BoolOp .Or [a] pos) (LT R W ta) := pw_or1 ha
theorem jw_and (ha : PT X a (LT R W ta)) (hb : PW X (.BoolOp .And (b :: rest) pos) (LT R W tb)) : PW X (.BoolOp .And (a :: b :: rest) pos) (LT R W (dAnd ta tb)) := wkW (pw_and ha hb) fun _ _ _ => LT_and
theorem jw_or (ha : PT X a (LT R W ta)) (hb : PW X (.BoolOp .Or (b :: rest) pos) (LT R W tb)) : PW X (.BoolOp .Or (a :: b :: rest) pos) (LT R W (dOr ta tb)) := wkW (pw_or ha hb) fun _ _ _ => LT_or
theorem jt_not (ha : PT X a (LT R W ta)) : PT X (.UnaryOp .Not a pos) (LT R W (dNot ta)) := wkT (pt_not ha) fun σ H Q ⟨F, env, ow, s, h⟩ => LT_mono (LT_bnd s h) fun b H1 ⟨env1, F1, ow1, s1, st1, h⟩ => h F1 H1 ow1 st1 s1
/-- as values: all but the last a bool -/
def dAndV (ma mb : M Opd) : M Opd := bnd (dBl ma) fun b => if b = true then mb else pur (.d (.bl false))
def dOrV (ma mb : M Opd) : M Opd := bnd (dBl ma) fun b => if b = true then pur (.d (.bl true)) else mb
def dNotV (ta : M Opd) : M Opd := bnd ta fun p => bnd (rd p) fun x => bnd (opt (truth x)) fun b => pur (Opd.d (.bl (!b)))
theorem LE_andV {σ H Q} (h : LE R W (dAndV ma mb) σ H Q) : tAndV (LE R W ma) (LE R W mb) σ H Q := by
  obtain ⟨F, env, ow, s, h⟩ := h
  refine LE_mono (LT_bl (LT_bnd s h)) fun x H1 ⟨k, e, env1, F1, ow1, s1, st1, h⟩ => ⟨k, e, ?_⟩
  cases k with
  | true => exact iteT ⟨F1, env1, ow1, s1, (h.step s.nofU st1).mono fun p e' F' H' ow' st' _ kk v ok => kk v (ok.frs fun a z => st1.frs a z)⟩
  | false => exact iteF (h F1 H1 ow1 st1 s1 (.bl false) rfl)
theorem LE_orV {σ H Q} (h : LE R W (dOrV ma mb) σ H Q) : tOrV (LE R W ma) (LE R W mb) σ H Q := by
  obtain ⟨F, env, ow, s, h⟩ := h
  refine LE_mono (LT_bl (LT_bnd s h)) fun x H1 ⟨k, e, env1, F1, ow1, s1, st1, h⟩ => ⟨k, e, ?_⟩
  cases k with
  | true => exact iteT (h F1 H1 ow1 st1 s1 (.bl true) rfl)
  | false => exact iteF ⟨F1, env1, ow1, s1, (h.step s.nofU st1).mono fun p e' F' H' ow' st' _ kk v ok => kk v (ok.frs fun a z => st1.frs a z)⟩
theorem je_one {op} (h : PE X a (LE R W ma)) : PE X (.BoolOp op [a] pos) (LE R W ma) := pe_one h
theorem je_and (ha : PE X a (LE R W ma)) (hb : PE X (.BoolOp .And (b :: rest) pos) (LE R W mb)) : PE X (.BoolOp .And (a :: b :: rest) pos) (LE R W (dAndV ma mb)) := wkE (pe_and ha hb) fun _ _ _ => LE_andV
theorem je_or (ha : PE X a (LE R W ma)) (hb : PE X (.BoolOp .Or (b :: rest) pos) (LE R W mb)) : PE X (.BoolOp .Or (a :: b :: rest) pos) (LE R W (dOrV ma mb)) := wkE (pe_or ha hb) fun _ _ _ => LE_orV
theorem je_not (ha : PE X a (LE R W ma)) (hK : X.K = R.K := by rfl) : PE X (.UnaryOp .Not a pos) (LE R W (dNotV ma)) := wkE (pe_notT ha) fun σ H Q ⟨F, env, ow, s, h⟩ => by
  refine LE_mono (LE_bnd s h) fun v H1 ⟨p, env1, F1, ow1, s1, st1, ok1, h⟩ => ?_
  obtain ⟨x, ex, h⟩ := h.ofRd
  obtain ⟨k, ek, h⟩ := h.ofOpt
  exact ⟨k, hK ▸ tru_of s1.le (rd_ok s1 ok1 ex) ek, h F1 H1 ow1 st1 s1 (.bl (!k)) rfl⟩
/-- a if t else b -/
def dIf {α} (t : M Bool) (ma mb : M α) : M α := bnd t fun k => if k = true then ma else mb
theorem je_if (hc : PT X c (LT R W ta)) (ha : PE X a (LE R W ma)) (hb : PE X b (LE R W mb)) : PE X (.IfExp c a b pos) (LE R W (dIf ta ma mb)) := wkE (pe_ifExp hc ha hb) fun σ H Q ⟨F, env, ow, s, h⟩ => by
  refine LT_mono (LT_bnd s h) fun k H1 ⟨env1, F1, ow1, s1, st1, h⟩ => ?_
  cases k with
  | true => exact iteT ⟨F1, env1, ow1, s1, (h.step s.nofU st1).mono fun p e' F' H' ow' st' _ kk v ok => kk v (ok.frs fun a z => st1.frs a z)⟩
  | false => exact iteF ⟨F1, env1, ow1, s1, (h.step s.nofU st1).mono fun p e' F' H' ow' st' _ kk v ok => kk v (ok.frs fun a z => st1.frs a z)⟩

/-! ### argument lists, displays -/
def KL (R : RC) (Q : List V → Hp → Prop) : KT (List D) := fun xs _ F' H' _ => ∀ vs, Reps R F' xs vs → Q vs H'
/-- several values, each published -/
def LA (R : RC) (W : WX) (m : M (List D)) : TA := fun σ H Q => ∃ F env ow, SR R F H σ env ow ∧ Post R W σ F H ow (KL R Q) (m env)
def dArgs : List (M Opd) → M (List D)
  | [] => pur []
  | m :: ms => bnd m fun p => bnd (pub p) fun x => bnd (dArgs ms) fun xs => pur (x :: xs)
/-- publishing is a step -/
theorem pub_step {F H F1 H1 : Hp} {ow ow1 : Nat → Addr → Prop} {σ : L2.St} {v : V} {p : Opd} {x : D} {env1 env2 : En} (l : ∀ a, un ow a → F a = none) (s1 : SR R F1 H1 σ env1 ow1) (st1 : Step F H (un ow) F1 H1 (un ow1)) (ok : OpdOk R F1 H1 σ ow1 (frs H (un ow)) v p) (h : pubF env1 p = some (x, env2)) :
    ∃ F2 ow2, SR R F2 H1 σ env2 ow2 ∧ Step F H (un ow) F2 H1 (un ow2) ∧ Rep R F2 x v := by
  obtain ⟨F2, ow2, s2, g2, w2, r2⟩ := pub_ok s1 ok h
  refine ⟨F2, ow2, s2, ⟨fun a u z => g2.ex a u (st1.ex a u z), st1.keep, fun a z => ?_, fun a ⟨i, z⟩ => st1.owf a ⟨i, w2 i a z⟩, st1.dom, fun h => ⟨(st1.tb h).1, fun c q z => g2.ex _ _ ((st1.tb h).2 c q z)⟩, fun z => g2.nt (st1.nt z), st1.fz⟩, r2⟩
  rcases g2.fr a z with k | (k | k) | k
  · exact st1.fresh a k
  · exact .inr (.inr k)
  · exact .inr (.inl k)
  · exact (st1.owf a k).elim (fun z => .inr (.inr z)) fun z => .inr (.inl z)
theorem LA_mono {m : M (List D)} {σ H} {Q Q' : List V → Hp → Prop} (h : LA R W m σ H Q) (q : ∀ v H', Q v H' → Q' v H') : LA R W m σ H Q' := by
  obtain ⟨F, env, ow, s, h⟩ := h
  exact ⟨F, env, ow, s, h.mono fun _ _ _ _ _ _ _ k v ok => q _ _ (k v ok)⟩
theorem LA_bnd {α} {m : M (List D)} {f : List D → M α} {σ F H env ow} {K : KT α} (s : SR R F H σ env ow) (h : Post R W σ F H ow K (bnd m f env)) :
    LA R W m σ H fun vs H1 => ∃ xs env1 F1 ow1, SR R F1 H1 σ env1 ow1 ∧ Step F H (un ow) F1 H1 (un ow1) ∧ Reps R F1 xs vs ∧ Post R W σ F H ow K (f xs env1) :=
  ⟨F, env, ow, s, h.fst.mono fun p env1 F1 H1 ow1 st sr k v ok => ⟨p, env1, F1, ow1, sr, st, ok, k⟩⟩
theorem ja_nil : PA X [] (LA R W (dArgs [])) := wkA pa_nil fun σ H Q ⟨F, env, ow, s, h⟩ => h F H ow (.refl _ _ _) s [] rfl
theorem ja_cons {e : Expr} {es : List Expr} {m : M Opd} {ms : List (M Opd)} (ha : PE X e (LE R W m)) (hr : PA X es (LA R W (dArgs ms))) (hs : starEach (e :: es) X.env = (false, eval e X.env) :: starEach es X.env := by rfl) : PA X (e :: es) (LA R W (dArgs (m :: ms))) :=
  wkA (pa_cons ha hr hs) fun σ H Q ⟨F, env, ow, s, h⟩ => by
    refine LE_mono (LE_bnd s h) fun v H1 ⟨p, env1, F1, ow1, s1, st1, ok1, h⟩ => ?_
    obtain ⟨x, env2, ex, h⟩ := h.ofPub
    obtain ⟨F2, ow2, s2, st2, r2⟩ := pub_step s.nofU s1 st1 ok1 ex
    refine LA_mono (LA_bnd s2 (h.step s.nofU st2)) fun vs H3 ⟨xs, env3, F3, ow3, s3, st3, r3, h⟩ => ?_
    exact h F3 H3 ow3 st3 s3 (v :: vs) ⟨v, vs, rfl, r2.mono st3.le, r3⟩
def dTup (ms : List (M Opd)) : M Opd := bnd (dArgs ms) fun xs => opt (if xs.length ≤ SZ then some (.d (.tup xs)) else none)
def dLst (ms : List (M Opd)) : M Opd := bnd (dArgs ms) fun xs => opt (if xs.length ≤ SZ then some (.n (.lst xs)) else none)
theorem je_tup {es : List Expr} {ms : List (M Opd)} {x1} (h : PA X es (LA R W (dArgs ms))) : PE X (.Tuple es x1 pos) (LE R W (dTup ms)) :=
  wkE (pe_tup h) fun σ H Q ⟨F, env, ow, s, h⟩ => by
    refine LA_mono (LA_bnd s h) fun vs H1 ⟨xs, env1, F1, ow1, s1, st1, r1, h⟩ => ?_
    obtain ⟨p, ep, h⟩ := h.ofOpt'
    split at ep
    · rename_i c
      cases ep
      refine ⟨by rw [r1.length]; exact c, fun p hp => ?_⟩
      obtain ⟨k1, k2⟩ := new_tup (R := R) s1.le hp r1
      obtain ⟨j1, j2, j3⟩ := k1.fin s1 k2
      exact h _ _ ow1 (st1.trans s.nofU j1) j2 _ (j3.frs fun a z => st1.frs a z)
    · cases ep
theorem je_lst {es : List Expr} {ms : List (M Opd)} (h : PA X es (LA R W (dArgs ms))) : PE X (.List es pos) (LE R W (dLst ms)) :=
  wkE (pe_lst h) fun σ H Q ⟨F, env, ow, s, h⟩ => by
    refine LA_mono (LA_bnd s h) fun vs H1 ⟨xs, env1, F1, ow1, s1, st1, r1, h⟩ => ?_
    obtain ⟨p, ep, h⟩ := h.ofOpt'
    split at ep
    · rename_i c
      cases ep
      refine ⟨by rw [r1.length]; exact c, fun p hp => ?_⟩
      obtain ⟨k1, k2⟩ := new_lst (R := R) s1.le hp r1
      obtain ⟨j1, j2, j3⟩ := k1.fin s1 k2
      exact h _ _ ow1 (st1.trans s.nofU j1) j2 _ (j3.frs fun a z => st1.frs a z)
    · cases ep
end
end Dv
set_option Elab.async false
set_option linter.all false
set_option maxRecDepth 100000
set_option maxHeartbeats 4000000
/-! Dv4: calls of defs, statements, loops, the rule of a def. -/
namespace Dv
open PySem PySem.Spec PyProof.Rows L2
variable [TabC]

/-! ### what a def gives -/
inductive FR where
  | ok (d : D) (o : Option O)
  | ex (c : Nat) (fs : List (Str × D)) (o : Option O)
  | no
abbrev Fn := Option O → List D → FR
def inRep (R : RC) (F H : Hp) (S : Addr → Prop) (vs vs' : List V) : Option O → Prop
  | none => vs = vs'
  | some o => ∃ v, vs = v :: vs' ∧ RepO R F H o v S
def outRep (R : RC) (F H : Hp) (S : Addr → Prop) (vs : List V) : Option O → Prop
  | none => True
  | some o => ∃ v r, vs = v :: r ∧ RepO R F H o v S
def FPost (R : RC) (F H : Hp) (S : Addr → Prop) (vs : List V) (Q : VK) (E : XK) : FR → Prop
  | .ok d o' => ∀ v F' H' S', Step F H S F' H' S' → Le F' H' → (∀ a, S' a → F' a = none ∧ ¬ Ov H' a) → outRep R F' H' S' vs o' → Rep R F' d v → Q v H'
  | .ex c fs o' => ∀ d kvs F' H' S', Step F H S F' H' S' → Le F' H' → (∀ a, S' a → F' a = none ∧ ¬ Ov H' a) → outRep R F' H' S' vs o' → XdOk F' kvs d → RepX R F' fs kvs → E (.ref (R.cl c)) d H'
  | .no => False
def io1 : Option O → Nat
  | none => 0
  | some _ => 1
/-- the promise of a def that computes fn -/
def spD (R : RC) (n : Nat) (fn : Fn) : Sp := fun vs H Q E => ∃ F S o ds vs', Le F H ∧ (TabsC F H ∧ nT F) ∧ (∀ a, S a → F a = none ∧ ¬ Ov H a) ∧ inRep R F H S vs vs' o ∧ Reps R F ds vs' ∧ io1 o + ds.length = n ∧ FPost R F H S vs Q E (fn o ds)
theorem spD_len {R n fn vs H Q E} (h : spD R n fn vs H Q E) : vs.length = n := by
  obtain ⟨F, S, o, ds, vs', _, _, _, h1, h2, h3, _⟩ := h
  cases o with
  | none =>
    have h1 : vs = vs' := h1
    rw [h1, h2.length, ← h3]
    exact (Nat.zero_add _).symm
  | some o =>
    obtain ⟨v, rfl, _⟩ := h1
    rw [List.length_cons, h2.length, ← h3]
    exact Nat.add_comm _ _

def callF (n : Nat) (fn : Fn) (xs : List D) : M Opd := fun e => if xs.length = n then (match fn none xs with
  | .ok d _ => .ok (.d d) e
  | .ex c fs _ => .ex c fs e
  | .no => .no) else .no
def dCall (n : Nat) (fn : Fn) (ms : List (M Opd)) : M Opd := bnd (dArgs ms) fun xs => callF n fn xs
/-- the first argument is what slot i owns -/
def callIo (n i : Nat) (fn : Fn) (xs : List D) : M Opd := fun e => if xs.length + 1 = n then (match gt e i with
  | some (.o o) => match fn (some o) xs with
    | .ok d (some o') => .ok (.d d) (st e i (some (.o o')))
    | .ex c fs (some o') => .ex c fs (st e i (some (.o o')))
    | _ => .no
  | _ => .no) else .no
def dCallIo (n i : Nat) (fn : Fn) (ms : List (M Opd)) : M Opd := fun e => match gt e i with
  | some _ => bnd (dArgs ms) (fun xs => callIo n i fn xs) e
  | none => .no

/-- no object of its own goes to the callee -/
theorem SR.call0 {R F H σ env ow F' H'} {S' : Addr → Prop} (s : SR R F H σ env ow) (st : Step F H (fun _ => False) F' H' S') (le : Le F' H') : SR R F' H' σ env ow ∧ Step F H (un ow) F' H' (un ow) := by
  have nf : ∀ i a, ow i a → F' a = none := fun i a h => by
    cases q : F' a with
    | none => rfl
    | some u =>
      rcases st.fresh a (by rw [q]; exact fun z => nomatch z) with z | z | z
      · exact absurd (s.nof i a h).1 z
      · exact absurd z (s.nof i a h).2
      · exact z.elim
  refine ⟨⟨le, fun i a h => ⟨nf i a h, fun z => (s.nof i a h).2 (st.dom a z)⟩, s.dis, s.len, fun i sl h => ?_, st.tb s.tb, st.nt s.nt⟩, ⟨st.ex, fun a u q n _ nt => st.keep a u q n (fun z => z) nt, fun a h => (st.fresh a h).imp id fun z => z.imp id False.elim, fun a h => .inl h, st.dom, st.tb, st.nt, st.fz⟩⟩
  obtain ⟨v, h1, h2⟩ := s.sl i sl h
  exact ⟨v, h1, h2.mono (.ofEx st.ex) (fun a u z nt q => st.keep a u q (s.nof i a z).1 (fun z => z) nt) fun _ z => z⟩
/-- what slot i owns goes to the callee and comes back -/
theorem SR.callI {R F H σ env ow F' H'} {S' : Addr → Prop} {i : Nat} {o' : O} {v : V} (s : SR R F H σ env ow) (hi : i < env.length) (st : Step F H (ow i) F' H' S') (le : Le F' H') (hS : ∀ a, S' a → F' a = none ∧ ¬ Ov H' a) (hv : σ[i]? = some (some v)) (ho : RepO R F' H' o' v S') :
    ∃ ow', SR R F' H' σ (Dv.st env i (some (.o o'))) ow' ∧ Step F H (un ow) F' H' (un ow') := by
  have nf : ∀ j a, j ≠ i → ow j a → F' a = none := fun j a hj h => by
    cases q : F' a with
    | none => rfl
    | some u =>
      rcases st.fresh a (by rw [q]; exact fun z => nomatch z) with z | z | z
      · exact absurd (s.nof j a h).1 z
      · exact absurd z (s.nof j a h).2
      · exact absurd (s.dis j i a h z) hj
  refine ⟨fun j a => if j = i then S' a else ow j a, ⟨le, fun j a h => ?_, fun j l a h1 h2 => ?_, by rw [st_len]; exact s.len, fun j sl h => ?_, st.tb s.tb, st.nt s.nt⟩, ⟨st.ex, fun a u q n w nt => st.keep a u q n (fun z => w ⟨i, z⟩) nt, fun a h => (st.fresh a h).imp id fun z => z.imp id fun z => ⟨i, z⟩, fun a ⟨j, h⟩ => ?_, st.dom, st.tb, st.nt, st.fz⟩⟩
  · by_cases hj : j = i
    · rw [if_pos hj] at h
      exact hS a h
    · rw [if_neg hj] at h
      exact ⟨nf j a hj h, fun z => (s.nof j a h).2 (st.dom a z)⟩
  · by_cases hj : j = i <;> by_cases hl : l = i
    · rw [hj, hl]
    · rw [if_pos hj] at h1
      rw [if_neg hl] at h2
      rcases st.owf a h1 with z | z
      · exact hj.trans (s.dis i l a z h2)
      · exact absurd z (s.nof l a h2).2
    · rw [if_neg hj] at h1
      rw [if_pos hl] at h2
      rcases st.owf a h2 with z | z
      · exact (s.dis j i a h1 z).trans hl.symm
      · exact absurd z (s.nof j a h1).2
    · rw [if_neg hj] at h1
      rw [if_neg hl] at h2
      exact s.dis j l a h1 h2
  · by_cases hj : j = i
    · subst hj
      rw [gt_st_same _ _ _ hi] at h
      cases h
      refine ⟨v, hv, ?_⟩
      show RepO R F' H' o' v _
      exact ho.mono (.refl _) (fun _ _ _ _ q => q) fun a z => by rw [if_pos rfl]; exact z
    · rw [gt_st_ne _ _ hj] at h
      obtain ⟨w, h1, h2⟩ := s.sl j sl h
      exact ⟨w, h1, h2.mono (.ofEx st.ex) (fun a u z nt q => st.keep a u q (s.nof j a z).1 (fun z' => hj (s.dis j i a z z')) nt) fun a z => by rw [if_neg hj]; exact z⟩
  · have h : if j = i then S' a else ow j a := h
    by_cases hj : j = i
    · rw [if_pos hj] at h
      exact (st.owf a h).imp (fun z => ⟨i, z⟩) id
    · rw [if_neg hj] at h
      exact .inl ⟨j, h⟩

section
variable {X : Cx} {R : RC} {W : WX} {pos p : Pos} {x : Str} {k n : Nat} {f : Addr} {fd : FuncData} {ps : List Str} {fn : Fn} {e : Expr} {es : List Expr} {ms : List (M Opd)}
theorem sp_call {σ H Q} (h : LE R W (dCall n fn ms) σ H Q) : LA R W (dArgs ms) σ H fun vs H1 => spD R n fn vs H1 Q (WE W σ) := by
  obtain ⟨F, env, ow, s, h⟩ := h
  refine LA_mono (LA_bnd s h) fun vs H1 ⟨xs, env1, F1, ow1, s1, st1, r1, h⟩ => ?_
  unfold callF at h
  split at h
  · rename_i hn
    refine ⟨F1, fun _ => False, none, xs, vs, s1.le, ⟨s1.tb, s1.nt⟩, fun _ z => z.elim, rfl, r1, by rw [← hn]; exact Nat.zero_add _, ?_⟩
    cases e : fn none xs with
    | ok d o =>
      rw [e] at h
      intro v F' H' S' st le _ _ rv
      obtain ⟨k1, k2⟩ := s1.call0 st le
      exact h F' H' ow1 (st1.trans s.nofU k2) k1 v rv
    | ex c fs o =>
      rw [e] at h
      intro d kvs F' H' S' st le _ _ xd rx
      obtain ⟨k1, k2⟩ := s1.call0 st le
      exact h d kvs F' H' ow1 (st1.trans s.nofU k2) k1 xd rx
    | no => rw [e] at h; exact h.elim
  · exact h.elim
theorem sp_callIo {i : Nat} {σ H Q} (h : LE R W (dCallIo n i fn ms) σ H Q) : tCons (tVar i) (LA R W (dArgs ms)) σ H fun vs H1 => spD R n fn vs H1 Q (WE W σ) := by
  obtain ⟨F, env, ow, s, h⟩ := h
  cases e00 : gt env i with
  | none =>
    simp only [dCallIo, e00] at h
    exact h.elim
  | some sl0 =>
  simp only [dCallIo, e00] at h
  obtain ⟨v0, ev0, _⟩ := s.sl i _ e00
  refine ⟨v0, ev0, ?_⟩
  · refine LA_mono (LA_bnd s h) fun vs H1 ⟨xs, env1, F1, ow1, s1, st1, r1, h⟩ => ?_
    unfold callIo at h
    split at h
    · rename_i hn
      cases e0 : gt env1 i with
      | none => rw [e0] at h; exact h.elim
      | some sl =>
        rw [e0] at h
        cases sl with
        | d y => exact h.elim
        | o o =>
          obtain ⟨v, ev, rv⟩ := s1.sl i _ e0
          rw [ev0] at ev
          cases ev
          have ev := ev0
          refine ⟨F1, ow1 i, some o, xs, vs, s1.le, ⟨s1.tb, s1.nt⟩, fun a z => s1.nof i a z, ⟨v0, rfl, rv⟩, r1, by rw [← hn]; exact Nat.add_comm _ _, ?_⟩
          have h : Post R W σ F H ow (KE R σ H ow Q) (match fn (some o) xs with
            | .ok d (some o') => .ok (.d d) (st env1 i (some (.o o')))
            | .ex c fs (some o') => .ex c fs (st env1 i (some (.o o')))
            | _ => .no) := h
          cases e : fn (some o) xs with
          | ok d o' =>
            rw [e] at h
            cases o' with
            | none => exact h.elim
            | some o' =>
              intro w F' H' S' st' le hS out rw'
              obtain ⟨v2, r2, e2, ro⟩ := out
              cases e2
              obtain ⟨ow', k1, k2⟩ := s1.callI (gt_lt e0) st' le hS ev ro
              exact h F' H' ow' (st1.trans s.nofU k2) k1 w rw'
          | ex c fs o' =>
            rw [e] at h
            cases o' with
            | none => exact h.elim
            | some o' =>
              intro d kvs F' H' S' st' le hS out xd rx
              obtain ⟨v2, r2, e2, ro⟩ := out
              cases e2
              obtain ⟨ow', k1, k2⟩ := s1.callI (gt_lt e0) st' le hS ev ro
              exact h d kvs F' H' ow' (st1.trans s.nofU k2) k1 xd rx
          | no => rw [e] at h; exact h.elim
    · exact h.elim
/-- f(e, ..) -/
theorem je_call (F : FnOk X.prog X.w X.K X.mg X.base (L2.CX X.prog X.w) k f fd ps (spD R n fn)) (tk : Takes X W) (hr : Room k X.A) (hg : Gl X x) (hm : X.mg x = some (.ref f)) (hk : PySem.W.keepIn X.K (.ref f) = true) (hb : Binds X.K fd ps [])
    (ha : PA X (e :: es) (LA R W (dArgs ms))) (hdb : (x == ("__debug__" : Str)) = false := by decide) (he : starEach (e :: es) X.env = (false, eval e X.env) :: starEach es X.env := by rfl) (hpl : (backTo pos (starEach es X.env)).any (·.1) = false := by rfl) :
    PE X (.Call (.Name x p) (e :: es) [] pos) (LE R W (dCall n fn ms)) := by
  refine wkE (pe_callS F hr hg hm hk hb (fun σ => passAt tk σ) ha hdb he hpl) fun σ H Q h => ?_
  exact sp_call h
/-- f(x, e, ..), x's object of the frame's own -/
theorem je_callIo {i : Nat} {y : Str} {py : Pos} (F : FnOk X.prog X.w X.K X.mg X.base (L2.CX X.prog X.w) k f fd ps (spD R n fn)) (tk : Takes X W) (hr : Room k X.A) (hg : Gl X x) (hm : X.mg x = some (.ref f)) (hk : PySem.W.keepIn X.K (.ref f) = true) (hb : Binds X.K fd ps [])
    (hy : PE X (.Name y py) (tVar i)) (ha : PA X es (LA R W (dArgs ms))) (hdb : (x == ("__debug__" : Str)) = false := by decide) (he : starEach (.Name y py :: es) X.env = (false, eval (.Name y py) X.env) :: starEach es X.env := by rfl) (hpl : (backTo pos (starEach es X.env)).any (·.1) = false := by rfl) :
    PE X (.Call (.Name x p) (.Name y py :: es) [] pos) (LE R W (dCallIo n i fn ms)) := by
  refine wkE (pe_callS F hr hg hm hk hb (fun σ => passAt tk σ) (pa_cons hy ha he) hdb he hpl) fun σ H Q h => ?_
  exact sp_callIo h
end
end Dv
set_option Elab.async false
set_option linter.all false
set_option maxRecDepth 100000
set_option maxHeartbeats 4000000
/-! Dv5: statements, targets, loops, the rule of a def. -/
namespace Dv
open PySem PySem.Spec PyProof.Rows L2
variable [TabC]

inductive Fl where
  | nx | brk | cnt
  | ret (d : D)
abbrev KTS (α : Type) := α → En → L2.St → Hp → Hp → (Nat → Addr → Prop) → Prop
/-- what is wished of exceptions; the first argument that is to come back -/
structure WP where
  w : WX
  pn : Option V
def WP.pin (W : WP) (σ : L2.St) : Prop := ∀ v, W.pn = some v → σ[0]? = some (some v)
theorem WP.pinSet {W : WP} {σ : L2.St} {i : Nat} (v : V) (h : W.pin σ) (hp : i ≠ 0 ∨ W.pn = none) : W.pin (σ.set i (some v)) := fun u e => by
  rcases hp with hp | hp
  · rw [List.getElem?_set_ne hp]; exact h u e
  · rw [hp] at e; cases e
def PostS {α : Type} (R : RC) (W : WP) (F H : Hp) (ow : Nat → Addr → Prop) (K : KTS α) : Res α → Prop
  | .ok a env' => ∀ σ' F' H' ow', Step F H (un ow) F' H' (un ow') → SR R F' H' σ' env' ow' → W.pin σ' → K a env' σ' F' H' ow'
  | .ex c fs env' => ∀ d kvs σ' F' H' ow', Step F H (un ow) F' H' (un ow') → SR R F' H' σ' env' ow' → W.pin σ' → XdOk F' kvs d → RepX R F' fs kvs → W.w (.ref (R.cl c)) d σ' H'
  | .no => False
def KS (R : RC) (Dn : Ends) : KTS Fl := fun fl _ σ' F' H' _ => match fl with
  | .nx => Dn.nx σ' H'
  | .brk => Dn.bk σ' H'
  | .cnt => Dn.ct σ' H'
  | .ret d => ∀ v, Rep R F' d v → Dn.rt v H'
/-- a statement's reading by its denotation -/
def LS (R : RC) (W : WP) (m : M Fl) : TS := fun Dn σ H => ∃ F env ow, SR R F H σ env ow ∧ W.pin σ ∧ PostS R W F H ow (KS R Dn) (m env)

section
variable {α β : Type} {R : RC} {W : WP} {σ : L2.St} {F H F1 H1 : Hp} {env : En} {ow ow1 : Nat → Addr → Prop} {K K' : KTS α}
theorem PostS.step {r : Res α} (h : PostS R W F H ow K r) (l : ∀ a, un ow a → F a = none) (st : Step F H (un ow) F1 H1 (un ow1)) : PostS R W F1 H1 ow1 K r := by
  cases r with
  | ok p e => exact fun σ' F' H' ow' s2 sr pn => h σ' F' H' ow' (st.trans l s2) sr pn
  | ex c fs e => exact fun d kvs σ' F' H' ow' s2 sr pn xd rx => h d kvs σ' F' H' ow' (st.trans l s2) sr pn xd rx
  | no => exact h
theorem PostS.mono {r : Res α} (h : PostS R W F H ow K r) (q : ∀ a e σ' F' H' ow', Step F H (un ow) F' H' (un ow') → SR R F' H' σ' e ow' → W.pin σ' → K a e σ' F' H' ow' → K' a e σ' F' H' ow') : PostS R W F H ow K' r := by
  cases r with
  | ok p e => exact fun σ' F' H' ow' s2 sr pn => q _ _ _ _ _ _ s2 sr pn (h σ' F' H' ow' s2 sr pn)
  | ex c fs e => exact h
  | no => exact h
theorem PostS.fst {m : M β} {f : β → M α} (h : PostS R W F H ow K (bnd m f env)) : PostS R W F H ow (fun b env1 _ _ _ _ => PostS R W F H ow K (f b env1)) (m env) := by
  unfold bnd at h
  cases e : m env with
  | ok p env1 =>
    rw [e] at h
    exact fun _ _ _ _ _ _ _ => h
  | ex c fs env1 =>
    rw [e] at h
    exact h
  | no =>
    rw [e] at h
    exact h
/-- an expression ahead of the rest of a statement -/
theorem PostS.post {m : M β} {f : β → M α} (pn : W.pin σ) (h : PostS R W F H ow K (bnd m f env)) : Post R W.w σ F H ow (fun b env1 _ _ _ => PostS R W F H ow K (f b env1)) (m env) := by
  unfold bnd at h
  cases e : m env with
  | ok p env1 =>
    rw [e] at h
    exact fun _ _ _ _ _ => h
  | ex c fs env1 =>
    rw [e] at h
    exact fun d kvs F' H' ow' a b => h d kvs σ F' H' ow' a b pn
  | no =>
    rw [e] at h
    exact h
theorem SE_bnd {m : M Opd} {f : Opd → M α} (s : SR R F H σ env ow) (pn : W.pin σ) (h : PostS R W F H ow K (bnd m f env)) :
    LE R W.w m σ H fun v H1 => ∃ p env1 F1 ow1, SR R F1 H1 σ env1 ow1 ∧ Step F H (un ow) F1 H1 (un ow1) ∧ OpdOk R F1 H1 σ ow1 (frs H (un ow)) v p ∧ PostS R W F H ow K (f p env1) :=
  ⟨F, env, ow, s, (PostS.post pn h).mono fun p env1 F1 H1 ow1 st sr k v ok => ⟨p, env1, F1, ow1, sr, st, ok, k⟩⟩
theorem ST_bnd {m : M Bool} {f : Bool → M α} (s : SR R F H σ env ow) (pn : W.pin σ) (h : PostS R W F H ow K (bnd m f env)) :
    LT R W.w m σ H fun b H1 => ∃ env1 F1 ow1, SR R F1 H1 σ env1 ow1 ∧ Step F H (un ow) F1 H1 (un ow1) ∧ PostS R W F H ow K (f b env1) :=
  ⟨F, env, ow, s, (PostS.post pn h).mono fun b env1 F1 H1 ow1 st sr k => ⟨env1, F1, ow1, sr, st, k⟩⟩
theorem SA_bnd {m : M (List D)} {f : List D → M α} (s : SR R F H σ env ow) (pn : W.pin σ) (h : PostS R W F H ow K (bnd m f env)) :
    LA R W.w m σ H fun vs H1 => ∃ xs env1 F1 ow1, SR R F1 H1 σ env1 ow1 ∧ Step F H (un ow) F1 H1 (un ow1) ∧ Reps R F1 xs vs ∧ PostS R W F H ow K (f xs env1) :=
  ⟨F, env, ow, s, (PostS.post pn h).mono fun p env1 F1 H1 ow1 st sr k v ok => ⟨p, env1, F1, ow1, sr, st, ok, k⟩⟩
theorem PostS.ofRd {p : Opd} {f : D → M α} (h : PostS R W F H ow K (bnd (rd p) f env)) : ∃ x, rdF env p = some x ∧ PostS R W F H ow K (f x env) := by
  unfold bnd rd at h
  cases e : rdF env p with
  | none => rw [e] at h; exact h.elim
  | some p1 => rw [e] at h; exact ⟨p1, rfl, h⟩
theorem PostS.ofPub {p : Opd} {f : D → M α} (h : PostS R W F H ow K (bnd (pub p) f env)) : ∃ x env1, pubF env p = some (x, env1) ∧ PostS R W F H ow K (f x env1) := by
  unfold bnd pub at h
  cases e : pubF env p with
  | none => rw [e] at h; exact h.elim
  | some p1 =>
    rw [e] at h
    exact ⟨p1.1, p1.2, rfl, h⟩
theorem PostS.ofOpt {o : Option β} {f : β → M α} (h : PostS R W F H ow K (bnd (opt o) f env)) : ∃ b, o = some b ∧ PostS R W F H ow K (f b env) := by
  cases o with
  | none => exact h.elim
  | some b => exact ⟨b, rfl, h⟩
theorem LS_mono {m : M Fl} {Dn Dn' : Ends} (h : LS R W m Dn σ H) (h1 : ∀ σ H, Dn.nx σ H → Dn'.nx σ H) (h2 : ∀ v H, Dn.rt v H → Dn'.rt v H) (h3 : ∀ σ H, Dn.bk σ H → Dn'.bk σ H) (h4 : ∀ σ H, Dn.ct σ H → Dn'.ct σ H) : LS R W m Dn' σ H := by
  obtain ⟨F, env, ow, s, pn, h⟩ := h
  refine ⟨F, env, ow, s, pn, h.mono fun fl e σ' F' H' ow' _ _ _ k => ?_⟩
  cases fl with
  | nx => exact h1 _ _ k
  | brk => exact h3 _ _ k
  | cnt => exact h4 _ _ k
  | ret d => exact fun v r => h2 _ _ (k v r)
end
theorem wkS {X st t t'} (h : PS X st t) (i : ∀ D σ H, t' D σ H → t D σ H) : PS X st t' := ⟨fun pins s σ H D I q => h.run pins s σ H D I (i D σ H q)⟩
theorem wkSs {X st t t'} (h : PSs X st t) (i : ∀ D σ H, t' D σ H → t D σ H) : PSs X st t' := ⟨fun pins s σ H D I q => h.run pins s σ H D I (i D σ H q)⟩

/-! ### slots stored -/
/-- slot i takes a frozen value; what it owned is let go -/
theorem SR.setD {R F H σ env ow i x v} (s : SR R F H σ env ow) (r : Rep R F x v) : ∃ ow', SR R F H (σ.set i (some v)) (st env i (some (.d x))) ow' ∧ ∀ j a, ow' j a → ow j a := by
  refine ⟨fun j a => ow j a ∧ j ≠ i, ⟨s.le, fun j a h => s.nof j a h.1, fun j l a h1 h2 => s.dis j l a h1.1 h2.1, by rw [st_len, List.length_set]; exact s.len, fun j sl h => ?_, s.tb, s.nt⟩, fun _ _ h => h.1⟩
  by_cases hj : j = i
  · subst hj
    have hl : j < env.length := by
      have := gt_lt h
      rw [st_len] at this; exact this
    rw [gt_st_same _ _ _ hl] at h
    cases h
    exact ⟨v, by rw [List.getElem?_set_self (by rw [← s.len]; exact hl)], r⟩
  · rw [gt_st_ne _ _ hj] at h
    obtain ⟨w, h1, h2⟩ := s.sl j sl h
    exact ⟨w, by rw [List.getElem?_set_ne (Ne.symm hj)]; exact h1, h2.mono (.refl _) (fun _ _ _ _ q => q) fun a q => ⟨q, hj⟩⟩
/-- slot i takes a new object as its own -/
theorem SR.setO {R F H σ env ow i o v} {S : Addr → Prop} (s : SR R F H σ env ow) (r : RepO R F H o v S) (h0 : ∀ a, S a → F a = none ∧ ¬ Ov H a) (h1 : ∀ j a, ow j a → ¬ S a) : ∃ ow', SR R F H (σ.set i (some v)) (st env i (some (.o o))) ow' ∧ ∀ j a, ow' j a → ow j a ∨ S a := by
  refine ⟨fun j a => if j = i then S a else ow j a, ⟨s.le, fun j a h => ?_, fun j l a h2 h3 => ?_, by rw [st_len, List.length_set]; exact s.len, fun j sl h => ?_, s.tb, s.nt⟩, fun j a h => ?_⟩
  · have h : if j = i then S a else ow j a := h
    by_cases hj : j = i
    · rw [if_pos hj] at h; exact h0 a h
    · rw [if_neg hj] at h; exact s.nof j a h
  · have h2 : if j = i then S a else ow j a := h2
    have h3 : if l = i then S a else ow l a := h3
    by_cases hj : j = i <;> by_cases hl : l = i
    · rw [hj, hl]
    · rw [if_pos hj] at h2
      rw [if_neg hl] at h3
      exact absurd h2 (h1 l a h3)
    · rw [if_neg hj] at h2
      rw [if_pos hl] at h3
      exact absurd h3 (h1 j a h2)
    · rw [if_neg hj] at h2
      rw [if_neg hl] at h3
      exact s.dis j l a h2 h3
  · by_cases hj : j = i
    · subst hj
      have hl : j < env.length := by
        have := gt_lt h
        rw [st_len] at this; exact this
      rw [gt_st_same _ _ _ hl] at h
      cases h
      exact ⟨v, by rw [List.getElem?_set_self (by rw [← s.len]; exact hl)], RepO.mono (.refl _) (fun _ _ _ _ q => q) (fun a q => by rw [if_pos rfl]; exact q) r⟩
    · rw [gt_st_ne _ _ hj] at h
      obtain ⟨w, k1, k2⟩ := s.sl j sl h
      exact ⟨w, by rw [List.getElem?_set_ne (Ne.symm hj)]; exact k1, k2.mono (.refl _) (fun _ _ _ _ q => q) fun a q => by rw [if_neg hj]; exact q⟩
  · have h : if j = i then S a else ow j a := h
    by_cases hj : j = i
    · rw [if_pos hj] at h; exact .inr h
    · rw [if_neg hj] at h; exact .inl h
theorem Step.less {F H ow F1 H1 ow1} {ow2 : Addr → Prop} (s : Step F H ow F1 H1 ow1) (h : ∀ a, ow2 a → ow1 a ∨ Dv.frs H ow a) : Step F H ow F1 H1 ow2 :=
  ⟨s.ex, s.keep, s.fresh, fun a z => (h a z).elim (s.owf a) id, s.dom, s.tb, s.nt, s.fz⟩
theorem tabs_put {F H : Hp} {a : Addr} {u u0 : HO} (h0 : H a = some u0) (nt : NT u0) (nc : ∀ c q, u0 ≠ LamX.CodeO c q) (nuc : ∀ c q, u ≠ LamX.CodeO c q := by intro _ _ z; cases z) : TabsC F H → TabsC F (upd H a u) := fun h => ⟨fun p hp => by
  obtain ⟨ps, e1, e2, e3⟩ := h.1 p hp
  have ne : ∀ {b w}, H b = some w → u0 ≠ w → b ≠ a := fun {b w} q n z => by
    rw [z, h0] at q
    exact n (Option.some.inj q)
  refine ⟨ps, by rw [upd_ne (ne e1 (nt ps))]; exact e1, e2, fun pos cv hc => ?_⟩
  obtain ⟨c, z1, z2⟩ := e3 pos cv hc
  exact ⟨c, z1, by rw [upd_ne (ne z2 (nc _ _))]; exact z2⟩, fun c q z => by
    by_cases e : c = a
    · rw [e, upd_same] at z; exact absurd (Option.some.inj z) (nuc a q)
    · rw [upd_ne e] at z; exact h.2 c q z⟩
/-- an owned object is written -/
theorem SR.write {R F H σ env ow i a o' v} {u u0 : HO} (s : SR R F H σ env ow) (ha : ow i a) (hu0 : H a = some u0) (nt0 : NT u0) (nc0 : ∀ c q, u0 ≠ LamX.CodeO c q) (hv : σ[i]? = some (some v)) (hi : i < env.length) (r : RepO R F (upd H a u) o' v (ow i)) (nu : NT u := by intro _ z; cases z) (nf0 : ∀ o w, u0 ≠ .frz o w := by intro _ _ z; cases z) (nuc : ∀ c q, u ≠ LamX.CodeO c q := by intro _ _ z; cases z) : SR R F (upd H a u) σ (st env i (some (.o o'))) ow ∧ Step F H (un ow) F (upd H a u) (un ow) := by
  have fa := (s.nof i a ha).1
  refine ⟨⟨fun b w h => ?_, fun j b h => ⟨(s.nof j b h).1, fun z => ?_⟩, s.dis, by rw [st_len]; exact s.len, fun j sl h => ?_, tabs_put hu0 nt0 nc0 nuc s.tb, s.nt⟩, ⟨fun _ _ h => h, fun b w h n k _ => ?_, fun _ h => .inl h, fun _ h => .inl h, fun b z => ?_, tabs_put hu0 nt0 nc0 nuc, fun h => h, fun b o w h => by rw [upd_ne (show b ≠ a from fun e => nf0 o w (Option.some.inj (hu0.symm.trans (e ▸ h))))]; exact h⟩⟩
  · have : b ≠ a := ne_of_none h fa
    rcases s.le b w h with z | ⟨kvs, o, e, z⟩
    · exact .inl (by rw [upd_ne this]; exact z)
    · exact .inr ⟨kvs, o, e, by rw [upd_ne this]; exact z⟩
  · by_cases e : b = a
    · exact (e ▸ z : Ov _ a).no upd_same nu
    · exact (s.nof j b h).2 (z.eq (upd_ne e).symm)
  · by_cases hj : j = i
    · subst hj
      rw [gt_st_same _ _ _ hi] at h
      cases h
      exact ⟨v, hv, r⟩
    · rw [gt_st_ne _ _ hj] at h
      obtain ⟨w, k1, k2⟩ := s.sl j sl h
      exact ⟨w, k1, k2.mono (.refl _) (fun b w z _ q => by
        have ne : b ≠ a := fun e => hj (s.dis j i b z (by rw [e]; exact ha))
        rw [upd_ne ne]; exact q) fun _ q => q⟩
  · have ne : b ≠ a := fun e => k ⟨i, by rw [e]; exact ha⟩
    rw [upd_ne ne]; exact h
  · by_cases e : b = a
    · exact ((e ▸ z : Ov _ a).no upd_same nu).elim
    · exact z.eq (upd_ne e).symm

/-- name = value -/
def setS (i : Nat) : Opd → M Unit
  | .d x => fun e => .ok () (st e i (some (.d x)))
  | .n o => fun e => .ok () (st e i (some (.o o)))
  | .s j => fun e => match pubF e (.s j) with
    | some (x, e') => .ok () (st e' i (some (.d x)))
    | none => .no
theorem setS_ok {α} {R W F H F1 H1} {ow ow1 : Nat → Addr → Prop} {σ : L2.St} {env env1 : En} {K : KTS α} {i : Nat} {p : Opd} {v : V} {f : Unit → M α} (s : SR R F H σ env ow) (s1 : SR R F1 H1 σ env1 ow1) (st1 : Step F H (un ow) F1 H1 (un ow1)) (ok : OpdOk R F1 H1 σ ow1 (frs H (un ow)) v p)
    (h : PostS R W F H ow K (bnd (setS i p) f env1)) : ∃ env2 F2 ow2, SR R F2 H1 (σ.set i (some v)) env2 ow2 ∧ Step F H (un ow) F2 H1 (un ow2) ∧ PostS R W F H ow K (f () env2) := by
  cases p with
  | d x =>
    obtain ⟨ow2, s2, k⟩ := s1.setD (i := i) ok
    exact ⟨_, F1, ow2, s2, st1.less fun a ⟨j, z⟩ => .inl ⟨j, k j a z⟩, h⟩
  | n o =>
    obtain ⟨S, r1, r2, r3⟩ := ok
    obtain ⟨ow2, s2, k⟩ := s1.setO (i := i) r1 (fun a z => ⟨(r2 a z).1, (r2 a z).2.1⟩) r3
    exact ⟨_, F1, ow2, s2, st1.less fun a ⟨j, z⟩ => (k j a z).imp (fun z => ⟨j, z⟩) fun z => (r2 a z).2.2, h⟩
  | s j =>
    have h : PostS R W F H ow K (bnd (fun e => match pubF e (.s j) with
      | some (x, e') => .ok () (st e' i (some (.d x)))
      | none => .no) f env1) := h
    unfold bnd at h
    cases e : pubF env1 (.s j) with
    | none => simp only [e] at h; exact h.elim
    | some xe =>
      obtain ⟨x, env2⟩ := xe
      simp only [e] at h
      obtain ⟨F2, ow2, s2, st2, r2⟩ := pub_step s.nofU s1 st1 ok e
      obtain ⟨ow3, s3, k⟩ := s2.setD (i := i) r2
      exact ⟨_, F2, ow3, s3, st2.less fun a ⟨l, z⟩ => .inl ⟨l, k l a z⟩, h⟩
def fin (m : M Unit) : M Fl := bnd m fun _ => pur .nx
def dAsg (i : Nat) (m : M Opd) : M Fl := bnd m fun p => bnd (setS i p) fun _ => pur .nx
section
variable {X : Cx} {R : RC} {W : WP} {a b c e : Expr} {ma mb mc m : M Opd} {ta tb : M Bool} {pos : Pos} {sta : Stmt} {rest : List Stmt} {m1 m2 : M Fl}
theorem LS_asg {i : Nat} {σ H} {Dn : Ends} (hp : i ≠ 0 ∨ W.pn = none) (h : LS R W (dAsg i m) Dn σ H) : LE R W.w m σ H fun x H1 => Dn.nx (σ.set i (some x)) H1 := by
  obtain ⟨F, env, ow, s, pn, h⟩ := h
  refine LE_mono (SE_bnd s pn h) fun v H1 ⟨p, env1, F1, ow1, s1, st1, ok1, h⟩ => ?_
  obtain ⟨env2, F2, ow2, s2, st2, h⟩ := setS_ok s s1 st1 ok1 h
  exact h _ F2 H1 ow2 st2 s2 (WP.pinSet v pn hp)
theorem js_asg (i : Nat) {x : Str} {pos' : Pos} (hN : X.N.Nodup) (he : PE X e (LE R W.w m)) (hi : X.N[i]? = some x := by rfl) (hx : Loc X.env.scope x := by first | exact Or.inl rfl | exact Or.inr rfl) (hs : swapsWith e (some (.Name x pos')) pos.line X.env = pure false := by rfl) (hf : X.fn x = true ∨ X.env.scope.names.lookup x = some .local := by first | exact .inl rfl | exact .inr rfl | assumption) (hp : i ≠ 0 ∨ W.pn = none := by first | exact .inl (by decide) | exact .inr rfl) :
    PS X (.Assign [.Name x pos'] e pos) (LS R W (dAsg i m)) := wkS (ps_set hN hi hx he hs hf) fun _ _ _ h => LS_asg hp h

/-! ### blocks, if, return, pass -/
def dSeq (m1 m2 : M Fl) : M Fl := bnd m1 fun fl => match fl with
  | .nx => m2
  | .brk => pur .brk
  | .cnt => pur .cnt
  | .ret d => pur (.ret d)
def dSkip : M Fl := pur .nx
theorem LS_seq {σ H} {Dn : Ends} (h : LS R W (dSeq m1 m2) Dn σ H) : tSeq (LS R W m1) (LS R W m2) Dn σ H := by
  obtain ⟨F, env, ow, s, pn, h⟩ := h
  refine ⟨F, env, ow, s, pn, (PostS.fst h).mono fun fl env1 σ1 F1 H1 ow1 st1 s1 pn1 k => ?_⟩
  cases fl with
  | nx => exact ⟨F1, env1, ow1, s1, pn1, k.step s.nofU st1⟩
  | brk => exact k σ1 F1 H1 ow1 st1 s1 pn1
  | cnt => exact k σ1 F1 H1 ow1 st1 s1 pn1
  | ret d => exact k σ1 F1 H1 ow1 st1 s1 pn1
theorem LS_skip {σ H} {Dn : Ends} (h : LS R W dSkip Dn σ H) : Dn.nx σ H := by
  obtain ⟨F, env, ow, s, pn, h⟩ := h
  exact h σ F H ow (.refl _ _ _) s pn
theorem jss_nil : PSs X [] (LS R W dSkip) := wkSs pss_nil fun _ _ _ h => LS_skip h
theorem jss_cons (h1 : PS X sta (LS R W m1)) (h2 : PSs X rest (LS R W m2)) : PSs X (sta :: rest) (LS R W (dSeq m1 m2)) := wkSs (pss_cons h1 h2) fun _ _ _ h => LS_seq h
theorem jss_one (h1 : PS X sta (LS R W m1)) : PSs X [sta] (LS R W m1) := pss_one h1
theorem js_pass : PS X (.Pass pos) (LS R W dSkip) := wkS ps_pass fun _ _ _ h => LS_skip h
theorem js_doc {x j pos'} : PS X (.Expr (.Constant (.str x) j pos') pos) (LS R W dSkip) := wkS ps_doc fun _ _ _ h => LS_skip h
def dBrk : M Fl := pur .brk
def dCnt : M Fl := pur .cnt
theorem js_brk : PS X (.Break pos) (LS R W dBrk) := wkS ps_break fun _ σ H ⟨F, env, ow, s, pn, h⟩ => h σ F H ow (.refl _ _ _) s pn
theorem js_cnt : PS X (.Continue pos) (LS R W dCnt) := wkS ps_continue fun _ σ H ⟨F, env, ow, s, pn, h⟩ => h σ F H ow (.refl _ _ _) s pn
def dRet (m : M Opd) : M Fl := bnd m fun p => bnd (pub p) fun x => pur (.ret x)
theorem js_ret (he : PE X e (LE R W.w m)) : PS X (.Return (some e) pos) (LS R W (dRet m)) := wkS (ps_ret he) fun Dn σ H ⟨F, env, ow, s, pn, h⟩ => by
  refine LE_mono (SE_bnd s pn h) fun v H1 ⟨p, env1, F1, ow1, s1, st1, ok1, h⟩ => ?_
  obtain ⟨x, env2, ex, h⟩ := h.ofPub
  obtain ⟨F2, ow2, s2, st2, r2⟩ := pub_step s.nofU s1 st1 ok1 ex
  exact h σ F2 H1 ow2 st2 s2 pn v r2
def dDrop (m : M Opd) : M Fl := bnd m fun p => bnd (hold p) fun _ => pur .nx
theorem js_drop (he : PE X e (LE R W.w m)) (hs : swapsWith e none pos.line X.env = pure false := by rfl) : PS X (.Expr e pos) (LS R W (dDrop m)) := wkS (ps_expr he hs) fun Dn σ H ⟨F, env, ow, s, pn, h⟩ => by
  refine LE_mono (SE_bnd s pn h) fun v H1 ⟨p, env1, F1, ow1, s1, st1, ok1, h⟩ => ?_
  obtain ⟨p1, e1, h⟩ := PostS.ofOpt h
  obtain ⟨F2, s2, g2, ok2⟩ := hold_ok s1 ok1 e1
  exact h σ F2 H1 ow1 (st1.gr g2) s2 pn
theorem js_if {p q : List Stmt} (hc : PT X c (LT R W.w ta)) (ha : PSs X p (LS R W m1)) (hb : PSs X q (LS R W m2)) : PS X (.If c p q pos) (LS R W (dIf ta m1 m2)) := wkS (ps_if hc ha hb) fun Dn σ H ⟨F, env, ow, s, pn, h⟩ => by
  refine LT_mono (ST_bnd s pn h) fun k H1 ⟨env1, F1, ow1, s1, st1, h⟩ => ?_
  cases k with
  | true => exact iteT ⟨F1, env1, ow1, s1, pn, h.step s.nofU st1⟩
  | false => exact iteF ⟨F1, env1, ow1, s1, pn, h.step s.nofU st1⟩

/-! ### while -/
def dWhF (t : M Bool) (b : M Fl) : Nat → M Fl
  | 0 => nop
  | n + 1 => bnd t fun k => if k = true then bnd b fun fl => match fl with
      | .nx => dWhF t b n
      | .cnt => dWhF t b n
      | .brk => pur .nx
      | .ret d => pur (.ret d)
    else pur .nx
open Classical in
noncomputable def dWh (t : M Bool) (b : M Fl) : M Fl := fun e => if h : ∃ n, dWhF t b n e ≠ .no then dWhF t b h.choose e else .no
theorem LS_wh : ∀ (n : Nat) {σ H} {Dn : Ends}, LS R W (dWhF ta m1 n) Dn σ H → tWhile (LT R W.w ta) (LS R W m1) Dn σ H := by
  intro n σ H Dn h
  refine ⟨fun n σ H => LS R W (dWhF ta m1 n) Dn σ H, ⟨n, h⟩, fun n σ H h => ?_⟩
  obtain ⟨F, env, ow, s, pn, h⟩ := h
  cases n with
  | zero => exact h.elim
  | succ n =>
    refine LT_mono (ST_bnd s pn h) fun k H1 ⟨env1, F1, ow1, s1, st1, h⟩ => ?_
    cases k with
    | false => exact iteF (h σ F1 H1 ow1 st1 s1 pn)
    | true =>
      refine iteT ⟨fun σ' H' => LS R W (dWhF ta m1 n) Dn σ' H', fun σ' H' q => ⟨n, Nat.lt_succ_self n, q⟩, F1, env1, ow1, s1, pn, ?_⟩
      rw [if_pos rfl] at h
      refine (PostS.fst (h.step s.nofU st1)).mono fun fl env2 σ2 F2 H2 ow2 st2 s2 pn2 k => ?_
      cases fl with
      | nx => exact ⟨F2, env2, ow2, s2, pn2, k.step s1.nofU st2⟩
      | cnt => exact ⟨F2, env2, ow2, s2, pn2, k.step s1.nofU st2⟩
      | brk => exact k σ2 F2 H2 ow2 st2 s2 pn2
      | ret d => exact k σ2 F2 H2 ow2 st2 s2 pn2
theorem js_wh {p : List Stmt} (hp : PassesOwn (model X.prog X.w) X.A X.env X.xe) (hc : PT X c (LT R W.w ta)) (hb : PSs X p (LS R W m1)) : PS X (.While c p [] pos) (LS R W (dWh ta m1)) := wkS (ps_while hp hc hb) fun Dn σ H ⟨F, env, ow, s, pn, h⟩ => by
  unfold dWh at h
  split at h
  · rename_i hn
    exact LS_wh hn.choose ⟨F, env, ow, s, pn, h⟩
  · exact h.elim
theorem dWhF_more {t b} : ∀ (n : Nat) (e : En) (r : Res Fl), dWhF t b n e = r → r ≠ .no → ∀ k, dWhF t b (n + k) e = r
  | 0, e, r, h, hr, _ => absurd h.symm hr
  | n + 1, e, r, h, hr, k => by
    rw [Nat.add_right_comm]
    unfold dWhF bnd at h ⊢
    cases e1 : t e with
    | no => rw [e1] at h; exact absurd h.symm hr
    | ex c fs e' => rw [e1] at h; exact h
    | ok q e' =>
      rw [e1] at h
      cases q with
      | false => exact h
      | true =>
        simp only [if_true] at h ⊢
        cases e2 : b e' with
        | no => rw [e2] at h; exact absurd h.symm hr
        | ex c fs e'' => rw [e2] at h; exact h
        | ok fl e'' =>
          rw [e2] at h
          cases fl with
          | nx => exact dWhF_more n e'' r h hr k
          | cnt => exact dWhF_more n e'' r h hr k
          | brk => exact h
          | ret d => exact h
theorem dWh_eq {t b} {n : Nat} {e : En} {r : Res Fl} (h : dWhF t b n e = r) (hr : r ≠ .no) : dWh t b e = r := by
  have hn : ∃ n, dWhF t b n e ≠ .no := ⟨n, by rw [h]; exact hr⟩
  unfold dWh
  rw [dif_pos hn]
  have h1 := dWhF_more n e r h hr hn.choose
  have h2 := dWhF_more hn.choose e _ rfl hn.choose_spec n
  rw [Nat.add_comm] at h2
  exact h2.symm.trans h1
end
end Dv
set_option Elab.async false
set_option linter.all false
set_option maxRecDepth 100000
set_option maxHeartbeats 4000000
/-! Dv6: targets, for loops, own lists changed, several names at once, raise, the rule of a def. -/
namespace Dv
open PySem PySem.Spec PyProof.Rows L2
variable [TabC]

/-! ### targets -/
/-- a target's reading: the value it takes is frozen -/
def wF (pn : Option V) : WP := ⟨fun _ _ _ _ => False, pn⟩
def LG (R : RC) (pn : Option V) (t : D → M Unit) : TG := fun v σ H Q => ∃ F env ow x, SR R F H σ env ow ∧ (wF pn).pin σ ∧ Rep R F x v ∧ PostS R (wF pn) F H ow (fun _ _ σ' _ H' _ => (wF pn).pin σ' → Q σ' H') (t x env)
def LGs (R : RC) (pn : Option V) (t : List D → M Unit) : TGs := fun vs σ H Q => ∃ F env ow xs, SR R F H σ env ow ∧ (wF pn).pin σ ∧ Reps R F xs vs ∧ PostS R (wF pn) F H ow (fun _ _ σ' _ H' _ => (wF pn).pin σ' → Q σ' H') (t xs env)
theorem wkG {X tg t t'} (h : PG X tg t) (i : ∀ v σ H Q, t' v σ H Q → t v σ H Q) : PG X tg t' := ⟨fun pins s σ H v u Q I r q => h.run pins s σ H v u Q I r (i v σ H Q q)⟩
theorem wkGs {X tg t t'} (h : PGs X tg t) (i : ∀ v σ H Q, t' v σ H Q → t v σ H Q) : PGs X tg t' := ⟨fun pins s σ H v u Q I r q => h.run pins s σ H v u Q I r (i v σ H Q q)⟩
def gN (i : Nat) : D → M Unit := fun x e => .ok () (st e i (some (.d x)))
def gsN : List D → M Unit := fun xs e => match xs with
  | [] => .ok () e
  | _ :: _ => .no
def gsC (t : D → M Unit) (u : List D → M Unit) : List D → M Unit := fun xs => match xs with
  | [] => nop
  | x :: r => bnd (t x) fun _ => u r
def gT (n : Nat) (u : List D → M Unit) : D → M Unit := fun x => match x with
  | .tup ys => if ys.length = n then u ys else nop
  | _ => nop
section
variable {X : Cx} {R : RC} {W : WP} {pn : Option V} {pos : Pos} {es : List Expr} {e : Expr} {t : D → M Unit} {u : List D → M Unit}
theorem jg_nm (i : Nat) {x : Str} (hN : X.N.Nodup) (hi : X.N[i]? = some x := by rfl) (hx : Loc X.env.scope x := by first | exact Or.inl rfl | exact Or.inr rfl) (hf : X.fn x = true ∨ X.env.scope.names.lookup x = some .local := by first | exact .inl rfl | exact .inr rfl | assumption) (hp : i ≠ 0 ∨ pn = none := by first | exact .inl (by decide) | exact .inr rfl) : PG X (.Name x pos) (LG R pn (gN i)) :=
  wkG (pg_name hN hi hx hf) fun v σ H Q ⟨F, env, ow, x, s, p0, r, h⟩ => by
    obtain ⟨ow2, s2, k⟩ := s.setD (i := i) r
    have p1 := WP.pinSet (i := i) v p0 hp
    exact h _ F H ow2 ((Step.refl F H (un ow)).less fun a ⟨j, z⟩ => .inl ⟨j, k j a z⟩) s2 p1 p1
theorem jgs_nil : PGs X [] (LGs R pn gsN) := wkGs pgs_nil fun vs σ H Q ⟨F, env, ow, xs, s, p0, r, h⟩ => by
  cases xs with
  | nil => exact ⟨r, h σ F H ow (.refl _ _ _) s p0 p0⟩
  | cons x r => exact h.elim
theorem jgs_cons (h1 : PG X e (LG R pn t)) (h2 : PGs X es (LGs R pn u)) (hs : (assignEach (e :: es) X.env).map (·.2) = assign e X.env :: (assignEach es X.env).map (·.2) := by rfl) : PGs X (e :: es) (LGs R pn (gsC t u)) :=
  wkGs (pgs_cons h1 h2 hs) fun vs σ H Q ⟨F, env, ow, xs, s, p0, r, h⟩ => by
    cases xs with
    | nil => exact h.elim
    | cons x xr =>
      obtain ⟨v, vr, rfl, r1, r2⟩ := r
      refine ⟨v, vr, rfl, F, env, ow, x, s, p0, r1, (PostS.fst h).mono fun _ env1 σ1 F1 H1 ow1 st1 s1 _ k p1 => ?_⟩
      exact ⟨F1, env1, ow1, xr, s1, p1, r2.mono st1.le, k.step s.nofU st1⟩
theorem jg_tup {k n : Nat} (hc : X.calm = true) (h : PGs X es (LGs R pn u)) (hn : (assignEach es X.env).length = n := by rfl) (hst : (assignEach es X.env).findIdx? (·.1) = none := by rfl) (hK : X.K = R.K := by rfl) : PG X (.Tuple es k pos) (LG R pn (gT n u)) :=
  wkG (pg_tup hc h hn hst) fun v σ H Q ⟨F, env, ow, x, s, p0, r, h⟩ => by
    cases x with
    | tup ys =>
      obtain ⟨a, vs, rfl, h1, h2⟩ := r
      unfold gT at h
      by_cases hl : ys.length = n
      · simp only [hl, if_true] at h
        exact ⟨a, vs, rfl, hK ▸ s.le.sqT h1, h2.length.trans hl, F, env, ow, ys, s, p0, h2, h⟩
      · simp only [hl, if_false] at h
        exact h.elim
    | _ => exact h.elim
/-- target = value -/
def dAsgT (t : D → M Unit) (m : M Opd) : M Fl := bnd m fun p => bnd (pub p) fun x => bnd (t x) fun _ => pur .nx
def KEx (m : M Unit) : M Unit := fun e => match m e with
  | .ok a e' => .ok a e'
  | _ => .no
theorem toFalse {F H : Hp} {ow : Nat → Addr → Prop} {env : En} {K : KTS Unit} {m : M Unit} (h : PostS R W F H ow K (KEx m env)) : PostS R (wF W.pn) F H ow K (m env) := by
  unfold KEx at h
  cases e : m env with
  | ok a e' => rw [e] at h; exact h
  | ex c fs e' => rw [e] at h; exact h.elim
  | no => rw [e] at h; exact h
def dAsgG (t : D → M Unit) (m : M Opd) : M Fl := bnd m fun p => bnd (pub p) fun x => bnd (KEx (t x)) fun _ => pur .nx
theorem js_asgT {tg : Expr} {m : M Opd} (he : PE X e (LE R W.w m)) (hg : PG X tg (LG R W.pn t)) (hs : swapsWithSole [tg] e pos.line X.env = pure false := by rfl) (hw : swappedStores [tg] e X.env = pure none := by rfl) (h1 : (assignEach [tg] X.env).map (·.2) = [assign tg X.env] := by rfl) :
    PS X (.Assign [tg] e pos) (LS R W (dAsgG t m)) := wkS (ps_asg he hg hs hw h1) fun Dn σ H ⟨F, env, ow, s, pn, h⟩ => by
  refine LE_mono (SE_bnd s pn h) fun v H1 ⟨p, env1, F1, ow1, s1, st1, ok1, h⟩ => ?_
  obtain ⟨x, env2, ex, h⟩ := h.ofPub
  obtain ⟨F2, ow2, s2, st2, r2⟩ := pub_step s.nofU s1 st1 ok1 ex
  refine ⟨F2, env2, ow2, x, s2, pn, r2, (toFalse (PostS.fst (h.step s.nofU st2))).mono fun _ env3 σ3 F3 H3 ow3 st3 s3 _ k p3 => ?_⟩
  exact k σ3 F3 H3 ow3 st3 s3 p3

/-! ### what is walked -/
/-- the walk J yields the items xs, as long as F1 stands -/
def WalkD (R : RC) (J : It) (xs : List D) (F1 H1 : Hp) : Prop :=
  ∀ i F H, Le F H → (∀ a u, F1 a = some u → F a = some u) → Fz H1 H → (∀ x, xs[i]? = some x → J.go i H ∧ ∀ v H', J.yld i H v H' → ∃ F', Ext F H F' H' ∧ Rep R F' x v) ∧ (i = xs.length → J.stop i H)
end
section
variable {X : Cx} {R : RC} {W : WX} {pos : Pos} {es : List Expr} {e : Expr} {t : D → M Unit} {u : List D → M Unit}
def LI (R : RC) (W : WX) (m : M (List D)) : TI := fun σ H Rr => ∃ F env ow, SR R F H σ env ow ∧ Post R W σ F H ow (fun xs _ F' H' _ => ∀ J, WalkD R J xs F' H' → Rr J H') (m env)
theorem wkI {X tg it t t'} (h : PI X tg it t) (i : ∀ σ H Q, t' σ H Q → t σ H Q) : PI X tg it t' := ⟨fun pins s σ H Q I q => h.run pins s σ H Q I (i σ H Q q)⟩
theorem walk_list {a : Addr} {vs : List V} {xs : List D} {F1 H1 : Hp} (h : SqL R.K F1 a vs) (r : Reps R F1 xs vs) : WalkD R (Itl R.K a) xs F1 H1 := by
  intro i F H le g _
  have gl : Le F1 F := .ofEx g
  have hs : SqL R.K H a vs := le.sqL (gl.sqL h)
  refine ⟨fun x hx => ?_, fun e => ⟨vs, hs, by rw [r.length, e]; exact Nat.le_refl _⟩⟩
  obtain ⟨v, hv, rv⟩ := r.get hx
  refine ⟨⟨vs, v, hs, hv⟩, fun v' H' hy => ?_⟩
  obtain ⟨rfl, k⟩ := hy
  have := k vs hs
  rw [hv] at this
  cases this
  exact ⟨F, .refl le, rv.mono gl⟩
theorem walk_tup {a : Addr} {vs : List V} {xs : List D} {F1 H1 : Hp} (h : SqT R.K F1 a vs) (r : Reps R F1 xs vs) : WalkD R (Itt R.K a) xs F1 H1 := by
  intro i F H le g _
  have gl : Le F1 F := .ofEx g
  have hs : SqT R.K H a vs := le.sqT (gl.sqT h)
  refine ⟨fun x hx => ?_, fun e => ⟨vs, hs, by rw [r.length, e]; exact Nat.le_refl _⟩⟩
  obtain ⟨v, hv, rv⟩ := r.get hx
  refine ⟨⟨vs, v, hs, hv⟩, fun v' H' hy => ?_⟩
  obtain ⟨rfl, k⟩ := hy
  have := k vs hs
  rw [hv] at this
  cases this
  exact ⟨F, .refl le, rv.mono gl⟩
/-- the items of a list, of a tuple -/
def itemsL : D → Option (List D)
  | .lst xs => some xs
  | .rol xs => some xs
  | _ => none
def itemsT : D → Option (List D)
  | .tup xs => some xs
  | _ => none
def dItL (m : M Opd) : M (List D) := bnd m fun p => bnd (pub p) fun x => opt (itemsL x)
def dItT (m : M Opd) : M (List D) := bnd m fun p => bnd (pub p) fun x => opt (itemsT x)
theorem ji_list {l tg : Expr} {m : M Opd} (h : PE X l (LE R W m)) (hK : X.K = R.K := by rfl) : PI X tg l (LI R W (dItL m)) := wkI (pi_list h) fun σ H Rr ⟨F, env, ow, s, h⟩ => by
  rw [hK]
  refine LE_mono (LE_bnd s h) fun v H1 ⟨p, env1, F1, ow1, s1, st1, ok1, h⟩ => ?_
  obtain ⟨x, env2, ex, h⟩ := h.ofPub
  obtain ⟨F2, ow2, s2, st2, r2⟩ := pub_step s.nofU s1 st1 ok1 ex
  obtain ⟨xs, e, h⟩ := h.ofOpt'
  cases x <;> cases e
  · obtain ⟨a, vs, rfl, k1, k2⟩ := r2
    exact ⟨a, rfl, ⟨vs, .of (s2.le.lst k1)⟩, h F2 H1 ow2 st2 s2 _ (walk_list (.of k1) k2)⟩
  · obtain ⟨a, vs, rfl, k1, k2⟩ := r2
    exact ⟨a, rfl, ⟨vs, s2.le.sqL k1⟩, h F2 H1 ow2 st2 s2 _ (walk_list k1 k2)⟩
theorem ji_tup {l tg : Expr} {m : M Opd} (h : PE X l (LE R W m)) (hK : X.K = R.K := by rfl) : PI X tg l (LI R W (dItT m)) := wkI (pi_tup h) fun σ H Rr ⟨F, env, ow, s, h⟩ => by
  rw [hK]
  refine LE_mono (LE_bnd s h) fun v H1 ⟨p, env1, F1, ow1, s1, st1, ok1, h⟩ => ?_
  obtain ⟨x, env2, ex, h⟩ := h.ofPub
  obtain ⟨F2, ow2, s2, st2, r2⟩ := pub_step s.nofU s1 st1 ok1 ex
  obtain ⟨xs, e, h⟩ := h.ofOpt'
  cases x <;> cases e
  obtain ⟨a, vs, rfl, k1, k2⟩ := r2
  exact ⟨a, rfl, ⟨vs, s2.le.sqT k1⟩, h F2 H1 ow2 st2 s2 _ (walk_tup k1 k2)⟩
/-- lo, lo + c, .. -/
def rngL (lo c : Int) (n : Nat) : List D := (List.range n).map fun (k : Nat) => .int (lo + (k : Int) * c)
theorem rngL_get (lo c : Int) (n i : Nat) : (rngL lo c n)[i]? = if i < n then some (.int (lo + (i : Int) * c)) else none := by
  unfold rngL
  rw [List.getElem?_map]
  by_cases h : i < n
  · rw [List.getElem?_range h, if_pos h]; rfl
  · rw [List.getElem?_eq_none (by rw [List.length_range]; omega), if_neg h]; rfl
theorem rngL_len (lo c : Int) (n : Nat) : (rngL lo c n).length = n := by
  unfold rngL
  rw [List.length_map, List.length_range]
theorem walk_rng {F1 H1 : Hp} (lo : Int) (n : Nat) : WalkD R (Itr lo n) (rngL lo 1 n) F1 H1 := by
  intro i F H le g _
  refine ⟨fun x hx => ?_, fun e => by rw [rngL_len] at e; exact Nat.le_of_eq e.symm⟩
  rw [rngL_get] at hx
  split at hx
  · rename_i hi
    cases hx
    refine ⟨hi, fun v H' hy => ?_⟩
    obtain ⟨rfl, rfl⟩ := hy
    refine ⟨F, .refl le, ?_⟩
    show _ = _
    rw [Int.mul_one]
  · cases hx
theorem walk_rngC {F1 H1 : Hp} (lo c : Int) (n : Nat) : WalkD R (Itc lo c n) (rngL lo c n) F1 H1 := by
  intro i F H le g _
  refine ⟨fun x hx => ?_, fun e => by rw [rngL_len] at e; exact Nat.le_of_eq e.symm⟩
  rw [rngL_get] at hx
  split at hx
  · rename_i hi
    cases hx
    refine ⟨hi, fun v H' hy => ?_⟩
    obtain ⟨rfl, rfl⟩ := hy
    exact ⟨F, .refl le, rfl⟩
  · cases hx
def B62 : Int := 4611686018427387904
def gRng1 : List D → Option (List D)
  | [.int j] => if -B62 ≤ j ∧ j < B62 then some (rngL 0 1 j.toNat) else none
  | _ => none
def gRng2 : List D → Option (List D)
  | [.int i, .int j] => if (-B62 ≤ i ∧ i < B62) ∧ (-B62 ≤ j ∧ j < B62) then some (rngL i 1 (j - i).toNat) else none
  | _ => none
def gRng3 : List D → Option (List D)
  | [.int i, .int j, .int c] => if c ≠ 0 ∧ c.natAbs < 1073741824 ∧ Builtin.Range.small i j c = true then some (rngL i c (Builtin.Range.rangeSize i j c).toNat) else none
  | _ => none
def dRng (g : List D → Option (List D)) (ms : List (M Opd)) : M (List D) := bnd (dArgs ms) fun xs => opt (g xs)
theorem ji_rng1 {tg a : Expr} {m : M Opd} {p : Pos} (hg : Gl X "range") (hm : X.mg "range" = none) (ha : PA X [a] (LA R W (dArgs [m]))) (hs : starEach [a] X.env = [(false, eval a X.env)] := by rfl) : PI X tg (.Call (.Name "range" p) [a] [] pos) (LI R W (dRng gRng1 [m])) :=
  wkI (pi_range1 hg hm ha hs) fun σ H Rr ⟨F, env, ow, s, h⟩ => by
    refine LA_mono (LA_bnd s h) fun vs H1 ⟨xs, env1, F1, ow1, s1, st1, r1, h⟩ => ?_
    obtain ⟨ys, e, h⟩ := h.ofOpt'
    unfold gRng1 at e
    split at e
    · rename_i j
      split at e
      · rename_i c
        cases e
        obtain ⟨v, r, rfl, e1, e2⟩ := r1
        have e1 : v = _ := e1
        have e2 : r = _ := e2
        subst e1 e2
        exact ⟨j, rfl, c.1, c.2, h F1 H1 ow1 st1 s1 _ (walk_rng _ _)⟩
      · cases e
    · cases e
theorem ji_rng2 {tg a b : Expr} {m m' : M Opd} {p : Pos} (hg : Gl X "range") (hm : X.mg "range" = none) (ha : PA X [a, b] (LA R W (dArgs [m, m']))) (hs : starEach [a, b] X.env = [(false, eval a X.env), (false, eval b X.env)] := by rfl) (hs2 : starEach [b] X.env = [(false, eval b X.env)] := by rfl) : PI X tg (.Call (.Name "range" p) [a, b] [] pos) (LI R W (dRng gRng2 [m, m'])) :=
  wkI (pi_range2 hg hm ha hs hs2) fun σ H Rr ⟨F, env, ow, s, h⟩ => by
    refine LA_mono (LA_bnd s h) fun vs H1 ⟨xs, env1, F1, ow1, s1, st1, r1, h⟩ => ?_
    obtain ⟨ys, e, h⟩ := h.ofOpt'
    unfold gRng2 at e
    split at e
    · rename_i i j
      split at e
      · rename_i c
        cases e
        obtain ⟨v, r, rfl, e1, v2, r2, rfl, e2, e3⟩ := r1
        have e1 : v = _ := e1
        have e2 : v2 = _ := e2
        have e3 : r2 = _ := e3
        subst e1 e2 e3
        exact ⟨i, j, rfl, ⟨c.1.1, c.1.2, c.2.1, c.2.2⟩, h F1 H1 ow1 st1 s1 _ (walk_rng _ _)⟩
      · cases e
    · cases e

end
section
variable {X : Cx} {R : RC} {W : WP} {pos : Pos} {es : List Expr} {e : Expr} {t : D → M Unit} {u : List D → M Unit}
/-! ### for -/
def dForL (t : D → M Unit) (b : M Fl) : List D → M Fl
  | [] => pur .nx
  | x :: xs => bnd (KEx (t x)) fun _ => bnd b fun fl => match fl with
    | .nx => dForL t b xs
    | .cnt => dForL t b xs
    | .brk => pur .nx
    | .ret d => pur (.ret d)
def dFor (it : M (List D)) (t : D → M Unit) (b : M Fl) : M Fl := bnd it fun xs => dForL t b xs
/-- the turns of a loop whose walk is known -/
theorem for_core {Dn : Ends} {J : It} {b : M Fl} {xs : List D} {F1 H1 : Hp} {ow1 : Nat → Addr → Prop} {env1 : En} {σ : L2.St} (wk : WalkD R J xs F1 H1) (s1 : SR R F1 H1 σ env1 ow1) (pn : W.pin σ) (k : PostS R W F1 H1 ow1 (KS R Dn) (dForL t b xs env1)) :
    ∃ Wv : Nat → Nat → L2.St → Hp → Prop, (∃ m, Wv 0 m σ H1) ∧ ∀ i m σ H, Wv i m σ H → (J.stop i H ∧ Dn.nx σ H) ∨ (J.go i H ∧ ∃ N : L2.St → Hp → Prop, (∀ σ' H', N σ' H' → ∃ m', m' < m ∧ Wv (i + 1) m' σ' H') ∧ ∀ x H', J.yld i H x H' → LG R W.pn t x σ H' fun σ2 H2 => LS R W b { Dn with nx := N, ct := N, bk := Dn.nx } σ2 H2) := by
  refine ⟨fun i m σ' H' => m = xs.length - i ∧ i ≤ xs.length ∧ ∃ F' env' ow', SR R F' H' σ' env' ow' ∧ W.pin σ' ∧ ((∀ a u, F1 a = some u → F' a = some u) ∧ Fz H1 H') ∧ PostS R W F' H' ow' (KS R Dn) (dForL t b (xs.drop i) env'),
    ⟨xs.length, by simp, Nat.zero_le _, F1, env1, ow1, s1, pn, ⟨fun _ _ z => z, fun _ _ _ z => z⟩, by rw [List.drop_zero]; exact k⟩, fun i m σ' H' hW => ?_⟩
  obtain ⟨rfl, hi, F', env', ow', s', pn', g', k'⟩ := hW
  obtain ⟨w1, w2⟩ := wk i F' H' s'.le g'.1 g'.2
  by_cases hlt : i < xs.length
  · right
    have hx : xs[i]? = some xs[i] := List.getElem?_eq_getElem hlt
    obtain ⟨go, yl⟩ := w1 _ hx
    refine ⟨go, fun σ2 H2 => ∃ F2 env2 ow2, SR R F2 H2 σ2 env2 ow2 ∧ W.pin σ2 ∧ ((∀ a u, F1 a = some u → F2 a = some u) ∧ Fz H1 H2) ∧ PostS R W F2 H2 ow2 (KS R Dn) (dForL t b (xs.drop (i + 1)) env2), fun σ2 H2 ⟨F2, env2, ow2, s2, p2, g2, k2⟩ => ⟨xs.length - (i + 1), by omega, rfl, hlt, F2, env2, ow2, s2, p2, g2, k2⟩, fun v H2 hy => ?_⟩
    obtain ⟨F2, xt, rv⟩ := yl v H2 hy
    obtain ⟨j1, j2, _⟩ := xt.fin (p := .d _) s' rv
    rw [List.drop_eq_getElem_cons hlt] at k'
    refine ⟨F2, env', ow', xs[i], j2, pn', rv, (toFalse (PostS.fst (k'.step s'.nofU j1))).mono fun _ env3 σ3 F3 H3 ow3 st3 s3 _ k3 p3 => ?_⟩
    refine ⟨F3, env3, ow3, s3, p3, (PostS.fst (k3.step j2.nofU st3)).mono fun fl env4 σ4 F4 H4 ow4 st4 s4 p4 k4 => ?_⟩
    have g4 : (∀ a u, F1 a = some u → F4 a = some u) ∧ Fz H1 H4 := ⟨fun a u z => st4.ex a u (st3.ex a u (j1.ex a u (g'.1 a u z))), fun a o u z => st4.fz a o u (st3.fz a o u (j1.fz a o u (g'.2 a o u z)))⟩
    cases fl with
    | nx => exact ⟨F4, env4, ow4, s4, p4, g4, k4.step s3.nofU st4⟩
    | cnt => exact ⟨F4, env4, ow4, s4, p4, g4, k4.step s3.nofU st4⟩
    | brk => exact k4 σ4 F4 H4 ow4 st4 s4 p4
    | ret d => exact k4 σ4 F4 H4 ow4 st4 s4 p4
  · left
    have e : i = xs.length := by omega
    subst e
    rw [List.drop_length] at k'
    exact ⟨w2 rfl, k' σ' F' H' ow' (.refl _ _ _) s' pn'⟩

theorem js_for {tg iter : Expr} {body : List Stmt} {it : M (List D)} {b : M Fl} (hp : PassesOwn (model X.prog X.w) X.A X.env X.xe) (hc : X.calm = true) (hi : PI X tg iter (LI R W.w it)) (hg : PG X tg (LG R W.pn t)) (hb : PSs X body (LS R W b))
    (hs : ∀ x, foldedSetIterable iter X.env x = pure x := by intro _; rfl) : PS X (.For tg iter body [] pos) (LS R W (dFor it t b)) := wkS (ps_for hp hc hi hg hb hs) fun Dn σ H ⟨F, env, ow, s, pn, h⟩ =>
  ⟨F, env, ow, s, (PostS.post pn h).mono fun xs env1 F1 H1 ow1 st1 s1 k J wk => for_core wk s1 pn (k.step s.nofU st1)⟩

/-! ### a list of the frame's own is changed -/
/-- what slot i holds -/
def own (i : Nat) : M O := fun e => match gt e i with
  | some (.o o) => .ok o e
  | _ => .no
def putO (i : Nat) (o : O) : M Unit := fun e => .ok () (st e i (some (.o o)))
def appO (i : Nat) (x : D) : M Unit := bnd (own i) fun o => match o with
  | .lst xs => if xs.length < SZ then putO i (.lst (xs ++ [x])) else nop
  | _ => nop
/-- slot i holds a list of the frame's own -/
def isL (i : Nat) : M Unit := bnd (own i) fun o => match o with
  | .lst _ => pur ()
  | _ => nop
def dApp (i : Nat) (m : M Opd) : M Fl := bnd (isL i) fun _ => bnd m fun p => bnd (pub p) fun x => bnd (appO i x) fun _ => pur .nx
theorem isL_ok {α} {F H : Hp} {ow : Nat → Addr → Prop} {σ : L2.St} {env : En} {K : KTS α} {i : Nat} {f : Unit → M α} (s : SR R F H σ env ow) (h : PostS R W F H ow K (bnd (isL i) f env)) : ∃ a vs, σ[i]? = some (some (.ref a)) ∧ H a = some (.lst vs) ∧ PostS R W F H ow K (f () env) := by
  unfold isL own bnd at h
  cases e : gt env i with
  | none => simp only [e] at h; exact h.elim
  | some sl =>
    cases sl with
    | d y => simp only [e] at h; exact h.elim
    | o o =>
      simp only [e] at h
      obtain ⟨v, h1, h2⟩ := s.sl i _ e
      cases o with
      | lst xs =>
        obtain ⟨a, vs, rfl, _, h3, _⟩ := h2
        exact ⟨a, vs, h1, h3, h⟩
      | dic ks => exact h.elim
      | drw s => exact h.elim
theorem appO_ok {α} {F0 H0 F H : Hp} {ow0 ow : Nat → Addr → Prop} {σ : L2.St} {env : En} {K : KTS α} {i : Nat} {x : D} {v w : V} {f : Unit → M α} (l : ∀ a, un ow0 a → F0 a = none) (s : SR R F H σ env ow) (st0 : Step F0 H0 (un ow0) F H (un ow)) (hv : σ[i]? = some (some v)) (r : Rep R F x w) (h : PostS R W F0 H0 ow0 K (bnd (appO i x) f env)) :
    ∃ a vs env', v = .ref a ∧ H a = some (.lst vs) ∧ vs.length < sizeLine ∧ SR R F (upd H a (.lst (vs ++ [w]))) σ env' ow ∧ Step F0 H0 (un ow0) F (upd H a (.lst (vs ++ [w]))) (un ow) ∧ PostS R W F0 H0 ow0 K (f () env') := by
  unfold appO own bnd at h
  cases e : gt env i with
  | none => simp only [e] at h; exact h.elim
  | some sl =>
    cases sl with
    | d y => simp only [e] at h; exact h.elim
    | o o =>
      simp only [e] at h
      obtain ⟨v', h1, h2⟩ := s.sl i _ e
      rw [hv] at h1
      cases h1
      cases o with
      | dic ks => exact h.elim
      | drw s => exact h.elim
      | lst xs =>
        obtain ⟨a, vs, rfl, sa, h3, h4⟩ := h2
        by_cases hl : xs.length < SZ
        · simp only [hl, if_true] at h
          obtain ⟨k1, k2⟩ := s.write (o' := .lst (xs ++ [x])) (u := .lst (vs ++ [w])) sa h3 nt_lst (fun _ _ z => by cases z) hv (gt_lt e) ⟨a, vs ++ [w], rfl, sa, upd_same, h4.append ⟨w, [], rfl, r, rfl⟩⟩
          exact ⟨a, vs, _, rfl, h3, by rw [h4.length]; exact hl, k1, st0.trans l k2, h⟩
        · simp only [hl, if_false] at h
          exact h.elim
theorem js_app {i : Nat} {y : Str} {py ap cp : Pos} {m : M Opd} (hy : PE X (.Name y py) (tVar i)) (he : PE X e (LE R W.w m)) (hs0 : starEach [e] X.env = (false, eval e X.env) :: starEach [] X.env := by rfl) (hs : swapsWith (.Call (.Attribute (.Name y py) "append" ap) [e] [] cp) none pos.line X.env = pure false := by rfl)
    (hbm : ∀ (t : TA), PA X [e] t → PE X (.Call (.Attribute (.Name y py) "append" ap) [e] [] cp) (tBM X.K "list" rAppend (tVar i) t)) : PS X (.Expr (.Call (.Attribute (.Name y py) "append" ap) [e] [] cp) pos) (LS R W (dApp i m)) :=
  wkS (ps_expr (hbm _ (pa_cons he pa_nil hs0)) hs) fun Dn σ H ⟨F, env, ow, s, pn, h⟩ => by
    obtain ⟨a, vs, ha, hH, h⟩ := isL_ok s h
    refine ⟨.ref a, ha, .inl ⟨rfl, _, .of hH⟩, ?_⟩
    refine LE_mono (SE_bnd s pn h) fun v H1 ⟨p, env1, F1, ow1, s1, st1, ok1, h⟩ => ?_
    obtain ⟨x, env2, ex, h⟩ := h.ofPub
    obtain ⟨F2, ow2, s2, st2, r2⟩ := pub_step s.nofU s1 st1 ok1 ex
    obtain ⟨b, us, env3, e1, hb, hl, s3, st3, h⟩ := appO_ok s.nofU s2 st2 ha r2 h
    cases e1
    exact ⟨a, us, v, rfl, rfl, hb, hl, h σ F2 _ ow2 st3 s3 pn⟩

/-! ### several names at once -/
theorem setDs {F H : Hp} {ow : Nat → Addr → Prop} {σ : L2.St} {env : En} {i : Nat} {x : D} {v : V} {F0 H0 : Hp} {ow0 : Nat → Addr → Prop} (s : SR R F H σ env ow) (st0 : Step F0 H0 (un ow0) F H (un ow)) (r : Rep R F x v) :
    ∃ ow', SR R F H (σ.set i (some v)) (st env i (some (.d x))) ow' ∧ Step F0 H0 (un ow0) F H (un ow') := by
  obtain ⟨ow2, s2, k⟩ := s.setD (i := i) r
  exact ⟨ow2, s2, st0.less fun a ⟨j, z⟩ => .inl ⟨j, k j a z⟩⟩
def dPar2 (i j : Nat) (ma mb : M Opd) : M Fl := bnd (dArgs [ma, mb]) fun xs => match xs with
  | [x, y] => fun e => .ok .nx (st (st e i (some (.d x))) j (some (.d y)))
  | _ => nop
theorem js_par2 {i j : Nat} {x y : Str} {a b : Expr} {ma mb : M Opd} {px py pt : Pos} {kt k2 pt2} (hc : X.calm = true) (hN : X.N.Nodup) (hi : X.N[i]? = some x) (hj : X.N[j]? = some y) (hij : i ≠ j)
    (hx : X.env.scope.names.lookup x = some .local) (hy : X.env.scope.names.lookup y = some .local) (ha : PA X [a, b] (LA R W.w (dArgs [ma, mb]))) (hpi : i ≠ 0 ∨ W.pn = none) (hpj : j ≠ 0 ∨ W.pn = none)
    (hw : swappedStores [.Tuple [.Name x px, .Name y py] kt pt] (.Tuple [a, b] k2 pt2) X.env = pure (some [x, y]))
    (hs : swapsWithSole [.Tuple [.Name x px, .Name y py] kt pt] (.Tuple [a, b] k2 pt2) pos.line X.env = pure false := by rfl) :
    PS X (.Assign [.Tuple [.Name x px, .Name y py] kt pt] (.Tuple [a, b] k2 pt2) pos) (LS R W (dPar2 i j ma mb)) :=
  wkS (ps_par hc hN hi hj hij hx hy ha hw hs) fun Dn σ H ⟨F, env, ow, s, pn, h⟩ => by
    refine LA_mono (SA_bnd s pn h) fun vs H1 ⟨xs, env1, F1, ow1, s1, st1, r1, h⟩ => ?_
    match xs, r1, h with
    | [], _, h => exact h.elim
    | [_], _, h => exact h.elim
    | [x1, y1], r1, h =>
      obtain ⟨v, r, rfl, e1, w, r2, rfl, e2, e3⟩ := r1
      have e3 : r2 = _ := e3
      subst e3
      obtain ⟨ow2, s2, st2⟩ := setDs (i := i) s1 st1 e1
      obtain ⟨ow3, s3, st3⟩ := setDs (i := j) s2 st2 e2
      exact ⟨v, w, rfl, h _ F1 H1 ow3 st3 s3 (WP.pinSet w (WP.pinSet v pn hpi) hpj)⟩
    | _ :: _ :: _ :: _, _, h => exact h.elim
def dPar3 (i j l : Nat) (ma mb mc : M Opd) : M Fl := bnd (dArgs [ma, mb, mc]) fun xs => match xs with
  | [x, y, z] => fun e => .ok .nx (st (st (st e i (some (.d x))) j (some (.d y))) l (some (.d z)))
  | _ => nop
theorem js_par3 {i j l : Nat} {x y z : Str} {a b c : Expr} {ma mb mc : M Opd} {px py pz pt : Pos} {kt k2 pt2} (hc : X.calm = true) (hN : X.N.Nodup) (hi : X.N[i]? = some x) (hj : X.N[j]? = some y) (hl : X.N[l]? = some z) (hij : i ≠ j) (hil : i ≠ l) (hjl : j ≠ l)
    (hx : X.env.scope.names.lookup x = some .local) (hy : X.env.scope.names.lookup y = some .local) (hz : X.env.scope.names.lookup z = some .local) (ha : PA X [a, b, c] (LA R W.w (dArgs [ma, mb, mc]))) (hpi : i ≠ 0 ∨ W.pn = none) (hpj : j ≠ 0 ∨ W.pn = none) (hpl : l ≠ 0 ∨ W.pn = none)
    (hw : swappedStores [.Tuple [.Name x px, .Name y py, .Name z pz] kt pt] (.Tuple [a, b, c] k2 pt2) X.env = pure (some [x, y, z]))
    (hs : swapsWithSole [.Tuple [.Name x px, .Name y py, .Name z pz] kt pt] (.Tuple [a, b, c] k2 pt2) pos.line X.env = pure false := by rfl) :
    PS X (.Assign [.Tuple [.Name x px, .Name y py, .Name z pz] kt pt] (.Tuple [a, b, c] k2 pt2) pos) (LS R W (dPar3 i j l ma mb mc)) :=
  wkS (ps_par3 hc hN hi hj hl hij hil hjl hx hy hz ha hw hs) fun Dn σ H ⟨F, env, ow, s, pn, h⟩ => by
    refine LA_mono (SA_bnd s pn h) fun vs H1 ⟨xs, env1, F1, ow1, s1, st1, r1, h⟩ => ?_
    match xs, r1, h with
    | [], _, h => exact h.elim
    | [_], _, h => exact h.elim
    | [_, _], _, h => exact h.elim
    | [x1, y1, z1], r1, h =>
      obtain ⟨v, r, rfl, e1, w, r2, rfl, e2, u, r3, rfl, e3, e4⟩ := r1
      have e4 : r3 = _ := e4
      subst e4
      obtain ⟨ow2, s2, st2⟩ := setDs (i := i) s1 st1 e1
      obtain ⟨ow3, s3, st3⟩ := setDs (i := j) s2 st2 e2
      obtain ⟨ow4, s4, st4⟩ := setDs (i := l) s3 st3 e3
      exact ⟨v, w, u, rfl, h _ F1 H1 ow4 st4 s4 (WP.pinSet u (WP.pinSet w (WP.pinSet v pn hpi) hpj) hpl)⟩
    | _ :: _ :: _ :: _ :: _, _, h => exact h.elim

/-! ### name op= value -/
def fSub0 : D → D → Option Opd := gI (fun _ _ => true) fun i j => .int (i + j)
def dAug (i : Nat) (g : D → D → Option Opd) (m : M Opd) : M Fl := bnd (dOp2 g (dNm i) m) fun p => bnd (setS i p) fun _ => pur .nx
theorem js_aug {i : Nat} {x : Str} {op : Operator} {r : R2} {g : D → D → Option Opd} {m : M Opd} {pos' : Pos} (hN : X.N.Nodup) (hg : Op2 R g r) (ho : PIp X op r) (he : PE X e (LE R W.w m)) (hi : X.N[i]? = some x := by rfl) (hx : Loc X.env.scope x := by first | exact Or.inl rfl | exact Or.inr rfl) (hf : X.fn x = true ∨ X.env.scope.names.lookup x = some .local := by first | exact .inl rfl | exact .inr rfl | assumption) (hp : i ≠ 0 ∨ W.pn = none := by first | exact .inl (by decide) | exact .inr rfl) :
    PS X (.AugAssign (.Name x pos') op e pos) (LS R W (dAug i g m)) := wkS (ps_aug hN hi hx he ho hf) fun Dn σ H h => by
  have h := LS_asg hp h
  have h := LE_op2 hg h
  obtain ⟨F, env, ow, s, h⟩ := h
  unfold dNm at h
  cases e : gt env i with
  | none =>
    rw [e] at h
    exact h.elim
  | some sl =>
    rw [e] at h
    obtain ⟨v, e1, k⟩ := s.sl i _ e
    cases sl with
    | d y => exact ⟨v, e1, h F H ow (.refl _ _ _) s v k⟩
    | o y => exact ⟨v, e1, h F H ow (.refl _ _ _) s v e1⟩
theorem pip_of {op : Operator} {r : R2} (h : OpR X (inplaceOp op) r) : PIp X op r := fun pins s σ H x y v u Q I rx ry q => h pins s σ H x y v u Q I rx ry q
theorem js_augAdd {i : Nat} {x : Str} {m : M Opd} {pos' : Pos} (hN : X.N.Nodup) (he : PE X e (LE R W.w m)) (hi : X.N[i]? = some x := by rfl) (hx : Loc X.env.scope x := by first | exact Or.inl rfl | exact Or.inr rfl) (hf : X.fn x = true ∨ X.env.scope.names.lookup x = some .local := by first | exact .inl rfl | exact .inr rfl | assumption) (hp : i ≠ 0 ∨ W.pn = none := by first | exact .inl (by decide) | exact .inr rfl) :
    PS X (.AugAssign (.Name x pos') .Add e pos) (LS R W (dAug i fSub0 m)) := js_aug hN (op2_I0 fun _ _ => rfl) (pip_of iop_add) he hi hx hf hp

/-! ### a raise -/
def dRaise (c : Nat) : M Fl := fun e => .ex c [] e
end
end Dv
set_option Elab.async false
set_option linter.all false
set_option maxRecDepth 100000
set_option maxHeartbeats 4000000
/-! Dv7: the rule of a def; exceptions raised. -/
namespace Dv
open PySem PySem.Spec PyProof.Rows L2
variable [TabC]

def dsl (ds : List D) (n : Nat) : En := ds.map (fun d => some (.d d)) ++ List.replicate n none
def slots (o : Option O) (ds : List D) (n : Nat) : En := match o with
  | none => dsl ds n
  | some o => some (.o o) :: dsl ds n
/-- the def whose body is m; n: how many names it has beside its parameters -/
def runF (n : Nat) (m : M Fl) : Fn := fun o ds => match o with
  | some _ => .no
  | none => match m (dsl ds n) with
    | .ok (.ret d) _ => .ok d none
    | .ok .nx _ => .ok .non none
    | .ok _ _ => .no
    | .ex c fs _ => .ex c fs none
    | .no => .no
def outO (e : En) : Option O := match gt e 0 with
  | some (.o o) => some o
  | _ => none
/-- .. whose first argument is changed -/
def runI (n : Nat) (m : M Fl) : Fn := fun o ds => match o with
  | none => .no
  | some o => match m (some (.o o) :: dsl ds n) with
    | .ok (.ret d) e => .ok d (outO e)
    | .ok .nx e => .ok .non (outO e)
    | .ok _ _ => .no
    | .ex c fs e => .ex c fs (outO e)
    | .no => .no

theorem gt_rep : ∀ (n i : Nat), gt (List.replicate n none) i = none
  | 0, _ => rfl
  | n + 1, 0 => rfl
  | n + 1, i + 1 => gt_rep n i
theorem gt_dsl : ∀ {ds : List D} {n i : Nat} {s : Sl}, gt (dsl ds n) i = some s → ∃ d, ds[i]? = some d ∧ s = .d d
  | [], n, i, s, h => by
    have h : gt (List.replicate n none) i = some s := h
    rw [gt_rep] at h; cases h
  | d :: r, n, 0, s, h => by
    cases h
    exact ⟨d, rfl, rfl⟩
  | d :: r, n, i + 1, s, h => gt_dsl (ds := r) (n := n) h
theorem dsl_len (ds : List D) (n : Nat) : (dsl ds n).length = ds.length + n := by
  unfold dsl
  rw [List.length_append, List.length_map, List.length_replicate]
theorem start_get {N : List Str} {vs : List V} {i : Nat} {v : V} (h : vs[i]? = some v) : (L2.start N vs)[i]? = some (some v) := by
  unfold L2.start
  rw [List.getElem?_append_left (by rw [List.length_map]; exact (List.getElem?_eq_some_iff.mp h).1), List.getElem?_map, h]
  rfl
theorem start_len {N : List Str} {vs : List V} (h : vs.length ≤ N.length) : (L2.start N vs).length = N.length := by
  unfold L2.start
  rw [List.length_append, List.length_map, List.length_replicate]
  omega
theorem sr_start {R F H} {S : Addr → Prop} {o : Option O} {ds : List D} {vs vs' : List V} {N : List Str} {n : Nat} (le : Le F H) (tb : TabsC F H ∧ nT F) (hS : ∀ a, S a → F a = none ∧ ¬ Ov H a) (h1 : inRep R F H S vs vs' o) (h2 : Reps R F ds vs') (hn : io1 o + ds.length + n = N.length) :
    SR R F H (L2.start N vs) (slots o ds n) (fun i a => i = 0 ∧ S a ∧ o.isSome = true) := by
  have hl := h2.length
  cases o with
  | none =>
    have h1 : vs = vs' := h1
    subst h1
    have hn : 0 + ds.length + n = N.length := hn
    refine ⟨le, fun i a h => hS a h.2.1, fun i j a h k => h.1.trans k.1.symm, ?_, fun i s h => ?_, tb.1, tb.2⟩
    · rw [start_len (by omega)]
      show (dsl ds n).length = _
      rw [dsl_len]; omega
    · obtain ⟨d, e, rfl⟩ := gt_dsl h
      obtain ⟨v, e1, r⟩ := h2.get e
      exact ⟨v, start_get e1, r⟩
  | some o =>
    obtain ⟨v0, rfl, r0⟩ := h1
    have hn : 1 + ds.length + n = N.length := hn
    refine ⟨le, fun i a h => hS a h.2.1, fun i j a h k => h.1.trans k.1.symm, ?_, fun i s h => ?_, tb.1, tb.2⟩
    · rw [start_len (by rw [List.length_cons]; omega)]
      show (dsl ds n).length + 1 = _
      rw [dsl_len]; omega
    · cases i with
      | zero =>
        have h : some (Sl.o o) = some s := h
        cases h
        exact ⟨v0, start_get rfl, RepO.mono (.refl _) (fun _ _ _ _ q => q) (fun a q => ⟨rfl, q, rfl⟩) r0⟩
      | succ i =>
        have h : gt (dsl ds n) i = some s := h
        obtain ⟨d, e, rfl⟩ := gt_dsl h
        obtain ⟨v, e1, r⟩ := h2.get e
        exact ⟨v, start_get (i := i + 1) e1, r⟩
section
variable {P : Program} {w : World} {K : PySem.W.Frag} {mg : Str → Option Value} {base : Heap} {R : RC}
/-- the body's reading at the start -/
theorem ls_start {N : List Str} {n ex : Nat} {m : M Fl} {vs : List V} {H : Hp} {Q : VK} {E : XK} (hx : n + ex = N.length) (hsp : spD R n (runF ex m) vs H Q E) : LS R ⟨fun cls d _ H => E cls d H, none⟩ m { nx := fun _ H' => Q .non H', rt := Q } (L2.start N vs) H := by
  obtain ⟨F0, S0, o, ds, vs', le, tb, hS, h1, h2, h3, post⟩ := hsp
  cases o with
  | some o => exact post.elim
  | none =>
  have sr := sr_start (N := N) (n := ex) le tb hS h1 h2 (by omega)
  refine ⟨F0, _, _, sr, (fun v e => by cases e), ?_⟩
  have st0 : ∀ {F' H' ow'}, Step F0 H (un fun i a => i = 0 ∧ S0 a ∧ (none : Option O).isSome = true) F' H' (un ow') → Step F0 H S0 F' H' (fun _ => False) := fun {F' H' ow'} st =>
    ⟨st.ex, fun a u q n z nt => st.keep a u q n (fun ⟨_, _, _, z'⟩ => by cases z') nt, fun a z => (st.fresh a z).imp id fun z => z.imp id (fun ⟨_, _, _, z⟩ => by cases z), fun a z => False.elim z, st.dom, st.tb, st.nt, st.fz⟩
  have post : FPost R F0 H S0 vs Q E (match m (dsl ds ex) with
    | .ok (.ret d) _ => .ok d none
    | .ok .nx _ => .ok .non none
    | .ok _ _ => .no
    | .ex c fs _ => .ex c fs none
    | .no => .no) := post
  show PostS R _ F0 H _ _ (m (dsl ds ex))
  cases e : m (dsl ds ex) with
  | no => rw [e] at post; exact post.elim
  | ex c fs e' =>
    rw [e] at post
    exact fun d kvs σ' F' H' ow' st sr' _ xd rx => post d kvs F' H' _ (st0 st) sr'.le (fun a z => False.elim z) trivial xd rx
  | ok fl e' =>
    rw [e] at post
    cases fl with
    | brk => exact post.elim
    | cnt => exact post.elim
    | nx => exact fun σ' F' H' ow' st sr' _ => post .non F' H' _ (st0 st) sr'.le (fun a z => False.elim z) trivial rfl
    | ret d => exact fun σ' F' H' ow' st sr' _ v r => post v F' H' _ (st0 st) sr'.le (fun a z => False.elim z) trivial r
/-- a def by its body -/
theorem fn_ok {x qual : Str} {sta : Stmt} {f : Addr} {fd : FuncData} {N ps : List Str} {k n ex : Nat} {m : M Fl} (F : Fun K x qual sta f fd) (S : FnScope N ps (defScope sta)) (hn : ps.length = n) (hx : n + ex = N.length)
    (hbody : ∀ (cdv : Value) (A : Around) (outer : List Env) (s : Shared) (H : Hp) (E : XK), Room k (A.deeper (envOfC qual (defScope sta) s.heap.objs.size f cdv)) →
      PSs (cxOf (L2.CX P w) P w K mg base N qual (defScope sta) f cdv A outer s H E) (defBody sta) (LS R ⟨fun cls d _ H => E cls d H, none⟩ m)) : FnOk P w K mg base (L2.CX P w) (k + 1) f fd ps (spD R n (runF ex m)) :=
  F.okX S (fun vs H Q E h => (spD_len h).trans hn.symm) fun cdv A outer s H vs Q E hr hsp => ⟨_, hbody cdv A outer s H E hr, ls_start hx hsp⟩
/-- .. whose code object is known -/
theorem fn_okC {x qual : Str} {sta : Stmt} {f : Addr} {oc kV doc pm cdv ct : Value} {od an : Option Addr} {osl : Array (Option Value)} {N ps : List Str} {k n ex : Nat} {m : M Fl} (lk : K.lookup f = some ⟨oc, od, .func (PySem.W.fnOf x qual (defArgs sta) (defBody sta) (defScope sta) .none kV doc pm an cdv ct), osl⟩)
    (hcd : PySem.W.codeIn K cdv qual = true) (S : FnScope N ps (defScope sta)) (hn : ps.length = n) (hx : n + ex = N.length)
    (hbody : ∀ (A : Around) (outer : List Env) (s : Shared) (H : Hp) (E : XK), Room k (A.deeper (envOfC qual (defScope sta) s.heap.objs.size f cdv)) →
      PSs (cxOf (L2.CX P w) P w K mg base N qual (defScope sta) f cdv A outer s H E) (defBody sta) (LS R ⟨fun cls d _ H => E cls d H, none⟩ m)) : FnOk P w K mg base (L2.CX P w) (k + 1) f (PySem.W.fnOf x qual (defArgs sta) (defBody sta) (defScope sta) .none kV doc pm an cdv ct) ps (spD R n (runF ex m)) :=
  fn_of lk hcd S (fun vs H Q E h => (spD_len h).trans hn.symm) fun A outer s H vs Q E hr hsp => ⟨_, hbody A outer s H E hr, ls_start hx hsp⟩
theorem outO_rep {F H : Hp} {σ : L2.St} {e : En} {ow : Nat → Addr → Prop} {v : V} {r : List V} (s : SR R F H σ e ow) (h : σ[0]? = some (some v)) : outRep R F H (ow 0) (v :: r) (outO e) := by
  unfold outO
  cases q : gt e 0 with
  | none => trivial
  | some sl =>
    cases sl with
    | d y => trivial
    | o o =>
      obtain ⟨v', e1, k⟩ := s.sl 0 _ q
      rw [h] at e1
      cases e1
      exact ⟨v, r, rfl, k⟩
theorem fn_okI {x qual : Str} {sta : Stmt} {f : Addr} {fd : FuncData} {N ps : List Str} {k n ex : Nat} {m : M Fl} (F : Fun K x qual sta f fd) (S : FnScope N ps (defScope sta)) (hn : ps.length = n) (hx : n + ex = N.length)
    (hbody : ∀ (cdv : Value) (A : Around) (outer : List Env) (s : Shared) (H : Hp) (E : XK) (v : V), Room k (A.deeper (envOfC qual (defScope sta) s.heap.objs.size f cdv)) →
      PSs (cxOf (L2.CX P w) P w K mg base N qual (defScope sta) f cdv A outer s H E) (defBody sta) (LS R ⟨fun cls d _ H => E cls d H, some v⟩ m)) : FnOk P w K mg base (L2.CX P w) (k + 1) f fd ps (spD R n (runI ex m)) := by
  refine F.okX S (fun vs H Q E h => (spD_len h).trans hn.symm) fun cdv A outer s H vs Q E hr hsp => ⟨_, hbody cdv A outer s H E (vs.headD .non) hr, ?_⟩
  obtain ⟨F0, S0, o, ds, vs', le, tb, hS, h1, h2, h3, post⟩ := hsp
  cases o with
  | none => exact post.elim
  | some o =>
  have sr := sr_start (N := N) (n := ex) le tb hS h1 h2 (by omega)
  obtain ⟨v0, rfl, r0⟩ := h1
  refine ⟨F0, _, _, sr, (fun v e => ?_), ?_⟩
  · cases e
    exact start_get rfl
  have st0 : ∀ {F' H' ow'}, Step F0 H (un fun i a => i = 0 ∧ S0 a ∧ (some o).isSome = true) F' H' (un ow') → Step F0 H S0 F' H' (ow' 0) := fun {F' H' ow'} st =>
    ⟨st.ex, fun a u q n z nt => st.keep a u q n (fun ⟨_, _, z', _⟩ => z z') nt, fun a z => (st.fresh a z).imp id fun z => z.imp id fun ⟨_, _, z, _⟩ => z, fun a z => (st.owf a ⟨0, z⟩).imp (fun ⟨_, _, z, _⟩ => z) id, st.dom, st.tb, st.nt, st.fz⟩
  have post : FPost R F0 H S0 (v0 :: vs') Q E (match m (some (.o o) :: dsl ds ex) with
    | .ok (.ret d) e => .ok d (outO e)
    | .ok .nx e => .ok .non (outO e)
    | .ok _ _ => .no
    | .ex c fs e => .ex c fs (outO e)
    | .no => .no) := post
  show PostS R _ F0 H _ _ (m (some (.o o) :: dsl ds ex))
  cases e : m (some (.o o) :: dsl ds ex) with
  | no => rw [e] at post; exact post.elim
  | ex c fs e' =>
    rw [e] at post
    exact fun d kvs σ' F' H' ow' st sr' p' xd rx => post d kvs F' H' _ (st0 st) sr'.le (fun a z => sr'.nof 0 a z) (outO_rep sr' (p' v0 rfl)) xd rx
  | ok fl e' =>
    rw [e] at post
    cases fl with
    | brk => exact post.elim
    | cnt => exact post.elim
    | nx => exact fun σ' F' H' ow' st sr' p' => post .non F' H' _ (st0 st) sr'.le (fun a z => sr'.nof 0 a z) (outO_rep sr' (p' v0 rfl)) rfl
    | ret d => exact fun σ' F' H' ow' st sr' p' v r => post v F' H' _ (st0 st) sr'.le (fun a z => sr'.nof 0 a z) (outO_rep sr' (p' v0 rfl)) r
/-- a promise of a greater fn -/
def FLe (f g : Fn) : Prop := ∀ o ds, g o ds ≠ .no → f o ds = g o ds
theorem fn_imp {k n : Nat} {f : Addr} {fd : FuncData} {ps : List Str} {CX : CXT} {fn fn' : Fn} (F : FnOk P w K mg base CX k f fd ps (spD R n fn)) (h : FLe fn fn') : FnOk P w K mg base CX k f fd ps (spD R n fn') :=
  F.imp fun vs H Q E ⟨F0, S, o, ds, vs', h1, tb, h2, h3, h4, h5, post⟩ => ⟨F0, S, o, ds, vs', h1, tb, h2, h3, h4, h5, by
    rw [h o ds]
    · exact post
    · intro z
      rw [z] at post
      exact post⟩
end
end Dv
set_option Elab.async false
set_option linter.all false
set_option maxRecDepth 100000
set_option maxHeartbeats 4000000
/-! Dv8: list comprehensions. -/
namespace Dv
open PySem PySem.Spec PyProof.Rows L2
variable [TabC]

/-! ### targets of a comprehension -/
def setAll (σ : L2.St) : List (Nat × V) → L2.St
  | [] => σ
  | p :: r => setAll (σ.set p.1 (some p.2)) r
def setAllE (e : En) : List (Nat × D) → En
  | [] => e
  | p :: r => setAllE (st e p.1 (some (.d p.2))) r
def RepN (R : RC) (F : Hp) : List (Nat × D) → List (Nat × V) → Prop
  | [], vs => vs = []
  | x :: xs, vs => ∃ v r, vs = (x.1, v) :: r ∧ Rep R F x.2 v ∧ RepN R F xs r
/-- the target g takes a value apart as f tells -/
def GC (R : RC) (K : PySem.W.Frag) (g : TG) (f : D → Option (List (Nat × D))) : Prop :=
  ∀ F H v x l, Le F H → Rep R F x v → f x = some l → ∃ vl, RepN R F l vl ∧ ∀ σ Q, Q (setAll σ vl) H → g v σ H Q
def fNm (i : Nat) : D → Option (List (Nat × D)) := fun x => some [(i, x)]
theorem gc_nm {R K} (i : Nat) : GC R K (gName i) (fNm i) := fun F H v x l le r e => by
  cases e
  exact ⟨[(i, v)], ⟨v, [], rfl, r, rfl⟩, fun σ Q q => q⟩
def zipN : List Nat → List D → Option (List (Nat × D))
  | [], [] => some []
  | i :: is, x :: xs => (zipN is xs).map fun r => (i, x) :: r
  | _, _ => none
def fTp (is : List Nat) : D → Option (List (Nat × D)) := fun x => match x with
  | .tup ys => zipN is ys
  | _ => none
def gNs : List Nat → TGs
  | [] => gNil
  | i :: r => gCons (gName i) (gNs r)
theorem zipN_len : ∀ {is : List Nat} {xs : List D} {l}, zipN is xs = some l → xs.length = is.length
  | [], [], _, _ => rfl
  | [], _ :: _, _, h => by cases h
  | _ :: _, [], _, h => by cases h
  | i :: is, x :: xs, l, h => by
    obtain ⟨r, e, rfl⟩ := Option.map_eq_some_iff.mp h
    show xs.length + 1 = is.length + 1
    rw [zipN_len e]
theorem gc_ns {R : RC} {F H : Hp} : ∀ {is : List Nat} {xs : List D} {vs : List V} {l}, Reps R F xs vs → zipN is xs = some l → ∃ vl, RepN R F l vl ∧ ∀ σ Q, Q (setAll σ vl) H → gNs is vs σ H Q
  | [], [], vs, l, r, h => by
    cases h
    have r : vs = [] := r
    exact ⟨[], rfl, fun σ Q q => ⟨r, q⟩⟩
  | [], _ :: _, _, _, _, h => by cases h
  | _ :: _, [], _, _, _, h => by cases h
  | i :: is, x :: xs, vs, l, r, h => by
    obtain ⟨r', e, rfl⟩ := Option.map_eq_some_iff.mp h
    obtain ⟨v, vr, rfl, h1, h2⟩ := r
    obtain ⟨vl, k1, k2⟩ := gc_ns h2 e
    exact ⟨(i, v) :: vl, ⟨v, vl, rfl, h1, k1⟩, fun σ Q q => ⟨v, vr, rfl, k2 _ Q q⟩⟩
theorem gc_tp {R : RC} {K} (hK : K = R.K) (is : List Nat) {n : Nat} (hn : is.length = n) : GC R K (gTup K n (gNs is)) (fTp is) := fun F H v x l le r e => by
  cases x with
  | tup ys =>
    obtain ⟨a, vs, rfl, h1, h2⟩ := r
    have e : zipN is ys = some l := e
    obtain ⟨vl, k1, k2⟩ := gc_ns (H := H) h2 e
    exact ⟨vl, k1, fun σ Q q => ⟨a, vs, rfl, hK ▸ le.sqT h1, by rw [h2.length, zipN_len e, hn], k2 σ Q q⟩⟩
  | _ => cases e

/-! ### forgetting and restoring -/
def wipeE (e : En) : List Nat → En
  | [] => e
  | i :: r => st (wipeE e r) i none
/-- no object of the frame's own stands there -/
def okW (e : En) : List Nat → Bool
  | [] => true
  | i :: r => (match gt e i with
    | some (.o _) => false
    | _ => true) && okW e r
def restE (e0 : En) : List Nat → En → En
  | [], e => e
  | i :: r, e => st (restE e0 r e) i (gt e0 i)
theorem wipeE_len (e : En) : ∀ vs, (wipeE e vs).length = e.length
  | [] => rfl
  | i :: r => by
    show (st (wipeE e r) i none).length = _
    rw [st_len, wipeE_len e r]
theorem restE_len (e0 e : En) : ∀ vs, (restE e0 vs e).length = e.length
  | [] => rfl
  | i :: r => by
    show (st (restE e0 r e) i _).length = _
    rw [st_len, restE_len e0 e r]
theorem gt_none_of_le : ∀ {e : En} {i : Nat}, e.length ≤ i → gt e i = none
  | [], _, _ => rfl
  | _ :: _, 0, h => absurd h (Nat.not_succ_le_zero _)
  | _ :: r, i + 1, h => gt_none_of_le (e := r) (Nat.le_of_succ_le_succ h)
theorem wipeE_get {e : En} {i : Nat} {s : Sl} : ∀ {vs : List Nat}, gt (wipeE e vs) i = some s → gt e i = some s ∧ i ∉ vs
  | [], h => ⟨h, by simp⟩
  | j :: r, h => by
    have h : gt (st (wipeE e r) j none) i = some s := h
    by_cases hj : i = j
    · subst hj
      by_cases hl : i < (wipeE e r).length
      · rw [gt_st_same _ _ _ hl] at h; cases h
      · rw [gt_none_of_le (by rw [st_len]; omega)] at h; cases h
    · rw [gt_st_ne _ _ hj] at h
      obtain ⟨h1, h2⟩ := wipeE_get h
      exact ⟨h1, fun m => (List.mem_cons.mp m).elim hj h2⟩
theorem restE_get {e0 e : En} (hl : e0.length = e.length) {i : Nat} {s : Sl} : ∀ {vs : List Nat}, gt (restE e0 vs e) i = some s → (i ∈ vs ∧ gt e0 i = some s) ∨ (i ∉ vs ∧ gt e i = some s)
  | [], h => .inr ⟨by simp, h⟩
  | j :: r, h => by
    have h : gt (st (restE e0 r e) j (gt e0 j)) i = some s := h
    by_cases hj : i = j
    · subst hj
      by_cases hl' : i < (restE e0 r e).length
      · rw [gt_st_same _ _ _ hl'] at h
        exact .inl ⟨List.mem_cons_self, h⟩
      · rw [gt_none_of_le (by rw [st_len]; omega)] at h; cases h
    · rw [gt_st_ne _ _ hj] at h
      rcases restE_get hl h with ⟨h1, h2⟩ | ⟨h1, h2⟩
      · exact .inl ⟨List.mem_cons_of_mem _ h1, h2⟩
      · exact .inr ⟨fun m => (List.mem_cons.mp m).elim hj h1, h2⟩
theorem okW_get {e : En} {o : O} : ∀ {vs : List Nat} {i : Nat}, okW e vs = true → i ∈ vs → gt e i ≠ some (.o o)
  | j :: r, i, h, m => by
    unfold okW at h
    rw [Bool.and_eq_true] at h
    rcases List.mem_cons.mp m with rfl | m
    · intro z
      rw [z] at h
      exact Bool.false_ne_true h.1
    · exact okW_get h.2 m
theorem wipe_mem {σ : L2.St} {i : Nat} : ∀ {vs : List Nat}, i ∈ vs → i < σ.length → (wipe σ vs)[i]? = some none
  | j :: r, m, hl => by
    unfold wipe
    by_cases hj : j = i
    · subst hj
      rw [List.getElem?_set_self (by rw [wipe_length]; exact hl)]
    · rw [List.getElem?_set_ne hj]
      rcases List.mem_cons.mp m with e | m
      · exact absurd e.symm hj
      · exact wipe_mem m hl
theorem wipe_ext {σ τ : L2.St} {vs : List Nat} (hl : σ.length = τ.length) (h : ∀ i, i ∉ vs → σ[i]? = τ[i]?) : wipe σ vs = wipe τ vs := by
  apply List.ext_getElem?
  intro i
  by_cases m : i ∈ vs
  · by_cases hi : i < σ.length
    · rw [wipe_mem m hi, wipe_mem m (hl ▸ hi)]
    · rw [List.getElem?_eq_none (by rw [wipe_length]; omega), List.getElem?_eq_none (by rw [wipe_length]; omega)]
  · rw [wipe_out m, wipe_out m, h i m]
theorem setAll_len : ∀ (vl : List (Nat × V)) (σ : L2.St), (setAll σ vl).length = σ.length
  | [], _ => rfl
  | p :: r, σ => by
    show (setAll (σ.set p.1 (some p.2)) r).length = _
    rw [setAll_len r, List.length_set]
theorem setAll_out {i : Nat} : ∀ (vl : List (Nat × V)) (σ : L2.St), (∀ p ∈ vl, p.1 ≠ i) → (setAll σ vl)[i]? = σ[i]?
  | [], _, _ => rfl
  | p :: r, σ, h => by
    show (setAll (σ.set p.1 (some p.2)) r)[i]? = _
    rw [setAll_out r _ fun q m => h q (List.mem_cons_of_mem _ m), List.getElem?_set_ne (h p List.mem_cons_self)]
theorem RepN.keys {R F} : ∀ {l : List (Nat × D)} {vl : List (Nat × V)}, RepN R F l vl → vl.map (·.1) = l.map (·.1)
  | [], _, h => by
    have h : _ = [] := h
    subst h; rfl
  | x :: xs, _, h => by
    obtain ⟨v, r, rfl, _, h2⟩ := h
    show x.1 :: _ = x.1 :: _
    rw [h2.keys]
theorem wipe_setAll {σ : L2.St} {vs : List Nat} {vl : List (Nat × V)} (h : ∀ p ∈ vl, p.1 ∈ vs) : wipe (setAll (wipe σ vs) vl) vs = wipe σ vs := by
  apply wipe_ext
  · rw [setAll_len, wipe_length]
  · intro i m
    rw [setAll_out vl _ fun p hp e => m (by rw [← e]; exact h p hp), wipe_out m]
theorem SR.setAll {R F H} : ∀ {l : List (Nat × D)} {vl : List (Nat × V)} {σ env ow}, SR R F H σ env ow → RepN R F l vl → ∃ ow', SR R F H (Dv.setAll σ vl) (setAllE env l) ow' ∧ ∀ j a, ow' j a → ow j a
  | [], vl, σ, env, ow, s, h => by
    have h : vl = [] := h
    subst h
    exact ⟨ow, s, fun _ _ z => z⟩
  | x :: xs, vl, σ, env, ow, s, h => by
    obtain ⟨v, r, rfl, h1, h2⟩ := h
    obtain ⟨ow1, s1, k1⟩ := s.setD (i := x.1) h1
    obtain ⟨ow2, s2, k2⟩ := SR.setAll s1 h2
    exact ⟨ow2, s2, fun j a z => k1 j a (k2 j a z)⟩
theorem SR.wipe {R F H σ env ow} (s : SR R F H σ env ow) (vs : List Nat) : SR R F H (L2.wipe σ vs) (wipeE env vs) ow :=
  ⟨s.le, s.nof, s.dis, by rw [wipeE_len, wipe_length]; exact s.len, fun i sl h => by
    obtain ⟨h1, h2⟩ := wipeE_get h
    obtain ⟨v, e, k⟩ := s.sl i sl h1
    exact ⟨v, by rw [wipe_out h2]; exact e, k⟩, s.tb, s.nt⟩
theorem SR.rewipe {R F H σ τ env ow} {vs : List Nat} (s : SR R F H τ env ow) (e : L2.wipe τ vs = L2.wipe σ vs) : SR R F H (L2.wipe σ vs) (wipeE env vs) ow := e ▸ s.wipe vs

/-! ### the loop -/
abbrev W0 : WX := fun _ _ _ _ => False
/-- an exception is nothing here -/
def nX {α} (m : M α) : M α := fun e => match m e with
  | .ok a e' => .ok a e'
  | _ => .no
theorem Post.nX {α} {R W σ F H ow} {K : KT α} {m : M α} {e : En} (h : Post R W σ F H ow K (Dv.nX m e)) : Post R W0 σ F H ow K (m e) := by
  unfold Dv.nX at h
  cases q : m e with
  | ok a e' => rw [q] at h; exact h
  | ex c fs e' => rw [q] at h; exact h.elim
  | no => rw [q] at h; exact h
/-- one turn: the target, the tests, the element -/
def turnL (f : D → Option (List (Nat × D))) (c : M Bool) (m : M Opd) (vs : List Nat) (x : D) (acc : List D) : M (List D) := fun e => match f x with
  | none => .no
  | some l => if l.all (fun p => vs.contains p.1) = true then (bnd (nX c) fun b => if b = true then bnd (nX m) fun p => bnd (pub p) fun y => (if acc.length < SZ then fun e' => .ok (acc ++ [y]) (wipeE e' vs) else nop) else fun e' => .ok acc (wipeE e' vs)) (setAllE e l) else .no
def loopL (f : D → Option (List (Nat × D))) (c : M Bool) (m : M Opd) (vs : List Nat) : List D → List D → M (List D)
  | [], acc => pur acc
  | x :: xs, acc => bnd (turnL f c m vs x acc) fun acc' => loopL f c m vs xs acc'
def dLc (it : M (List D)) (f : D → Option (List (Nat × D))) (c : M Bool) (m : M Opd) (vs : List Nat) : M Opd := bnd it fun xs => fun e => if okW e vs = true then (match loopL f c m vs xs [] (wipeE e vs) with
  | .ok acc e' => .ok (.n (.lst acc)) (restE e vs e')
  | _ => .no) else .no
theorem RepN.mem {R F} : ∀ {l : List (Nat × D)} {vl : List (Nat × V)} {vs : List Nat}, RepN R F l vl → l.all (fun p => vs.contains p.1) = true → ∀ p ∈ vl, p.1 ∈ vs := fun {l vl vs} r h p hp => by
  have e := r.keys
  have m : p.1 ∈ vl.map (·.1) := List.mem_map.mpr ⟨p, hp, rfl⟩
  rw [e] at m
  obtain ⟨q, hq, eq⟩ := List.mem_map.mp m
  have k := List.all_eq_true.mp h q hq
  rw [← eq]
  exact List.contains_iff_mem.mp k
/-- an object that is nobody's stays -/
theorem Step.off {F H ow F' H' ow'} {a : Addr} {u : HO} (s : Step F H ow F' H' ow') (h : H a = some u) (n : F a = none) (w : ¬ ow a) (nt : NT u) : H' a = some u ∧ F' a = none ∧ ¬ ow' a := by
  refine ⟨s.keep a u h n w nt, ?_, fun z => ?_⟩
  · cases q : F' a with
    | none => rfl
    | some x =>
      rcases s.fresh a (by rw [q]; exact fun z => nomatch z) with k | k | k
      · exact absurd n k
      · exact (k.no h nt).elim
      · exact absurd k w
  · rcases s.owf a z with k | k
    · exact w k
    · exact k.no h nt
/-- an object that is nobody's is changed -/
theorem SR.putOff {R F H σ env ow} {a : Addr} {u u' : HO} (s : SR R F H σ env ow) (h : H a = some u) (n : F a = none) (w : ¬ un ow a) (nt : NT u) (nc : ∀ c q, u ≠ LamX.CodeO c q) (nu : NT u' := by intro _ z; cases z) (nuc : ∀ c q, u' ≠ LamX.CodeO c q := by intro _ _ z; cases z) : SR R F (upd H a u') σ env ow := by
  refine ⟨fun b x e => ?_, fun i b z => ⟨(s.nof i b z).1, fun k => ?_⟩, s.dis, s.len, fun i sl e => ?_, tabs_put h nt nc nuc s.tb, s.nt⟩
  · have ne : b ≠ a := ne_of_none e n
    rcases s.le b x e with z | ⟨kvs, o, q, z⟩
    · exact .inl (by rw [upd_ne ne]; exact z)
    · exact .inr ⟨kvs, o, q, by rw [upd_ne ne]; exact z⟩
  · by_cases e : b = a
    · exact (e ▸ k : Ov _ a).no upd_same nu
    · exact (s.nof i b z).2 (k.eq (upd_ne e).symm)
  · obtain ⟨v, h1, h2⟩ := s.sl i sl e
    exact ⟨v, h1, h2.mono (.refl _) (fun b x z _ q => by
      have ne : b ≠ a := fun e => w ⟨i, by rw [← e]; exact z⟩
      rw [upd_ne ne]; exact q) fun _ q => q⟩
/-- .. seen from a state in which it was not there -/
theorem Step.putOff {F H ow F' H' ow'} {a : Addr} {u u' : HO} (s : Step F H ow F' H' ow') (h0 : H a = none) (h : H' a = some u) (nt : NT u) (nc : ∀ c q, u ≠ LamX.CodeO c q) (nf0 : ∀ o w, u ≠ .frz o w := by intro _ _ z; cases z) (nuc : ∀ c q, u' ≠ LamX.CodeO c q := by intro _ _ z; cases z) : Step F H ow F' (upd H' a u') ow' := by
  refine ⟨s.ex, fun b x e n w k => ?_, s.fresh, s.owf, fun b e => ?_, fun z => tabs_put h nt nc nuc (s.tb z), s.nt, fun b o w z => by
    have y := s.fz b o w z
    rw [upd_ne (show b ≠ a from fun e => nf0 o w (Option.some.inj (h.symm.trans (e ▸ y))))]; exact y⟩
  · rw [upd_ne (ne_of_none e h0)]
    exact s.keep b x e n w k
  · by_cases z : b = a
    · rw [z]; exact .of h0
    · exact s.dom b (e.eq (upd_ne z).symm)
theorem nc_lst {xs c q} : HO.lst xs ≠ LamX.CodeO c q := fun z => by cases z

section
variable {X : Cx} {R : RC} {W : WX} {it : M (List D)} {f : D → Option (List (Nat × D))} {c : M Bool} {m : M Opd} {vs : List Nat} {g : TG} {wi : TI}
theorem LE_lc {σ H Q} (hg : GC R R.K g f) (h : LE R W (dLc it f c m vs) σ H Q) : tLc (LI R W it) g (LT R W0 c) (LE R W0 m) vs σ H Q := by
  obtain ⟨F, env, ow, s, h⟩ := h
  refine ⟨F, env, ow, s, h.fst.mono fun xs env1 F1 H1 ow1 st1 s1 k J wk D hD => ?_⟩
  have hDH : Ov H D := st1.dom D (.of hD)
  by_cases hw : okW env1 vs = true
  case neg => rw [if_neg hw] at k; exact k.elim
  rw [if_pos hw] at k
  cases e : loopL f c m vs xs [] (wipeE env1 vs) with
  | no => rw [e] at k; exact k.elim
  | ex c fs e' => rw [e] at k; exact k.elim
  | ok accF eF =>
  rw [e] at k
  have fD : F1 D = none := by
    cases q : F1 D with
    | none => rfl
    | some u => exact absurd hD (s1.le.ne (by rw [q]; exact fun z => nomatch z))
  have oD : ¬ un ow1 D := fun ⟨i, z⟩ => (s1.nof i D z).2 (.of hD)
  obtain ⟨xt, _⟩ := Ext.newO (u := .lst []) s1.le hD
  obtain ⟨j1, j2, _⟩ := xt.fin (p := .d .non) (w := .non) s1 rfl
  refine ⟨fun i n H' => n = xs.length - i ∧ i ≤ xs.length ∧ ∃ F' env' ow' acc vacc, SR R F' H' (L2.wipe σ vs) env' ow' ∧ Step F1 H1 (un ow1) F' H' (un ow') ∧ F' D = none ∧ ¬ un ow' D ∧ H' D = some (.lst vacc) ∧ Reps R F' acc vacc ∧ loopL f c m vs (xs.drop i) acc env' = .ok accF eF,
    ⟨xs.length, by simp, Nat.zero_le _, F1, _, ow1, [], [], j2.wipe vs, j1, fD, oD, upd_same, rfl, e⟩, fun i n H' hW => ?_⟩
  obtain ⟨rfl, hi, F', env', ow', acc, vacc, s', st', fD', oD', hD', ra, run⟩ := hW
  obtain ⟨w1, w2⟩ := wk i F' H' s'.le st'.ex st'.fz
  by_cases hlt : i < xs.length
  · right
    have hx : xs[i]? = some xs[i] := List.getElem?_eq_getElem hlt
    obtain ⟨go, yl⟩ := w1 _ hx
    rw [List.drop_eq_getElem_cons hlt] at run
    refine ⟨go, fun H2 => ∃ F2 env2 ow2 acc2 vacc2, SR R F2 H2 (L2.wipe σ vs) env2 ow2 ∧ Step F1 H1 (un ow1) F2 H2 (un ow2) ∧ F2 D = none ∧ ¬ un ow2 D ∧ H2 D = some (.lst vacc2) ∧ Reps R F2 acc2 vacc2 ∧ loopL f c m vs (xs.drop (i + 1)) acc2 env2 = .ok accF eF,
      fun H2 hN => ⟨xs.length - (i + 1), by omega, rfl, hlt, hN⟩, fun v H2 hy => ?_⟩
    obtain ⟨F2, xt2, rv⟩ := yl v H2 hy
    obtain ⟨q1, q2, _⟩ := xt2.fin (p := .d _) s' rv
    obtain ⟨hD2, fD2, oD2⟩ := q1.off hD' fD' oD' nt_lst
    have st2 := st'.trans s1.nofU q1
    have ra2 := ra.mono q1.le
    unfold loopL bnd turnL at run
    cases ef : f xs[i] with
    | none => rw [ef] at run; cases run
    | some l =>
    rw [ef] at run
    by_cases hc : l.all (fun p => vs.contains p.1) = true
    case neg => simp only [hc] at run; cases run
    simp only [hc, if_true] at run
    obtain ⟨vl, k1, k2⟩ := hg F2 H2 v xs[i] l q2.le rv ef
    refine k2 _ _ ⟨wipe_setAll (k1.mem hc), ?_⟩
    obtain ⟨ow3, s3, kk3⟩ := q2.setAll k1
    have wp : L2.wipe (Dv.setAll (L2.wipe σ vs) vl) vs = L2.wipe σ vs := wipe_setAll (k1.mem hc)
    have st3 : Step F1 H1 (un ow1) F2 H2 (un ow3) := st2.less fun a ⟨j, z⟩ => .inl ⟨j, kk3 j a z⟩
    have oD3 : ¬ un ow3 D := fun ⟨j, z⟩ => oD2 ⟨j, kk3 j D z⟩
    refine ⟨F2, _, ow3, s3, ?_⟩
    unfold bnd at run
    cases ec : nX c (setAllE env' l) with
    | no => simp only [ec] at run; cases run
    | ex c fs e' => simp only [ec] at run; cases run
    | ok b env4 =>
    simp only [ec] at run
    have pc : Post R W0 (Dv.setAll (L2.wipe σ vs) vl) F2 H2 ow3 (fun b env4 F4 H4 ow4 => nX c (setAllE env' l) = .ok b env4) (c (setAllE env' l)) := Post.nX (W := W0) (by rw [ec]; exact fun _ _ _ _ _ => rfl)
    refine pc.mono fun b' env4' F4 H4 ow4 st4 s4 eb => ?_
    rw [ec] at eb
    cases eb
    obtain ⟨hD4, fD4, oD4⟩ := st4.off hD2 fD2 oD3 nt_lst
    have ra4 := ra2.mono st4.le
    have st4' := st3.trans s1.nofU st4
    cases b with
    | false =>
      unfold KB
      dsimp only
      rw [if_neg Bool.false_ne_true]
      refine ⟨F4, _, ow4, acc, vacc, s4.rewipe wp, st4', fD4, oD4, hD4, ra4, ?_⟩
      exact run
    | true =>
      unfold KB
      dsimp only
      rw [if_pos rfl]
      refine ⟨F4, _, ow4, s4, ?_⟩
      simp only [if_true] at run
      cases em : nX m env4 with
      | no => simp only [em] at run; cases run
      | ex c fs e' => simp only [em] at run; cases run
      | ok p env5 =>
      simp only [em] at run
      have pm : Post R W0 (Dv.setAll (L2.wipe σ vs) vl) F4 H4 ow4 (fun p env5 F5 H5 ow5 => nX m env4 = .ok p env5) (m env4) := Post.nX (W := W0) (by rw [em]; exact fun _ _ _ _ _ => rfl)
      refine pm.mono fun p' env5' F5 H5 ow5 st5 s5 ep y ok => ?_
      rw [em] at ep
      cases ep
      obtain ⟨hD5, fD5, oD5⟩ := st5.off hD4 fD4 oD4 nt_lst
      unfold pub at run
      cases eq : pubF env5 p with
      | none => simp only [eq] at run; cases run
      | some ye =>
      obtain ⟨y', env6⟩ := ye
      simp only [eq] at run
      obtain ⟨F6, ow6, s6, st6, r6⟩ := pub_step s4.nofU s5 st5 ok eq
      obtain ⟨hD6, fD6, oD6⟩ := st6.off hD4 fD4 oD4 nt_lst
      by_cases hl : acc.length < SZ
      case neg => simp only [hl, if_false] at run; cases run
      simp only [hl, if_true] at run
      have ra6 := ra4.mono st6.le
      have st6' := st4'.trans s1.nofU st6
      refine ⟨vacc, hD6, by rw [ra4.length]; exact hl, F6, _, ow6, acc ++ [y'], vacc ++ [y], (s6.putOff hD6 fD6 oD6 nt_lst (fun _ _ => nc_lst)).rewipe wp, st6'.putOff hD hD6 nt_lst (fun _ _ => nc_lst), fD6, oD6, upd_same, ra6.append ⟨y, [], rfl, r6, rfl⟩, ?_⟩
      exact run
  · left
    have ei : i = xs.length := by omega
    subst ei
    rw [List.drop_length] at run
    cases run
    refine ⟨w2 rfl, ?_⟩
    have hlen : env1.length = eF.length := by
      rw [s1.len, s'.len, wipe_length]
    have sF : SR R F' H' σ (restE env1 vs eF) ow' := by
      refine ⟨s'.le, s'.nof, s'.dis, by rw [restE_len, ← hlen]; exact s1.len, fun j sl hj => ?_, s'.tb, s'.nt⟩
      rcases restE_get hlen hj with ⟨mj, ej⟩ | ⟨mj, ej⟩
      · obtain ⟨v, e1, kv⟩ := s1.sl j sl ej
        cases sl with
        | d y => exact ⟨v, e1, Rep.mono st'.le kv⟩
        | o o => exact absurd ej (okW_get hw mj)
      · obtain ⟨v, e1, kv⟩ := s'.sl j sl ej
        exact ⟨v, by rw [← wipe_out mj]; exact e1, kv⟩
    exact k F' H' ow' (st1.trans s.nofU st') sF (.ref D) ⟨fun a => a = D, ⟨D, vacc, rfl, rfl, hD', ra⟩, fun a z => by
      cases z
      exact ⟨fD', fun z => z.no hD' nt_lst, .inr hDH⟩, fun j a z q => by
      cases q
      exact oD' ⟨j, z⟩⟩
theorem wkTs {X ifs t t'} (h : PTs X ifs t) (i : ∀ σ H Q, t' σ H Q → t σ H Q) : PTs X ifs t' := ⟨fun pins s σ H Q I q => h.run pins s σ H Q I (i σ H Q q)⟩
def dYes : M Bool := pur true
theorem jts_nil : PTs X [] (LT R W dYes) := wkTs pts_nil fun σ H Q ⟨F, env, ow, s, h⟩ => h F H ow (.refl _ _ _) s
theorem jts_one {e : Expr} {tb : M Bool} (h : PT X e (LT R W tb)) : PTs X [e] (LT R W tb) := pts_one h
theorem je_lc {elt tg iter : Expr} {ifs : List Expr} {scope : Scope} {own : List (Str × Nat)} {pos : Pos} (hc : X.calm = true) (hN : X.N.Nodup) (hi : PI X tg iter (LI R W it)) (ok : BlkOk X.N X.env.scope scope own) (hgc : GC R X.K g f)
    (hg : ∀ (s : Shared) (H : Hp) (C : Addr) (cl : List (Str × Addr)) (fp : List Addr), PG (X.blk s H scope (compEnvC scope cl C X.env) fp) tg g) (ht : ∀ (s : Shared) (H : Hp) (C : Addr) (cl : List (Str × Addr)) (fp : List Addr), PTs (X.blk s H scope (compEnvC scope cl C X.env) fp) ifs (LT R W0 c))
    (he : ∀ (s : Shared) (H : Hp) (C : Addr) (cl : List (Str × Addr)) (fp : List Addr), PE (X.blk s H scope (compEnvC scope cl C X.env) fp) elt (LE R W0 m)) (hs : ∀ x, foldedSetIterable iter X.env x = pure x := by intro _; rfl) (hK : X.K = R.K := by rfl) :
    PE X (.ListComp elt [⟨tg, iter, ifs, 0⟩] scope pos) (LE R W (dLc it f c m (own.map (·.2)))) := wkE (pe_lc hc hN hi ok hg ht he hs) fun _ _ _ h => LE_lc (hK ▸ hgc) h
theorem js_setLc {W : WP} {i : Nat} {y : Str} {py : Pos} {elt tg iter : Expr} {ifs : List Expr} {scope : Scope} {own : List (Str × Nat)} {pos spos : Pos} (hc : X.calm = true) (hN : X.N.Nodup) (hy : X.N[i]? = some y) (hyl : X.env.scope.names.lookup y = some .local)
    (hsw : swapsWith (.ListComp elt [⟨tg, iter, ifs, 0⟩] scope pos) (some (.Name y py)) spos.line X.env = pure true) (hi : PI X tg iter (LI R W.w it)) (ok : BlkOk X.N X.env.scope scope own) (hgc : GC R X.K g f)
    (hg : ∀ (s : Shared) (H : Hp) (C : Addr) (cl : List (Str × Addr)) (fp : List Addr), PG (X.blk s H scope (compEnvC scope cl C X.env) fp) tg g) (ht : ∀ (s : Shared) (H : Hp) (C : Addr) (cl : List (Str × Addr)) (fp : List Addr), PTs (X.blk s H scope (compEnvC scope cl C X.env) fp) ifs (LT R W0 c))
    (he : ∀ (s : Shared) (H : Hp) (C : Addr) (cl : List (Str × Addr)) (fp : List Addr), PE (X.blk s H scope (compEnvC scope cl C X.env) fp) elt (LE R W0 m)) (hs : ∀ x, foldedSetIterable iter X.env x = pure x := by intro _; rfl) (hK : X.K = R.K := by rfl) (hp : i ≠ 0 ∨ W.pn = none := by first | exact .inl (by decide) | exact .inr rfl) :
    PS X (.Assign [.Name y py] (.ListComp elt [⟨tg, iter, ifs, 0⟩] scope pos) spos) (LS R W (dAsg i (dLc it f c m (own.map (·.2))))) := wkS (ps_setLc hc hN hy hyl hsw hi ok hg ht he hs) fun _ _ _ h => LE_lc (hK ▸ hgc) (LS_asg hp h)
end
end Dv
set_option Elab.async false
set_option linter.all false
set_option maxRecDepth 100000
set_option maxHeartbeats 4000000
/-! Dv9: built-in functions, subscripts, slices. -/
namespace Dv
open PySem PySem.Spec PyProof.Rows L2
variable [TabC]

/-! ### calls of built-in functions with one, two arguments -/
section
variable {X : Cx} {R : RC} {W : WX} {x : Str} {p pos : Pos} {a b : Expr} {ma mb : M Opd} {id T : String} {r : List V → Hp → VK → Prop} {g : D → Option Opd} {g2 : D → D → Option Opd}
theorem je_b1 (hc : CallR X (.builtin id) r) (hgg : Op1 R g (fun x H Q => r [x] H Q)) (hg : Gl X x) (hm : X.mg x = none) (hv : bootBuiltins x = some (.builtin id)) (ha : PE X a (LE R W ma)) (hs : starEach [a] X.env = (false, eval a X.env) :: starEach [] X.env := by rfl)
    (hn : x ≠ "__name__" := by decide) (hdb : (x == ("__debug__" : Str)) = false := by decide) : PE X (.Call (.Name x p) [a] [] pos) (LE R W (dOp1 g ma)) :=
  wkE (pe_callB hc hg hm hv (pa_cons ha pa_nil hs) hn hdb hs) fun _ _ _ h => LE_op1 hgg h
theorem je_t1 (hc : CallR X (.type T) r) (hgg : Op1 R g (fun x H Q => r [x] H Q)) (hg : Gl X x) (hm : X.mg x = none) (hv : bootBuiltins x = some (.type T)) (ha : PE X a (LE R W ma)) (hs : starEach [a] X.env = (false, eval a X.env) :: starEach [] X.env := by rfl)
    (hn : x ≠ "__name__" := by decide) (hdb : (x == ("__debug__" : Str)) = false := by decide) : PE X (.Call (.Name x p) [a] [] pos) (LE R W (dOp1 g ma)) :=
  wkE (pe_callTy hc hg hm hv (pa_cons ha pa_nil hs) hn hdb hs) fun _ _ _ h => LE_op1 hgg h
theorem je_b2 (hc : CallR X (.builtin id) r) (hgg : Op2 R g2 (fun x y H Q => r [x, y] H Q)) (hg : Gl X x) (hm : X.mg x = none) (hv : bootBuiltins x = some (.builtin id)) (ha : PE X a (LE R W ma)) (hb : PE X b (LE R W mb)) (hs : starEach [a, b] X.env = (false, eval a X.env) :: starEach [b] X.env := by rfl) (hs2 : starEach [b] X.env = (false, eval b X.env) :: starEach [] X.env := by rfl)
    (hn : x ≠ "__name__" := by decide) (hdb : (x == ("__debug__" : Str)) = false := by decide) : PE X (.Call (.Name x p) [a, b] [] pos) (LE R W (dOp2 g2 ma mb)) :=
  wkE (pe_callB hc hg hm hv (pa_cons ha (pa_cons hb pa_nil hs2) hs) hn hdb hs (by rw [hs2]; rfl)) fun _ _ _ h => LE_op2 hgg h
theorem je_f2 (hc : CallR X (.builtin id) r) (hgg : Op2 R g2 (fun x y H Q => r [x, y] H Q)) (hg : Gl X x) (hm : X.mg x = some (.builtin id)) (ha : PE X a (LE R W ma)) (hb : PE X b (LE R W mb)) (hs : starEach [a, b] X.env = (false, eval a X.env) :: starEach [b] X.env := by rfl) (hs2 : starEach [b] X.env = (false, eval b X.env) :: starEach [] X.env := by rfl)
    (hdb : (x == ("__debug__" : Str)) = false := by decide) : PE X (.Call (.Name x p) [a, b] [] pos) (LE R W (dOp2 g2 ma mb)) :=
  wkE (pe_callBfun hc hg hm (pa_cons ha (pa_cons hb pa_nil hs2) hs) hdb hs (by rw [hs2]; rfl)) fun _ _ _ h => LE_op2 hgg h
end

/-! ### len, abs, min, max, int, bool, gcd -/
def gLen : D → Option Opd
  | .lst xs => some (.d (.int xs.length))
  | .rol xs => some (.d (.int xs.length))
  | .tup xs => some (.d (.int xs.length))
  | .str x => if x.length ≤ SZ then some (.d (.int x.length)) else none
  | .dic ks => some (.d (.int ks.length))
  | _ => none
theorem RepK.length {R F} : ∀ {d : List (Key × D)} {v : List (Key × V)}, RepK R F d v → v.length = d.length
  | [], _, h => by
    have h : _ = [] := h
    subst h; rfl
  | _ :: _, _, h => by
    obtain ⟨v, r, rfl, _, h2⟩ := h
    show r.length + 1 = _ + 1
    rw [h2.length]
section
variable {X : Cx} {R : RC}
def rLenD (K : PySem.W.Frag) : List V → Hp → VK → Prop := fun xs H Q => (∃ x n, xs = [x] ∧ LenV K x H n ∧ Q (.int n) H) ∨ ∃ (a : Addr) (kvs : List (Key × V)), xs = [.ref a] ∧ Rd H a (.dK kvs) ∧ Q (.int kvs.length) H
theorem cr_lenD : CallR X (.builtin "len") (rLenD X.K) := by
  intro pins s σ H xs us Q I r h
  rcases h with h | ⟨a, kvs, rfl, e, q⟩
  · exact call_len pins s σ H xs us Q I r h
  · obtain ⟨u1, rfl, r1⟩ := vals1 r
    cases (show u1 = Value.ref a from r1)
    exact d_len I e fun t s' I' => ⟨.int kvs.length, H, I', ⟨t, rfl⟩, q⟩
theorem op1_len : Op1 R gLen (fun x H Q => rLenD R.K [x] H Q) := by
  intro F H x v p Q le h e q
  unfold gLen at e
  split at e
  · rename_i xs
    cases e
    obtain ⟨a, vs, rfl, h1, h2⟩ := h
    exact .inl ⟨_, xs.length, rfl, .inl ⟨vs, .of h1, h2.length.symm⟩, q _ F H (.refl le) rfl⟩
  · rename_i xs
    cases e
    obtain ⟨a, vs, rfl, h1, h2⟩ := h
    exact .inl ⟨_, xs.length, rfl, .inl ⟨vs, le.sqL h1, h2.length.symm⟩, q _ F H (.refl le) rfl⟩
  · rename_i xs
    cases e
    obtain ⟨a, vs, rfl, h1, h2⟩ := h
    exact .inl ⟨_, xs.length, rfl, .inr ⟨vs, le.sqT h1, h2.length.symm⟩, q _ F H (.refl le) rfl⟩
  · rename_i x
    split at e
    · rename_i c
      cases e
      have h : v = _ := h
      subst h
      exact .inl ⟨_, x.length, rfl, ⟨c, rfl⟩, q _ F H (.refl le) rfl⟩
    · cases e
  · rename_i ks
    cases e
    obtain ⟨a, kvs, rfl, h1, h2⟩ := h
    refine .inr ⟨a, kvs, rfl, h1, q _ F H (.refl le) ?_⟩
    show _ = _
    rw [h2.length]
  · cases e
def gAbs : D → Option Opd
  | .int i => some (.d (.int (if i < 0 then -i else i)))
  | _ => none
theorem op1_abs : Op1 R gAbs (fun x H Q => ∃ i, [x] = [.int i] ∧ Q (.int (if i < 0 then -i else i)) H) := by
  intro F H x v p Q le h e q
  unfold gAbs at e
  split at e
  · rename_i i
    cases e
    have h : v = _ := h
    subst h
    exact ⟨i, rfl, q _ F H (.refl le) rfl⟩
  · cases e
def gMax2 : D → D → Option Opd := gI (fun _ _ => true) fun i j => .int (if j > i then j else i)
def gMin2 : D → D → Option Opd := gI (fun _ _ => true) fun i j => .int (if j < i then j else i)
theorem op2_ii {f : Int → Int → Int} : Op2 R (gI (fun _ _ => true) fun i j => .int (f i j)) (fun x y H Q => ∃ i j, [x, y] = [V.int i, .int j] ∧ Q (.int (f i j)) H) := by
  intro F H x y v u p Q le h1 h2 e q
  unfold gI at e
  split at e
  · rename_i i j
    cases e
    have h1 : v = _ := h1
    have h2 : u = _ := h2
    subst h1 h2
    exact ⟨i, j, rfl, q _ F H (.refl le) rfl⟩
  · cases e
def gGcd : D → D → Option Opd := gI (fun _ _ => true) fun i j => .int ((Nat.gcd i.natAbs j.natAbs : Nat) : Int)
def gInt : D → Option Opd
  | .int i => some (.d (.int i))
  | .bl k => some (.d (.int (if k then 1 else 0)))
  | _ => none
theorem op1_int : Op1 R gInt (fun x H Q => (∃ i, [x] = [V.int i] ∧ Q (.int i) H) ∨ ∃ k, [x] = [V.bl k] ∧ Q (.int (if k then 1 else 0)) H) := by
  intro F H x v p Q le h e q
  unfold gInt at e
  split at e
  · rename_i i
    cases e
    have h : v = _ := h
    subst h
    exact .inl ⟨i, rfl, q _ F H (.refl le) rfl⟩
  · rename_i i
    cases e
    have h : v = _ := h
    subst h
    exact .inr ⟨i, rfl, q _ F H (.refl le) rfl⟩
  · cases e

/-! ### list(x), tuple(x) -/
def itemsA : D → Option (List D)
  | .lst xs => some xs
  | .rol xs => some xs
  | .tup xs => some xs
  | _ => none
def gList : D → Option Opd := fun x => (itemsA x).map fun xs => .n (.lst xs)
def gTuple : D → Option Opd := fun x => (itemsA x).map fun xs => .d (.tup xs)
theorem op1_list : Op1 R gList (fun x H Q => ∃ p ys, [x] = [V.ref p] ∧ (SqL R.K H p ys ∨ SqT R.K H p ys) ∧ ∀ l, H l = none → Q (.ref l) (upd H l (.lst ys))) := by
  intro F H x v p Q le h e q
  obtain ⟨xs, e1, rfl⟩ := Option.map_eq_some_iff.mp e
  have key : ∀ {a : Addr} {vs : List V}, Reps R F xs vs → ∀ l, H l = none → Q (.ref l) (upd H l (.lst vs)) := fun {a vs} r l hl => by
    obtain ⟨k1, k2⟩ := new_lst le hl r
    exact q _ _ _ k1 k2
  cases x <;> cases e1
  · obtain ⟨a, vs, rfl, h1, h2⟩ := h
    exact ⟨a, vs, rfl, .inr (le.sqT h1), key (a := a) h2⟩
  · obtain ⟨a, vs, rfl, h1, h2⟩ := h
    exact ⟨a, vs, rfl, .inl (.of h1), key (a := a) h2⟩
  · obtain ⟨a, vs, rfl, h1, h2⟩ := h
    exact ⟨a, vs, rfl, .inl (le.sqL h1), key (a := a) h2⟩
theorem op1_tuple : Op1 R gTuple (fun x H Q => ∃ p ys, [x] = [V.ref p] ∧ ((SqL R.K H p ys ∧ ∀ l, H l = none → Q (.ref l) (upd H l (.tup ys))) ∨ (SqT R.K H p ys ∧ Q (.ref p) H))) := by
  intro F H x v p Q le h e q
  obtain ⟨xs, e1, rfl⟩ := Option.map_eq_some_iff.mp e
  have key : ∀ {vs : List V}, Reps R F xs vs → ∀ l, H l = none → Q (.ref l) (upd H l (.tup vs)) := fun {vs} r l hl => by
    obtain ⟨k1, k2⟩ := new_tup le hl r
    exact q _ _ _ k1 k2
  cases x <;> cases e1
  · obtain ⟨a, vs, rfl, h1, h2⟩ := h
    exact ⟨a, vs, rfl, .inr ⟨le.sqT h1, q _ F H (.refl le) ⟨a, vs, rfl, h1, h2⟩⟩⟩
  · obtain ⟨a, vs, rfl, h1, h2⟩ := h
    exact ⟨a, vs, rfl, .inl ⟨.of h1, key h2⟩⟩
  · obtain ⟨a, vs, rfl, h1, h2⟩ := h
    exact ⟨a, vs, rfl, .inl ⟨le.sqL h1, key h2⟩⟩

/-! ### sum, all, any, max, min of a list -/
def toInts : List D → Option (List Int)
  | [] => some []
  | .int i :: r => (toInts r).map fun ns => i :: ns
  | _ :: _ => none
def toBls : List D → Option (List Bool)
  | [] => some []
  | .bl i :: r => (toBls r).map fun ns => i :: ns
  | _ :: _ => none
theorem toInts_map : ∀ ns : List Int, toInts (ns.map .int) = some ns
  | [] => rfl
  | n :: r => by
    show (toInts (r.map .int)).map _ = _
    rw [toInts_map r]; rfl
theorem toInts_ok {F} : ∀ {xs : List D} {vs : List V} {ns : List Int}, Reps R F xs vs → toInts xs = some ns → vs = ns.map V.int
  | [], vs, ns, h, e => by
    have h : vs = [] := h
    cases e; exact h
  | x :: xs, vs, ns, h, e => by
    obtain ⟨v, r, rfl, h1, h2⟩ := h
    cases x with
    | int i =>
      obtain ⟨ms, e1, rfl⟩ := Option.map_eq_some_iff.mp e
      have h1 : v = _ := h1
      rw [h1, toInts_ok h2 e1]; rfl
    | _ => cases e
theorem toBls_ok {F} : ∀ {xs : List D} {vs : List V} {ns : List Bool}, Reps R F xs vs → toBls xs = some ns → vs = ns.map V.bl
  | [], vs, ns, h, e => by
    have h : vs = [] := h
    cases e; exact h
  | x :: xs, vs, ns, h, e => by
    obtain ⟨v, r, rfl, h1, h2⟩ := h
    cases x with
    | bl i =>
      obtain ⟨ms, e1, rfl⟩ := Option.map_eq_some_iff.mp e
      have h1 : v = _ := h1
      rw [h1, toBls_ok h2 e1]; rfl
    | _ => cases e
/-- from a list of ints -/
def gInts (f : List Int → Option Opd) : D → Option Opd := fun x => match itemsL x with
  | some xs => match toInts xs with
    | some ns => f ns
    | none => none
  | none => none
def gBls (f : List Bool → Option Opd) : D → Option Opd := fun x => match itemsL x with
  | some xs => match toBls xs with
    | some ns => f ns
    | none => none
  | none => none
theorem ints_of {F H : Hp} {x : D} {v : V} {f p} (le : Le F H) (h : RepT R F H x v) (e : gInts f x = some p) : ∃ a ns, v = .ref a ∧ SqL R.K H a (ns.map V.int) ∧ f ns = some p := by
  unfold gInts at e
  cases x with
  | lst xs =>
    obtain ⟨a, vs, rfl, h1, h2⟩ := h
    cases e1 : toInts xs with
    | none => simp only [itemsL, e1] at e; cases e
    | some ns =>
      simp only [itemsL, e1] at e
      have := toInts_ok h2 e1
      subst this
      exact ⟨a, ns, rfl, .of h1, e⟩
  | rol xs =>
    obtain ⟨a, vs, rfl, h1, h2⟩ := h
    cases e1 : toInts xs with
    | none => simp only [itemsL, e1] at e; cases e
    | some ns =>
      simp only [itemsL, e1] at e
      have := toInts_ok h2 e1
      subst this
      exact ⟨a, ns, rfl, le.sqL h1, e⟩
  | _ => cases e
theorem bls_of {F H : Hp} {x : D} {v : V} {f p} (le : Le F H) (h : RepT R F H x v) (e : gBls f x = some p) : ∃ a ns, v = .ref a ∧ SqL R.K H a (ns.map V.bl) ∧ f ns = some p := by
  unfold gBls at e
  cases x with
  | lst xs =>
    obtain ⟨a, vs, rfl, h1, h2⟩ := h
    cases e1 : toBls xs with
    | none => simp only [itemsL, e1] at e; cases e
    | some ns =>
      simp only [itemsL, e1] at e
      have := toBls_ok h2 e1
      subst this
      exact ⟨a, ns, rfl, .of h1, e⟩
  | rol xs =>
    obtain ⟨a, vs, rfl, h1, h2⟩ := h
    cases e1 : toBls xs with
    | none => simp only [itemsL, e1] at e; cases e
    | some ns =>
      simp only [itemsL, e1] at e
      have := toBls_ok h2 e1
      subst this
      exact ⟨a, ns, rfl, le.sqL h1, e⟩
  | _ => cases e
def gSum : D → Option Opd := gInts fun ns => some (.d (.int ns.sum))
def gAll : D → Option Opd := gBls fun bs => some (.d (.bl (bs.all id)))
def gAny : D → Option Opd := gBls fun bs => some (.d (.bl (bs.any id)))
theorem op1_sum : Op1 R gSum (fun x H Q => rSum R.K [x] H Q) := fun F H x v p Q le h e q => by
  obtain ⟨a, ns, rfl, h1, e1⟩ := ints_of le h e
  cases e1
  exact ⟨a, ns, rfl, h1, q _ F H (.refl le) rfl⟩
theorem op1_all : Op1 R gAll (fun x H Q => rAll R.K [x] H Q) := fun F H x v p Q le h e q => by
  obtain ⟨a, ns, rfl, h1, e1⟩ := bls_of le h e
  cases e1
  exact ⟨a, ns, rfl, h1, q _ F H (.refl le) rfl⟩
theorem op1_any : Op1 R gAny (fun x H Q => rAny R.K [x] H Q) := fun F H x v p Q le h e q => by
  obtain ⟨a, ns, rfl, h1, e1⟩ := bls_of le h e
  cases e1
  exact ⟨a, ns, rfl, h1, q _ F H (.refl le) rfl⟩
def foldMax : List Int → Option Int
  | [] => none
  | n :: r => some (r.foldl (fun a b => if b > a then b else a) n)
def foldMin : List Int → Option Int
  | [] => none
  | n :: r => some (r.foldl (fun a b => if b < a then b else a) n)
theorem foldMin_aux : ∀ (r : List Int) (n m : Int), (m = n ∨ m ∈ r) → m ≤ n → (∀ y ∈ r, m ≤ y) → r.foldl (fun a b => if b < a then b else a) n = m
  | [], n, m, h, _, _ => by
    rcases h with h | h
    · exact h.symm
    · cases h
  | x :: r, n, m, h, hn, hr => by
    show r.foldl _ (if x < n then x else n) = m
    have hx := hr x List.mem_cons_self
    refine foldMin_aux r _ m ?_ ?_ fun y hy => hr y (List.mem_cons_of_mem _ hy)
    · rcases h with h | h
      · left; subst h; rw [if_neg (by omega)]
      · rcases List.mem_cons.mp h with h | h
        · left; subst h
          by_cases c : m < n
          · rw [if_pos c]
          · rw [if_neg c]; omega
        · exact .inr h
    · by_cases c : x < n
      · rw [if_pos c]; exact hx
      · rw [if_neg c]; exact hn
theorem foldMax_aux : ∀ (r : List Int) (n m : Int), (m = n ∨ m ∈ r) → n ≤ m → (∀ y ∈ r, y ≤ m) → r.foldl (fun a b => if b > a then b else a) n = m
  | [], n, m, h, _, _ => by
    rcases h with h | h
    · exact h.symm
    · cases h
  | x :: r, n, m, h, hn, hr => by
    show r.foldl _ (if x > n then x else n) = m
    have hx := hr x List.mem_cons_self
    refine foldMax_aux r _ m ?_ ?_ fun y hy => hr y (List.mem_cons_of_mem _ hy)
    · rcases h with h | h
      · left; subst h; rw [if_neg (by omega)]
      · rcases List.mem_cons.mp h with h | h
        · left; subst h
          by_cases c : m > n
          · rw [if_pos c]
          · rw [if_neg c]; omega
        · exact .inr h
    · by_cases c : x > n
      · rw [if_pos c]; exact hx
      · rw [if_neg c]; exact hn
def gMaxL : D → Option Opd := gInts fun ns => (foldMax ns).map fun m => .d (.int m)
def gMinL : D → Option Opd := gInts fun ns => (foldMin ns).map fun m => .d (.int m)
theorem op1_minL : Op1 R gMinL (fun x H Q => rMin R.K [x] H Q) := fun F H x v p Q le h e q => by
  obtain ⟨a, ns, rfl, h1, e1⟩ := ints_of le h e
  cases ns with
  | nil => cases e1
  | cons n r =>
    cases e1
    refine ⟨a, n :: r, rfl, h1, Nat.succ_pos _, fun m hm hy => q _ F H (.refl le) ?_⟩
    show _ = _
    rw [foldMin_aux r n m (List.mem_cons.mp hm) (hy n List.mem_cons_self) fun y k => hy y (List.mem_cons_of_mem _ k)]
theorem op1_maxL : Op1 R gMaxL (fun x H Q => rMax R.K [x] H Q) := fun F H x v p Q le h e q => by
  obtain ⟨a, ns, rfl, h1, e1⟩ := ints_of le h e
  cases ns with
  | nil => cases e1
  | cons n r =>
    cases e1
    refine ⟨a, n :: r, rfl, h1, Nat.succ_pos _, fun m hm hy => q _ F H (.refl le) ?_⟩
    show _ = _
    rw [foldMax_aux r n m (List.mem_cons.mp hm) (hy n List.mem_cons_self) fun y k => hy y (List.mem_cons_of_mem _ k)]
end

/-! ### isinstance with built-in classes -/
def tyN : D → Option String
  | .non => some "NoneType"
  | .bl _ => some "bool"
  | .int _ => some "int"
  | .str _ => some "str"
  | .tup _ => some "tuple"
  | .lst _ => some "list"
  | .rol _ => some "list"
  | .dic _ => some "dict"
  | _ => none
section
variable {X : Cx} {R : RC} {W : WX}
theorem tyX_of {F H x v n} (le : Le F H) (h : RepT R F H x v) (e : tyN x = some n) : TyX R.K H v (.type n) := by
  cases x <;> cases e
  · have h : v = _ := h
    subst h; exact .base .non
  · have h : v = _ := h
    subst h; exact .base (.bl _)
  · have h : v = _ := h
    subst h; exact .base (.int _)
  · have h : v = _ := h
    subst h; exact .base (.str _)
  · obtain ⟨a, vs, rfl, h1, h2⟩ := h
    rcases le.sqT h1 with (k | ⟨o, k⟩) | ⟨o, its, n, k, c, _⟩
    · exact .base (.tup k)
    · exact .fTuple k
    · exact .kTuple k c
  · obtain ⟨a, vs, rfl, h1, h2⟩ := h
    exact .base (.lst h1)
  · obtain ⟨a, vs, rfl, h1, h2⟩ := h
    rcases le.sqL h1 with (k | ⟨o, k⟩) | ⟨o, its, n, k, c, _⟩
    · exact .base (.lst k)
    · exact .base (.frz k)
    · exact .kList k c
  · obtain ⟨a, vs, rfl, h1, h2⟩ := h
    rcases h1 with k | ⟨o, k⟩
    · exact .base (.dK k)
    · exact .fDict k
/-- the answer for a value of the type a asked for the type b -/
def instB (a b : String) : Bool := a == b || (a == "bool" && b == "int")
def tyAll : List String := ["NoneType", "bool", "int", "str", "tuple", "list", "dict"]
theorem kitB_all : (tyAll.all fun a => ["bool", "int", "str", "tuple", "list", "dict"].all fun b => kitB a b == some (instB a b)) = true := by decide +kernel
theorem tyN_mem {x n} (e : tyN x = some n) : n ∈ tyAll := by
  cases x <;> cases e <;> decide
theorem kitB_of {a b : String} (ha : a ∈ tyAll) (hb : b ∈ ["bool", "int", "str", "tuple", "list", "dict"]) : kitB a b = some (instB a b) := by
  have h := List.all_eq_true.mp (List.all_eq_true.mp kitB_all a ha) b hb
  exact eq_of_beq h
def gIsi (b : String) : D → Option Opd := fun x => (tyN x).map fun n => .d (.bl (instB n b))
def rIsi1 (K : PySem.W.Frag) (b : String) : V → Hp → VK → Prop := fun x H Q => rIsi K [x, .ty b] H Q
theorem op1_isi {b : String} (hb : b ∈ ["bool", "int", "str", "tuple", "list", "dict"]) : Op1 R (gIsi b) (rIsi1 R.K b) := fun F H x v p Q le h e q => by
  obtain ⟨n, e1, rfl⟩ := Option.map_eq_some_iff.mp e
  exact ⟨v, .ty b, .type n, .type b, instB n b, rfl, .ty b, tyX_of le h e1, kit_ty (kitB_of (tyN_mem e1) hb), q _ F H (.refl le) rfl⟩
theorem je_isi {b x : Str} {T : String} {p p2 pos : Pos} {a : Expr} {ma : M Opd} (hT : T ∈ ["bool", "int", "str", "tuple", "list", "dict"]) (hg : Gl X x) (hm : X.mg x = none) (hv : bootBuiltins x = some (.builtin "isinstance")) (ha : PE X a (LE R W ma)) (hg2 : Gl X b) (hm2 : X.mg b = none) (hv2 : bootBuiltins b = some (.type T))
    (hs : starEach [a, .Name b p2] X.env = (false, eval a X.env) :: starEach [.Name b p2] X.env := by rfl) (hs2 : starEach [.Name b p2] X.env = (false, eval (.Name b p2) X.env) :: starEach [] X.env := by rfl)
    (hn : x ≠ "__name__" := by decide) (hdb : (x == ("__debug__" : Str)) = false := by decide) (hn2 : b ≠ "__name__" := by decide) (hdb2 : (b == ("__debug__" : Str)) = false := by decide) (hK : X.K = R.K := by rfl) : PE X (.Call (.Name x p) [a, .Name b p2] [] pos) (LE R W (dOp1 (gIsi T) ma)) :=
  wkE (pe_callB call_isi hg hm hv (pa_cons ha (pa_cons (pe_bltn (v := .ty T) hg2 hm2 hv2 rfl hn2 hdb2) pa_nil hs2) hs) hn hdb hs (by rw [hs2]; rfl)) fun σ H Q h => by
    rw [hK]
    exact LE_op1 (op1_isi hT) h

/-! ### items of a sequence -/
def gIx : D → D → Option Opd
  | .tup xs, .int i => (atI xs i).map .d
  | .lst xs, .int i => (atI xs i).map .d
  | .rol xs, .int i => (atI xs i).map .d
  | _, _ => none
theorem atI_rep {F} {xs : List D} {vs : List V} {i : Int} {x : D} (h : Reps R F xs vs) (e : atI xs i = some x) : ∃ v, atI vs i = some v ∧ Rep R F x v := by
  unfold atI at e ⊢
  rw [h.length]
  cases q : ixN xs.length i with
  | none => rw [q] at e; cases e
  | some j =>
    rw [q] at e
    obtain ⟨v, h1, h2⟩ := h.get e
    exact ⟨v, h1, h2⟩
theorem op2_ix : Op2 R gIx (rIx R.K) := by
  intro F H x y v u p Q le h1 h2 e q
  unfold gIx at e
  split at e
  · rename_i xs i
    obtain ⟨z, e1, rfl⟩ := Option.map_eq_some_iff.mp e
    obtain ⟨a, vs, rfl, k1, k2⟩ := h1
    have h2 : u = _ := h2
    obtain ⟨w, k3, k4⟩ := atI_rep k2 e1
    exact .inr (.inl ⟨a, vs, i, w, rfl, h2, le.sqT k1, k3, q _ F H (.refl le) k4⟩)
  · rename_i xs i
    obtain ⟨z, e1, rfl⟩ := Option.map_eq_some_iff.mp e
    obtain ⟨a, vs, rfl, k1, k2⟩ := h1
    have h2 : u = _ := h2
    obtain ⟨w, k3, k4⟩ := atI_rep k2 e1
    exact .inl ⟨a, vs, i, w, rfl, h2, .of k1, k3, q _ F H (.refl le) k4⟩
  · rename_i xs i
    obtain ⟨z, e1, rfl⟩ := Option.map_eq_some_iff.mp e
    obtain ⟨a, vs, rfl, k1, k2⟩ := h1
    have h2 : u = _ := h2
    obtain ⟨w, k3, k4⟩ := atI_rep k2 e1
    exact .inl ⟨a, vs, i, w, rfl, h2, le.sqL k1, k3, q _ F H (.refl le) k4⟩
  · cases e
theorem je_sub1 {a b : Expr} {ma mb : M Opd} {pos : Pos} (ha : PE X a (LE R W ma)) (hb : PE X b (LE R W mb)) (hs : PlainIx b) (hK : X.K = R.K := by rfl) : PE X (.Subscript a b pos) (LE R W (dOp2 gIx ma mb)) := je_ix ix_seq (hK ▸ op2_ix) ha hb hs
end
end Dv
set_option Elab.async false
set_option linter.all false
set_option maxRecDepth 100000
set_option maxHeartbeats 4000000
/-! Dv10: the source of draws: an object of the frame's own, its parts read and changed. -/
namespace Dv
open PySem PySem.Spec PyProof.Rows L2
variable [TabC]

theorem st_st : ∀ (e : En) (i : Nat) (s t), st (st e i s) i t = st e i t
  | [], _, _, _ => rfl
  | _ :: _, 0, _, _ => rfl
  | x :: r, i + 1, s, t => by
    show x :: st (st r i s) i t = x :: st r i t
    rw [st_st r i s t]
/-- what slot i's source of draws holds -/
def drw (i : Nat) : M Drw := fun e => match gt e i with
  | some (.o (.drw s)) => .ok s e
  | _ => .no
def putW (i : Nat) (s : Drw) : M Unit := fun e => .ok () (st e i (some (.o (.drw s))))
def dRest (i : Nat) : M Opd := bnd (drw i) fun s => pur (.d (.int s.rest))
def dTurn (i : Nat) : M Opd := bnd (drw i) fun s => pur (.d (.int s.turn))
theorem val_rest (s : Drw) (l c : Addr) : valV (drwKeys s l c) (.inr "rest") = some (.int s.rest) := rfl
theorem val_turn (s : Drw) (l c : Addr) : valV (drwKeys s l c) (.inr "turn") = some (.int s.turn) := rfl
theorem val_large (s : Drw) (l c : Addr) : valV (drwKeys s l c) (.inr "large") = some (.ref l) := rfl
theorem val_cells (s : Drw) (l c : Addr) : valV (drwKeys s l c) (.inr "cells") = some (.ref c) := rfl
theorem put_rest (s : Drw) (l c : Addr) (n : Int) : putK (drwKeys s l c) (.inr "rest") (.int n) = drwKeys { s with rest := n } l c := rfl
theorem put_turn (s : Drw) (l c : Addr) (n : Int) : putK (drwKeys s l c) (.inr "turn") (.int n) = drwKeys { s with turn := n } l c := rfl

theorem drw_ok {R F H σ env ow i s} (sr : SR R F H σ env ow) (h : gt env i = some (.o (.drw s))) : ∃ a l c, σ[i]? = some (some (.ref a)) ∧ ow i a ∧ ow i l ∧ H a = some (.dK (drwKeys s l c)) ∧ H l = some (.lst (s.large.map V.int)) ∧ F c = some (.lst (s.cells.map V.int)) := by
  obtain ⟨v, h1, a, l, c, rfl, h2, h3, h5, h6, h7⟩ := sr.sl i _ h
  exact ⟨a, l, c, h1, h2, h3, h5, h6, h7⟩
theorem Post.ofDrw {α} {R W σ F H} {ow : Nat → Addr → Prop} {env : En} {i : Nat} {K : KT α} {f : Drw → M α} (h : Post R W σ F H ow K (bnd (drw i) f env)) : ∃ s, gt env i = some (.o (.drw s)) ∧ Post R W σ F H ow K (f s env) := by
  unfold bnd drw at h
  cases e : gt env i with
  | none => simp only [e] at h; exact h.elim
  | some sl =>
    cases sl with
    | d y => simp only [e] at h; exact h.elim
    | o o =>
      cases o with
      | drw s => simp only [e] at h; exact ⟨s, rfl, h⟩
      | lst xs => simp only [e] at h; exact h.elim
      | dic ks => simp only [e] at h; exact h.elim
theorem PostS.ofDrw {α} {R W F H} {ow : Nat → Addr → Prop} {env : En} {i : Nat} {K : KTS α} {f : Drw → M α} (h : PostS R W F H ow K (bnd (drw i) f env)) : ∃ s, gt env i = some (.o (.drw s)) ∧ PostS R W F H ow K (f s env) := by
  unfold bnd drw at h
  cases e : gt env i with
  | none => simp only [e] at h; exact h.elim
  | some sl =>
    cases sl with
    | d y => simp only [e] at h; exact h.elim
    | o o =>
      cases o with
      | drw s => simp only [e] at h; exact ⟨s, rfl, h⟩
      | lst xs => simp only [e] at h; exact h.elim
      | dic ks => simp only [e] at h; exact h.elim

section
variable {X : Cx} {R : RC} {W : WX} {pos pos' p1 p2 : Pos} {j : Nat} {i : Nat} {y : Str} {e : Expr} {m : M Opd}
/-- draw['rest'], draw['turn'] -/
theorem je_rest (hu : X.A.units + 1 < cLine) (hy : PE X (.Name y p1) (tVar i)) (hs : NoSl (.Constant (.str "rest") j p2)) : PE X (.Subscript (.Name y p1) (.Constant (.str "rest") j p2) pos) (LE R W (dRest i)) :=
  wkE (pe_dget hu hy pe_str hs) fun σ H Q ⟨F, env, ow, s, h⟩ => by
    obtain ⟨d, e1, h⟩ := h.ofDrw
    obtain ⟨a, l, c, h1, h2, h3, h5, h6, h7⟩ := drw_ok s e1
    exact ⟨.ref a, h1, a, .int d.rest, rfl, val_rest d l c ▸ DGet.k (k := Sum.inr "rest") h5, h F H ow (.refl _ _ _) s _ rfl⟩
theorem je_turn (hu : X.A.units + 1 < cLine) (hy : PE X (.Name y p1) (tVar i)) (hs : NoSl (.Constant (.str "turn") j p2)) : PE X (.Subscript (.Name y p1) (.Constant (.str "turn") j p2) pos) (LE R W (dTurn i)) :=
  wkE (pe_dget hu hy pe_str hs) fun σ H Q ⟨F, env, ow, s, h⟩ => by
    obtain ⟨d, e1, h⟩ := h.ofDrw
    obtain ⟨a, l, c, h1, h2, h3, h5, h6, h7⟩ := drw_ok s e1
    exact ⟨.ref a, h1, a, .int d.turn, rfl, val_turn d l c ▸ DGet.k (k := Sum.inr "turn") h5, h F H ow (.refl _ _ _) s _ rfl⟩
/-- draw['large'] != [] -/
def dLargeNe (i : Nat) : M Bool := bnd (drw i) fun s => pur (!s.large.isEmpty)
theorem jt_largeNe {p3 : Pos} (hu : X.A.units + 1 < cLine) (hu2 : X.A.units + 64 < cLine) (hy : PE X (.Name y p1) (tVar i)) (hs : NoSl (.Constant (.str "large") j p2)) : PT X (.Compare (.Subscript (.Name y p1) (.Constant (.str "large") j p2) pos) [.NotEq] [.List [] p3] pos') (LT R W (dLargeNe i)) :=
  wkT (pt_cmpR (op_neD hu2) (pe_dget hu hy pe_str hs) (pe_lst pa_nil) (nomark _)) fun σ H Q ⟨F, env, ow, s, h⟩ => by
    obtain ⟨d, e1, h⟩ := h.ofDrw
    obtain ⟨a, l, c, h1, h2, h3, h5, h6, h7⟩ := drw_ok s e1
    refine ⟨.ref a, h1, a, .ref l, rfl, val_large d l c ▸ DGet.k (k := Sum.inr "large") h5, Nat.zero_le _, fun p hp => ?_⟩
    have hl : (upd H p (.lst [])) l = some (.lst (d.large.map V.int)) := by rw [upd_ne (ne_of_none h6 hp)]; exact h6
    have da : ∀ ns : List Int, DpAll X.K (upd H p (.lst [])) (ns.map V.int) (ns.map PyData.int) := fun ns => by
      induction ns with
      | nil => exact .nil
      | cons n r ih => exact .cons (.int n) ih
    have lay : ∀ ns : List Int, PyData.canLayAll0 (ns.map PyData.int) = true ∧ PyData.depthAll (ns.map PyData.int) = 0 := fun ns => by
      induction ns with
      | nil => exact ⟨rfl, rfl⟩
      | cons n r ih =>
        refine ⟨?_, ?_⟩
        · show (PyData.canLay0 (.int n) && PyData.canLayAll0 (r.map PyData.int)) = true
          rw [ih.1]; rfl
        · show max (PyData.depth (.int n)) (PyData.depthAll (r.map PyData.int)) = 0
          rw [ih.2]; rfl
    refine ⟨.list (d.large.map PyData.int), .list [], .lst (.of hl) (da _), .lst (.of upd_same) .nil, ?_, by decide, !d.large.isEmpty, ?_, ?_⟩
    · show (PyData.canLayAll0 (d.large.map PyData.int) && decide (PyData.depthAll (d.large.map PyData.int) + 1 ≤ 64)) = true
      rw [(lay d.large).1, (lay d.large).2]; rfl
    · cases d.large with
      | nil => rfl
      | cons n r => rfl
    · obtain ⟨xt, _⟩ := Ext.newO (u := .lst []) s.le hp
      obtain ⟨k1, k2, _⟩ := xt.fin (p := .d .non) (w := .non) s rfl
      exact h F _ ow k1 k2
end
section
variable {X : Cx} {R : RC} {W : WP} {pos pos' p1 p2 : Pos} {j : Nat} {i : Nat} {y : Str} {e : Expr} {m : M Opd}
def toInt : D → Option Int
  | .int i => some i
  | _ => none
/-- draw['rest'] = e, draw['turn'] = e -/
def dSetRest (i : Nat) (m : M Opd) : M Fl := bnd m fun p => bnd (rd p) fun x => bnd (opt (toInt x)) fun n => bnd (drw i) fun s => bnd (putW i { s with rest := n }) fun _ => pur .nx
def dSetTurn (i : Nat) (m : M Opd) : M Fl := bnd m fun p => bnd (rd p) fun x => bnd (opt (toInt x)) fun n => bnd (drw i) fun s => bnd (putW i { s with turn := n }) fun _ => pur .nx
theorem drwLen (s : Drw) (l c : Addr) : (drwKeys s l c).length < sizeLine := by show 4 < sizeLine; decide
theorem js_setRest (hu : X.A.units + 1 < cLine) (hy : PE X (.Name y p1) (tVar i)) (he : PE X e (LE R W.w m)) (hs : swapsWith e (some (.Subscript (.Name y p1) (.Constant (.str "rest") j p2) pos')) pos.line X.env = pure false) :
    PS X (.Assign [.Subscript (.Name y p1) (.Constant (.str "rest") j p2) pos'] e pos) (LS R W (dSetRest i m)) := wkS (ps_dput hu hy pe_str he hs) fun Dn σ H ⟨F, env, ow, s, pn, h⟩ => by
  refine LE_mono (SE_bnd s pn h) fun v H1 ⟨p, env1, F1, ow1, s1, st1, ok1, h⟩ => ?_
  obtain ⟨x, ex, h⟩ := h.ofRd
  obtain ⟨n, en, h⟩ := h.ofOpt
  obtain ⟨d, ed, hk⟩ := h.ofDrw
  clear h
  cases x <;> cases en
  have ev : v = .int n := rd_ok s1 ok1 ex
  subst ev
  obtain ⟨a, l, c, h1, h2, h3, h5, h6, h7⟩ := drw_ok s1 ed
  have nl : l ≠ a := ne_of h6 h5 (by intro z; cases z)
  obtain ⟨k1, k2⟩ := s1.write (o' := .drw { d with rest := n }) (u := .dK (drwKeys { d with rest := n } l c)) h2 h5 nt_dK (fun _ _ z => by cases z) h1 (gt_lt ed) ⟨a, l, c, rfl, h2, h3, upd_same, by rw [upd_ne nl]; exact h6, h7⟩
  refine ⟨.ref a, h1, a, _, rfl, DPut.k (k := Sum.inr "rest") h5 (drwLen d l c), ?_⟩
  rw [put_rest]
  exact hk σ F1 _ ow1 (st1.trans s.nofU k2) k1 pn
theorem js_setTurn (hu : X.A.units + 1 < cLine) (hy : PE X (.Name y p1) (tVar i)) (he : PE X e (LE R W.w m)) (hs : swapsWith e (some (.Subscript (.Name y p1) (.Constant (.str "turn") j p2) pos')) pos.line X.env = pure false) :
    PS X (.Assign [.Subscript (.Name y p1) (.Constant (.str "turn") j p2) pos'] e pos) (LS R W (dSetTurn i m)) := wkS (ps_dput hu hy pe_str he hs) fun Dn σ H ⟨F, env, ow, s, pn, h⟩ => by
  refine LE_mono (SE_bnd s pn h) fun v H1 ⟨p, env1, F1, ow1, s1, st1, ok1, h⟩ => ?_
  obtain ⟨x, ex, h⟩ := h.ofRd
  obtain ⟨n, en, h⟩ := h.ofOpt
  obtain ⟨d, ed, hk⟩ := h.ofDrw
  clear h
  cases x <;> cases en
  have ev : v = .int n := rd_ok s1 ok1 ex
  subst ev
  obtain ⟨a, l, c, h1, h2, h3, h5, h6, h7⟩ := drw_ok s1 ed
  have nl : l ≠ a := ne_of h6 h5 (by intro z; cases z)
  obtain ⟨k1, k2⟩ := s1.write (o' := .drw { d with turn := n }) (u := .dK (drwKeys { d with turn := n } l c)) h2 h5 nt_dK (fun _ _ z => by cases z) h1 (gt_lt ed) ⟨a, l, c, rfl, h2, h3, upd_same, by rw [upd_ne nl]; exact h6, h7⟩
  refine ⟨.ref a, h1, a, _, rfl, DPut.k (k := Sum.inr "turn") h5 (drwLen d l c), ?_⟩
  rw [put_turn]
  exact hk σ F1 _ ow1 (st1.trans s.nofU k2) k1 pn
/-- draw['rest'] = draw['large'].pop(0) -/
def dPopLarge (i : Nat) : M Fl := bnd (drw i) fun s => match s.large with
  | n :: r => bnd (putW i { s with large := r, rest := n }) fun _ => pur .nx
  | [] => nop
theorem js_popLarge {p3 p4 p5 p6 ap cp : Pos} {j2 j3 : Nat} (hu : X.A.units + 1 < cLine) (hy : PE X (.Name y p1) (tVar i)) (hy2 : PE X (.Name y p3) (tVar i)) (hs2 : NoSl (.Constant (.str "large") j2 p4))
    (hbm : ∀ (to : TE) (t : TA), PE X (.Subscript (.Name y p3) (.Constant (.str "large") j2 p4) p5) to → PA X [.Constant (.int 0) j3 p6] t → PE X (.Call (.Attribute (.Subscript (.Name y p3) (.Constant (.str "large") j2 p4) p5) "pop" ap) [.Constant (.int 0) j3 p6] [] cp) (tBM X.K "list" rPopAt to t))
    (hs : swapsWith (.Call (.Attribute (.Subscript (.Name y p3) (.Constant (.str "large") j2 p4) p5) "pop" ap) [.Constant (.int 0) j3 p6] [] cp) (some (.Subscript (.Name y p1) (.Constant (.str "rest") j p2) pos')) pos.line X.env = pure false := by rfl) :
    PS X (.Assign [.Subscript (.Name y p1) (.Constant (.str "rest") j p2) pos'] (.Call (.Attribute (.Subscript (.Name y p3) (.Constant (.str "large") j2 p4) p5) "pop" ap) [.Constant (.int 0) j3 p6] [] cp) pos) (LS R W (dPopLarge i)) :=
  wkS (ps_dput hu hy pe_str (hbm _ _ (pe_dget hu hy2 pe_str hs2) (pa_cons pe_int pa_nil)) hs) fun Dn σ H ⟨F, env, ow, s, pn, h⟩ => by
  obtain ⟨d, ed, h⟩ := h.ofDrw
  obtain ⟨a, l, c, h1, h2, h3, h5, h6, h7⟩ := drw_ok s ed
  obtain ⟨lg, cs, rs, tn⟩ := d
  cases lg with
  | nil => exact h.elim
  | cons n r =>
    have h : PostS R W F H ow (KS R Dn) (bnd (putW i { large := r, cells := cs, rest := n, turn := tn }) (fun _ => pur .nx) env) := h
    have nl : l ≠ a := ne_of h6 h5 (by intro z; cases z)
    obtain ⟨k1, k2⟩ := s.write (o' := .drw { large := r, cells := cs, rest := rs, turn := tn }) (u := .lst (r.map V.int)) h3 h6 nt_lst (fun _ _ z => by cases z) h1 (gt_lt ed) ⟨a, l, c, rfl, h2, h3, by rw [upd_ne nl.symm]; exact h5, upd_same, h7⟩
    have e1 : gt (st env i (some (.o (.drw { large := r, cells := cs, rest := rs, turn := tn })))) i = some (.o (.drw { large := r, cells := cs, rest := rs, turn := tn })) := gt_st_same _ _ _ (gt_lt ed)
    have g5 : (upd H l (.lst (r.map V.int))) a = some (.dK (drwKeys { large := n :: r, cells := cs, rest := rs, turn := tn } l c)) := by rw [upd_ne nl.symm]; exact h5
    obtain ⟨m1, m2⟩ := k1.write (o' := .drw { large := r, cells := cs, rest := n, turn := tn }) (u := .dK (drwKeys { large := r, cells := cs, rest := n, turn := tn } l c)) h2 g5 nt_dK (fun _ _ z => by cases z) h1 (gt_lt e1) ⟨a, l, c, rfl, h2, h3, upd_same, by rw [upd_ne nl]; exact upd_same, h7⟩
    rw [st_st] at m1
    refine ⟨.ref a, h1, a, .ref l, rfl, val_large _ l c ▸ DGet.k (k := Sum.inr "large") h5, .inl ⟨rfl, _, .of h6⟩, l, _, 0, 0, .int n, rfl, rfl, h6, by decide, by decide, ?_, rfl, .ref a, h1, a, _, rfl, DPut.k (k := Sum.inr "rest") g5 (drwLen _ l c), ?_⟩
    · show seqIndex? 0 (List.map V.int (n :: r)).length = some 0
      rw [List.length_map]
      unfold seqIndex?
      simp
    · rw [put_rest]
      exact h σ F _ ow (k2.trans s.nofU m2) m1 pn
/-- draw['cells'] -/
def dCells (i : Nat) : M Opd := bnd (drw i) fun s => pur (.d (.lst (s.cells.map D.int)))
end
section
variable {X : Cx} {R : RC} {W : WX} {pos pos' p1 p2 : Pos} {j : Nat} {i : Nat} {y : Str} {e : Expr} {m : M Opd}
theorem je_cells (hu : X.A.units + 1 < cLine) (hy : PE X (.Name y p1) (tVar i)) (hs : NoSl (.Constant (.str "cells") j p2)) : PE X (.Subscript (.Name y p1) (.Constant (.str "cells") j p2) pos) (LE R W (dCells i)) :=
  wkE (pe_dget hu hy pe_str hs) fun σ H Q ⟨F, env, ow, s, h⟩ => by
    obtain ⟨d, e1, h⟩ := h.ofDrw
    obtain ⟨a, l, c, h1, h2, h3, h5, h6, h7⟩ := drw_ok s e1
    exact ⟨.ref a, h1, a, .ref c, rfl, val_cells d l c ▸ DGet.k (k := Sum.inr "cells") h5, h F H ow (.refl _ _ _) s _ ⟨c, _, rfl, h7, Reps.of_ints d.cells⟩⟩
end
end Dv
set_option Elab.async false
set_option linter.all false
set_option maxRecDepth 100000
set_option maxHeartbeats 4000000
/-! Dv11: constants of the module, walks of a list or a tuple. -/
namespace Dv
open PySem PySem.Spec PyProof.Rows L2
variable [TabC]

theorem rmu1 {k : Nat} {A : Around} (r : Room k A) : A.units + 1 < cLine := Nat.lt_of_le_of_lt (Nat.add_le_add_left (by decide) _) r.units
section
variable {X : Cx} {R : RC} {W : WX} {pos : Pos} {x : Str} {e tg l : Expr} {m : M Opd}
/-- an int that the module's top has bound -/
theorem je_gint {n : Int} {t : Tok} (hg : Gl X x) (hm : X.mg x = some (.int n t)) (hd : (x == ("__debug__" : Str)) = false := by decide) : PE X (.Name x pos) (LE R W (dC (.int n))) := je_c (pe_glob (v := .int n) hg hm ⟨t, rfl⟩ hd) rfl
/-- what a list or a tuple is walked by -/
def iSeq (K : PySem.W.Frag) (tl : TE) : TI := fun σ H Y => tl σ H fun x H1 => ∃ a, x = .ref a ∧ ((∃ xs, SqL K H1 a xs) ∧ Y (Itl K a) H1 ∨ (∃ xs, SqT K H1 a xs) ∧ Y (Itt K a) H1)
theorem pi_seqv {tl : TE} (hl : PE X l tl) : PI X tg l (iSeq X.K tl) := by
  constructor
  intro pins t σ H Y J h
  refine thn (hl.run pins t σ H _ J h) ?_
  rintro w t1 ⟨x, H1, J1, rx, a, rfl, ha⟩
  cases rx
  have fin (b : Addr) (hb : b ∈ [t1.heap.objs.size]) : FpOk X pins H1 b := by
    cases List.mem_singleton.mp hb
    exact J1.fpOk (Nat.le_refl _) (J1.hok.fresh (Nat.le_refl _))
  rcases ha with ⟨⟨xs, hq⟩, q⟩ | ⟨⟨xs, hq⟩, q⟩
  · obtain ⟨us, _, hp, _⟩ := J1.list hq
    exact wpAny_pyIter_list hp.isList ⟨_, [t1.heap.objs.size], _, _, H1, rfl, J1.kept (t' := t1.toks) (fun b o z => Heap.get?_push_of_some _ z), turn_list a _, ⟨_, Heap.get?_push_size _ rfl, rfl, rfl⟩, fin, q⟩
  · obtain ⟨us, _, hp, _⟩ := J1.tuple hq
    exact wpAny_pyIter_tuple (show t1.heap.IsTuple a us.toArray from hp) ⟨_, [t1.heap.objs.size], _, _, H1, rfl, J1.kept (t' := t1.toks) (fun b o z => Heap.get?_push_of_some _ z), turn_tuple a _, ⟨_, Heap.get?_push_size _ rfl, rfl, rfl⟩, fin, q⟩
def itemsS : D → Option (List D)
  | .lst xs => some xs
  | .rol xs => some xs
  | .tup xs => some xs
  | _ => none
def dIt (m : M Opd) : M (List D) := bnd m fun p => bnd (pub p) fun x => opt (itemsS x)
theorem ji_seq (h : PE X l (LE R W m)) (hK : X.K = R.K := by rfl) : PI X tg l (LI R W (dIt m)) := wkI (pi_seqv h) fun σ H Rr ⟨F, env, ow, s, h⟩ => by
  rw [hK]
  refine LE_mono (LE_bnd s h) fun v H1 ⟨p, env1, F1, ow1, s1, st1, ok1, h⟩ => ?_
  obtain ⟨x, env2, ex, h⟩ := h.ofPub
  obtain ⟨F2, ow2, s2, st2, r2⟩ := pub_step s.nofU s1 st1 ok1 ex
  obtain ⟨xs, e, h⟩ := h.ofOpt'
  cases x <;> cases e
  · obtain ⟨a, vs, rfl, k1, k2⟩ := r2
    exact ⟨a, rfl, .inr ⟨⟨vs, s2.le.sqT k1⟩, h F2 H1 ow2 st2 s2 _ (walk_tup k1 k2)⟩⟩
  · obtain ⟨a, vs, rfl, k1, k2⟩ := r2
    exact ⟨a, rfl, .inl ⟨⟨vs, .of (s2.le.lst k1)⟩, h F2 H1 ow2 st2 s2 _ (walk_list (.of k1) k2)⟩⟩
  · obtain ⟨a, vs, rfl, k1, k2⟩ := r2
    exact ⟨a, rfl, .inl ⟨⟨vs, s2.le.sqL k1⟩, h F2 H1 ow2 st2 s2 _ (walk_list k1 k2)⟩⟩
theorem rsize_nn (i j c : Int) : 0 ≤ Builtin.Range.rangeSize i j c := by
  unfold Builtin.Range.rangeSize
  have nn : ∀ x y : Int, 0 ≤ x → 0 ≤ y → 0 ≤ x / y + 1 := fun x y hx hy => Int.add_nonneg (Int.ediv_nonneg hx hy) (by decide)
  split
  · split
    · exact nn _ _ (by omega) (by omega)
    · exact Int.le_refl _
  · split
    · exact nn _ _ (by omega) (by omega)
    · exact Int.le_refl _
theorem ji_rng3 {a b c : Expr} {m1 m2 m3 : M Opd} {p : Pos} (hg : Gl X "range") (hm : X.mg "range" = none) (ha : PA X [a, b, c] (LA R W (dArgs [m1, m2, m3])))
    (hs : starEach [a, b, c] X.env = (false, eval a X.env) :: starEach [b, c] X.env := by rfl) (hpl : (backTo pos (starEach [b, c] X.env)).any (·.1) = false := by rfl) : PI X tg (.Call (.Name "range" p) [a, b, c] [] pos) (LI R W (dRng gRng3 [m1, m2, m3])) :=
  wkI (pi_range3 hg hm ha hs hpl) fun σ H Rr ⟨F, env, ow, s, h⟩ => by
    refine LA_mono (LA_bnd s h) fun vs H1 ⟨xs, env1, F1, ow1, s1, st1, r1, h⟩ => ?_
    obtain ⟨ys, e, h⟩ := h.ofOpt'
    unfold gRng3 at e
    split at e
    · rename_i i j k
      split at e
      · rename_i q
        cases e
        obtain ⟨v, r, rfl, e1, v2, r2, rfl, e2, v3, r3, rfl, e3, e4⟩ := r1
        have e1 : v = _ := e1
        have e2 : v2 = _ := e2
        have e3 : v3 = _ := e3
        have e4 : r3 = _ := e4
        subst e1 e2 e3 e4
        exact ⟨i, j, k, (Builtin.Range.rangeSize i j k).toNat, rfl, ⟨q.1, q.2.1, q.2.2, (Int.toNat_of_nonneg (rsize_nn i j k)).symm⟩, h F1 H1 ow1 st1 s1 _ (walk_rngC i k _)⟩
      · cases e
    · cases e
end
end Dv
set_option Elab.async false
set_option linter.all false
set_option maxRecDepth 100000
set_option maxHeartbeats 4000000
/-! Dv12: an exception that is kept behind its suite. -/
namespace Dv
open PySem PySem.Spec PyProof.Rows L2
variable [TabC]

section
variable {X : Cx} {pins : List (Addr × Obj)} {σ : L2.St} {H : Hp} {s : Shared}
/-- an object that stands untracked and is none of the past's is tracked -/
theorem inv_track {a : Addr} {oe : Obj} {C : Addr} {d : Option Addr} {vs : Array Value} (I : Inv X ((a, oe) :: pins) σ H s) (h1 : oe.cls = .ref C) (h2 : oe.dict = d) (h3 : oe.data = .fields vs)
    (n0 : ∀ o, X.s_0.heap.get? a = some o → X.H_0 a = none → a ∉ X.ex → False) (np : ∀ p ∈ X.pn ++ pins, p.1 ≠ a) : Inv X pins σ (upd H a (ExV C d a)) s := by
  obtain ⟨g1, g2, g3, g4, g5⟩ := I.pin (a, oe) (List.mem_append.mpr (.inr List.mem_cons_self))
  have g1 : s.heap.get? a = some oe := g1
  have g2 : H a = none := g2
  refine ⟨I.ok, I.os, I.bare, ⟨I.base.keep, I.base.slot, fun b o e n x => ?_, I.base.there, fun b xs e => ?_, fun b o u e => ?_, fun b ps e => ?_⟩, I.loc, I.cell, ?_, fun x c e => ?_, fun p hp => ?_, fun b u e => ?_, I.len⟩
  · have ne : b ≠ a := fun z => by
      subst z
      exact n0 o e n x
    rw [upd_ne ne]
    exact I.base.free b o e n x
  · have q := I.base.tups b xs e
    rw [upd_ne (ne_of_none q g2)]; exact q
  · have q := I.base.frzs b o u e
    rw [upd_ne (ne_of_none q g2)]; exact q
  · obtain ⟨more, q⟩ := I.base.tbls b ps e
    exact ⟨more, by rw [upd_ne (ne_of_none q g2)]; exact q⟩
  · rw [upd_ne fun z => g3 z.symm]; exact I.free
  · have ne : c ≠ a := fun z => by
      obtain ⟨v, o, q1, q2⟩ := I.cell x c e
      subst z
      rw [g1] at q1
      cases q1
      exact g5 _ q2
    rw [upd_ne ne]; exact I.freeC x c e
  · have hp' : p ∈ X.pn ++ (a, oe) :: pins := (List.mem_append.mp hp).elim (fun z => List.mem_append.mpr (.inl z)) fun z => List.mem_append.mpr (.inr (List.mem_cons_of_mem _ z))
    obtain ⟨k1, k2, k3⟩ := I.pin p hp'
    exact ⟨k1, by rw [upd_ne (np p hp)]; exact k2, k3⟩
  · by_cases hb : b = a
    · subst hb
      rw [upd_same] at e
      cases e
      refine ⟨⟨oe, vs, g1, h1, h2, h3⟩, ⟨oe, g1⟩, fun k1 k2 ⟨o', w, z1, z2⟩ q => ⟨o', w, q _ z1, z2⟩⟩
    · rw [upd_ne hb] at e
      exact (I.hok b u e).stay (fun _ _ _ q => q) (fun c q => by rw [upd_ne (ne_of_none q g2)]; exact q) fun c xs q => by rw [upd_ne (ne_of_none q g2)]; exact q
end
/-- the body's wish of an exception: the clause's suite, then the exception is tracked -/
def wKeep (K : PySem.W.Frag) (len : Nat) (cv : Value) (i : Nat) (ts : Addr → Value → Option Addr → TS) (Wo : WX) (Dn : Ends) : WX := fun cls d σ H =>
  σ.length = len → ∃ C b, cls = .ref C ∧ PySem.W.exmOne K cls cv = some b ∧ (b = false → Wo cls d σ H) ∧ (b = true → ∀ a, H a = none → ts a cls d { nx := fun τ G => Dn.nx (τ.set i none) (upd G a (ExV C d a)), rt := fun _ _ => False, bk := fun _ _ => False, ct := fun _ _ => False } (σ.set i (some (.ref a))) H)
section
variable {X : Cx} {x n : Str} {cv : Value} {i : Nat} {body suite : List Stmt} {first : Stmt} {np hp tp : Pos} {tb : WX → TS} {ts : Addr → Value → Option Addr → TS} {Wo : WX}
theorem ps_tryK (hs : X.stack = X.env :: X.outer) (hf : X.env.frame = some X.env.locals) (hN : X.N.Nodup) (hi : X.N[i]? = some n) (hl : X.env.kindOf n = some .local) (hc : Names X x cv) (tk : Takes X Wo)
    (hb : ∀ (W : WX) (pn : List (Addr × Obj)) (xe : Value → Shared → Prop), Takes (X.tr pn xe) W → PSs (X.tr pn xe) body (tb W))
    (hsu : ∀ (a : Addr) (oe : Obj) (cls : Value) (d : Option Addr) (pn : List (Addr × Obj)), PSs (X.suite a ((a, oe) :: pn)) (first :: suite) (ts a cls d)) :
    PS X (.Try body [.ExceptHandler (some (.Name x np)) (some n) (first :: suite) hp] [] [] tp) (fun Dn σ H => tb (wKeep X.K X.N.length cv i ts Wo Dn) Dn σ H) := by
  constructor
  intro pins s σ H Dn J h
  have jok := J.ok
  have frm : X.A.frames = some (X.env :: X.outer) := by rw [← hs]; exact jok.frames
  apply wpAny_Try_except
  refine wpAny_mono ((hb (wKeep X.K X.N.length cv i ts Wo Dn) (X.pn ++ pins) (fun e t1 => wpAny (model X.prog X.w) X.A (noteFrame e X.env) (fun _ t2 => wpAny (model X.prog X.w) X.A (setFlight e none) (fun _ t3 =>
    wpAny (model X.prog X.w) X.A (handleBy e X.env [.ExceptHandler (some (.Name x np)) (some n) (first :: suite) hp]) (SP X pins Dn) X.xe t3) X.xe t2) X.xe t1) ?_).run [] s σ H Dn (J.toTry _) h) ?_ fun _ _ z => z
  · rintro u s' ⟨a, B, sI, pins', τ, G, cls, d, rfl, J', nb, up, sky, na, os, ag, wish⟩
    have J2 : Inv X pins τ G sI := J'.ofTry jok
    obtain ⟨C, b, rfl, hb1, hno, hyes⟩ := wish J2.len
    show wpAny (model X.prog X.w) X.A (noteFrame (.ref a) X.env) _ _ _
    refine Sky.land Zc.steady frm hf (hs ▸ sky) fun k3 fl3 up3 => ?_
    have L3 : Inv X pins τ G { s' with heap := k3 } := J2.landed nb fl3.1 (up.trans up3) os ag
    obtain ⟨oa, va, ga, za, da⟩ := fl3.there
    have out : ∀ {k : Heap} {o : Obj} {vs : Array Value}, k.FunFrames B (X.env :: X.outer) → k.get? a = some o → o.data = .fields vs → a ∉ L2.frs (X.env :: X.outer) := fun ff e dd m => by
      obtain ⟨_, o', e', z⟩ := ff.mem m
      rw [e] at e'
      cases e'
      exact z _ dd
    have nfr := out fl3.2.2.1 ga da
    have nloc : a ≠ X.env.locals := fun z => nfr (List.mem_filterMap.mpr ⟨X.env, by simp, by rw [hf, z]⟩)
    have nfs : a ∉ X.fs := fun m => by
      obtain ⟨en, e1, e2⟩ := List.mem_filterMap.mp m
      exact nfr (List.mem_filterMap.mpr ⟨en, by simp [e1], e2⟩)
    have nI : ∀ o, sI.heap.get? a = some o → False := fun o z => by
      have := nb a o z (by rw [hs]; exact nfr)
      rw [fl3.2.1] at this
      cases this
    have n0 : ∀ o, X.s_0.heap.get? a = some o → X.H_0 a = none → a ∉ X.ex → False := fun o e1 e2 e3 => nI o (J2.base.keep a o e1 e2 nfs e3)
    have np' : ∀ p ∈ X.pn ++ pins, p.1 ≠ a := fun p m z => nI p.2 (by rw [← z]; exact (J2.pin p m).1)
    have T3 := L3.suite ga da na nloc nfs
    refine wpAny_handleBy_cons (codeAny_handlers_test ?_) (by intro q; cases q)
    have lk : PySem.W.Looks (model X.prog X.w) k3 (typeOf (.ref a)) (.ref C) := fun _ _ _ _ k q => wpAny_typeOf_ref (k _ _ ga) (by rw [za.1]; exact q)
    have lm := PySem.W.exm_one (M := model X.prog X.w) L3.kIn lk hb1
    have ask : ∀ {Q : Value → Shared → Prop} {E : Value → Shared → Prop}, Q cv { s' with heap := k3 } → wpAny (model X.prog X.w) (X.A.mark (some (.ref a))) (eval (.Name x np) X.env) Q E { s' with heap := k3 } := fun {Q E} q => by
      obtain ⟨h1, h2, h3 | ⟨h3, h4, h5⟩⟩ := hc
      · exact ld_glob (X := X.suite a ((a, oa) :: (X.pn ++ pins))) T3 h1 h3 q h2
      · exact ld_blt (X := X.suite a ((a, oa) :: (X.pn ++ pins))) T3 h1 h3 h4 q h5 h2
    apply ask
    apply lm.here
    cases b with
    | true =>
      apply codeAny_handlers_suite_as
      refine HandSPX.lands_againZ fl3 fun k4 fl4 up4 => ?_
      have L4 : Inv X pins τ G { s' with heap := k4 } := J2.landed nb fl4.1 ((up.trans up3).trans up4) os ag
      obtain ⟨ob, vb, gb, zb, db⟩ := fl4.there
      have T4 := L4.suite gb db na nloc nfs
      refine store_ok (X := X.suite a ((a, ob) :: (X.pn ++ pins))) (v := .ref a) T4 hN hi (.inl hl) rfl (fun s5 T5 => ?_) (.inr hl)
      refine wpAny_mono ((hsu a ob (.ref C) d (X.pn ++ pins)).run [] s5 _ G _ T5 (hyes rfl a na)) (fun f s6 hsp => ?_) (fun _ _ z => False.elim z)
      cases f with
      | next =>
        obtain ⟨τ6, G6, T6, q6⟩ := hsp
        have U6 : Inv X ((a, ob) :: pins) τ6 G6 s6 := (T6.unsuite jok).pins_of fun p m => by
          rcases List.mem_cons.mp m with e | m
          · rw [e]; exact T6.pin (a, ob) (List.mem_append.mpr (.inl List.mem_cons_self))
          · exact (T6.unsuite jok).pin p (List.mem_append.mpr (.inr m))
        exact gone_ok U6 hN hi hl fun s7 U7 => ⟨_, _, inv_track U7 zb.1 zb.2 db n0 np', q6⟩
      | brk =>
        obtain ⟨_, _, _, z⟩ := hsp
        exact z.elim
      | cont =>
        obtain ⟨_, _, _, z⟩ := hsp
        exact z.elim
      | ret u =>
        obtain ⟨_, _, _, _, _, z⟩ := hsp
        exact z.elim
    | false =>
      show wpAny _ X.A (handleBy (.ref a) X.env []) _ _ _
      apply wpAny_handleBy_nil
      obtain ⟨_, _, _, o8, v8, T8, oT, ts8, e8, z8, d8, i8, r8⟩ := id fl3
      unfold PySem.passOn
      refine wpAny_bind (wpAny_field e8 d8 i8 ?_)
      rw [if_neg (show ¬ ((Value.ref T8 == Value.none) = true) by simp)]
      have rest : wpAny (model X.prog X.w) X.A (setFlight (.ref a) X.env.frame) (fun _ s4 => wpAny (model X.prog X.w) X.A (throw (.ref a) : Sem Flow) (SP X pins Dn) X.xe s4) X.xe { s' with heap := k3 } := by
        rw [hf]
        refine HandSPX.setFlight_upZ fl3 fun k4 held up4 => wpAny_throw (tk _ _ ?_)
        exact ⟨a, B, sI, pins, τ, G, .ref C, d, rfl, J2, nb, (up.trans up3).trans up4, .inr (.inr (hs ▸ held)), na, os, ag, hno rfl⟩
      first
        | exact wpAny_bind (wpAny_pure (wpAny_bind rest))
        | exact wpAny_bind rest
  · intro f t1 hsp
    cases f with
    | next =>
      obtain ⟨τ, G, J', q⟩ := hsp
      exact wpAny_execs_nil ⟨τ, G, Inv.ofTry J' jok, q⟩
    | brk =>
      obtain ⟨τ, G, J', q⟩ := hsp
      exact ⟨τ, G, Inv.ofTry J' jok, q⟩
    | cont =>
      obtain ⟨τ, G, J', q⟩ := hsp
      exact ⟨τ, G, Inv.ofTry J' jok, q⟩
    | ret u =>
      obtain ⟨v, τ, G, J', r, q⟩ := hsp
      exact ⟨v, τ, G, Inv.ofTry J' jok, r, q⟩
end
end Dv
set_option Elab.async false
set_option linter.all false
set_option maxRecDepth 100000
set_option maxHeartbeats 4000000
/-! Dv13: the def that calls its lambda and keeps the error. -/
namespace Dv
open PySem PySem.Spec PyProof.Rows L2 LamX
variable [TabC]

/-- caught = None / try: work() / except x as error: caught = error / return caught -/
def TCau (K : PySem.W.Frag) (CS : Addr) : (XK → Hp → VK → Prop) → Hp → VK → Prop := fun tl H Q =>
  tl (fun cls d H' => ∃ C, cls = .ref C ∧ PySem.W.exmOne K cls (.ref CS) = some true ∧ ∀ a, H' a = none → Q (.ref a) (upd H' a (ExV C d a))) H fun _ H' => Q .non H'
theorem peK {X : Cx} {e : Expr} {t : TE} (h : PE X e t) : PE X e fun σ H Q => ∃ G : VK, (∀ v H', G v H' → Q v H') ∧ t σ H G :=
  ⟨fun pins s σ H Q I ⟨G, k, q⟩ => thn (h.run pins s σ H G I q) fun v s1 ⟨x, H1, I1, r1, q1⟩ => ⟨x, H1, I1, r1, k x H1 q1⟩⟩
abbrev nCau : List Str := ["work", "caught", "error"]
section
variable {X : Cx}
theorem caught_gives {x q : Str} {sg : Scope} {g CS : Addr} {cdg : Value} {p0 p1 p2 p3 p4 p5 p6 p7 p8 p9 pa pb pc pd : Pos} {j : Nat}
    (hw : sg.names.lookup ("work" : Str) = some .local) (hc : sg.names.lookup ("caught" : Str) = some .local) (he : sg.names.lookup ("error" : Str) = some .local) (hge : sg.names.lookup ("SeriesError" : Str) = some .globalImplicit) (hme : X.mg "SeriesError" = some (.ref CS)) :
    GivesTo X nCau x sg g cdg [.Assign [.Name "caught" p0] (.Constant .none j p1) pa, .Try [.Expr (.Call (.Name "work" p2) [] [] p3) p4] [.ExceptHandler (some (.Name "SeriesError" p5)) (some "error") [.Assign [.Name "caught" p6] (.Name "error" p7) p8] p9] [] [] pb, .Return (some (.Name "caught" pc)) pd] "work" q (TCau X.K CS) := by
  intro f c' s H Q tl act hcode h
  let Z := (cxOf C8.CX0 X.prog X.w X.K X.mg X.base nCau x sg g cdg X.A X.stack s H C8.E0).nox
  have nd : nCau.Nodup := by decide +kernel
  have hgl : Gl Z "SeriesError" := hge
  refine ⟨_, pss_cons (ps_set (X := Z) (i := 1) nd rfl (.inl hc) pe_non (by rfl) (.inr hc)) (pss_cons (ps_tryK (X := Z) (cv := .ref CS) (i := 2) (Wo := fun _ _ _ _ => False)
      (tb := fun W D σ H => ∃ Ech : XK, (∀ cls d σ' H', Ech cls d H' → W cls d σ' H') ∧ σ[0]? = some (some (.ref f)) ∧ H c' = some (CodeO c' q) ∧ ∃ G : VK, (∀ v H', G v H' → D.nx σ H') ∧ tl Ech H G)
      rfl rfl nd rfl he ⟨hgl, by decide, .inl hme⟩ LamX.takes0 (fun W pn xe tk => ?_) (fun a oe cls d pn => pss_one (ps_set (i := 1) nd rfl (.inl hc) (pv 2 rfl (.inl he) (by decide) (by decide)) (by rfl) (.inr hc)))) (pss_one (ps_ret (pv (X := Z) 1 rfl (.inl hc) (by decide) (by decide))))), ?_⟩
  · refine ⟨fun pins s' σ H' D I h' => ?_⟩
    obtain ⟨Ech, hW, h1, h2, G, h3, h4⟩ := h'
    exact (pss_one (ps_expr (pos := p4) (peK (act W pn xe Ech p2 p3 tk hW)))).run pins s' σ H' D I ⟨G, h3, h1, h2, h4⟩
  · refine ⟨_, fun cls d σ' H' z => ?_, rfl, hcode, fun _ H' => Q .non H', fun v H' q => ⟨.non, rfl, q⟩, h⟩
    obtain ⟨C, e1, e2, e3⟩ := z
    intro hl
    match σ', hl with
    | [x0, x1, x2], _ => exact ⟨C, true, e1, e2, (fun z => by cases z), fun _ a na => ⟨.ref a, rfl, .ref a, rfl, e3 a na⟩⟩
end
end Dv
set_option Elab.async false
set_option linter.all false
set_option maxRecDepth 100000
set_option maxHeartbeats 4000000
/-! Dv14: _law_caught(lambda: ..) by its denotation; raise. -/
namespace Dv
open PySem PySem.Spec PyProof.Rows L2 LamX
variable [TabC]

/-- the error of m, None where there is none -/
def dCaught (m : M Opd) : M Opd := fun e => match m e with
  | .ok _ e' => .ok (.d .non) e'
  | .ex c fs e' => .ok (.d (.exc c fs)) e'
  | .no => .no
section
variable {X : Cx} {R : RC} {W : WX} {σ : L2.St} {F H F1 H1 : Hp} {env : En} {ow : Nat → Addr → Prop} {m : M Opd}
open Classical in
/-- F, and the code objects that are new -/
noncomputable def codeF (F H H1 : Hp) : Hp := fun b => if F b = none ∧ Ov H b ∧ ∃ q, H1 b = some (CodeO b q) then H1 b else F b
theorem codeF_ex {F H H1 : Hp} {a : Addr} {u : HO} (h : F a = some u) : codeF F H H1 a = some u := by
  unfold codeF
  rw [if_neg (fun z => by rw [h] at z; cases z.1)]
  exact h
theorem codeF_no {F H H1 : Hp} {a : Addr} (h : F a = none) (n : ¬ Ov H a) : codeF F H H1 a = none := by
  unfold codeF
  rw [if_neg (fun z => n z.2.1)]
  exact h
theorem codeF_cases {F H H1 : Hp} {a : Addr} {u : HO} (h : codeF F H H1 a = some u) : F a = some u ∨ (F a = none ∧ Ov H a ∧ (∃ q, u = CodeO a q) ∧ H1 a = some u) := by
  unfold codeF at h
  split at h
  · rename_i z
    obtain ⟨z1, z2, q, z3⟩ := z
    rw [z3] at h
    cases h
    exact .inr ⟨z1, z2, ⟨q, rfl⟩, z3⟩
  · exact .inl h
theorem nt_codeO {c : Addr} {q : Str} : NT (CodeO c q) := fun ps z => codeO_ne ps z
theorem codeF_tb (s : SR R F H σ env ow) (e : ExtN H H1) (t : Tabs TabC.T H1) : TabsC (codeF F H H1) H1 := ⟨t, fun c q z => by
  cases hf : F c with
  | none =>
    by_cases o : Ov H c
    · unfold codeF
      rw [if_pos ⟨hf, o, q, z⟩]; exact z
    · exfalso
      refine o fun u hu => Classical.byContradiction fun n => ?_
      have h1 := e c u hu fun ps k => n ⟨ps, k⟩
      rw [z] at h1
      cases h1
      have := s.tb.2 c q hu
      rw [hf] at this
      cases this
  | some w =>
    rw [codeF_ex hf]
    rcases s.le c w hf with k | ⟨kvs, o, rfl, k⟩
    · have h1 := e c w k (s.nt c w hf)
      rw [z] at h1
      exact h1.symm
    · have h1 := e c _ k fun ps k => by cases k
      rw [z] at h1
      cases h1⟩
theorem extN_step (s : SR R F H σ env ow) (e : ExtN H H1) (t : Tabs TabC.T H1) {w : Addr → Prop} : Step F H w (codeF F H H1) H1 w :=
  ⟨fun _ _ h => codeF_ex h, fun a u h _ _ nt => e a u h nt, fun a h => by
    cases q : codeF F H H1 a with
    | none => exact absurd q h
    | some u =>
      rcases codeF_cases q with k | ⟨_, k, _⟩
      · exact .inl (by rw [k]; exact fun z => nomatch z)
      · exact .inr (.inl k), fun _ h => .inl h, fun a h u q => Classical.byContradiction fun z => by
    have nt : NT u := fun ps k => z ⟨ps, k⟩
    exact h.no (e a u q nt) nt, fun _ => codeF_tb s e t, fun z a u h => by
      rcases codeF_cases h with k | ⟨_, _, ⟨q, rfl⟩, _⟩
      · exact z a u k
      · exact nt_codeO, fun a o u h => e a _ h fun ps k => by cases k⟩
theorem extN_sr (s : SR R F H σ env ow) (e : ExtN H H1) (t : Tabs TabC.T H1) : SR R (codeF F H H1) H1 σ env ow := by
  have st : Step F H (un ow) (codeF F H H1) H1 (un ow) := extN_step s e t
  refine ⟨fun a u h => ?_, fun i a h => ⟨codeF_no (s.nof i a h).1 (s.nof i a h).2, fun z => (s.nof i a h).2 (st.dom a z)⟩, s.dis, s.len, fun i sl h => ?_, codeF_tb s e t, st.nt s.nt⟩
  · rcases codeF_cases h with h | ⟨_, _, _, h⟩
    · rcases s.le a u h with z | ⟨kvs, o, rfl, z⟩
      · exact .inl (e a u z (s.nt a u h))
      · exact .inr ⟨kvs, o, rfl, e a _ z fun ps k => by cases k⟩
    · exact .inl h
  · obtain ⟨v, h1, h2⟩ := s.sl i sl h
    exact ⟨v, h1, h2.mono st.le (fun a u z nt q => e a u q nt) fun _ z => z⟩
/-- an error held -/
theorem new_exc {c : Nat} {d : Option Addr} {a : Addr} {kvs : List (Str × V)} {fs : List (Str × D)} (s : SR R F H σ env ow) (ha : H a = none) (h1 : XdOk F kvs d) (h2 : RepX R F fs kvs) :
    Ext F H (upd F a (ExV (R.cl c) d a)) (upd H a (ExV (R.cl c) d a)) ∧ Rep R (upd F a (ExV (R.cl c) d a)) (.exc c fs) (.ref a) := by
  have x : Ext F H (upd F a (ExV (R.cl c) d a)) (upd H a (ExV (R.cl c) d a)) := Ext.new s.le ha (fun _ z => by cases z)
  exact ⟨x, a, d, kvs, rfl, .inl upd_same, h1.mono (.ofEx x.st.ex), RepX.mono (.ofEx x.st.ex) h2⟩
theorem LE_caught {CS : Addr} {Q : VK} (hX : ∀ c, PySem.W.exmOne R.K (.ref (R.cl c)) (.ref CS) = some true) (h : LE R W (dCaught m) σ H Q) :
    tLam TabC.T (TCau R.K CS) (fun E => LE R (fun cls d _ H' => E cls d H') m) σ H Q := by
  obtain ⟨F, env, ow, s, h⟩ := h
  refine ⟨s.tb.1, fun H1 e t => ?_⟩
  have s1 : SR R (codeF F H H1) H1 σ env ow := extN_sr s e t
  have st0 : Step F H (un ow) (codeF F H H1) H1 (un ow) := extN_step s e t
  refine ⟨codeF F H H1, env, ow, s1, ?_⟩
  unfold dCaught at h
  cases q : m env with
  | no => rw [q] at h; exact h.elim
  | ok p e' =>
    rw [q] at h
    exact fun F' H' ow' st s' v _ => h F' H' ow' (st0.trans s.nofU st) s' .non rfl
  | ex c fs e' =>
    rw [q] at h
    refine fun d kvs F' H' ow' st s' xd rx => ⟨R.cl c, rfl, hX c, fun a ha => ?_⟩
    obtain ⟨x, r⟩ := new_exc (c := c) s' ha xd rx
    obtain ⟨k1, k2, _⟩ := x.fin (p := .d (.exc c fs)) (w := .ref a) s' r
    exact h _ _ ow' ((st0.trans s.nofU st).trans s.nofU k1) k2 (.ref a) r
end
end Dv
set_option Elab.async false
set_option linter.all false
set_option maxRecDepth 100000
set_option maxHeartbeats 4000000
/-! Dv15: raise of an own class; isinstance against own classes of errors. -/
namespace Dv
open PySem PySem.Spec PyProof.Rows L2
variable [TabC]

section
variable {X : Cx} {R : RC} {W : WP} {B newId initId : String} {bmB : List Value}
theorem js_raise {c j : Nat} {x m : Str} {p p2 pos pos' : Pos} (hc : X.calm = true) (tk : Takes X W.w) (F : ExcBaseFacts B newId initId bmB) (q : PySem.W.excIn X.K (R.cl c) bmB newId = true) (gC : X.mg x = some (.ref (R.cl c))) (kC : PySem.W.keepIn X.K (.ref (R.cl c)) = true)
    (h1 : PySem.W.subIn X.K (.ref (R.cl c)) (.type "BaseException") = some true) (h2 : PySem.W.typeIn X.K (.ref (R.cl c)) = some (.type "type")) (hg : Gl X x) (hdb : (x == ("__debug__" : Str)) = false := by decide) :
    PS X (.Raise (some (.Call (.Name x p) [.Constant (.str m) j p2] [] pos)) none pos') (LS R W (dRaise c)) := wkS (ps_raise hc tk (pmk_own F q gC kC (raises_own h1 h2) hg hdb)) fun Dn σ H ⟨F0, env, ow, s, pn, h⟩ => by
  exact h none [] σ F0 H ow (.refl _ _ _) s pn rfl rfl
end

/-! ### isinstance(e, C) -/
/-- sub c k: the class c is the class k or below it -/
def gIsx (sub : Nat → Nat → Bool) (k : Nat) : D → Option Opd
  | .non => some (.d (.bl false))
  | .exc c _ => some (.d (.bl (sub c k)))
  | _ => none
structure IsX (R : RC) (sub : Nat → Nat → Bool) (k : Nat) : Prop where
  hn : PySem.W.kitOne R.K (.type "NoneType") (.ref (R.cl k)) = some false
  hx : ∀ c, PySem.W.kitOne R.K (.ref (R.cl c)) (.ref (R.cl k)) = some (sub c k)
  hc : ∀ c, ExcC R.K (R.cl c)
def rIsx (K : PySem.W.Frag) : List V → Hp → VK → Prop := fun xs H Q => rIsi K xs H Q ∨ ∃ (a C E : Addr) (b : Bool), xs = [.ref a, .ref E] ∧ (∃ d, Rd H a (ExV C d a) ∧ ∀ dx, d = some dx → ∃ fs, Rd H dx (.xd fs)) ∧ ExcC K C ∧ PySem.W.kitOne K (.ref C) (.ref E) = some b ∧ Q (.bl b) H
theorem exV_at {P : Program} {w : World} {H : Hp} {h : Heap} {a C : Addr} {d : Option Addr} (k : HOk P w H h) (r : Rd H a (ExV C d a)) : ∃ (oe : Obj) (vs : Array Value), h.get? a = some oe ∧ oe.cls = .ref C ∧ oe.dict = d ∧ oe.data = .fields vs := by
  rcases r with r | ⟨o, r⟩
  · exact (show ObjOk P w H h a (ExV C d a) from k a _ r).1
  · exact (show ObjOk P w H h a (ExV C d a) from (k a _ r).2).1
section
variable {X : Cx}
theorem call_isx : CallR X (.builtin "isinstance") (rIsx X.K) := by
  intro pins s σ H xs us Q I r h
  rcases h with h | ⟨a, C, E, b, rfl, h1, h2, h3, q⟩
  · exact call_isi pins s σ H xs us Q I r h
  · obtain ⟨u1, u2, rfl, r1, r2⟩ := vals2 r
    cases (show u1 = Value.ref a from r1)
    cases (show u2 = Value.ref E from r2)
    obtain ⟨d, h1, h4⟩ := h1
    obtain ⟨⟨oc, od, dt, sl⟩, vs, e1, e2, e3, e4⟩ := exV_at I.hok h1
    dsimp only at e2 e3 e4
    subst e2 e3 e4
    obtain ⟨cd, hcd, _⟩ := PySem.W.any_some h2.hd
    have at_ : ∃ ob, PySem.W.InstAt s.heap a ⟨.ref C, od, .fields vs, sl⟩ C ob := by
      cases od with
      | none => exact ⟨none, e1, rfl, rfl, trivial⟩
      | some dx =>
        obtain ⟨fs, r⟩ := h4 dx rfl
        have g : ∃ o, s.heap.get? dx = some o := by
          rcases r with r | ⟨o, r⟩
          · exact objOk_get (I.hok dx _ r)
          · exact objOk_get (I.hok dx _ r)
        obtain ⟨o, g⟩ := g
        exact ⟨some o, e1, rfl, rfl, g⟩
    obtain ⟨ob, J⟩ := at_
    exact PySem.W.kia_one (PySem.W.kitx_exc (od := ob) (by rw [hcd]; rfl) h2.hg h2.hk h2.hs h2.ha h2.hn h2.ht h2.hm) I.kIn J h3 (fun z => nomatch z) fun tk => ⟨.bl b, H, I.tok tk, rfl, q⟩
variable {R : RC} {W : WX}
theorem op1_isx {sub k} (h : IsX R sub k) : Op1 R (gIsx sub k) (fun x H Q => rIsx R.K [x, .ref (R.cl k)] H Q) := fun F H x v p Q le r e q => by
  unfold gIsx at e
  split at e
  · cases e
    have r : v = _ := r
    subst r
    exact .inl ⟨.non, .ref (R.cl k), .type "NoneType", .ref (R.cl k), false, rfl, .own _, tyX_of (n := "NoneType") le (R := R) (x := .non) rfl rfl, h.hn, q _ F H (.refl le) rfl⟩
  · rename_i c fs
    cases e
    obtain ⟨a, d, kvs, rfl, h1, h2, h3⟩ := r
    refine .inr ⟨a, R.cl c, R.cl k, _, rfl, ⟨d, le.rd _ _ h1, fun dx e => ?_⟩, h.hc c, h.hx c, q _ F H (.refl le) rfl⟩
    subst e
    exact ⟨kvs, le.rd _ _ h2⟩
  · cases e
theorem je_isx {sub : Nat → Nat → Bool} {k : Nat} {b x : Str} {p p2 pos : Pos} {a : Expr} {ma : M Opd} (hI : IsX R sub k) (hg : Gl X x) (hm : X.mg x = none) (hv : bootBuiltins x = some (.builtin "isinstance")) (ha : PE X a (LE R W ma)) (hg2 : Gl X b) (hm2 : X.mg b = some (.ref (R.cl k)))
    (hs : starEach [a, .Name b p2] X.env = (false, eval a X.env) :: starEach [.Name b p2] X.env := by rfl) (hs2 : starEach [.Name b p2] X.env = (false, eval (.Name b p2) X.env) :: starEach [] X.env := by rfl)
    (hn : x ≠ "__name__" := by decide) (hdb : (x == ("__debug__" : Str)) = false := by decide) (hdb2 : (b == ("__debug__" : Str)) = false := by decide) (hK : X.K = R.K := by rfl) : PE X (.Call (.Name x p) [a, .Name b p2] [] pos) (LE R W (dOp1 (gIsx sub k) ma)) :=
  wkE (pe_callB call_isx hg hm hv (pa_cons ha (pa_cons (pe_glob (v := .ref (R.cl k)) hg2 hm2 rfl hdb2) pa_nil hs2) hs) hn hdb hs (by rw [hs2]; rfl)) fun σ H Q h => by
    rw [hK]
    exact LE_op1 (op1_isx hI) h
end
end Dv
set_option Elab.async false
set_option linter.all false
set_option maxRecDepth 100000
set_option maxHeartbeats 4000000
/-! Dv16: _law_caught(lambda: ..), _law_begun. -/
namespace Dv
open PySem PySem.Spec PyProof.Rows L2 LamX
variable [TabC]
section
variable {X : Cx} {R : RC} {W : WX}
theorem je_caught {x : Str} {sta : Stmt} {fd : FuncData} {g c P CS : Addr} {k : Nat} {params : Arguments} {body : Expr} {scope : Scope} {m : M Opd} {p lpos pos : Pos} (hg : Gl X x) (hm : X.mg x = some (.ref g)) (FU : L2.Fun X.K x x sta g fd) (hb : Binds X.K fd ["work"] []) (Sg : FnScope nCau ["work"] (defScope sta)) (hva : Vis (defScope sta) "work")
    (hG : ∀ cdv, GivesTo X nCau x (defScope sta) g cdv (defBody sta) "work" (X.env.qual ++ "<lambda>") (TCau R.K CS)) (hX : ∀ c, PySem.W.exmOne R.K (.ref (R.cl c)) (.ref CS) = some true)
    (TB : TabB X.base X.mg c P) (hcode : X.env.code = .ref c) (hmT : (P, X.env.qual ++ "<lambda>") ∈ TabC.T) (hu : ∀ p ∈ TabC.T, p.1 = P → p.2 = X.env.qual ++ "<lambda>") (hr : Room (k + 2) X.A) (L : LamS X.env.scope scope) (hdef : defaultsOf params X.env = ([], []))
    (hbind : ∀ (q : Str) (cl : List (Str × Addr)) (pm cv ctv : Value), bindArgs (PySem.W.kla_fn "<lambda>" q params body scope cl pm cv ctv) ⟨[], []⟩ = pure [])
    (hbody : ∀ (A : Around) (outer : List Env) (s : Shared) (H : Hp) (E : XK) (f c' : Addr), Room k (A.deeper (lamEnv X scope s.heap.objs.size f c')) → PE (lamCx X A outer s H E scope f c') body (LE R (fun cls d _ H => E cls d H) m))
    (hdb : (x == ("__debug__" : Str)) = false := by decide) : PE X (.Call (.Name x p) [.Lambda params body scope lpos] [] pos) (LE R W (dCaught m)) := by
  obtain ⟨⟨oc, od, kV, doc, pm, an, cdv, ct, osl, rfl, lk, hcd⟩, hk⟩ := FU
  exact wkE (pe_lamcall (t := fun E => LE R (fun cls d _ H => E cls d H) m) hg hm hk lk hcd hb Sg rfl hva (hG cdv) TB hcode hmT hu hr L hdef hbind hbody hdb) fun σ H Q h => LE_caught hX h
end
end Dv
set_option Elab.async false
set_option linter.all false
set_option maxRecDepth 100000
set_option maxHeartbeats 4000000
/-! Dv17: the source of draws is made. -/
namespace Dv
open PySem PySem.Spec PyProof.Rows L2
variable [TabC]
theorem tabs_grow {F H : Hp} {a : Addr} {u : HO} (n : F a = none) (h : TabsC F H) : TabsC (upd F a u) H := ⟨h.1, fun c q z => by
  have y := h.2 c q z
  rw [upd_ne (ne_of_none y n)]; exact y⟩


/-- the display of a source of draws: slot i holds the large cells -/
def tDrw (R : RC) (i : Nat) (mC : M Opd) : TE := fun σ H Q => ∃ F env ow ns cs env2, SR R F H σ env ow ∧ gt env i = some (.o (.lst (ns.map .int))) ∧ mC env = .ok (.n (.lst (cs.map .int))) env2 ∧ gt env2 i = some (.o (.lst (ns.map .int))) ∧
  ∀ v F' H' S, Step F H (un ow) F' H' S → Le F' H' → (∀ a, S a → F' a = none ∧ ¬ Ov H' a) → RepO R F' H' (.drw ⟨ns, cs, 0, 0⟩) v S → Q v H'
section
variable {X : Cx} {R : RC} {W : WX} {x : Str} {i j1 j2 j3 j4 j5 j6 : Nat} {p1 p2 p3 p4 p5 p6 p7 pos : Pos} {e : Expr} {mC : M Opd}
theorem pe_drw (hx : PE X (.Name x p1) (tVar i)) (he : PE X e (LE R W mC)) :
    PE X (.Dict [some (.Constant (.str "large") j1 p2), some (.Constant (.str "cells") j2 p3), some (.Constant (.str "rest") j3 p4), some (.Constant (.str "turn") j4 p5)] [.Name x p1, e, .Constant (.int 0) j5 p6, .Constant (.int 0) j6 p7] pos) (tDrw R i mC) :=
  wkE (pe_disp (pps_cons pe_str hx (pps_cons pe_str he (pps_cons pe_str pe_int (pps_cons pe_str pe_int pps_nil)))) rfl rfl (by simp) (by show 4 ≤ 15; decide)) fun σ H Q ⟨F, env, ow, ns, cs, env2, s, g1, em, g2, q⟩ p hp => by
    obtain ⟨v1, e1, l, vs1, rfl, s1, h1, r1⟩ := s.sl i _ g1
    obtain ⟨xt, fp⟩ := Ext.newO (u := .dK []) s.le hp
    obtain ⟨j1, j2, _⟩ := xt.fin (p := .d .non) (w := .non) s rfl
    refine ⟨.ref l, e1, F, env, ow, j2, ?_⟩
    rw [em]
    intro F2 H2 ow2 st2 s2 v2 ok
    obtain ⟨S2, ⟨c, vc, rfl, sc, hc, rc⟩, k2, k3⟩ := ok
    obtain ⟨v1', e1', l', vs2, e3, s2l, h2l, r2l⟩ := s2.sl i _ g2
    rw [e1] at e1'
    cases e1'
    cases e3
    have np : ¬ un ow p := fun ⟨i, z⟩ => (s.nof i p z).2 (.of hp)
    have hp2 : H2 p = some (.dK []) := st2.keep p _ upd_same fp np nt_dK
    have lp : l ≠ p := ne_of h2l hp2 (by intro z; cases z)
    have cp : c ≠ p := ne_of hc hp2 (by intro z; cases z)
    have lc : l ≠ c := fun z => k3 i l s2l (z ▸ sc)
    have ev1 := r2l.ints
    have ev2 := rc.ints
    subst ev1 ev2
    refine ⟨hp2, [(.inr "large", .ref l), (.inr "cells", .ref c), (.inr "rest", .int 0), (.inr "turn", .int 0)], rfl, by show 4 ≤ 15; decide, ?_⟩
    have ek : mergeK [] [((.inr "large" : Key), V.ref l), (.inr "cells", .ref c), (.inr "rest", .int 0), (.inr "turn", .int 0)] = drwKeys ⟨ns, cs, 0, 0⟩ l c := rfl
    rw [ek]
    have f2p : F2 p = none := by
      cases z : F2 p with
      | none => rfl
      | some u =>
        rcases st2.fresh p (by rw [z]; exact fun z => nomatch z) with y | y | y
        · exact absurd fp y
        · exact (y.no upd_same nt_dK).elim
        · exact absurd y np
    have ov : ∀ {a u}, a ≠ p → Ov (upd H p u) a → Ov H a := fun {a u} n z => z.eq (upd_ne n).symm
    refine q (.ref p) (upd F2 c (.lst (cs.map V.int))) _ (fun a => a = p ∨ a = l) ⟨fun a u z => ?_, fun a u z n w nt => ?_, fun a z => ?_, fun a z => ?_, fun a z => ?_, fun z => tabs_grow (k2 c sc).1 (tabs_put hp2 nt_dK (fun _ _ z => by cases z) (fun _ _ z => by cases z) (st2.tb (j1.tb z))), fun z => (st2.nt z).put nt_lst, fun a o w z => by
      have ne : a ≠ p := ne_of_none z hp
      rw [upd_ne ne]
      exact st2.fz a o w (by rw [upd_ne ne]; exact z)⟩ (fun a u z => ?_) (fun a z => ?_) ⟨p, l, c, rfl, .inl rfl, .inr rfl, upd_same, by rw [upd_ne lp]; exact h2l, upd_same⟩
    · have y := st2.ex a u z
      rw [upd_ne fun e => by rw [e, (k2 c sc).1] at y; cases y]
      exact y
    · have ne : a ≠ p := ne_of_none z hp
      rw [upd_ne ne]
      exact st2.keep a u (by rw [upd_ne ne]; exact z) n w nt
    · by_cases e : a = c
      · subst e
        rcases (k2 a sc).2.2 with y | y
        · exact .inr (.inr y)
        · exact .inr (.inl (ov cp y))
      · rw [upd_ne e] at z
        rcases st2.fresh a z with y | y | y
        · exact .inl y
        · by_cases ep : a = p
          · exact .inr (.inl (.of (ep ▸ hp)))
          · exact .inr (.inl (ov ep y))
        · exact .inr (.inr y)
    · rcases z with rfl | rfl
      · exact .inr (.of hp)
      · rcases st2.owf a ⟨i, s2l⟩ with y | y
        · exact .inl y
        · exact .inr (ov lp y)
    · by_cases ep : a = p
      · exact .of (ep ▸ hp)
      · exact ov ep (st2.dom a (z.eq (upd_ne ep).symm))
    · by_cases e : a = c
      · subst e
        rw [upd_same] at z
        cases z
        exact .inl (by rw [upd_ne cp]; exact hc)
      · rw [upd_ne e] at z
        have ne : a ≠ p := ne_of_none z f2p
        rw [upd_ne ne]
        exact s2.le a u z
    · rcases z with rfl | rfl
      · exact ⟨by rw [upd_ne cp.symm]; exact f2p, fun z => z.no upd_same nt_dK⟩
      · exact ⟨by rw [upd_ne lc]; exact (s2.nof i a s2l).1, fun z => z.no (by rw [upd_ne lp]; exact h2l) nt_lst⟩
end

/-! ### comprehensions that change nothing beside their own names -/
theorem loopL_eq {f : D → Option (List (Nat × D))} {c : M Bool} {m : M Opd} {vs : List Nat} {e : En} {g : D → List D} : ∀ (xs acc : List D), (∀ x ∈ xs, (g x).length ≤ 1 ∧ ∀ acc, acc.length < SZ → turnL f c m vs x acc e = .ok (acc ++ g x) e) → acc.length + xs.length ≤ SZ → loopL f c m vs xs acc e = .ok (acc ++ xs.flatMap g) e
  | [], acc, _, _ => by
    show Res.ok acc e = _
    rw [List.flatMap_nil, List.append_nil]
  | x :: xs, acc, h, hl => by
    rw [List.length_cons] at hl
    obtain ⟨h1, h2⟩ := h x List.mem_cons_self
    have q := h2 acc (by omega)
    show bnd (turnL f c m vs x acc) (fun acc' => loopL f c m vs xs acc') e = _
    unfold bnd
    rw [q]
    show loopL f c m vs xs (acc ++ g x) e = _
    rw [loopL_eq xs (acc ++ g x) (fun y hy => h y (List.mem_cons_of_mem _ hy)) (by rw [List.length_append]; omega), List.flatMap_cons, List.append_assoc]

/-! ### the def -/
def spBg (R : RC) (mk : List Int → Option Drw) : Sp := fun vs H Q _ => ∃ F v ns s, vs = [v] ∧ Le F H ∧ (TabsC F H ∧ nT F) ∧ Rep R F (.rol (ns.map .int)) v ∧ mk ns = some s ∧
  ∀ v' F' H' S, Step F H (fun _ => False) F' H' S → Le F' H' → (∀ a, S a → F' a = none ∧ ¬ Ov H' a) → RepO R F' H' (.drw s) v' S → Q v' H'
def intsO : Option Sl → Option (List Int)
  | some (.o (.lst xs)) => toInts xs
  | _ => none
/-- what the two statements make of a script -/
def mkBg (ex i : Nat) (m1 : M Fl) (mC : M Opd) (ns : List Int) : Option Drw := match m1 (dsl [.rol (ns.map .int)] ex) with
  | .ok .nx e => match intsO (gt e i), mC e with
    | some ls, .ok (.n (.lst cs)) e2 => match toInts cs, intsO (gt e2 i) with
      | some cs, some ls2 => if ls = ls2 then some ⟨ls, cs, 0, 0⟩ else none
      | _, _ => none
    | _, _ => none
  | _ => none
theorem toInts_inv : ∀ {xs : List D} {ns : List Int}, toInts xs = some ns → xs = ns.map .int
  | [], ns, h => by cases h; rfl
  | .int i :: r, ns, h => by
    obtain ⟨ms, e, rfl⟩ := Option.map_eq_some_iff.mp (show (toInts r).map (fun ns => i :: ns) = some ns from h)
    rw [toInts_inv e]; rfl
  | .non :: _, _, h => by cases h
  | .bl _ :: _, _, h => by cases h
  | .str _ :: _, _, h => by cases h
  | .tup _ :: _, _, h => by cases h
  | .lst _ :: _, _, h => by cases h
  | .rol _ :: _, _, h => by cases h
  | .dic _ :: _, _, h => by cases h
  | .exc _ _ :: _, _, h => by cases h
  | .clo _ :: _, _, h => by cases h
theorem intsO_inv {o : Option Sl} {ns : List Int} (h : intsO o = some ns) : o = some (.o (.lst (ns.map .int))) := by
  unfold intsO at h
  split at h
  · rw [toInts_inv h]
  · cases h
section
variable {P : Program} {w : World} {K : PySem.W.Frag} {mg : Str → Option Value} {base : Heap} {R : RC}
theorem fn_begun {x qual : Str} {sta : Stmt} {f : Addr} {fd : FuncData} {N ps : List Str} {k ex i : Nat} {m1 : M Fl} {mC : M Opd} (F : L2.Fun K x qual sta f fd) (S : FnScope N ps (defScope sta)) (hn : ps.length = 1) (hx : 1 + ex = N.length)
    (hbody : ∀ (cdv : Value) (A : Around) (outer : List Env) (s : Shared) (H : Hp) (E : XK), Room k (A.deeper (envOfC qual (defScope sta) s.heap.objs.size f cdv)) →
      PSs (cxOf (L2.CX P w) P w K mg base N qual (defScope sta) f cdv A outer s H E) (defBody sta) (fun Dn σ H => LS R ⟨fun cls d _ H => E cls d H, none⟩ m1 { Dn with nx := fun σ' H' => tRet (tDrw R i mC) Dn σ' H' } σ H)) : FnOk P w K mg base (L2.CX P w) (k + 1) f fd ps (spBg R (mkBg ex i m1 mC)) := by
  refine F.okX S (fun vs H Q E ⟨_, _, _, _, e, _⟩ => by rw [e]; exact hn.symm) fun cdv A outer s H vs Q E hr hsp => ⟨_, hbody cdv A outer s H E hr, ?_⟩
  obtain ⟨F0, v, ns, d, rfl, le, tb, r, em, post⟩ := hsp
  have sr := sr_start (N := N) (n := ex) (S := fun _ => False) (o := none) (ds := [.rol (ns.map .int)]) le tb (fun _ z => z.elim) (show inRep R F0 H (fun _ => False) [v] [v] none from rfl) ⟨v, [], rfl, r, rfl⟩ (by show 0 + 1 + ex = _; omega)
  refine ⟨F0, _, _, sr, (fun v e => by cases e), ?_⟩
  have st0 : ∀ {F' H' ow'}, Step F0 H (un fun i a => i = 0 ∧ (fun (_ : Addr) => False) a ∧ (none : Option O).isSome = true) F' H' ow' → Step F0 H (fun _ => False) F' H' ow' := fun {F' H' ow'} st =>
    ⟨st.ex, fun a u q n z nt => st.keep a u q n (fun ⟨_, _, z', _⟩ => z') nt, fun a z => (st.fresh a z).imp id fun z => z.imp id (fun ⟨_, _, z, _⟩ => z), fun a z => (st.owf a z).imp (fun ⟨_, _, z, _⟩ => z) id, st.dom, st.tb, st.nt, st.fz⟩
  unfold mkBg at em
  show PostS R _ F0 H _ _ (m1 (dsl [.rol (ns.map .int)] ex))
  split at em
  · rename_i e he
    rw [he]
    split at em
    · rename_i ls cs0 e2 h1 h2
      split at em
      · rename_i cs ls2 h3 h4
        split at em
        · rename_i hl
          cases em
          subst hl
          have q3 := toInts_inv h3
          subst q3
          intro σ' F' H' ow' st sr' _
          exact ⟨F', e, ow', ls, cs, e2, sr', intsO_inv h1, h2, intsO_inv h4, fun v' F2 H2 S2 st2 le2 hS2 ro => post v' F2 H2 S2 (st0 (st.trans sr.nofU st2)) le2 hS2 ro⟩
        · cases em
      · cases em
    · cases em
  · cases em
end
/-- _law_begun(script) -/
def dBegun (mk : List Int → Option Drw) (m : M Opd) : M Opd := bnd (dArgs [m]) fun xs => match xs with
  | [.rol ds] => bnd (opt ((toInts ds).bind mk)) fun s => pur (.n (.drw s))
  | _ => nop
section
variable {X : Cx} {R : RC} {W : WX} {pos p : Pos} {x : Str} {k : Nat} {f : Addr} {fd : FuncData} {ps : List Str} {e : Expr} {mk : List Int → Option Drw} {m : M Opd}
theorem je_begun (F : FnOk X.prog X.w X.K X.mg X.base (L2.CX X.prog X.w) k f fd ps (spBg R mk)) (tk : Takes X W) (hr : Room k X.A) (hg : Gl X x) (hm : X.mg x = some (.ref f)) (hk : PySem.W.keepIn X.K (.ref f) = true) (hb : Binds X.K fd ps [])
    (ha : PE X e (LE R W m)) (hdb : (x == ("__debug__" : Str)) = false := by decide) (he : starEach [e] X.env = (false, eval e X.env) :: starEach [] X.env := by rfl) (hpl : (backTo pos (starEach [] X.env)).any (·.1) = false := by rfl) :
    PE X (.Call (.Name x p) [e] [] pos) (LE R W (dBegun mk m)) :=
  wkE (pe_callS F hr hg hm hk hb (fun σ => passAt tk σ) (ja_cons ha ja_nil he) hdb he hpl) fun σ H Q ⟨F0, env, ow, s, h⟩ => by
    refine LA_mono (LA_bnd s h) fun vs H1 ⟨xs, env1, F1, ow1, s1, st1, r1, h⟩ => ?_
    match xs, r1, h with
    | [.rol ds], ⟨v, r, e1, h1, h2⟩, h =>
      have h2 : r = [] := h2
      subst h2
      subst e1
      have h : Post R W σ F0 H ow (KE R σ H ow Q) (bnd (opt ((toInts ds).bind mk)) (fun s => pur (Opd.n (O.drw s))) env1) := h
      obtain ⟨d, e2, hq⟩ := h.ofOpt
      obtain ⟨ns, e3, e4⟩ := Option.bind_eq_some_iff.mp e2
      have e5 := toInts_inv e3
      subst e5
      refine ⟨F1, v, ns, d, rfl, s1.le, ⟨s1.tb, s1.nt⟩, h1, e4, fun v' F' H' S st le hS ro => ?_⟩
      obtain ⟨k1, k2⟩ := s1.call0 st le
      refine hq F' H' ow1 (st1.trans s.nofU k2) k1 v' ⟨S, ro, fun a z => ⟨(hS a z).1, (hS a z).2, ?_⟩, fun i a y z => ?_⟩
      · rcases st.owf a z with y | y
        · exact y.elim
        · exact st1.frs a (.inr y)
      · rcases st.owf a z with w | w
        · exact w.elim
        · exact (s1.nof i a y).2 w
    | [], _, h => exact h.elim
    | .non :: _, _, h => exact h.elim
    | .bl _ :: _, _, h => exact h.elim
    | .int _ :: _, _, h => exact h.elim
    | .str _ :: _, _, h => exact h.elim
    | .tup _ :: _, _, h => exact h.elim
    | .lst _ :: _, _, h => exact h.elim
    | .dic _ :: _, _, h => exact h.elim
    | .exc _ _ :: _, _, h => exact h.elim
    | .clo _ :: _, _, h => exact h.elim
    | .rol _ :: _ :: _, _, h => exact h.elim
end
end Dv
set_option Elab.async false
set_option linter.all false
set_option maxRecDepth 100000
set_option maxHeartbeats 4000000
/-! Dv18: what the printed walks lean on. -/
namespace Dv
open PySem PySem.Spec PyProof.Rows L2
variable [TabC]
abbrev exNew : String := "ValueError.__new__"
abbrev exBm : List Value := [.type "ValueError", .type "Exception", .type "BaseException", .type "object"]
theorem exBase : ExcBaseFacts "ValueError" exNew "ValueError.__init__" exBm := PySem.F.excBase_ValueError
section
variable {P : Program} {w : World} {K : PySem.W.Frag} {mg : Str → Option Value} {base : Heap} {R : RC} {N : List Str} {qual : Str} {sc : Scope} {f : Addr} {cdv : Value} {A : Around} {outer : List Env} {s : Shared} {H : Hp} {E : XK}
theorem tkF : Takes (cxOf (L2.CX P w) P w K mg base N qual sc f cdv A outer s H E) (fun cls d _ H => E cls d H) := takes_of rfl rfl rfl rfl
theorem pwF : PassesOwn (model (cxOf (L2.CX P w) P w K mg base N qual sc f cdv A outer s H E).prog (cxOf (L2.CX P w) P w K mg base N qual sc f cdv A outer s H E).w) (cxOf (L2.CX P w) P w K mg base N qual sc f cdv A outer s H E).A (cxOf (L2.CX P w) P w K mg base N qual sc f cdv A outer s H E).env (cxOf (L2.CX P w) P w K mg base N qual sc f cdv A outer s H E).xe := passes_of rfl
theorem fn_no {CX : CXT} {k n : Nat} {fd : FuncData} {ps : List Str} (hn : ps.length = n) : FnOk P w K mg base CX k f fd ps (spD R n fun _ _ => .no) :=
  ⟨fun vs H Q E h => (spD_len h).trans hn.symm, fun A outer s H args us vs Q E hr e0 hb r ⟨_, _, _, _, _, _, _, _, _, _, _, z⟩ => z.elim⟩
end
end Dv
set_option Elab.async false
set_option linter.all false
set_option maxRecDepth 100000
set_option maxHeartbeats 4000000
/-! Dv19: calls by keywords. -/
namespace Dv
open PySem PySem.Spec PyProof.Rows L2
variable [TabC]

def prm {α : Type} (is : List Nat) (l : List α) : List α := is.filterMap fun i => l[i]?
theorem vals_get : ∀ {vs : List V} {us : List Value} (i : Nat), Vals vs us → (∃ v u, vs[i]? = some v ∧ us[i]? = some u ∧ RelV v u) ∨ (vs[i]? = none ∧ us[i]? = none)
  | _, _, _, .nil => .inr ⟨rfl, rfl⟩
  | _, _, 0, .cons r _ => .inl ⟨_, _, rfl, rfl, r⟩
  | _, _, i + 1, .cons _ t => vals_get i t
theorem prm_vals {vs : List V} {us : List Value} (h : Vals vs us) : ∀ is : List Nat, Vals (prm is vs) (prm is us)
  | [] => .nil
  | i :: is => by
    unfold prm
    rcases vals_get i h with ⟨v, u, e1, e2, r⟩ | ⟨e1, e2⟩
    · rw [List.filterMap_cons_some e1, List.filterMap_cons_some e2]
      exact .cons r (prm_vals h is)
    · rw [List.filterMap_cons_none e1, List.filterMap_cons_none e2]
      exact prm_vals h is
theorem prm_reps {R : RC} {F : Hp} {xs : List D} {vs : List V} (h : Reps R F xs vs) : ∀ is : List Nat, Reps R F (prm is xs) (prm is vs)
  | [] => rfl
  | i :: is => by
    unfold prm
    cases e : xs[i]? with
    | some x =>
      obtain ⟨v, e2, r⟩ := h.get e
      rw [List.filterMap_cons_some e, List.filterMap_cons_some e2]
      exact ⟨v, _, rfl, r, prm_reps h is⟩
    | none =>
      have e2 : vs[i]? = none := by
        rw [List.getElem?_eq_none_iff] at e ⊢
        rw [h.length]; exact e
      rw [List.filterMap_cons_none e, List.filterMap_cons_none e2]
      exact prm_reps h is
/-- the values that the keywords bring, put in the parameters' order -/
def gKw {α : Type} (is : List Nat) (n : Nat) (us ws : List α) : List α := if us.length = 0 ∧ ws.length = n then prm is ws else []
theorem kb_of {K : PySem.W.Frag} {x qual : Str} {sta : Stmt} {f : Addr} {fd : FuncData} {ps ks : List Str} {is : List Nat} {n : Nat} (F : L2.Fun K x qual sta f fd) (hp : 0 < ps.length)
    (h : ∀ (kV doc pm : Value) (an : Option Addr) (cdv ct : Value) (ws : List Value), ws.length = n → bindArgs (PySem.W.fnOf x qual (defArgs sta) (defBody sta) (defScope sta) .none kV doc pm an cdv ct) ⟨[], ks.zip ws⟩ = pure (ps.zip (prm is ws))) : KBinds K fd ps ks (gKw is n) (gKw is n) := by
  obtain ⟨oc, od, kV, doc, pm, an, cdv, ct, osl, rfl, lk, hcd⟩ := F.ex
  refine ⟨fun s us ws _ hl => ?_, fun {vs us zs ws} r1 r2 => ?_⟩
  · by_cases c : us.length = 0 ∧ ws.length = n
    · have e : us = [] := List.length_eq_zero_iff.mp c.1
      subst e
      rw [show gKw is n [] ws = prm is ws from if_pos c]
      exact .of_eq (h kV doc pm an cdv ct ws c.2)
    · rw [show gKw is n us ws = [] from if_neg c] at hl
      exact absurd hl (by simp only [List.length_nil]; omega)
  · unfold gKw
    rw [r1.length, r2.length]
    split
    · exact prm_vals r2 is
    · exact .nil
section
variable {X : Cx} {R : RC} {W : WX} {pos p : Pos} {x : Str} {k n nk : Nat} {f : Addr} {fd : FuncData} {ps ks : List Str} {fn : Fn} {E : XK} {kws : List Keyword} {ms : List (M Opd)} {e : Expr} {m : M Opd} {nm : Option Str} {kpos : Pos} {is : List Nat} {t : TA} {sp : Sp}
theorem wkK {t t' : TA} (h : PK X kws t) (i : ∀ σ H Q, t' σ H Q → t σ H Q) : PK X kws t' := ⟨fun pos pins s σ H Q I q => h.run pos pins s σ H Q I (i σ H Q q)⟩
theorem jk_nil : PK X [] (LA R W (dArgs [])) := wkK pk_nil fun σ H Q ⟨F, env, ow, s, h⟩ => h F H ow (.refl _ _ _) s [] rfl
theorem jk_cons (ha : PE X e (LE R W m)) (hr : PK X kws (LA R W (dArgs ms))) : PK X (⟨nm, e, kpos⟩ :: kws) (LA R W (dArgs (m :: ms))) :=
  wkK (pk_cons ha hr) fun σ H Q ⟨F, env, ow, s, h⟩ => by
    refine LE_mono (LE_bnd s h) fun v H1 ⟨p, env1, F1, ow1, s1, st1, ok1, h⟩ => ?_
    obtain ⟨x, env2, ex, h⟩ := h.ofPub
    obtain ⟨F2, ow2, s2, st2, r2⟩ := pub_step s.nofU s1 st1 ok1 ex
    refine LA_mono (LA_bnd s2 (h.step s.nofU st2)) fun vs H3 ⟨xs, env3, F3, ow3, s3, st3, r3, h⟩ => ?_
    exact h F3 H3 ow3 st3 s3 (v :: vs) ⟨v, vs, rfl, r2.mono st3.le, r3⟩
theorem pe_kw0 {g : List Value → List Value → List Value} {gV : List V → List V → List V} (F : FnOk X.prog X.w X.K X.mg X.base (L2.CX X.prog X.w) k f fd ps sp) (hr : Room k X.A) (hg : Gl X x) (hm : X.mg x = some (.ref f)) (hk : PySem.W.keepIn X.K (.ref f) = true) (hb : KBinds X.K fd ps ks g gV) (hx : Passes (L2.CX X.prog X.w) X E)
    (hkw : PK X kws t) (hall : (backToKw pos (keywordEach kws X.env)).all (·.1.isSome) = true) (hks : (backToKw pos (keywordEach kws X.env)).filterMap (·.1) = ks)
    (hpl : ((backTo pos (starEach [] X.env)).any (·.1) || (backToKw pos (keywordEach kws X.env)).any (·.1.isNone)) = false) (hdb : (x == ("__debug__" : Str)) = false) :
    PE X (.Call (.Name x p) [] kws pos) (fun σ H Q => t σ H fun zs H1 => sp (gV [] zs) H1 Q E) := by
  constructor
  intro pins s σ H Q J h
  refine wpAny_Call_Name_kw (ld_glob J hg hm ?_ hdb)
  refine PySem.W.callWith_KW0 (h₀ := X.base) J.ok.mod.kin hk hall (thn (hkw.run pos pins s σ H _ J h) ?_) hpl
  rintro ws s2 ⟨zs, H2, J2, rz, q2⟩
  refine ⟨J2.kIn, ?_⟩
  rw [hks]
  exact run_fnk F hr hb hx J2 .nil rz q2
def dCallK (n : Nat) (is : List Nat) (nk : Nat) (fn : Fn) (ms : List (M Opd)) : M Opd := bnd (dArgs ms) fun xs => if xs.length = nk then callF n fn (prm is xs) else nop
/-- f(k = e, ..) -/
theorem je_callK (F : FnOk X.prog X.w X.K X.mg X.base (L2.CX X.prog X.w) k f fd ps (spD R n fn)) (tk : Takes X W) (hr : Room k X.A) (hg : Gl X x) (hm : X.mg x = some (.ref f)) (hk : PySem.W.keepIn X.K (.ref f) = true) (hb : KBinds X.K fd ps ks (gKw is nk) (gKw is nk))
    (ha : PK X kws (LA R W (dArgs ms))) (hE : ∀ σ, WE W σ = E := by intro _; rfl) (hall : (backToKw pos (keywordEach kws X.env)).all (·.1.isSome) = true := by rfl) (hks : (backToKw pos (keywordEach kws X.env)).filterMap (·.1) = ks := by rfl)
    (hpl : ((backTo pos (starEach [] X.env)).any (·.1) || (backToKw pos (keywordEach kws X.env)).any (·.1.isNone)) = false := by rfl) (hdb : (x == ("__debug__" : Str)) = false := by decide) :
    PE X (.Call (.Name x p) [] kws pos) (LE R W (dCallK n is nk fn ms)) :=
  wkE (pe_kw0 (E := E) F hr hg hm hk hb (passes_call tk fun cls d σ H h => by rw [← hE σ] at h; exact h) ha hall hks hpl hdb) fun σ H Q ⟨F0, env, ow, s, h⟩ => by
    refine LA_mono (LA_bnd s h) fun vs H1 ⟨xs, env1, F1, ow1, s1, st1, r1, h⟩ => ?_
    split at h
    · rename_i hl
      have e1 : gKw is nk [] vs = prm is vs := if_pos ⟨rfl, r1.length.trans hl⟩
      rw [e1]
      unfold callF at h
      split at h
      · rename_i hn
        refine ⟨F1, fun _ => False, none, prm is xs, prm is vs, s1.le, ⟨s1.tb, s1.nt⟩, fun _ z => z.elim, rfl, prm_reps r1 is, by rw [← hn]; exact Nat.zero_add _, ?_⟩
        cases e : fn none (prm is xs) with
        | ok d o =>
          rw [e] at h
          intro v F' H' S' st le _ _ rv
          obtain ⟨k1, k2⟩ := s1.call0 st le
          exact h F' H' ow1 (st1.trans s.nofU k2) k1 v rv
        | ex c fs o =>
          rw [e] at h
          intro d kvs F' H' S' st le _ _ xd rx
          obtain ⟨k1, k2⟩ := s1.call0 st le
          rw [← hE σ]
          exact h d kvs F' H' ow1 (st1.trans s.nofU k2) k1 xd rx
        | no => rw [e] at h; exact h.elim
      · exact h.elim
    · exact h.elim
end
end Dv
set_option Elab.async false
set_option linter.all false
set_option maxRecDepth 100000
set_option maxHeartbeats 4000000
/-! Dv20: sorted of a list or a tuple of ints. -/
namespace Dv
open PySem PyProof.Rows Srt SrtO SrtR

section
variable {prog : Program} {w : World} {A : Around} {E : Value → Shared → Prop} {s : Shared}
/-- the items of a list or a tuple, taken together -/
theorem collect_sq {l : Addr} {T : String} {o : Obj} {n : Nat} {vs : List Value} {Q : List Value → Shared → Prop} (hT : T = "list" ∨ T = "tuple") (ho : s.heap.get? l = some o) (hc : o.cls = .type T) (hd : o.data = .seq vs.toArray n) (hz : vs.length ≤ sizeLine)
    (h : Q vs { s with heap := (s.heap.push (seqObj "list" #[] 0)).update s.heap.objs.size (Obj.mapSeq (· ++ vs.toArray)) }) : wpAny (model prog w) A (collect (.ref l)) Q E s := by
  unfold collect
  apply wpAny_bind
  apply wpAny_runValue
  apply codeAny_builtin entry_proto_collect'
  show wpAny (model prog w) _ (do again (.builtin "list.__iadd__" ⟨[← newList [], .ref l], []⟩)) _ _ s
  apply wpAny_bind
  apply wpAny_newList
  · apply wpAny_pure
    refine ⟨Code.quiet_builtin _ (by decide +kernel), codeAny_builtin entry_list_iadd' ?_⟩
    have hp : (s.heap.push (seqObj "list" #[] 0)).get? s.heap.objs.size = some (seqObj "list" #[] 0) := Heap.get?_push_size _ rfl
    show wpAny (model prog w) _ (Builtin.List.listExtendWith (.ref s.heap.objs.size) (.ref l) (.ref s.heap.objs.size)) _ _ { s with heap := s.heap.push (seqObj "list" #[] 0) }
    unfold Builtin.List.listExtendWith
    have g : (s.heap.push (seqObj "list" #[] 0)).get? l = some o := Heap.get?_push_of_some _ ho
    refine wpAny_bind (wpAny_typeOf (T := T) ⟨o, g, hc⟩ ?_)
    have ht : ((Value.type T == Value.type "list") || (Value.type T == Value.type "tuple")) = true := by
      rcases hT with rfl | rfl
      · rfl
      · rfl
    rw [if_pos (by rw [Bool.or_assoc, ht, Bool.or_true])]
    refine wpAny_bind (listItems_at g hd ?_)
    refine wpAny_bind (listItems_at (xs := #[]) (n := 0) hp rfl ?_)
    rw [if_neg (show ¬ ((!(#[] : Array Value).isEmpty && Builtin.List.listTooLong ((#[] : Array Value).size + vs.toArray.size)) = true) by simp)]
    refine wpAny_bind (listUpdate_at (xs := #[]) (n := 0) hp rfl ?_ (Nat.zero_le _) ?_)
    · apply wpAny_pure
      show wpAny (model prog w) A (do
          let ob ← load s.heap.objs.size
          match ob.data with
          | .seq ys _ => pure ys.toList
          | _ => unsupported "internal:collect") Q E { s with heap := (s.heap.push (seqObj "list" #[] 0)).update s.heap.objs.size (Obj.mapSeq (· ++ vs.toArray)) }
      refine wpAny_bind (wpAny_load (get?_update_seq hp _) ?_)
      show wpAny (model prog w) A (pure ((#[] : Array Value) ++ vs.toArray).toList) Q E _
      have e : ((#[] : Array Value) ++ vs.toArray).toList = vs := by simp
      rw [e]
      exact wpAny_pure h
    · show (#[] ++ vs.toArray).size ≤ sizeLine + 1
      rw [Array.size_append, List.size_toArray]
      show 0 + vs.length ≤ _
      omega
  · exact Nat.zero_le _
theorem sorted_sq {l : Addr} {T : String} {o : Obj} {n : Nat} {vs : List Value} {b : Bool} {kw : List (Str × Value)} {ltv : Value → Value → Bool} {Q : Value → Shared → Prop} (hk : ∀ a, Builtin.«list.sort» ⟨[.ref a], kw⟩ = Builtin.«list.sort» ⟨[.ref a], [(Str.ofString "reverse", .bool b)]⟩)
    (h1 : argsOk "sorted" ⟨[.ref l], kw⟩) (h2 : ∀ a, argsOk "list.sort" ⟨[a], kw⟩) (O : Swo ltv) (hT : T = "list" ∨ T = "tuple") (ho : s.heap.get? l = some o) (hc : o.cls = .type T) (hd : o.data = .seq vs.toArray n) (hz : vs.length ≤ sizeLine)
    (hS : 2 ≤ vs.length → ∀ (h₁ : Heap) (a : Addr), SortableO prog w A.in1.in1 { s with heap := h₁ } a vs ltv)
    (h : ∀ out : List Value, Srtd ltv out → Stb ltv out (if b = true then vs.reverse else vs) → Q (.ref (s.heap.objs.size + 1)) { s with heap := sortedAll s.heap vs (if b = true then out.toArray.reverse else out.toArray) }) :
    wpAny (model prog w) A (call (.builtin "sorted") [.ref l] kw) Q E s := by
  refine call_function_entry_kw kind_sorted plain_sorted entry_sorted h1 ?_
  unfold Builtin.«sorted»
  apply wpAny_bind (m := checkCount "sorted" 1 1 _)
  apply wpAny_pure
  apply wpAny_bind
  apply collect_sq hT ho hc hd hz
  apply wpAny_bind
  refine wpAny_newList ?_ hz
  have ez : ((s.heap.push (seqObj "list" #[] 0)).update s.heap.objs.size (Obj.mapSeq (· ++ vs.toArray))).objs.size = s.heap.objs.size + 1 := by
    rw [Heap.size_update]
    exact size_push' _ _
  have oL : (((s.heap.push (seqObj "list" #[] 0)).update s.heap.objs.size (Obj.mapSeq (· ++ vs.toArray))).push (seqObj "list" vs.toArray 0)).get? (s.heap.objs.size + 1) = some (seqObj "list" vs.toArray 0) := by
    rw [← ez]
    exact Heap.get?_push_size _ rfl
  show wpAny (model prog w) _ _ _ _ { s with heap := ((s.heap.push (seqObj "list" #[] 0)).update s.heap.objs.size (Obj.mapSeq (· ++ vs.toArray))).push (seqObj "list" vs.toArray 0) }
  rw [ez]
  apply wpAny_bind
  apply wpAny_holding
  refine wpAny_call_entry_kw slot_list_sort ⟨_, oL, rfl⟩ entry_list_sort ?_ (h2 _)
  rw [hk]
  refine list_sort_ordR O oL hz (fun y => hS y _ _) fun out k1 k2 => ⟨_, rfl, ?_⟩
  exact wpAny_pure ⟨_, rfl, h out k1 k2⟩
theorem key_plain (a : Addr) : Builtin.«list.sort» ⟨[.ref a], []⟩ = Builtin.«list.sort» ⟨[.ref a], [(Str.ofString "reverse", .bool false)]⟩ := by
  rw [list_sort_rev]
  first | rfl | kernel_rfl
end
/-! ### the sorted list -/
def insI (r : Int → Int → Bool) (x : Int) : List Int → List Int
  | [] => [x]
  | y :: ys => if r x y = true then x :: y :: ys else y :: insI r x ys
def isort (r : Int → Int → Bool) : List Int → List Int
  | [] => []
  | x :: xs => insI r x (isort r xs)
/-- sorted(ns, reverse=b) -/
def sortB (b : Bool) (ns : List Int) : List Int := isort (fun x y => if b then decide (y ≤ x) else decide (x ≤ y)) ns
theorem insI_perm (r : Int → Int → Bool) (x : Int) : ∀ ys : List Int, (insI r x ys).Perm (x :: ys)
  | [] => .refl _
  | y :: ys => by
    unfold insI
    split
    · exact .refl _
    · exact ((insI_perm r x ys).cons y).trans (.swap x y ys)
theorem isort_perm (r : Int → Int → Bool) : ∀ ns : List Int, (isort r ns).Perm ns
  | [] => .refl _
  | x :: xs => (insI_perm r x (isort r xs)).trans ((isort_perm r xs).cons x)
theorem insI_ord {r : Int → Int → Bool} (tot : ∀ x y, r x y = true ∨ r y x = true) (tr : ∀ x y z, r x y = true → r y z = true → r x z = true) (x : Int) : ∀ ys : List Int, ys.Pairwise (fun a b => r a b = true) → (insI r x ys).Pairwise (fun a b => r a b = true)
  | [], _ => List.pairwise_singleton _ _
  | y :: ys, h => by
    obtain ⟨h1, h2⟩ := List.pairwise_cons.mp h
    unfold insI
    split
    · rename_i e
      exact List.pairwise_cons.mpr ⟨fun z hz => (List.mem_cons.mp hz).elim (fun q => q ▸ e) fun q => tr x y z e (h1 z q), h⟩
    · rename_i e
      refine List.pairwise_cons.mpr ⟨fun z hz => ?_, insI_ord tot tr x ys h2⟩
      rcases List.mem_cons.mp ((insI_perm r x ys).mem_iff.mp hz) with q | q
      · rw [q]; exact (tot x y).resolve_left e
      · exact h1 z q
theorem isort_ord {r : Int → Int → Bool} (tot : ∀ x y, r x y = true ∨ r y x = true) (tr : ∀ x y z, r x y = true → r y z = true → r x z = true) : ∀ ns : List Int, (isort r ns).Pairwise (fun a b => r a b = true)
  | [] => .nil
  | x :: xs => insI_ord tot tr x _ (isort_ord tot tr xs)
theorem ord_uniq {r : Int → Int → Bool} (an : ∀ x y, r x y = true → r y x = true → x = y) : ∀ {xs ys : List Int}, xs.Perm ys → xs.Pairwise (fun a b => r a b = true) → ys.Pairwise (fun a b => r a b = true) → xs = ys
  | [], ys, p, _, _ => p.nil_eq
  | x :: xs, [], p, _, _ => p.eq_nil
  | x :: xs, y :: ys, p, h1, h2 => by
    obtain ⟨a1, a2⟩ := List.pairwise_cons.mp h1
    obtain ⟨b1, b2⟩ := List.pairwise_cons.mp h2
    have e : x = y := by
      rcases List.mem_cons.mp (p.mem_iff.mp List.mem_cons_self) with q | q
      · exact q
      · rcases List.mem_cons.mp (p.mem_iff.mpr (List.mem_cons_self (a := y) (l := ys))) with w | w
        · exact w.symm
        · exact an x y (a1 y w) (b1 x q)
    subst e
    rw [ord_uniq an p.cons_inv a2 b2]
theorem sortB_uniq {b : Bool} {ns ns' : List Int} (p : ns'.Perm ns) (h : L2.OrdB b ns') : ns' = sortB b ns := by
  have h' : ns'.Pairwise (fun x y => (if b then decide (y ≤ x) else decide (x ≤ y)) = true) := by
    cases b with
    | true => exact (show ns'.Pairwise (· ≥ ·) from h).imp fun {x y} q => decide_eq_true q
    | false => exact (show ns'.Pairwise (· ≤ ·) from h).imp fun {x y} q => decide_eq_true q
  refine ord_uniq (r := fun x y => if b then decide (y ≤ x) else decide (x ≤ y)) (fun x y q w => ?_) (p.trans (isort_perm _ ns).symm) h' (isort_ord (fun x y => ?_) (fun x y z q w => ?_) ns)
  · cases b with
    | true => exact Int.le_antisymm (of_decide_eq_true w) (of_decide_eq_true q)
    | false => exact Int.le_antisymm (of_decide_eq_true q) (of_decide_eq_true w)
  · cases b with
    | true => exact (Int.le_total y x).imp decide_eq_true decide_eq_true
    | false => exact (Int.le_total x y).imp decide_eq_true decide_eq_true
  · cases b with
    | true => exact decide_eq_true (Int.le_trans (of_decide_eq_true w) (of_decide_eq_true q))
    | false => exact decide_eq_true (Int.le_trans (of_decide_eq_true q) (of_decide_eq_true w))
end Dv
namespace Dv
open PySem PySem.Spec PyProof.Rows L2
variable [TabC]
/-! ### the rules -/
def rSrt (K : PySem.W.Frag) (b : Bool) : V → Hp → VK → Prop := fun v H Q => ∃ (a : Addr) (ns : List Int), v = .ref a ∧ (SqL K H a (ns.map V.int) ∨ SqT K H a (ns.map V.int)) ∧ ∀ p, H p = none → Q (.ref p) (upd H p (.lst ((sortB b ns).map V.int)))
section
variable {X : Cx} {R : RC} {W : WX}
theorem run_srt {b : Bool} {kw : List (Str × Value)} {pins : List (Addr × Obj)} {s : Shared} {σ : L2.St} {H : Hp} {a : Addr} {Q : VK} (I : Inv X pins σ H s) (h : rSrt X.K b (.ref a) H Q)
    (hk : ∀ a, Builtin.«list.sort» ⟨[.ref a], kw⟩ = Builtin.«list.sort» ⟨[.ref a], [(Str.ofString "reverse", .bool b)]⟩) (h1 : argsOk "sorted" ⟨[.ref a], kw⟩) (h2 : ∀ a, argsOk "list.sort" ⟨[a], kw⟩) : wpAny (model X.prog X.w) X.A (call (.builtin "sorted") [.ref a] kw) (EP X pins σ Q) X.xe s := by
  obtain ⟨_, ns, e, hs, q⟩ := h
  cases e
  have src : ∃ (T : String) (o : Obj) (n : Nat) (its : List Value), (T = "list" ∨ T = "tuple") ∧ s.heap.get? a = some o ∧ o.cls = .type T ∧ o.data = .seq its.toArray n ∧ Vals (ns.map V.int) its ∧ (ns.map V.int).length ≤ sizeLine := by
    rcases hs with hs | hs
    · obtain ⟨its, rv, hl, hz⟩ := I.list hs
      obtain ⟨o, g, c, n, d⟩ := hl.isList
      exact ⟨"list", o, n, its, .inl rfl, g, c, d, rv, hz⟩
    · obtain ⟨its, rv, hl, hz⟩ := I.tuple hs
      obtain ⟨o, g, c, n, d⟩ := (show s.heap.IsTuple a its.toArray from hl)
      exact ⟨"tuple", o, n, its, .inr rfl, g, c, d, rv, hz⟩
  obtain ⟨T, o, n, its, hT, g, c, d, rv, hz⟩ := src
  have hi := rv.ints
  refine sorted_sq hk h1 h2 SrtO.swo_int hT g c d (by rw [← rv.length]; exact hz) (fun h2 h₁ a' => SrtO.ints_sortable hi h2) fun out k1 k2 => ?_
  obtain ⟨ns', m1, m2, m3⟩ := SrtR.ints_outR hi k1 k2
  obtain ⟨ep, at_⟩ := PyProof.Rows.sortedAll_at s.heap its (if b = true then out.toArray.reverse else out.toArray)
  have en : ns' = sortB b ns := sortB_uniq m2 m3
  have hl : (ns'.map V.int).length ≤ sizeLine := by
    rw [List.length_map] at hz ⊢
    rw [m2.length_eq]; exact hz
  have ea : (if b = true then out.toArray.reverse else out.toArray).toList.toArray = (if b = true then out.toArray.reverse else out.toArray) := Array.toArray_toList
  refine ⟨.ref _, upd H (s.heap.objs.size + 1) (.lst (ns'.map V.int)), I.laid (t' := s.toks) (fun _ _ => PyProof.Rows.sortedAll_old) (Nat.le_succ _) ⟨hl, _, ep, vals_of_ints m1, by rw [ea]; exact at_⟩, rfl, ?_⟩
  rw [en]
  exact q _ (I.hok.fresh (Nat.le_succ _))
theorem cr_srt : CallR X (.builtin "sorted") (fun vs H Q => ∃ v, vs = [v] ∧ rSrt X.K false v H Q) := by
  intro pins s σ H vs us Q I r ⟨v, e, h⟩
  subst e
  obtain ⟨u, rfl, r1⟩ := vals1 r
  obtain ⟨a, ns, rfl, k⟩ := id h
  cases r1
  exact run_srt I h key_plain (PyProof.Rows.args_sorted1 _) (fun _ => PyProof.Rows.args_list_sort _)
theorem cr_srtR {b : Bool} : CallRK X (.builtin "sorted") [Str.ofString "reverse"] (fun vs zs H Q => ∃ v, vs = [v] ∧ zs = [.bl b] ∧ rSrt X.K b v H Q) := by
  intro pins s σ H vs zs us ws Q I r rz ⟨v, e, e2, h⟩
  subst e e2
  obtain ⟨u, rfl, r1⟩ := vals1 r
  obtain ⟨w1, rfl, r2⟩ := vals1 rz
  obtain rfl : w1 = Value.bool b := r2
  obtain ⟨a, ns, rfl, k⟩ := id h
  cases r1
  exact run_srt I h (fun _ => rfl) (PyProof.Rows.args_sorted_rev _ _) (fun _ => PyProof.Rows.args_list_sort_rev _ _)
def gSort (b : Bool) : D → Option Opd := fun x => ((itemsS x).bind toInts).map fun ns => .n (.lst ((sortB b ns).map .int))
theorem op1_sort {b : Bool} : Op1 R (gSort b) (rSrt R.K b) := fun F H x v p Q le r e q => by
  obtain ⟨ns, e1, rfl⟩ := Option.map_eq_some_iff.mp e
  obtain ⟨xs, e2, e3⟩ := Option.bind_eq_some_iff.mp e1
  have e4 := toInts_inv e3
  subst e4
  have fin : ∀ p, H p = none → Q (.ref p) (upd H p (.lst ((sortB b ns).map V.int))) := fun p hp => by
    obtain ⟨k1, k2⟩ := new_lst (R := R) le hp (Reps.of_ints (sortB b ns))
    exact q _ _ _ k1 k2
  cases x <;> cases e2
  · obtain ⟨a, vs, rfl, h1, h2⟩ := r
    have h3 := h2.ints
    subst h3
    exact ⟨a, ns, rfl, .inr (le.sqT h1), fin⟩
  · obtain ⟨a, vs, rfl, h1, h2⟩ := r
    have h3 := h2.ints
    subst h3
    exact ⟨a, ns, rfl, .inl (.of h1), fin⟩
  · obtain ⟨a, vs, rfl, h1, h2⟩ := r
    have h3 := h2.ints
    subst h3
    exact ⟨a, ns, rfl, .inl (le.sqL h1), fin⟩
end
end Dv
set_option Elab.async false
set_option linter.all false
set_option maxRecDepth 100000
set_option maxHeartbeats 4000000
/-! Dv21: sorted, in, not in. -/
namespace Dv
open PySem PySem.Spec PyProof.Rows L2
variable [TabC]
section
variable {X : Cx} {R : RC} {W : WX} {x : Str} {p pos p2 kp : Pos} {a b : Expr} {ma mb : M Opd} {j : Nat}
theorem je_sort (hg : Gl X x) (hm : X.mg x = none) (hv : bootBuiltins x = some (.builtin "sorted")) (ha : PE X a (LE R W ma)) (hs : starEach [a] X.env = (false, eval a X.env) :: starEach [] X.env := by rfl)
    (hn : x ≠ "__name__" := by decide) (hdb : (x == ("__debug__" : Str)) = false := by decide) (hK : X.K = R.K := by rfl) : PE X (.Call (.Name x p) [a] [] pos) (LE R W (dOp1 (gSort false) ma)) :=
  wkE (pe_callB cr_srt hg hm hv (pa_cons ha pa_nil hs) hn hdb hs) fun _ _ _ h => LE_mono (LE_op1 op1_sort h) fun v H1 q => ⟨v, rfl, hK ▸ q⟩
theorem je_sortR {b : Bool} (hg : Gl X x) (hm : X.mg x = none) (hv : bootBuiltins x = some (.builtin "sorted")) (ha : PE X a (LE R W ma)) (hs : starEach [a] X.env = (false, eval a X.env) :: starEach [] X.env := by rfl)
    (he : backTo pos (starEach [a] X.env) = (false, eval a X.env) :: backTo pos (starEach [] X.env) := by rfl) (hpl : (backTo pos (starEach [a] X.env)).any (·.1) = false := by rfl) (hn : x ≠ "__name__" := by decide) (hdb : (x == ("__debug__" : Str)) = false := by decide) (hK : X.K = R.K := by rfl) :
    PE X (.Call (.Name x p) [a] [⟨some "reverse", .Constant (.bool b) j p2, kp⟩] pos) (LE R W (dOp1 (gSort b) ma)) :=
  wkE (pe_callBK (cr_srtR (b := b)) hg hm hv (pa_cons ha pa_nil hs) (pk_cons pe_bl pk_nil) hn hdb he hpl) fun _ _ _ h => LE_mono (LE_op1 op1_sort h) fun v H1 q => ⟨v, rfl, rfl, hK ▸ q⟩
/-- plain values -/
def flatD : D → Option V
  | .non => some .non
  | .bl b => some (.bl b)
  | .int i => some (.int i)
  | .str x => some (.str x)
  | _ => none
def flatDs : List D → Option (List V)
  | [] => some []
  | x :: r => match flatD x, flatDs r with
    | some v, some vs => some (v :: vs)
    | _, _ => none
theorem flatD_ok {F : Hp} {d : D} {v u : V} (h : Rep R F d v) (e : flatD d = some u) : v = u ∧ flatV u = true := by
  cases d <;> cases e
  · exact ⟨h, rfl⟩
  · exact ⟨h, rfl⟩
  · exact ⟨h, rfl⟩
  · exact ⟨h, rfl⟩
theorem flatDs_ok {F : Hp} : ∀ {ds : List D} {vs us : List V}, Reps R F ds vs → flatDs ds = some us → vs = us ∧ us.all flatV = true
  | [], vs, us, h, e => by
    cases e
    exact ⟨h, rfl⟩
  | x :: r, vs, us, h, e => by
    obtain ⟨v, vr, rfl, h1, h2⟩ := h
    unfold flatDs at e
    split at e
    · rename_i w ws e1 e2
      cases e
      obtain ⟨q1, q2⟩ := flatD_ok h1 e1
      obtain ⟨q3, q4⟩ := flatDs_ok h2 e2
      exact ⟨by rw [q1, q3], by rw [List.all_cons, q2, q4]; rfl⟩
    · cases e
def gIn (neg : Bool) : D → D → Option Opd := fun x y => match flatD x, (itemsS y).bind flatDs with
  | some v, some vs => some (.d (.bl (if neg then !inV v vs else inV v vs)))
  | _, _ => none
theorem op2_in {neg : Bool} : Op2 R (gIn neg) (rIn R.K neg) := fun F H x y v u p Q le h1 h2 e q => by
  unfold gIn at e
  split at e
  · rename_i v' vs e1 e2
    cases e
    obtain ⟨ys, e3, e4⟩ := Option.bind_eq_some_iff.mp e2
    obtain ⟨q1, q2⟩ := flatD_ok (h1.rep le) e1
    subst q1
    cases y <;> cases e3
    · obtain ⟨a, us, rfl, k1, k2⟩ := h2
      obtain ⟨q3, q4⟩ := flatDs_ok k2 e4
      subst q3
      exact ⟨a, us, rfl, .inr (le.sqT k1), q2, q4, q _ F H (.refl le) rfl⟩
    · obtain ⟨a, us, rfl, k1, k2⟩ := h2
      obtain ⟨q3, q4⟩ := flatDs_ok k2 e4
      subst q3
      exact ⟨a, us, rfl, .inl (.of k1), q2, q4, q _ F H (.refl le) rfl⟩
    · obtain ⟨a, us, rfl, k1, k2⟩ := h2
      obtain ⟨q3, q4⟩ := flatDs_ok k2 e4
      subst q3
      exact ⟨a, us, rfl, .inl (le.sqL k1), q2, q4, q _ F H (.refl le) rfl⟩
  · cases e
theorem je_in (ha : PE X a (LE R W ma)) (hb : PE X b (LE R W mb)) (hm : behindInMarks .In b = false := by rfl) (hK : X.K = R.K := by rfl) : PE X (.Compare a [.In] [b] pos) (LE R W (dOp2 (gIn false) ma mb)) := je_cmp op_in_seq (hK ▸ op2_in) ha hb hm
theorem je_notin (ha : PE X a (LE R W ma)) (hb : PE X b (LE R W mb)) (hm : behindInMarks .NotIn b = false := by rfl) (hK : X.K = R.K := by rfl) : PE X (.Compare a [.NotIn] [b] pos) (LE R W (dOp2 (gIn true) ma mb)) := je_cmp op_notIn_seq (hK ▸ op2_in) ha hb hm
theorem jt_in (ha : PE X a (LE R W ma)) (hb : PE X b (LE R W mb)) (hm : behindInMarks .In b = false := by rfl) (hK : X.K = R.K := by rfl) : PT X (.Compare a [.In] [b] pos) (LT R W (dBl (dOp2 (gIn false) ma mb))) := jt_cmp op_in_seq (hK ▸ op2_in) ha hb hm
theorem jt_notin (ha : PE X a (LE R W ma)) (hb : PE X b (LE R W mb)) (hm : behindInMarks .NotIn b = false := by rfl) (hK : X.K = R.K := by rfl) : PT X (.Compare a [.NotIn] [b] pos) (LT R W (dBl (dOp2 (gIn true) ma mb))) := jt_cmp op_notIn_seq (hK ▸ op2_in) ha hb hm
end
end Dv
set_option Elab.async false
set_option linter.all false
set_option maxRecDepth 100000
set_option maxHeartbeats 4000000
/-! Dv22: bodies of lambdas; displays with a star. -/
namespace Dv
open PySem PySem.Spec PyProof.Rows L2 LamX
variable [TabC]
theorem tkL {X : Cx} {A : Around} {outer : List Env} {s : Shared} {H : Hp} {E : XK} {scope : Scope} {f c' : Addr} : L2.Takes (lamCx X A outer s H E scope f c') (fun cls d _ H => E cls d H) := L2.takes_of rfl rfl rfl rfl
section
variable {X : Cx} {R : RC} {W : WX} {pos p : Pos} {e : Expr} {es : List Expr} {m : M Opd} {r : M (List D)}
def dTupA (r : M (List D)) : M Opd := bnd r fun xs => opt (if xs.length ≤ SZ then some (.d (.tup xs)) else none)
def dConsA (m : M Opd) (r : M (List D)) : M (List D) := bnd m fun p => bnd (pub p) fun x => bnd r fun xs => pur (x :: xs)
def dStarA (m : M Opd) (r : M (List D)) : M (List D) := bnd m fun p => bnd (pub p) fun x => bnd (opt (itemsS x)) fun ys => bnd r fun xs => pur (ys ++ xs)
def dNilA : M (List D) := pur []
theorem ja_nilA : PA X [] (LA R W dNilA) := wkA pa_nil fun σ H Q ⟨F, env, ow, s, h⟩ => h F H ow (.refl _ _ _) s [] rfl
theorem ja_consA (ha : PE X e (LE R W m)) (hr : PA X es (LA R W r)) (hs : starEach (e :: es) X.env = (false, eval e X.env) :: starEach es X.env := by rfl) : PA X (e :: es) (LA R W (dConsA m r)) :=
  wkA (pa_cons ha hr hs) fun σ H Q ⟨F, env, ow, s, h⟩ => by
    refine LE_mono (LE_bnd s h) fun v H1 ⟨p, env1, F1, ow1, s1, st1, ok1, h⟩ => ?_
    obtain ⟨x, env2, ex, h⟩ := h.ofPub
    obtain ⟨F2, ow2, s2, st2, r2⟩ := pub_step s.nofU s1 st1 ok1 ex
    refine LA_mono (LA_bnd s2 (h.step s.nofU st2)) fun vs H3 ⟨xs, env3, F3, ow3, s3, st3, r3, h⟩ => ?_
    exact h F3 H3 ow3 st3 s3 (v :: vs) ⟨v, vs, rfl, r2.mono st3.le, r3⟩
theorem je_tupA {x1} (h : PA X es (LA R W r)) : PE X (.Tuple es x1 pos) (LE R W (dTupA r)) :=
  wkE (pe_tup h) fun σ H Q ⟨F, env, ow, s, h⟩ => by
    refine LA_mono (LA_bnd s h) fun vs H1 ⟨xs, env1, F1, ow1, s1, st1, r1, h⟩ => ?_
    obtain ⟨p, ep, h⟩ := h.ofOpt'
    split at ep
    · rename_i c
      cases ep
      refine ⟨by rw [r1.length]; exact c, fun p hp => ?_⟩
      obtain ⟨k1, k2⟩ := new_tup (R := R) s1.le hp r1
      obtain ⟨j1, j2, j3⟩ := k1.fin s1 k2
      exact h _ _ ow1 (st1.trans s.nofU j1) j2 _ (j3.frs fun a z => st1.frs a z)
    · cases ep
theorem ja_star (he : PE X e (LE R W m)) (hr : PA X es (LA R W r)) (hs : starEach (.Starred e p :: es) X.env = (true, eval e X.env) :: starEach es X.env := by rfl) (hK : X.K = R.K := by rfl) : PA X (.Starred e p :: es) (LA R W (dStarA m r)) :=
  wkA (StX.pa_star he hr hs) fun σ H Q ⟨F, env, ow, s, h⟩ => by
    refine LE_mono (LE_bnd s h) fun v H1 ⟨p, env1, F1, ow1, s1, st1, ok1, h⟩ => ?_
    obtain ⟨x, env2, ex, h⟩ := h.ofPub
    obtain ⟨F2, ow2, s2, st2, r2⟩ := pub_step s.nofU s1 st1 ok1 ex
    obtain ⟨ys, ey, h⟩ := h.ofOpt
    have q2 := h
    obtain ⟨a, vs, e1, h1, h2⟩ : ∃ a vs, v = V.ref a ∧ (SqT R.K F2 a vs ∨ SqL R.K F2 a vs) ∧ Reps R F2 ys vs := by
      cases x <;> cases ey
      · obtain ⟨a, vs, e1, k1, k2⟩ := r2
        exact ⟨a, vs, e1, .inl k1, k2⟩
      · obtain ⟨a, vs, e1, k1, k2⟩ := r2
        exact ⟨a, vs, e1, .inr (.of k1), k2⟩
      · obtain ⟨a, vs, e1, k1, k2⟩ := r2
        exact ⟨a, vs, e1, .inr k1, k2⟩
    refine ⟨a, vs, e1, ?_, ?_⟩
    · rw [hK]
      exact h1.imp s2.le.sqT s2.le.sqL
    · refine LA_mono (LA_bnd s2 (q2.step s.nofU st2)) fun ws H3 ⟨xs, env3, F3, ow3, s3, st3, r3, h⟩ => ?_
      exact h F3 H3 ow3 st3 s3 (vs ++ ws) ((h2.mono st3.le).append r3)
end
end Dv
set_option Elab.async false
set_option linter.all false
set_option maxRecDepth 100000
set_option maxHeartbeats 4000000
/-! Dv23: list comprehensions with two clauses. -/
namespace Dv
open PySem PySem.Spec PyProof.Rows L2
variable [TabC]
section
variable {R : RC} {f : D → Option (List (Nat × D))} {c : M Bool} {m : M Opd} {vs : List Nat} {g : TG}
/-- a clause walked: the list at D grows -/
theorem loop_in {F0 H0 F1 H1 : Hp} {ow0 ow1 : Nat → Addr → Prop} {D : Addr} {J : It} {xs acc0 accF : List Dv.D} {vacc0 : List V} {env eF : En} {τ : L2.St} {Nx : Hp → Prop} (hD0 : H0 D = none) (l0 : ∀ a, un ow0 a → F0 a = none) (hg : GC R R.K g f)
    (wk : WalkD R J xs F1 H1) (s1 : SR R F1 H1 τ env ow1) (st1 : Step F0 H0 (un ow0) F1 H1 (un ow1)) (fD : F1 D = none) (oD : ¬ un ow1 D) (hD : H1 D = some (.lst vacc0)) (ra0 : Reps R F1 acc0 vacc0) (run0 : loopL f c m vs xs acc0 (wipeE env vs) = .ok accF eF)
    (fin : ∀ F' H' ow' vaccF, SR R F' H' (L2.wipe τ vs) eF ow' → Step F0 H0 (un ow0) F' H' (un ow') → ((∀ a u, F1 a = some u → F' a = some u) ∧ Fz H1 H') → F' D = none → ¬ un ow' D → H' D = some (.lst vaccF) → Reps R F' accF vaccF → Nx H') :
    ∃ W1 : Nat → Nat → Hp → Prop, (∃ m, W1 0 m H1) ∧ ∀ j k H, W1 j k H → (J.stop j H ∧ Nx H) ∨ (J.go j H ∧ ∃ Nx1 : Hp → Prop, (∀ H', Nx1 H' → ∃ k', k' < k ∧ W1 (j + 1) k' H') ∧ ∀ x H', J.yld j H x H' → g x (L2.wipe τ vs) H' fun σ3 H5 => L2.wipe σ3 vs = L2.wipe τ vs ∧
      LT R W0 c σ3 H5 fun b H6 => if b = true then LE R W0 m σ3 H6 fun y H7 => ∃ acc, H7 D = some (.lst acc) ∧ acc.length < sizeLine ∧ Nx1 (upd H7 D (.lst (acc ++ [y]))) else Nx1 H6) := by
  refine ⟨fun i n H' => n = xs.length - i ∧ i ≤ xs.length ∧ ∃ F' env' ow' acc vacc, SR R F' H' (L2.wipe τ vs) env' ow' ∧ Step F0 H0 (un ow0) F' H' (un ow') ∧ ((∀ a u, F1 a = some u → F' a = some u) ∧ Fz H1 H') ∧ F' D = none ∧ ¬ un ow' D ∧ H' D = some (.lst vacc) ∧ Reps R F' acc vacc ∧ loopL f c m vs (xs.drop i) acc env' = .ok accF eF,
    ⟨xs.length, by simp, Nat.zero_le _, F1, _, ow1, acc0, vacc0, s1.wipe vs, st1, ⟨fun _ _ z => z, fun _ _ _ z => z⟩, fD, oD, hD, ra0, run0⟩, fun i n H' hW => ?_⟩
  obtain ⟨rfl, hi, F', env', ow', acc, vacc, s', st', gr', fD', oD', hD', ra, run⟩ := hW
  obtain ⟨w1, w2⟩ := wk i F' H' s'.le gr'.1 gr'.2
  by_cases hlt : i < xs.length
  · right
    obtain ⟨go, yl⟩ := w1 _ (List.getElem?_eq_getElem hlt)
    rw [List.drop_eq_getElem_cons hlt] at run
    refine ⟨go, fun H2 => ∃ F2 env2 ow2 acc2 vacc2, SR R F2 H2 (L2.wipe τ vs) env2 ow2 ∧ Step F0 H0 (un ow0) F2 H2 (un ow2) ∧ ((∀ a u, F1 a = some u → F2 a = some u) ∧ Fz H1 H2) ∧ F2 D = none ∧ ¬ un ow2 D ∧ H2 D = some (.lst vacc2) ∧ Reps R F2 acc2 vacc2 ∧ loopL f c m vs (xs.drop (i + 1)) acc2 env2 = .ok accF eF,
      fun H2 hN => ⟨xs.length - (i + 1), by omega, rfl, hlt, hN⟩, fun v H2 hy => ?_⟩
    obtain ⟨F2, xt2, rv⟩ := yl v H2 hy
    obtain ⟨q1, q2, _⟩ := xt2.fin (p := .d _) s' rv
    obtain ⟨hD2, fD2, oD2⟩ := q1.off hD' fD' oD' nt_lst
    have st2 := st'.trans l0 q1
    have ra2 := ra.mono q1.le
    have gr2 : (∀ a u, F1 a = some u → F2 a = some u) ∧ Fz H1 H2 := ⟨fun a u z => q1.ex a u (gr'.1 a u z), fun a o u z => q1.fz a o u (gr'.2 a o u z)⟩
    unfold loopL bnd turnL at run
    cases ef : f xs[i] with
    | none => rw [ef] at run; cases run
    | some l =>
    rw [ef] at run
    by_cases hc : l.all (fun p => vs.contains p.1) = true
    case neg => simp only [hc] at run; cases run
    simp only [hc, if_true] at run
    obtain ⟨vl, k1, k2⟩ := hg F2 H2 v xs[i] l q2.le rv ef
    have wp : L2.wipe (Dv.setAll (L2.wipe τ vs) vl) vs = L2.wipe τ vs := wipe_setAll (k1.mem hc)
    refine k2 _ _ ⟨wp, ?_⟩
    obtain ⟨ow3, s3, kk3⟩ := q2.setAll k1
    have st3 : Step F0 H0 (un ow0) F2 H2 (un ow3) := st2.less fun a ⟨j, z⟩ => .inl ⟨j, kk3 j a z⟩
    have oD3 : ¬ un ow3 D := fun ⟨j, z⟩ => oD2 ⟨j, kk3 j D z⟩
    refine ⟨F2, _, ow3, s3, ?_⟩
    unfold bnd at run
    cases ec : nX c (setAllE env' l) with
    | no => simp only [ec] at run; cases run
    | ex c fs e' => simp only [ec] at run; cases run
    | ok b env4 =>
    simp only [ec] at run
    have pc : Post R W0 (Dv.setAll (L2.wipe τ vs) vl) F2 H2 ow3 (fun b env4 F4 H4 ow4 => nX c (setAllE env' l) = .ok b env4) (c (setAllE env' l)) := Post.nX (W := W0) (by rw [ec]; exact fun _ _ _ _ _ => rfl)
    refine pc.mono fun b' env4' F4 H4 ow4 st4 s4 eb => ?_
    rw [ec] at eb
    cases eb
    obtain ⟨hD4, fD4, oD4⟩ := st4.off hD2 fD2 oD3 nt_lst
    have ra4 := ra2.mono st4.le
    have st4' := st3.trans l0 st4
    cases b with
    | false =>
      unfold KB
      dsimp only
      rw [if_neg Bool.false_ne_true]
      exact ⟨F4, _, ow4, acc, vacc, s4.rewipe wp, st4', ⟨fun a u z => st4.ex a u (gr2.1 a u z), fun a o u z => st4.fz a o u (gr2.2 a o u z)⟩, fD4, oD4, hD4, ra4, run⟩
    | true =>
      unfold KB
      dsimp only
      rw [if_pos rfl]
      refine ⟨F4, _, ow4, s4, ?_⟩
      simp only [if_true] at run
      cases em : nX m env4 with
      | no => simp only [em] at run; cases run
      | ex c fs e' => simp only [em] at run; cases run
      | ok p env5 =>
      simp only [em] at run
      have pm : Post R W0 (Dv.setAll (L2.wipe τ vs) vl) F4 H4 ow4 (fun p env5 F5 H5 ow5 => nX m env4 = .ok p env5) (m env4) := Post.nX (W := W0) (by rw [em]; exact fun _ _ _ _ _ => rfl)
      refine pm.mono fun p' env5' F5 H5 ow5 st5 s5 ep y ok => ?_
      rw [em] at ep
      cases ep
      unfold pub at run
      cases eq : pubF env5 p with
      | none => simp only [eq] at run; cases run
      | some ye =>
      obtain ⟨y', env6⟩ := ye
      simp only [eq] at run
      obtain ⟨F6, ow6, s6, st6, r6⟩ := pub_step s4.nofU s5 st5 ok eq
      obtain ⟨hD6, fD6, oD6⟩ := st6.off hD4 fD4 oD4 nt_lst
      by_cases hl : acc.length < SZ
      case neg => simp only [hl, if_false] at run; cases run
      simp only [hl, if_true] at run
      have ra6 := ra4.mono st6.le
      have st6' := st4'.trans l0 st6
      exact ⟨vacc, hD6, by rw [ra4.length]; exact hl, F6, _, ow6, acc ++ [y'], vacc ++ [y], (s6.putOff hD6 fD6 oD6 nt_lst (fun _ _ => nc_lst)).rewipe wp, st6'.putOff hD0 hD6 nt_lst (fun _ _ => nc_lst), ⟨fun a u z => st6.ex a u (st4.ex a u (gr2.1 a u z)), fun a o u z => by
        have y := st6.fz a o u (st4.fz a o u (gr2.2 a o u z))
        rw [upd_ne (ne_of y hD6 (by intro k; cases k))]; exact y⟩, fD6, oD6, upd_same, ra6.append ⟨y, [], rfl, r6, rfl⟩, run⟩
  · left
    have ei : i = xs.length := by omega
    subst ei
    rw [List.drop_length] at run
    cases run
    exact ⟨w2 rfl, fin F' H' ow' vacc s' st' gr' fD' oD' hD' ra⟩
end
def turn2 (f : D → Option (List (Nat × D))) (c : M Bool) (it1 : M (List D)) (f1 : D → Option (List (Nat × D))) (c1 : M Bool) (m : M Opd) (vs vs1 : List Nat) (x : D) (acc : List D) : M (List D) := fun e => match f x with
  | none => .no
  | some l => if l.all (fun p => vs.contains p.1) = true then (bnd (nX c) fun b => if b = true then bnd (nX it1) fun ys => fun e2 => (match loopL f1 c1 m vs1 ys acc (wipeE e2 vs1) with
    | .ok acc' e3 => .ok acc' (wipeE e3 vs)
    | _ => .no) else fun e' => .ok acc (wipeE e' vs)) (setAllE e l) else .no
def loop2 (f : D → Option (List (Nat × D))) (c : M Bool) (it1 : M (List D)) (f1 : D → Option (List (Nat × D))) (c1 : M Bool) (m : M Opd) (vs vs1 : List Nat) : List D → List D → M (List D)
  | [], acc => pur acc
  | x :: xs, acc => bnd (turn2 f c it1 f1 c1 m vs vs1 x acc) fun acc' => loop2 f c it1 f1 c1 m vs vs1 xs acc'
def dLc2 (it : M (List D)) (f : D → Option (List (Nat × D))) (c : M Bool) (it1 : M (List D)) (f1 : D → Option (List (Nat × D))) (c1 : M Bool) (m : M Opd) (vs vs1 : List Nat) : M Opd := bnd it fun xs => fun e => if okW e vs = true then (match loop2 f c it1 f1 c1 m vs vs1 xs [] (wipeE e vs) with
  | .ok acc e' => .ok (.n (.lst acc)) (restE e vs e')
  | _ => .no) else .no
theorem wipe_wipe {σ : L2.St} {vs vs1 : List Nat} (hv : ∀ i ∈ vs1, i ∈ vs) : L2.wipe (L2.wipe σ vs1) vs = L2.wipe σ vs :=
  wipe_ext (by rw [wipe_length]) fun i h => wipe_out fun m => h (hv i m)
section
variable {R : RC} {W : WX} {it it1 : M (List D)} {f f1 : D → Option (List (Nat × D))} {c c1 : M Bool} {m : M Opd} {vs vs1 : List Nat} {g g1 : TG}
theorem LE_lc2 {σ H Q} (hg : GC R R.K g f) (hg1 : GC R R.K g1 f1) (hv : ∀ i ∈ vs1, i ∈ vs) (h : LE R W (dLc2 it f c it1 f1 c1 m vs vs1) σ H Q) : tLc2 (LI R W it) g (LT R W0 c) (LI R W0 it1) g1 (LT R W0 c1) (LE R W0 m) vs vs1 σ H Q := by
  obtain ⟨F, env, ow, s, h⟩ := h
  refine ⟨F, env, ow, s, h.fst.mono fun xs env1 F1 H1 ow1 st1 s1 k J wk D hD => ?_⟩
  have oDH : Ov H D := st1.dom D (.of hD)
  by_cases hw : okW env1 vs = true
  case neg => rw [if_neg hw] at k; exact k.elim
  rw [if_pos hw] at k
  cases e : loop2 f c it1 f1 c1 m vs vs1 xs [] (wipeE env1 vs) with
  | no => rw [e] at k; exact k.elim
  | ex c fs e' => rw [e] at k; exact k.elim
  | ok accF eF =>
  rw [e] at k
  have fD : F1 D = none := by
    cases q : F1 D with
    | none => rfl
    | some u => exact absurd hD (s1.le.ne (by rw [q]; exact fun z => nomatch z))
  have oD : ¬ un ow1 D := fun ⟨i, z⟩ => (s1.nof i D z).2 (.of hD)
  obtain ⟨xt, _⟩ := Ext.newO (u := .lst []) s1.le hD
  obtain ⟨j1, j2, _⟩ := xt.fin (p := .d .non) (w := .non) s1 rfl
  refine ⟨fun i n H' => n = xs.length - i ∧ i ≤ xs.length ∧ ∃ F' env' ow' acc vacc, SR R F' H' (L2.wipe σ vs) env' ow' ∧ Step F1 H1 (un ow1) F' H' (un ow') ∧ F' D = none ∧ ¬ un ow' D ∧ H' D = some (.lst vacc) ∧ Reps R F' acc vacc ∧ loop2 f c it1 f1 c1 m vs vs1 (xs.drop i) acc env' = .ok accF eF,
    ⟨xs.length, by simp, Nat.zero_le _, F1, _, ow1, [], [], j2.wipe vs, j1, fD, oD, upd_same, rfl, e⟩, fun i n H' hW => ?_⟩
  obtain ⟨rfl, hi, F', env', ow', acc, vacc, s', st', fD', oD', hD', ra, run⟩ := hW
  obtain ⟨w1, w2⟩ := wk i F' H' s'.le st'.ex st'.fz
  by_cases hlt : i < xs.length
  · right
    obtain ⟨go, yl⟩ := w1 _ (List.getElem?_eq_getElem hlt)
    rw [List.drop_eq_getElem_cons hlt] at run
    refine ⟨go, fun H2 => ∃ F2 env2 ow2 acc2 vacc2, SR R F2 H2 (L2.wipe σ vs) env2 ow2 ∧ Step F1 H1 (un ow1) F2 H2 (un ow2) ∧ F2 D = none ∧ ¬ un ow2 D ∧ H2 D = some (.lst vacc2) ∧ Reps R F2 acc2 vacc2 ∧ loop2 f c it1 f1 c1 m vs vs1 (xs.drop (i + 1)) acc2 env2 = .ok accF eF,
      fun H2 hN => ⟨xs.length - (i + 1), by omega, rfl, hlt, hN⟩, fun v H2 hy => ?_⟩
    obtain ⟨F2, xt2, rv⟩ := yl v H2 hy
    obtain ⟨q1, q2, _⟩ := xt2.fin (p := .d _) s' rv
    obtain ⟨hD2, fD2, oD2⟩ := q1.off hD' fD' oD' nt_lst
    have st2 := st'.trans s1.nofU q1
    have ra2 := ra.mono q1.le
    unfold loop2 bnd turn2 at run
    cases ef : f xs[i] with
    | none => rw [ef] at run; cases run
    | some l =>
    rw [ef] at run
    by_cases hc : l.all (fun p => vs.contains p.1) = true
    case neg => simp only [hc] at run; cases run
    simp only [hc, if_true] at run
    obtain ⟨vl, k1, k2⟩ := hg F2 H2 v xs[i] l q2.le rv ef
    have wp : L2.wipe (Dv.setAll (L2.wipe σ vs) vl) vs = L2.wipe σ vs := wipe_setAll (k1.mem hc)
    refine k2 _ _ ⟨wp, ?_⟩
    obtain ⟨ow3, s3, kk3⟩ := q2.setAll k1
    have st3 : Step F1 H1 (un ow1) F2 H2 (un ow3) := st2.less fun a ⟨j, z⟩ => .inl ⟨j, kk3 j a z⟩
    have oD3 : ¬ un ow3 D := fun ⟨j, z⟩ => oD2 ⟨j, kk3 j D z⟩
    refine ⟨F2, _, ow3, s3, ?_⟩
    unfold bnd at run
    cases ec : nX c (setAllE env' l) with
    | no => simp only [ec] at run; cases run
    | ex c fs e' => simp only [ec] at run; cases run
    | ok b env4 =>
    simp only [ec] at run
    have pc : Post R W0 (Dv.setAll (L2.wipe σ vs) vl) F2 H2 ow3 (fun b env4 F4 H4 ow4 => nX c (setAllE env' l) = .ok b env4) (c (setAllE env' l)) := Post.nX (W := W0) (by rw [ec]; exact fun _ _ _ _ _ => rfl)
    refine pc.mono fun b' env4' F4 H4 ow4 st4 s4 eb => ?_
    rw [ec] at eb
    cases eb
    obtain ⟨hD4, fD4, oD4⟩ := st4.off hD2 fD2 oD3 nt_lst
    have ra4 := ra2.mono st4.le
    have st4' := st3.trans s1.nofU st4
    cases b with
    | false =>
      unfold KB
      dsimp only
      rw [if_neg Bool.false_ne_true]
      exact ⟨F4, _, ow4, acc, vacc, s4.rewipe wp, st4', fD4, oD4, hD4, ra4, run⟩
    | true =>
      unfold KB
      dsimp only
      rw [if_pos rfl]
      refine ⟨F4, _, ow4, s4, ?_⟩
      simp only [if_true] at run
      cases em : nX it1 env4 with
      | no => simp only [em] at run; cases run
      | ex c fs e' => simp only [em] at run; cases run
      | ok ys env5 =>
      simp only [em] at run
      have pm : Post R W0 (Dv.setAll (L2.wipe σ vs) vl) F4 H4 ow4 (fun ys env5 F5 H5 ow5 => nX it1 env4 = .ok ys env5) (it1 env4) := Post.nX (W := W0) (by rw [em]; exact fun _ _ _ _ _ => rfl)
      refine pm.mono fun ys' env5' F5 H5 ow5 st5 s5 ep J1 wk1 => ?_
      rw [em] at ep
      cases ep
      obtain ⟨hD5, fD5, oD5⟩ := st5.off hD4 fD4 oD4 nt_lst
      have ra5 := ra4.mono st5.le
      have st5' := st4'.trans s1.nofU st5
      cases el : loopL f1 c1 m vs1 ys acc (wipeE env5 vs1) with
      | no => simp only [el] at run; cases run
      | ex c fs e' => simp only [el] at run; cases run
      | ok acc' env6 =>
      simp only [el] at run
      exact loop_in hD s1.nofU hg1 wk1 s5 st5' fD5 oD5 hD5 ra5 el fun F6 H6 ow6 vaccF s6 st6 gr6 fD6 oD6 hD6 ra6 =>
        ⟨F6, _, ow6, acc', vaccF, s6.rewipe ((wipe_wipe hv).trans wp), st6, fD6, oD6, hD6, ra6, run⟩
  · left
    have ei : i = xs.length := by omega
    subst ei
    rw [List.drop_length] at run
    cases run
    refine ⟨w2 rfl, ?_⟩
    have hlen : env1.length = eF.length := by
      rw [s1.len, s'.len, wipe_length]
    have sF : SR R F' H' σ (restE env1 vs eF) ow' := by
      refine ⟨s'.le, s'.nof, s'.dis, by rw [restE_len, ← hlen]; exact s1.len, fun j sl hj => ?_, s'.tb, s'.nt⟩
      rcases restE_get hlen hj with ⟨mj, ej⟩ | ⟨mj, ej⟩
      · obtain ⟨v, e1, kv⟩ := s1.sl j sl ej
        cases sl with
        | d y => exact ⟨v, e1, Rep.mono st'.le kv⟩
        | o o => exact absurd ej (okW_get hw mj)
      · obtain ⟨v, e1, kv⟩ := s'.sl j sl ej
        exact ⟨v, by rw [← wipe_out mj]; exact e1, kv⟩
    exact k F' H' ow' (st1.trans s.nofU st') sF (.ref D) ⟨fun a => a = D, ⟨D, vacc, rfl, rfl, hD', ra⟩, fun a z => by
      cases z
      exact ⟨fD', fun z => z.no hD' nt_lst, .inr oDH⟩, fun j a z q => by
      cases q
      exact oD' ⟨j, z⟩⟩
variable {X : Cx}
theorem je_lc2 {elt tg iter tg1 iter1 : Expr} {ifs ifs1 : List Expr} {scope : Scope} {own : List (Str × Nat)} {pos : Pos} (hc : X.calm = true) (hN : X.N.Nodup) (hi : PI X tg iter (LI R W it)) (ok : BlkOk X.N X.env.scope scope own) (hv : ∀ i ∈ vs1, i ∈ own.map (·.2)) (hgc : GC R X.K g f) (hgc1 : GC R X.K g1 f1)
    (hg : ∀ (s : Shared) (H : Hp) (C : Addr) (cl : List (Str × Addr)) (fp : List Addr), PG (X.blk s H scope (compEnvC scope cl C X.env) fp) tg g) (ht : ∀ (s : Shared) (H : Hp) (C : Addr) (cl : List (Str × Addr)) (fp : List Addr), PTs (X.blk s H scope (compEnvC scope cl C X.env) fp) ifs (LT R W0 c))
    (hi1 : ∀ (s : Shared) (H : Hp) (C : Addr) (cl : List (Str × Addr)) (fp : List Addr), PI (X.blk s H scope (compEnvC scope cl C X.env) fp) tg1 iter1 (LI R W0 it1))
    (hg1 : ∀ (s : Shared) (H : Hp) (C : Addr) (cl : List (Str × Addr)) (fp : List Addr), PG (X.blk s H scope (compEnvC scope cl C X.env) fp) tg1 g1) (ht1 : ∀ (s : Shared) (H : Hp) (C : Addr) (cl : List (Str × Addr)) (fp : List Addr), PTs (X.blk s H scope (compEnvC scope cl C X.env) fp) ifs1 (LT R W0 c1))
    (he : ∀ (s : Shared) (H : Hp) (C : Addr) (cl : List (Str × Addr)) (fp : List Addr), PE (X.blk s H scope (compEnvC scope cl C X.env) fp) elt (LE R W0 m)) (hs : ∀ x, foldedSetIterable iter X.env x = pure x := by intro _; rfl) (hs1 : ∀ env x, foldedSetIterable iter1 env x = pure x := by intro _ _; rfl) (hK : X.K = R.K := by rfl) :
    PE X (.ListComp elt [⟨tg, iter, ifs, 0⟩, ⟨tg1, iter1, ifs1, 0⟩] scope pos) (LE R W (dLc2 it f c it1 f1 c1 m (own.map (·.2)) vs1)) := wkE (pe_lc2 hc hN hi ok hv hg ht hi1 hg1 ht1 he hs hs1) fun _ _ _ h => LE_lc2 (hK ▸ hgc) (hK ▸ hgc1) hv h
end
end Dv
set_option Elab.async false
set_option linter.all false
set_option maxRecDepth 100000
set_option maxHeartbeats 4000000
/-! Dv24: slices; items of a list of the frame's own are set. -/
namespace Dv
open PySem PySem.Spec PyProof.Rows L2
variable [TabC]

/-! ### slices -/
def cutD (xs : List D) (lo hi : Option Int) : List D := (xs.drop (HT.sIx xs.length 0 lo)).take (HT.sIx xs.length xs.length hi - HT.sIx xs.length 0 lo)
theorem cut_reps {R : RC} {F : Hp} {xs : List D} {vs : List V} (h : Reps R F xs vs) (lo hi : Option Int) : Reps R F (cutD xs lo hi) (cutV vs lo hi) := by
  unfold cutD cutV
  rw [h.length]
  exact (h.drop _).take _
def gSl (lo hi : Option Int) : D → Option Opd
  | .tup xs => some (.d (.tup (cutD xs lo hi)))
  | .lst xs => some (.n (.lst (cutD xs lo hi)))
  | .rol xs => some (.n (.lst (cutD xs lo hi)))
  | _ => none
def intO : D → Option (Option Int)
  | .int i => some (some i)
  | _ => none
def dPart (m : M Opd) : M (Option Int) := bnd m fun p => bnd (rd p) fun x => opt (intO x)
def dNoPart : M (Option Int) := pur none
def dSl (m : M Opd) (ml mh : M (Option Int)) : M Opd := bnd m fun p => bnd (hold p) fun p => bnd ml fun lo => bnd mh fun hi => bnd (rd p) fun x => opt (gSl lo hi x)
section
variable {X : Cx} {R : RC} {W : WX} {pos p2 : Pos} {e : Expr} {lo hi : Option Expr} {m : M Opd} {ml mh : M (Option Int)}
def LO (R : RC) (W : WX) (m : M (Option Int)) : TO := fun σ H Q => ∃ F env ow, SR R F H σ env ow ∧ Post R W σ F H ow (fun o _ _ H' _ => Q o H') (m env)
theorem wkO {X eo t t'} (h : PO X eo t) (i : ∀ σ H Q, t' σ H Q → t σ H Q) : PO X eo t' := ⟨fun pins s σ H Q I q => h.run pins s σ H Q I (i σ H Q q)⟩
theorem jo_none : PO X none (LO R W dNoPart) := wkO po_none fun σ H Q ⟨F, env, ow, s, h⟩ => h F H ow (.refl _ _ _) s
theorem jo_some (h : PE X e (LE R W m)) : PO X (some e) (LO R W (dPart m)) := wkO (po_some h) fun σ H Q ⟨F, env, ow, s, h⟩ => by
  refine LE_mono (LE_bnd s h) fun v H1 ⟨p, env1, F1, ow1, s1, st1, ok1, h⟩ => ?_
  obtain ⟨x, ex, h⟩ := h.ofRd
  obtain ⟨o, eo, hq⟩ := h.ofOpt'
  cases x with
  | int n =>
    cases eo
    have ev : v = .int n := rd_ok s1 ok1 ex
    exact ⟨n, ev, hq F1 H1 ow1 st1 s1⟩
  | _ => cases eo
def rSlR (K : PySem.W.Frag) : V → Option Int → Option Int → Hp → VK → Prop := fun x lo hi H Q => rSlL K x lo hi H Q ∨ rSlA K x lo hi H Q
theorem cut_all {α : Type} {xs : List α} {lo hi : Option Int} (h : HT.sIx xs.length 0 lo = 0 ∧ HT.sIx xs.length xs.length hi = xs.length) : (xs.drop (HT.sIx xs.length 0 lo)).take (HT.sIx xs.length xs.length hi - HT.sIx xs.length 0 lo) = xs := by
  rw [h.1, h.2, List.drop_zero, Nat.sub_zero, List.take_length]
theorem sl_op {F H : Hp} {x : D} {v : V} {lo hi : Option Int} {p : Opd} {Q : VK} (le : Le F H) (r : RepT R F H x v) (e : gSl lo hi x = some p) (q : ∀ w F' H', Ext F H F' H' → OpdR R F' H' H w p → Q w H') : rSlR R.K v lo hi H Q := by
  cases x <;> cases e
  · rename_i xs
    obtain ⟨a, vs, rfl, h1, h2⟩ := r
    refine .inr ⟨a, vs, rfl, le.sqT h1, fun w => ?_, fun _ p hp => ?_⟩
    · have w' : HT.sIx xs.length 0 lo = 0 ∧ HT.sIx xs.length xs.length hi = xs.length := by rw [← h2.length]; exact w
      have e : cutD xs lo hi = xs := cut_all w'
      rw [e] at q
      exact q _ F H (.refl le) ⟨a, vs, rfl, h1, h2⟩
    · obtain ⟨k1, k2⟩ := new_tup (R := R) le hp (cut_reps h2 lo hi)
      exact q _ _ _ k1 k2
  · obtain ⟨a, vs, rfl, h1, h2⟩ := r
    refine .inl ⟨a, vs, rfl, .of h1, fun p hp => ?_⟩
    obtain ⟨k1, k2⟩ := new_lst (R := R) le hp (cut_reps h2 lo hi)
    exact q _ _ _ k1 k2
  · obtain ⟨a, vs, rfl, h1, h2⟩ := r
    refine .inl ⟨a, vs, rfl, le.sqL h1, fun p hp => ?_⟩
    obtain ⟨k1, k2⟩ := new_lst (R := R) le hp (cut_reps h2 lo hi)
    exact q _ _ _ k1 k2
theorem LO_bnd {α} {σ : L2.St} {F H : Hp} {env : En} {ow : Nat → Addr → Prop} {K : KT α} {f : Option Int → M α} (s : SR R F H σ env ow) (h : Post R W σ F H ow K (bnd ml f env)) : LO R W ml σ H fun o H1 => ∃ env1 F1 ow1, SR R F1 H1 σ env1 ow1 ∧ Step F H (un ow) F1 H1 (un ow1) ∧ Post R W σ F H ow K (f o env1) :=
  ⟨F, env, ow, s, h.fst.mono fun o env1 F1 H1 ow1 st sr k => ⟨env1, F1, ow1, sr, st, k⟩⟩
theorem LO_mono {σ : L2.St} {H : Hp} {Q Q' : Option Int → Hp → Prop} (h : LO R W ml σ H Q) (i : ∀ o H', Q o H' → Q' o H') : LO R W ml σ H Q' := by
  obtain ⟨F, env, ow, s, h⟩ := h
  exact ⟨F, env, ow, s, h.mono fun o _ _ H' _ _ _ q => i o H' q⟩
theorem je_slice (he : PE X e (LE R W m)) (hl : PO X lo (LO R W ml)) (hh : PO X hi (LO R W mh)) (hK : X.K = R.K := by rfl) : PE X (.Subscript e (.Slice lo hi none p2) pos) (LE R W (dSl m ml mh)) :=
  wkE (pe_slice (SlR.or sl_list sl_tupA) he hl hh) fun σ H Q ⟨F, env, ow, s, h⟩ => by
    refine LE_mono (LE_bnd s h) fun v H1 ⟨p, env1, F1, ow1, s1, st1, ok1, h⟩ => ?_
    obtain ⟨p1, e1, h⟩ := h.ofHold
    obtain ⟨F2, s2, g2, ok2⟩ := hold_ok s1 ok1 e1
    have st2 := st1.gr g2
    refine LO_mono (LO_bnd s2 (h.step s.nofU st2)) fun lo H3 ⟨env3, F3, ow3, s3, st3, h⟩ => ?_
    refine LO_mono (LO_bnd s3 (h.step s2.nofU st3)) fun hi H4 ⟨env4, F4, ow4, s4, st4, h⟩ => ?_
    obtain ⟨x, ex, h⟩ := h.ofRd
    obtain ⟨r', er, h⟩ := h.ofOpt'
    have st34 := st3.trans s2.nofU st4
    rw [hK]
    refine sl_op s4.le (rd_ok s4 ((ok2 (fun _ => True)).later (Fr' := fun _ => True) (holdF_n e1) st34.le) ex) er fun w F' H' xt k => ?_
    obtain ⟨k1, k2, k3⟩ := xt.fin s4 k
    exact h F' H' ow4 (st4.trans s3.nofU k1) k2 w (k3.frs fun a z => st2.frs a (st34.frs a z))
end

/-! ### xs[k] = e -/
def setO (i : Nat) (k : D) (x : D) : M Unit := bnd (own i) fun o => match o, k with
  | .lst xs, .int n => (match ixN xs.length n with
    | some j => putO i (.lst (xs.set j x))
    | none => nop)
  | _, _ => nop
def dSetIx (i : Nat) (mk m : M Opd) : M Fl := bnd m fun p => bnd (pub p) fun x => bnd (isL i) fun _ => bnd mk fun q => bnd (rd q) fun k => bnd (setO i k x) fun _ => pur .nx
section
variable {R : RC} {W : WP}
theorem setO_ok {α} {F0 H0 F H : Hp} {ow0 ow : Nat → Addr → Prop} {σ : L2.St} {env : En} {K : KTS α} {i : Nat} {k x : D} {w : V} {f : Unit → M α} (l : ∀ a, un ow0 a → F0 a = none) (s : SR R F H σ env ow) (st0 : Step F0 H0 (un ow0) F H (un ow)) (r : Rep R F x w) (h : PostS R W F0 H0 ow0 K (bnd (setO i k x) f env)) :
    ∃ a vs env' n j, σ[i]? = some (some (.ref a)) ∧ k = .int n ∧ H a = some (.lst vs) ∧ ixN vs.length n = some j ∧ SR R F (upd H a (.lst (vs.set j w))) σ env' ow ∧ Step F0 H0 (un ow0) F (upd H a (.lst (vs.set j w))) (un ow) ∧ PostS R W F0 H0 ow0 K (f () env') := by
  unfold setO own bnd at h
  cases e : gt env i with
  | none => simp only [e] at h; exact h.elim
  | some sl =>
    cases sl with
    | d y => simp only [e] at h; exact h.elim
    | o o =>
      simp only [e] at h
      obtain ⟨v, hv, h2⟩ := s.sl i _ e
      cases o with
      | dic ks => cases k <;> exact h.elim
      | drw s => cases k <;> exact h.elim
      | lst xs =>
        cases k with
        | int n =>
          obtain ⟨a, vs, rfl, sa, h3, h4⟩ := h2
          cases ej : ixN xs.length n with
          | none => simp only [ej] at h; exact h.elim
          | some j =>
            simp only [ej] at h
            obtain ⟨k1, k2⟩ := s.write (o' := .lst (xs.set j x)) (u := .lst (vs.set j w)) sa h3 nt_lst (fun _ _ z => by cases z) hv (gt_lt e) ⟨a, vs.set j w, rfl, sa, upd_same, Reps.set r j h4⟩
            exact ⟨a, vs, _, n, j, hv, rfl, h3, by rw [h4.length]; exact ej, k1, st0.trans l k2, h⟩
        | _ => exact h.elim
variable {X : Cx} {pos pos' p1 : Pos} {i : Nat} {y : Str} {ei e : Expr} {mk m : M Opd}
theorem js_setIx (hy : PE X (.Name y p1) (tVar i)) (hi : PE X ei (LE R W.w mk)) (he : PE X e (LE R W.w m))
    (hg : ∀ (to ti : TE), PE X (.Name y p1) to → PE X ei ti → PG X (.Subscript (.Name y p1) ei pos') (gSub to ti rSetL))
    (hs : swapsWithSole [.Subscript (.Name y p1) ei pos'] e pos.line X.env = pure false := by rfl) (hw : swappedStores [.Subscript (.Name y p1) ei pos'] e X.env = pure none := by rfl) (h1 : (assignEach [.Subscript (.Name y p1) ei pos'] X.env).map (·.2) = [assign (.Subscript (.Name y p1) ei pos') X.env] := by rfl) :
    PS X (.Assign [.Subscript (.Name y p1) ei pos'] e pos) (LS R W (dSetIx i mk m)) := wkS (ps_asg he (hg _ _ hy hi) hs hw h1) fun Dn σ H ⟨F, env, ow, s, pn, h⟩ => by
  refine LE_mono (SE_bnd s pn h) fun v H1 ⟨p, env1, F1, ow1, s1, st1, ok1, h⟩ => ?_
  obtain ⟨x, env2, ex, h⟩ := h.ofPub
  obtain ⟨F2, ow2, s2, st2, r2⟩ := pub_step s.nofU s1 st1 ok1 ex
  have h2 := h.step s.nofU st2
  obtain ⟨a, vs, ha, hH, h3⟩ := isL_ok s2 h2
  refine ⟨.ref a, ha, LE_mono (SE_bnd s2 pn h3) fun w H3 ⟨q, env3, F3, ow3, s3, st3, ok3, h4⟩ => ?_⟩
  obtain ⟨k, ek, h5⟩ := h4.ofRd
  obtain ⟨a', us, env4, n, j, ha', ekn, hH', ej, s4, st4, h6⟩ := setO_ok s2.nofU s3 st3 (r2.mono st3.le) h5
  rw [ha] at ha'
  cases ha'
  subst ekn
  have ew : w = .int n := rd_ok s3 ok3 ek
  exact ⟨a, us, n, j, rfl, ew, hH', ej, h6 σ F3 _ ow3 st4 s4 pn⟩
end
end Dv
set_option Elab.async false
set_option linter.all false
set_option maxRecDepth 100000
set_option maxHeartbeats 4000000
/-! Dv25: enumerate of a list or a tuple. -/
namespace Dv
open PySem
open Sem (wp)
open AutoSeq1 (wpAny_loadPart')
theorem meets_enumT (l : Addr) (items : Array Value) (n : Nat) (dct : Option Addr) (sl : Array (Option Value)) :
    Meets (Builtin.«enumerate.__new__» ⟨[.type "enumerate", .ref l], []⟩) (fun _ Y s => s.heap.get? l = some { cls := .type "tuple", dict := dct, data := .seq items n, slots := sl } ∧
      Y (.ok (.ret (.ref (s.heap.push { cls := .type "tuple_iterator", data := .fields #[.ref l, .int 0 0] }).objs.size)))
        { s with heap := (s.heap.push { cls := .type "tuple_iterator", data := .fields #[.ref l, .int 0 0] }).push { cls := .type "enumerate", data := .fields #[.none, .bool false, .ref s.heap.objs.size, rawInt 0, .none, .none] } }) :=
  .of_wp fun prog w A Y s h => by
    obtain ⟨hp, g, d, tk, os⟩ := s
    obtain ⟨hl, h⟩ := h
    have sub0 := sub_enumerate
    have isT : Heap.IsTuple (Shared.heap ⟨hp, g, d, tk, os⟩) l items := ⟨_, hl, rfl, n, rfl⟩
    wp_walk using wpAny_loadPart' hl
    refine wpAny_stack_any fun st0 => wpAny_pure ?_
    split
    · rename_i c _ _ _ _ _
      cases (c == Value.type "enumerate")
      · wp_walk using wpAny_loadPart' hl, wpAny_pyIter_tuple isT
        exact ⟨_, rfl, h⟩
      · wp_walk using wpAny_loadPart' hl, wpAny_pyIter_tuple isT
        exact ⟨_, rfl, h⟩
    · wp_walk using wpAny_loadPart' hl, wpAny_pyIter_tuple isT
      exact ⟨_, rfl, h⟩
theorem call_enumT {prog : Program} {w : World} {A : Around} {E : Value → Shared → Prop} {s : Shared} {l : Addr} {items : Array Value} {Q : Value → Shared → Prop} (isT : s.heap.IsTuple l items)
    (h : ∀ h', IsEnum h' (s.heap.objs.size + 1) s.heap.objs.size 0 .none → h'.IsTupleIter s.heap.objs.size l 0 → (∀ b o, s.heap.get? b = some o → h'.get? b = some o) → Q (.ref (s.heap.objs.size + 1)) { s with heap := h' }) :
    wpAny (model prog w) A (call (.type "enumerate") [.ref l]) Q E s := by
  obtain ⟨⟨c, dct, dt, sl⟩, hl, hc, n, hd⟩ := isT
  dsimp only at hc hd
  subst hc hd
  apply callType_new F.called_enumerate (by decide) (F.typeCall_enumerate_1 _) (F.newCall_enumerate_1 _) (fun obj => F.args_object_init_2 obj _) F.entry_enumerate_new (meets_enumT l items n dct sl)
  refine ⟨hl, ?_⟩
  have ez : (s.heap.push { cls := .type "tuple_iterator", data := .fields #[.ref l, .int 0 0] }).objs.size = s.heap.objs.size + 1 := Heap.size_push ..
  show _ ∧ _
  rw [ez]
  have isE : IsEnum ((s.heap.push { cls := .type "tuple_iterator", data := .fields #[.ref l, .int 0 0] }).push { cls := .type "enumerate", data := .fields #[.none, .bool false, .ref s.heap.objs.size, rawInt 0, .none, .none] }) (s.heap.objs.size + 1) s.heap.objs.size 0 .none := by
    have q := Heap.get?_push_size (s.heap.push { cls := .type "tuple_iterator", data := .fields #[.ref l, .int 0 0] }) (o := { cls := .type "enumerate", data := .fields #[.none, .bool false, .ref s.heap.objs.size, rawInt 0, .none, .none] }) rfl
    rw [ez] at q
    exact q
  exact ⟨⟨_, isE, rfl⟩, h _ isE ⟨_, Heap.get?_push_of_some _ (Heap.get?_push_size _ rfl), rfl, rfl⟩ fun b o x => Heap.get?_push_of_some _ (Heap.get?_push_of_some _ x)⟩
end Dv
namespace Dv
open PySem PySem.Spec PyProof.Rows L2
variable [TabC]
/-- the tuple at a, each item in a new pair -/
def IteT (K : PySem.W.Frag) (a : Addr) : It :=
  ⟨fun i H => ∃ (xs : List V) (x : V), SqT K H a xs ∧ xs[i]? = some x, fun i H v H' => ∃ T x, v = .ref T ∧ H T = none ∧ H' = upd H T (.tup [.int (i : Nat), x]) ∧ ∀ xs, SqT K H a xs → xs[i]? = some x, fun i H => ∃ xs : List V, SqT K H a xs ∧ xs.length = i⟩
theorem sqT_inj {X : Cx} {pins : List (Addr × Obj)} {σ : L2.St} {H : Hp} {s : Shared} {a : Addr} {xs ys : List V} (I : Inv X pins σ H s) (h1 : SqT X.K H a xs) (h2 : SqT X.K H a ys) : xs = ys := I.tuple_inj h1 h2
theorem turn_enumT {P : Program} {w : World} {K : PySem.W.Frag} {elts : List Expr} {kk : Nat} {tpos : Pos} (a e it : Addr) (ha : a ≠ it) (hae : e ≠ a) :
    Turn P w K (.Tuple elts kk tpos) (IteT K a) [e, it] e (fun i h => (∃ old, IsEnum h e it ((i : Nat) : Int) old) ∧ h.IsTupleIter it a i ∧ e ≠ it) where
  mem := by simp
  obj := fun i h st b hb => by
    obtain ⟨⟨old, he⟩, ⟨o, ho, hc, hd⟩, _⟩ := st
    rcases (show b = e ∨ b = it by simpa using hb) with rfl | rfl
    · exact ⟨_, he, fun v q => nomatch q⟩
    · exact ⟨o, ho, fun v q => by rw [hd] at q; cases q⟩
  keep := fun i h h' st k => by
    obtain ⟨⟨old, he⟩, hi, hne⟩ := st
    exact ⟨⟨old, k e (by simp) _ he⟩, hi.at fun o q => k it (by simp) o q, hne⟩
  item := by
    intro X hP hw hK hc i pins s σ H E I hf st hg
    subst hP hw hK
    obtain ⟨⟨old, he⟩, hit, hne⟩ := st
    obtain ⟨xs, x, hq, hx⟩ := hg
    obtain ⟨its, rv, p, hz⟩ := I.tuple hq
    obtain ⟨u, hu, ru⟩ := rv.get hx
    have el : e < s.heap.objs.size := Heap.lt_size he
    have il : it < s.heap.objs.size := by
      obtain ⟨_, q, _⟩ := hit
      exact Heap.lt_size q
    have isT : s.heap.IsTuple a its.toArray := p
    have hlt : i < its.toArray.size := by
      rw [List.size_toArray]
      exact (List.getElem?_eq_some_iff.mp hu).1
    refine wpAny_pyNext_enum_itemD (Draws.tuple (A := X.A.in1) (by exact I.ok.hd hc) it a ha its.toArray) he ⟨hit, isT⟩ hlt hne (by simp [hne, hae]) fun y h' tk py ho hst' hT hsz hk => ?_
    have ey : y = u := by
      have py : its.toArray[i]? = some y := py
      have hu' : its.toArray[i]? = some u := by simpa using hu
      rw [hu'] at py
      exact (Option.some.inj py).symm
    subst ey
    refine ⟨_, rfl, wpAny_letOwnedTupleGo_enum (s := { s with heap := h', toks := tk + 1 }) ho fun h2 he2 sb => ?_⟩
    have at_ : h2.get? s.heap.objs.size = some { cls := .type "tuple", data := .seq #[.int i tk, y] } := (sb.2 _ (Nat.ne_of_gt el)).trans hT
    have new : ObjOk X.prog X.w (upd H s.heap.objs.size (.tup [.int (i : Nat), x])) h2 s.heap.objs.size (.tup [.int (i : Nat), x]) :=
      ⟨by show 2 ≤ sizeLine; decide, [.int i tk, y], .cons ⟨_, rfl⟩ (.cons ru .nil), ⟨_, at_, rfl, _, rfl⟩⟩
    have I1 : Inv X pins σ (upd H s.heap.objs.size (.tup [.int (i : Nat), x])) { s with heap := h2, toks := tk + 1 } :=
      I.turnedNew (ch := [e, it]) (fun b ob hb q => (sb.2 b (fun z => hb (by simp [z]))).trans (hk b ob (fun z => hb (by simp [z])) (fun z => hb (by simp [z])) q)) hf (Nat.le_refl _) new
    refine ⟨.ref s.heap.objs.size, _, I1, rfl, ⟨_, x, rfl, I.hok.fresh (Nat.le_refl _), rfl, fun ys hy => by rw [sqT_inj I hy hq]; exact hx⟩, ⟨⟨y, ?_⟩, hst'.1.at fun o q => (sb.2 it (Ne.symm hne)).trans q, hne⟩, fun b hb => ?_⟩
    · rw [show ((i + 1 : Nat) : Int) = (i : Int) + 1 by omega]
      exact he2
    · have lt : b < s.heap.objs.size := by
        rcases (show b = e ∨ b = it by simpa using hb) with rfl | rfl
        · exact el
        · exact il
      rw [upd_ne (Nat.ne_of_lt lt)]
      exact (hf b hb).1
  done := by
    intro X hP hw hK hc i pins s σ H E I hf st hg
    subst hP hw hK
    obtain ⟨⟨old, he⟩, hit, hne⟩ := st
    obtain ⟨xs, hq, hx⟩ := hg
    obtain ⟨its, rv, p, hz⟩ := I.tuple hq
    obtain ⟨f0, f1, f2, f3, f4, f5⟩ := hf it (by simp)
    have isT : s.heap.IsTuple a its.toArray := p
    have en : its.toArray.size = i := by rw [List.size_toArray, ← hx]; exact rv.length.symm
    refine wpAny_pyNext_enum_endD (Draws.tuple (A := X.A.in1) (by exact I.ok.hd hc) it a ha its.toArray) he (by rw [en]; exact ⟨hit, isT⟩) fun h' eb => ⟨rfl, I.turned (t' := s.toks) (fun b o hb q => eb b o hb q) f0 f1 f3 f4 f5⟩
  self := fun A i s Q E st h => by
    obtain ⟨⟨_, he⟩, _⟩ := st
    exact wpAny_pyIter_enum he h
/-- enumerate(e): the items of a list, of a tuple, in pairs with their places -/
def iEnumS (K : PySem.W.Frag) (te : TE) : TI := fun σ H Y => te σ H fun x H1 => ∃ a, [x] = [V.ref a] ∧ ((∃ xs, SqL K H1 a xs) ∧ Y (Ite K a) H1 ∨ (∃ xs, SqT K H1 a xs) ∧ Y (IteT K a) H1)
section
variable {X : Cx} {R : RC} {W : WX} {e : Expr} {te : TE} {m : M Opd}
theorem pi_enumS {p pos tpos : Pos} {elts : List Expr} {kk : Nat} (hg : Gl X "enumerate") (hm : X.mg "enumerate" = none) (he : PE X e te) (hs : starEach [e] X.env = [(false, eval e X.env)] := by rfl) :
    PI X (.Tuple elts kk tpos) (.Call (.Name "enumerate" p) [e] [] pos) (iEnumS X.K te) := by
  constructor
  intro pins s σ H Y I h
  refine Call_ (ld_blt I hg hm boot_enumerate (PyProof.Rows.callWith_type1 (thn ((pa_cons he pa_nil hs).run pos pins s σ H (fun vs H1 => ∃ a, vs = [.ref a] ∧ ((∃ xs, SqL X.K H1 a xs) ∧ Y (Ite X.K a) H1 ∨ (∃ xs, SqT X.K H1 a xs) ∧ Y (IteT X.K a) H1)) I ?_) ?_) hs rfl))
  · exact h
  · rintro us s1 ⟨vs, H1, I1, r1, a, rfl, hq⟩
    obtain ⟨u, rfl, ru⟩ := vals1 r1
    cases (show u = Value.ref a from ru)
    have fin (b : Addr) (hb : b = s1.heap.objs.size + 1 ∨ b = s1.heap.objs.size) : FpOk X pins H1 b := by
      have hle : s1.heap.objs.size ≤ b := by
        rcases hb with z | z
        · rw [z]; exact Nat.le_add_right _ _
        · rw [z]; exact Nat.le_refl _
      exact I1.fpOk hle (I1.hok.fresh hle)
    rcases hq with ⟨⟨xs, hq⟩, q⟩ | ⟨⟨xs, hq⟩, q⟩
    · obtain ⟨its, rv, pl, hz⟩ := I1.list hq
      refine call_enumerate_list pl.isList fun h' he2 hit hsz hk => wpAny_pyIter_enum he2 ?_
      exact ⟨s1.heap.objs.size + 1, [s1.heap.objs.size + 1, s1.heap.objs.size], _, _, H1, rfl, I1.kept (t' := s1.toks) hk, turn_enum a _ _, ⟨⟨.none, he2⟩, hit, Nat.succ_ne_self _⟩, fun b hb => fin b (by simpa using hb), q⟩
    · obtain ⟨its, rv, pl, hz⟩ := I1.tuple hq
      have isT : s1.heap.IsTuple a its.toArray := pl
      have lt : a < s1.heap.objs.size := by
        obtain ⟨o, g, _⟩ := isT
        exact Heap.lt_size g
      refine call_enumT isT fun h' he2 hit hk => wpAny_pyIter_enum he2 ?_
      exact ⟨s1.heap.objs.size + 1, [s1.heap.objs.size + 1, s1.heap.objs.size], _, _, H1, rfl, I1.kept (t' := s1.toks) hk, turn_enumT a (s1.heap.objs.size + 1) s1.heap.objs.size (Nat.ne_of_lt lt) (Nat.ne_of_gt (Nat.lt_succ_of_lt lt)), ⟨⟨.none, he2⟩, hit, Nat.succ_ne_self _⟩, fun b hb => fin b (by simpa using hb), q⟩
/-- the items with their places -/
def enumD (xs : List D) (i : Nat) : List D := match xs with
  | [] => []
  | x :: r => .tup [.int (i : Nat), x] :: enumD r (i + 1)
theorem enumD_len : ∀ (xs : List D) (i : Nat), (enumD xs i).length = xs.length
  | [], _ => rfl
  | x :: r, i => by
    show (enumD r (i + 1)).length + 1 = r.length + 1
    rw [enumD_len r (i + 1)]
theorem enumD_get : ∀ (xs : List D) (i j : Nat), (enumD xs i)[j]? = xs[j]?.map fun x => .tup [.int ((i + j : Nat) : Int), x]
  | [], _, _ => rfl
  | x :: r, i, 0 => rfl
  | x :: r, i, j + 1 => by
    show (enumD r (i + 1))[j]? = r[j]?.map _
    rw [enumD_get r (i + 1) j]
    have e : i + 1 + j = i + (j + 1) := by omega
    rw [e]
theorem enum_yld {F H H' : Hp} {i : Nat} {x : D} {v w : V} (le : Le F H) (rx : Rep R F x w) (hy : ∃ T y, v = .ref T ∧ H T = none ∧ H' = upd H T (.tup [.int (i : Nat), y]) ∧ y = w) : ∃ F', Ext F H F' H' ∧ Rep R F' (.tup [.int (i : Nat), x]) v := by
  obtain ⟨T, y, rfl, hT, rfl, rfl⟩ := hy
  obtain ⟨k1, k2⟩ := new_tup (R := R) (xs := [.int (i : Nat), x]) le hT ⟨.int (i : Nat), [y], rfl, rfl, y, [], rfl, rx, rfl⟩
  exact ⟨_, k1, k2⟩
theorem walk_enumL {a : Addr} {vs : List V} {xs : List D} {F1 H1 : Hp} (h : SqL R.K F1 a vs) (r : Reps R F1 xs vs) : WalkD R (Ite R.K a) (enumD xs 0) F1 H1 := by
  intro i F H le g _
  have gl : Le F1 F := .ofEx g
  have hs : SqL R.K H a vs := le.sqL (gl.sqL h)
  refine ⟨fun y hy => ?_, fun e => ⟨vs, hs, by rw [r.length, e, enumD_len]; exact Nat.le_refl _⟩⟩
  rw [enumD_get] at hy
  obtain ⟨x, hx, rfl⟩ := Option.map_eq_some_iff.mp hy
  obtain ⟨v, hv, rv⟩ := r.get hx
  refine ⟨⟨vs, v, hs, hv⟩, fun v' H' ⟨T, y, e1, e2, e3, e4⟩ => ?_⟩
  have := e4 vs hs
  rw [hv] at this
  rw [Nat.zero_add]
  exact enum_yld le (rv.mono gl) ⟨T, y, e1, e2, e3, (Option.some.inj this).symm⟩
theorem walk_enumT {a : Addr} {vs : List V} {xs : List D} {F1 H1 : Hp} (h : SqT R.K F1 a vs) (r : Reps R F1 xs vs) : WalkD R (IteT R.K a) (enumD xs 0) F1 H1 := by
  intro i F H le g _
  have gl : Le F1 F := .ofEx g
  have hs : SqT R.K H a vs := le.sqT (gl.sqT h)
  refine ⟨fun y hy => ?_, fun e => ⟨vs, hs, by rw [r.length, e, enumD_len]⟩⟩
  rw [enumD_get] at hy
  obtain ⟨x, hx, rfl⟩ := Option.map_eq_some_iff.mp hy
  obtain ⟨v, hv, rv⟩ := r.get hx
  refine ⟨⟨vs, v, hs, hv⟩, fun v' H' ⟨T, y, e1, e2, e3, e4⟩ => ?_⟩
  have := e4 vs hs
  rw [hv] at this
  rw [Nat.zero_add]
  exact enum_yld le (rv.mono gl) ⟨T, y, e1, e2, e3, (Option.some.inj this).symm⟩
def dEnum (m : M Opd) : M (List D) := bnd m fun p => bnd (pub p) fun x => opt ((itemsS x).map fun xs => enumD xs 0)
theorem ji_enum {p pos tpos : Pos} {elts : List Expr} {kk : Nat} (hg : Gl X "enumerate") (hm : X.mg "enumerate" = none) (he : PE X e (LE R W m)) (hs : starEach [e] X.env = [(false, eval e X.env)] := by rfl) (hK : X.K = R.K := by rfl) :
    PI X (.Tuple elts kk tpos) (.Call (.Name "enumerate" p) [e] [] pos) (LI R W (dEnum m)) := wkI (pi_enumS hg hm he hs) fun σ H Rr ⟨F, env, ow, s, h⟩ => by
  rw [hK]
  refine LE_mono (LE_bnd s h) fun v H1 ⟨p, env1, F1, ow1, s1, st1, ok1, h⟩ => ?_
  obtain ⟨x, env2, ex, h⟩ := h.ofPub
  obtain ⟨F2, ow2, s2, st2, r2⟩ := pub_step s.nofU s1 st1 ok1 ex
  obtain ⟨ys, ey, h⟩ := h.ofOpt'
  obtain ⟨xs, e, rfl⟩ := Option.map_eq_some_iff.mp ey
  cases x <;> cases e
  · obtain ⟨a, vs, rfl, k1, k2⟩ := r2
    exact ⟨a, rfl, .inr ⟨⟨vs, s2.le.sqT k1⟩, h F2 H1 ow2 st2 s2 _ (walk_enumT k1 k2)⟩⟩
  · obtain ⟨a, vs, rfl, k1, k2⟩ := r2
    exact ⟨a, rfl, .inl ⟨⟨vs, .of (s2.le.lst k1)⟩, h F2 H1 ow2 st2 s2 _ (walk_enumL (.of k1) k2)⟩⟩
  · obtain ⟨a, vs, rfl, k1, k2⟩ := r2
    exact ⟨a, rfl, .inl ⟨⟨vs, s2.le.sqL k1⟩, h F2 H1 ow2 st2 s2 _ (walk_enumL k1 k2)⟩⟩
end
end Dv
set_option Elab.async false
set_option linter.all false
set_option maxRecDepth 100000
set_option maxHeartbeats 4000000
/-! Dv26: len(set(t)), tuple(range(i, j, k)). -/
namespace Dv
open PySem PySem.Spec PyProof.Rows L2
variable [TabC]
/-! ### how many unlike ints -/
def uniqI : List Int → List Int
  | [] => []
  | x :: r => if x ∈ r then uniqI r else x :: uniqI r
theorem uniqI_mem : ∀ (ns : List Int) (k : Int), k ∈ uniqI ns ↔ k ∈ ns
  | [], _ => Iff.rfl
  | x :: r, k => by
    unfold uniqI
    split
    · rename_i h
      rw [uniqI_mem r k, List.mem_cons]
      exact ⟨.inr, fun z => z.elim (fun e => e ▸ h) id⟩
    · rw [List.mem_cons, List.mem_cons, uniqI_mem r k]
theorem uniqI_nodup : ∀ ns : List Int, (uniqI ns).Nodup
  | [] => .nil
  | x :: r => by
    unfold uniqI
    split
    · exact uniqI_nodup r
    · rename_i h
      exact List.nodup_cons.mpr ⟨fun z => h ((uniqI_mem r x).mp z), uniqI_nodup r⟩
theorem nodup_le : ∀ {xs ys : List Int}, xs.Nodup → (∀ k, k ∈ xs → k ∈ ys) → xs.length ≤ ys.length
  | [], ys, _, _ => Nat.zero_le _
  | x :: xs, ys, h, s => by
    obtain ⟨h1, h2⟩ := List.nodup_cons.mp h
    have m := s x List.mem_cons_self
    have l := nodup_le (ys := ys.erase x) h2 fun k hk => (List.mem_erase_of_ne (fun (e : k = x) => h1 (by rw [← e]; exact hk))).mpr (s k (List.mem_cons_of_mem _ hk))
    rw [List.length_erase_of_mem m] at l
    have p := List.length_pos_of_mem m
    rw [List.length_cons]
    omega
def gLenSet : D → Option Opd
  | .tup xs => (toInts xs).bind fun ns => if ns.length ≤ 1000 then some (.d (.int ((uniqI ns).length : Nat))) else none
  | _ => none
def rLenSet (K : PySem.W.Frag) : V → Hp → VK → Prop := fun v H Q => ∃ (p : Addr) (ns : List Int), v = .ref p ∧ SqT K H p (ns.map V.int) ∧ ns.length ≤ 1000 ∧ Q (.int ((uniqI ns).length : Nat)) H
section
variable {X : Cx} {R : RC} {W : WX} {a : Expr} {ta : TE} {m : M Opd} {p p2 q pos : Pos}
theorem pe_lenSet (hc : X.calm = true) (hg : Gl X "len") (hm : X.mg "len" = none) (hg2 : Gl X "set") (hm2 : X.mg "set" = none) (ha : PE X a ta) (na : starEach [a] X.env = (false, eval a X.env) :: starEach [] X.env := by rfl) :
    PE X (.Call (.Name "len" p) [.Call (.Name "set" p2) [a] [] q] [] pos) (fun σ H Q => ta σ H fun x H1 => rLenSet X.K x H1 Q) := by
  constructor
  intro pins s σ H Q I h
  refine Call_ (ld_blt I hg hm boot_len ?_)
  refine PyProof.Rows.callWith_builtin1 (PyProof.Rows.args_cons ?_ rfl) rfl rfl
  refine Call_ (ld_blt I hg2 hm2 PyProof.Rows.boot_set ?_)
  refine PyProof.Rows.callWith_type1 (PyProof.Rows.args_cons (thn (ha.run pins s σ H _ I h) ?_) na) na rfl
  rintro v s1 ⟨x, H1, I1, r1, l, ns, rfl, hq, hl, q1⟩
  cases r1
  apply PyProof.Rows.args_nil
  obtain ⟨its, rv, pt, hz⟩ := I1.tuple hq
  have hi : IntsAre its.toArray.toList ns := ints_of_vals rv
  refine call_set_tupI ns (I1.ok.hd hc) (show s1.heap.IsTuple l its.toArray from pt) hi (by unfold scanBound; omega) fun h' tk c R1 hcn k => ?_
  apply PyProof.Rows.args_nil
  obtain ⟨o, es, ep, t, ho, hex, hdt, g, nd, hm2, hb, hf, hn, hr, hl2⟩ := R1
  have I2 : Inv X pins σ H1 { s1 with heap := h', toks := tk } := I1.kept k
  have mem : ∀ j, j ∈ es.toList.map keyOf ↔ j ∈ uniqI ns := fun j => by
    rw [uniqI_mem, ← hm2 j, decide_eq_true_eq]
  have len : es.size = (uniqI ns).length := by
    have e1 := nodup_le nd fun j hj => (mem j).mp hj
    have e2 := nodup_le (uniqI_nodup ns) fun j hj => (mem j).mpr hj
    rw [List.length_map, Array.length_toList] at e1 e2
    exact Nat.le_antisymm e1 e2
  exact call_len_set ho hex hdt hf (by unfold scanBound at hb; omega) ⟨.int ((uniqI ns).length : Nat), H1, I2.tok _, ⟨_, by rw [← len]⟩, q1⟩
theorem je_lenSet (hc : X.calm = true) (hg : Gl X "len") (hm : X.mg "len" = none) (hg2 : Gl X "set") (hm2 : X.mg "set" = none) (ha : PE X a (LE R W m)) (na : starEach [a] X.env = (false, eval a X.env) :: starEach [] X.env := by rfl) (hK : X.K = R.K := by rfl) :
    PE X (.Call (.Name "len" p) [.Call (.Name "set" p2) [a] [] q] [] pos) (LE R W (dOp1 gLenSet m)) :=
  wkE (pe_lenSet hc hg hm hg2 hm2 ha na) fun σ H Q h => LE_op1 (r := rLenSet X.K) (fun F H x v p Q le r e q => by
    rw [hK]
    unfold gLenSet at e
    split at e
    · obtain ⟨ns, e1, e2⟩ := Option.bind_eq_some_iff.mp e
      have e3 := toInts_inv e1
      subst e3
      split at e2
      · rename_i c
        cases e2
        obtain ⟨b, vs, rfl, h1, h2⟩ := r
        have h3 := h2.ints
        subst h3
        exact ⟨b, ns, rfl, le.sqT h1, c, q _ F H (.refl le) rfl⟩
      · cases e2
    · cases e) h
end
/-! ### tuple(range(i, j, k)) -/
def rgC (i k : Int) (n : Nat) : List V := (List.range n).map fun (j : Nat) => .int (i + (j : Int) * k)
theorem vals_rgC {i k : Int} : ∀ {n : Nat} {acc : Array Value}, PySem.ItemsOf (fun j v => ∃ t, v = .int (i + j * k) t) acc n → Vals (rgC i k n) acc.toList := by
  intro n acc ⟨h1, h2⟩
  have key : ∀ (vs : List Value) (f : Nat → V), (∀ j v, vs[j]? = some v → RelV (f j) v) → Vals ((List.range vs.length).map f) vs := by
    intro vs
    induction vs with
    | nil => intro f _; exact .nil
    | cons v r ih =>
      intro f hf
      rw [List.length_cons, List.range_succ_eq_map, List.map_cons, List.map_map]
      exact .cons (hf 0 v rfl) (ih (f ∘ Nat.succ) fun j w hw => hf (j + 1) w hw)
  have e : n = acc.toList.length := by rw [Array.length_toList]; exact h1.symm
  unfold rgC
  rw [e]
  refine key acc.toList _ fun j v hv => ?_
  obtain ⟨t, rfl⟩ := h2 j v (by rw [← Array.getElem?_toList]; exact hv)
  exact ⟨t, rfl⟩
def gRngT (g : List D → Option (List D)) (xs : List D) : Option Opd := (g xs).bind fun ys => if ys.length ≤ SZ then some (.d (.tup ys)) else none
def dTupR (ms : List (M Opd)) : M Opd := bnd (dArgs ms) fun xs => opt (gRngT gRng3 xs)
theorem rngL_reps {R : RC} {F : Hp} (i k : Int) (n : Nat) : Reps R F (rngL i k n) (rgC i k n) := by
  unfold rngL rgC
  have key : ∀ l : List Nat, Reps R F (l.map fun (j : Nat) => D.int (i + (j : Int) * k)) (l.map fun (j : Nat) => V.int (i + (j : Int) * k)) := fun l => by
    induction l with
    | nil => rfl
    | cons x r ih => exact ⟨_, _, rfl, rfl, ih⟩
  exact key _
section
variable {X : Cx} {R : RC} {W : WX} {a b c : Expr} {ta : TA} {m1 m2 m3 : M Opd} {p p2 q pos : Pos}
theorem pe_tupR (hc : X.calm = true) (hg : Gl X "tuple") (hm : X.mg "tuple" = none) (hg2 : Gl X "range") (hm2 : X.mg "range" = none) (ha : PA X [a, b, c] ta)
    (hs : starEach [a, b, c] X.env = (false, eval a X.env) :: starEach [b, c] X.env := by rfl) (hpl : (backTo q (starEach [b, c] X.env)).any (·.1) = false := by rfl) :
    PE X (.Call (.Name "tuple" p) [.Call (.Name "range" p2) [a, b, c] [] q] [] pos) (fun σ H Q => ta σ H fun vs H1 => ∃ (i j k : Int) (n : Nat), vs = [.int i, .int j, .int k] ∧ RgC i j k n ∧ n ≤ SZ ∧ ∀ t, H1 t = none → Q (.ref t) (upd H1 t (.tup (rgC i k n)))) := by
  constructor
  intro pins s σ H Q I h
  refine Call_ (ld_blt I hg hm boot_tuple (PyProof.Rows.callWith_type1 (PyProof.Rows.args_cons ?_ rfl) rfl rfl))
  refine Call_ (ld_blt I hg2 hm2 boot_range (PyProof.Rows.callWith_type1 (thn (ha.run q pins s σ H _ I h) ?_) hs hpl))
  rintro us s1 ⟨vs, H1, I1, r1, i, j, k, n, rfl, ⟨c0, c1, c2, c3⟩, hz, fin⟩
  obtain ⟨u1, u2, u3, rfl, ⟨t1, rfl⟩, ⟨t2, rfl⟩, ⟨t3, rfl⟩⟩ : ∃ u1 u2 u3, us = [u1, u2, u3] ∧ RelV (.int i) u1 ∧ RelV (.int j) u2 ∧ RelV (.int k) u3 := by
    cases r1 with
    | cons x1 r1 => cases r1 with
      | cons x2 r1 => cases r1 with
        | cons x3 r1 =>
          cases r1
          exact ⟨_, _, _, rfl, x1, x2, x3⟩
  refine call_range_3 c0 ?_ (.inl (PyProof.noPylong_small c1))
  apply PyProof.Rows.args_nil
  have I2 : Inv X pins σ H1 { s1 with heap := s1.heap.push { cls := .type "range", data := .fields #[.int i t1, .int j t2, .int k t3] } } := I1.kept (t' := s1.toks) fun b o e => Heap.get?_push_of_some _ e
  refine call_tuple_range (n := n) (I1.ok.hd hc) (IsRange.new _ _ _ _ _ _ _) c2 c3 (by have : SZ = 2 ^ 24 := rfl; omega) fun h' tk acc hk hi => ?_
  have I3 : Inv X pins σ H1 { s1 with heap := h', toks := tk } := I2.kept hk
  refine ⟨.ref h'.objs.size, upd H1 h'.objs.size (.tup (rgC i k n)), I3.laid (t' := tk) (fun c o e => Heap.get?_push_of_some _ e) (Nat.le_refl _) (show ObjOk X.prog X.w _ _ _ (.tup (rgC i k n)) from ⟨?_, acc.toList, vals_rgC hi, ?_⟩), rfl, fin _ (I3.hok.fresh (Nat.le_refl _))⟩
  · unfold rgC
    rw [List.length_map, List.length_range]
    exact hz
  · rw [Array.toArray_toList]
    exact IsTup.new _ _
theorem je_tupR (hc : X.calm = true) (hg : Gl X "tuple") (hm : X.mg "tuple" = none) (hg2 : Gl X "range") (hm2 : X.mg "range" = none) (ha : PA X [a, b, c] (LA R W (dArgs [m1, m2, m3])))
    (hs : starEach [a, b, c] X.env = (false, eval a X.env) :: starEach [b, c] X.env := by rfl) (hpl : (backTo q (starEach [b, c] X.env)).any (·.1) = false := by rfl) :
    PE X (.Call (.Name "tuple" p) [.Call (.Name "range" p2) [a, b, c] [] q] [] pos) (LE R W (dTupR [m1, m2, m3])) :=
  wkE (pe_tupR hc hg hm hg2 hm2 ha hs hpl) fun σ H Q ⟨F, env, ow, s, h⟩ => by
    refine LA_mono (LA_bnd s h) fun vs H1 ⟨xs, env1, F1, ow1, s1, st1, r1, h⟩ => ?_
    obtain ⟨o, eo, h⟩ := h.ofOpt'
    obtain ⟨ys, e, e'⟩ := Option.bind_eq_some_iff.mp eo
    split at e'
    · rename_i hz
      cases e'
      unfold gRng3 at e
      split at e
      · rename_i i j k
        split at e
        · rename_i q
          cases e
          obtain ⟨v, r, rfl, e1, v2, r2, rfl, e2, v3, r3, rfl, e3, e4⟩ := r1
          have e1 : v = _ := e1
          have e2 : v2 = _ := e2
          have e3 : v3 = _ := e3
          have e4 : r3 = _ := e4
          subst e1 e2 e3 e4
          refine ⟨i, j, k, (Builtin.Range.rangeSize i j k).toNat, rfl, ⟨q.1, q.2.1, q.2.2, (Int.toNat_of_nonneg (rsize_nn i j k)).symm⟩, by rw [rngL_len] at hz; exact hz, fun t ht => ?_⟩
          obtain ⟨k1, k2⟩ := new_tup (R := R) s1.le ht (rngL_reps i k _)
          obtain ⟨j1, j2, j3⟩ := k1.fin s1 k2
          exact h _ _ ow1 (st1.trans s.nofU j1) j2 _ (j3.frs fun a z => st1.frs a z)
        · cases e
      · cases e
    · cases e'
end
end Dv
set_option Elab.async false
set_option linter.all false
set_option maxRecDepth 100000
set_option maxHeartbeats 4000000
/-! Dv27: dicts: loops over the keys (the dict is locked meanwhile), items, displays. -/
namespace Dv
open PySem PySem.Spec PyProof.Rows L2
variable [TabC]
def kD : Key → D
  | .inl i => .int i
  | .inr x => .str x
theorem kD_rep {R : RC} {F : Hp} (k : Key) : Rep R F (kD k) (kV k) := by
  cases k <;> rfl
theorem RepK.get {R : RC} {F : Hp} : ∀ {ks : List (Key × D)} {kvs : List (Key × V)} {i : Nat} {p : Key × D}, RepK R F ks kvs → ks[i]? = some p → ∃ v, kvs[i]? = some (p.1, v) ∧ Rep R F p.2 v
  | x :: r, kvs, 0, p, h, e => by
    obtain ⟨v, vr, rfl, h1, h2⟩ := h
    cases e
    exact ⟨v, rfl, h1⟩
  | x :: r, kvs, i + 1, p, h, e => by
    obtain ⟨v, vr, rfl, h1, h2⟩ := h
    exact RepK.get (i := i) h2 e
  | [], _, _, _, _, e => by cases e
section
variable {R : RC} {W : WP} {α : Type}
/-- a frozen dict is locked -/
theorem lock_sr {F H : Hp} {σ : L2.St} {env : En} {ow : Nat → Addr → Prop} {d : Addr} {od : Obj} {kvs : List (Key × V)} (s : SR R F H σ env ow) (hF : F d = some (.dK kvs)) (hH : H d = some (.dK kvs)) : SR R F (upd H d (.frz od (.dK kvs))) σ env ow := by
  have nd : ∀ {j a}, ow j a → a ≠ d := fun {j a} z e => by
    have := (s.nof j a z).1
    rw [e, hF] at this
    cases this
  refine ⟨fun a u h => ?_, fun i a h => ⟨(s.nof i a h).1, fun z => (s.nof i a h).2 (z.eq (upd_ne (nd h)).symm)⟩, s.dis, s.len, fun i sl h => ?_, tabs_put hH nt_dK (fun _ _ z => by cases z) (fun _ _ z => by cases z) s.tb, s.nt⟩
  · by_cases e : a = d
    · subst e
      rw [hF] at h
      cases h
      exact .inr ⟨kvs, od, rfl, upd_same⟩
    · rw [upd_ne e]
      exact s.le a u h
  · obtain ⟨v, h1, h2⟩ := s.sl i sl h
    exact ⟨v, h1, h2.mono (.refl _) (fun a u z nt q => by rw [upd_ne (nd z)]; exact q) fun _ z => z⟩
theorem unlock_sr {F H : Hp} {σ : L2.St} {env : En} {ow : Nat → Addr → Prop} {d : Addr} {od : Obj} {kvs : List (Key × V)} (s : SR R F H σ env ow) (hF : F d = some (.dK kvs)) (hH : H d = some (.frz od (.dK kvs))) : SR R F (upd H d (.dK kvs)) σ env ow := by
  have nd : ∀ {j a}, ow j a → a ≠ d := fun {j a} z e => by
    have := (s.nof j a z).1
    rw [e, hF] at this
    cases this
  refine ⟨fun a u h => ?_, fun i a h => ⟨(s.nof i a h).1, fun z => (s.nof i a h).2 (z.eq (upd_ne (nd h)).symm)⟩, s.dis, s.len, fun i sl h => ?_, tabs_put hH (fun _ z => by cases z) (fun _ _ z => by cases z) (fun _ _ z => by cases z) s.tb, s.nt⟩
  · by_cases e : a = d
    · subst e
      rw [hF] at h
      cases h
      exact .inl upd_same
    · rw [upd_ne e]
      exact s.le a u h
  · obtain ⟨v, h1, h2⟩ := s.sl i sl h
    exact ⟨v, h1, h2.mono (.refl _) (fun a u z nt q => by rw [upd_ne (nd z)]; exact q) fun _ z => z⟩
/-- a step from the locked state is one from the unlocked -/
theorem Step.ofLock {F H F' H' : Hp} {w w' : Addr → Prop} {d : Addr} {od : Obj} {kvs : List (Key × V)} (hF : F d = some (.dK kvs)) (hH : H d = some (.dK kvs)) (st : Step F (upd H d (.frz od (.dK kvs))) w F' H' w') : Step F H w F' H' w' := by
  have ov : ∀ {a}, Ov (upd H d (.frz od (.dK kvs))) a → Ov H a := fun {a} z => by
    by_cases e : a = d
    · subst e
      exact (z.no upd_same (fun _ k => by cases k)).elim
    · exact z.eq (upd_ne e).symm
  refine ⟨st.ex, fun a u h n w nt => ?_, fun a h => (st.fresh a h).imp id fun z => z.imp ov id, fun a z => (st.owf a z).imp id ov, fun a z => ov (st.dom a z), fun z => st.tb (tabs_put hH nt_dK (fun _ _ z => by cases z) (fun _ _ z => by cases z) z), st.nt, fun a o u h => ?_⟩
  · have ne : a ≠ d := fun e => by rw [e, hF] at n; cases n
    exact st.keep a u (by rw [upd_ne ne]; exact h) n w nt
  · have ne : a ≠ d := fun e => by rw [e, hH] at h; cases h
    exact st.fz a o u (by rw [upd_ne ne]; exact h)
theorem Step.unlock {F H F' H' : Hp} {w w' : Addr → Prop} {d : Addr} {od : Obj} {kvs : List (Key × V)} (hF : F d = some (.dK kvs)) (hH : H d = some (.dK kvs)) (st : Step F H w F' H' w') (hH' : H' d = some (.frz od (.dK kvs))) : Step F H w F' (upd H' d (.dK kvs)) w' := by
  have ov : ∀ {a}, Ov (upd H' d (.dK kvs)) a → Ov H' a := fun {a} z => by
    by_cases e : a = d
    · subst e
      exact (z.no upd_same nt_dK).elim
    · exact z.eq (upd_ne e).symm
  refine ⟨st.ex, fun a u h n w nt => ?_, st.fresh, st.owf, fun a z => st.dom a (ov z), fun z => tabs_put hH' (fun _ k => by cases k) (fun _ _ k => by cases k) (fun _ _ k => by cases k) (st.tb z), st.nt, fun a o u h => ?_⟩
  · have ne : a ≠ d := fun e => by rw [e, hF] at n; cases n
    rw [upd_ne ne]
    exact st.keep a u h n w nt
  · have ne : a ≠ d := fun e => by rw [e, hH] at h; cases h
    rw [upd_ne ne]
    exact st.fz a o u h
theorem PostS.lock {F H : Hp} {ow : Nat → Addr → Prop} {d : Addr} {od : Obj} {kvs : List (Key × V)} {K K' : KTS α} {r : Res α} (hF : F d = some (.dK kvs)) (hH : H d = some (.dK kvs)) (h : PostS R W F H ow K r)
    (hk : ∀ a env σ' F' H' ow', H' d = some (.frz od (.dK kvs)) → K a env σ' F' (upd H' d (.dK kvs)) ow' → K' a env σ' F' H' ow') : PostS R W F (upd H d (.frz od (.dK kvs))) ow K' r := by
  cases r with
  | no => exact h.elim
  | ok a env =>
    intro σ' F' H' ow' st s p
    have e := st.fz d od _ upd_same
    have st1 := Step.ofLock hF hH st
    exact hk a env σ' F' H' ow' e (h σ' F' _ ow' (Step.unlock hF hH st1 e) (unlock_sr s (st.ex d _ hF) e) p)
  | ex c fs env =>
    intro d' kvs' σ' F' H' ow' st s p xd rx
    exact h d' kvs' σ' F' H' ow' (Step.ofLock hF hH st) s p xd rx
theorem walk_keys {F H : Hp} {d : Addr} {o : Obj} {ks : List (Key × D)} {kvs : List (Key × V)} (hd : H d = some (.frz o (.dK kvs))) (r : RepK R F ks kvs) : WalkD R (Itk d o kvs) (ks.map fun p => kD p.1) F H := by
  intro i F' H' le g fz
  have hd' := fz d o _ hd
  have hl : kvs.length = ks.length := r.length
  refine ⟨fun x hx => ?_, fun e => ⟨hd', by rw [hl, e, List.length_map]; exact Nat.le_refl _⟩⟩
  rw [List.getElem?_map] at hx
  obtain ⟨p, hp, rfl⟩ := Option.map_eq_some_iff.mp hx
  obtain ⟨v, hv, rv⟩ := r.get hp
  refine ⟨⟨hd', by rw [hl]; exact (List.getElem?_eq_some_iff.mp hp).1⟩, fun w H2 hy => ?_⟩
  obtain ⟨rfl, k, v', e1, rfl⟩ := hy
  rw [hv] at e1
  cases e1
  exact ⟨F', .refl le, kD_rep p.1⟩
end
theorem ps_or {X : Cx} {st : Stmt} {t t' : TS} (h : PS X st t) (h' : PS X st t') : PS X st fun Dn σ H => t Dn σ H ∨ t' Dn σ H :=
  ⟨fun pins s σ H Dn I q => q.elim (h.run pins s σ H Dn I) (h'.run pins s σ H Dn I)⟩
/-- for k in d: .. -/
def dForD (i : Nat) (t : D → M Unit) (b : M Fl) : M Fl := fun e => match gt e i with
  | some (.d (.dic ks)) => dForL t b (ks.map fun p => kD p.1) e
  | _ => .no
section
variable {X : Cx} {R : RC} {W : WP} {pos py : Pos} {y : Str} {tg : Expr} {body : List Stmt} {i : Nat} {t : D → M Unit} {b : M Fl}
theorem js_forD (hp : PassesOwn (model X.prog X.w) X.A X.env X.xe) (hc : X.calm = true) (hy : PE X (.Name y py) (tVar i)) (hg : PG X tg (LG R W.pn t)) (hb : PSs X body (LS R W b)) (hs : ∀ x, foldedSetIterable (.Name y py) X.env x = pure x := by intro _; rfl) :
    PS X (.For tg (.Name y py) body [] pos) (LS R W (dForD i t b)) :=
  wkS (ps_or (ps_for hp hc (pi_keys hy) hg hb hs) (ps_lock (ps_for hp hc (pi_keys hy) hg hb hs))) fun Dn σ H ⟨F, env, ow, s, pn, h⟩ => by
    unfold dForD at h
    cases e : gt env i with
    | none => simp only [e] at h; exact h.elim
    | some sl =>
      cases sl with
      | o o => simp only [e] at h; exact h.elim
      | d x =>
        cases x with
        | dic ks =>
          simp only [e] at h
          obtain ⟨v, hv, d, kvs, rfl, h1, h2⟩ := s.sl i _ e
          have locked : ∀ {H : Hp} {o : Obj} {Dn : Ends}, SR R F H σ env ow → H d = some (.frz o (.dK kvs)) → PostS R W F H ow (KS R Dn) (dForL t b (ks.map fun p => kD p.1) env) → tFor (iKeys (tVar i)) (LG R W.pn t) (LS R W b) Dn σ H := fun {H o Dn} s hd h =>
            ⟨.ref d, hv, d, o, rfl, .inl ⟨kvs, hd, for_core (walk_keys hd h2) s pn h⟩⟩
          rcases h1 with h1 | ⟨o, h1⟩
          · rcases s.le d _ h1 with h3 | ⟨kvs', o, e1, h3⟩
            · refine .inr ⟨d, _, h3, trivial, fun od => locked (lock_sr s h1 h3) upd_same (PostS.lock h1 h3 h fun fl env' σ' F' H' ow' e1 k => ?_)⟩
              cases fl with
              | nx => exact ⟨e1, k⟩
              | brk => exact ⟨e1, k⟩
              | cnt => exact ⟨e1, k⟩
              | ret x => exact fun v rv => ⟨e1, k v rv⟩
            · cases e1
              exact .inl (locked s h3 h)
          · rcases s.le d _ h1 with h3 | ⟨kvs', o', e1, h3⟩
            · exact .inl (locked s h3 h)
            · cases e1
        | _ => simp only [e] at h; exact h.elim
end
end Dv
set_option Elab.async false
set_option linter.all false
set_option maxRecDepth 100000
set_option maxHeartbeats 4000000
/-! Dv28: d[k], displays of dicts, in. -/
namespace Dv
open PySem PySem.Spec PyProof.Rows L2
variable [TabC]
def dK? : D → Option Key
  | .int i => some (.inl i)
  | .str x => some (.inr x)
  | _ => none
theorem dK_rep {R : RC} {F H : Hp} {y : D} {u : V} {k : Key} (r : RepT R F H y u) (e : dK? y = some k) : u = kV k := by
  cases y <;> cases e
  · exact r
  · exact r
/-- what a dict says of a key -/
def lkD (ks : List (Key × D)) (k : Key) : Option D := match ks with
  | [] => none
  | p :: r => if p.1 = k then some p.2 else lkD r k
def gDGet : D → D → Option Opd
  | .dic ks, y => (dK? y).bind fun k => (lkD ks k).map .d
  | _, _ => none
theorem lk_rep {R : RC} {F : Hp} {k : Key} : ∀ {ks : List (Key × D)} {kvs : List (Key × V)} {x : D}, RepK R F ks kvs → lkD ks k = some x → ∃ v, valV kvs k = some v ∧ Rep R F x v
  | [], _, _, _, e => by cases e
  | p :: r, kvs, x, h, e => by
    obtain ⟨v, vr, rfl, h1, h2⟩ := h
    unfold lkD at e
    by_cases c : p.1 = k
    · rw [if_pos c] at e
      cases e
      exact ⟨v, valV_pos c, h1⟩
    · rw [if_neg c] at e
      obtain ⟨w, e1, e2⟩ := lk_rep h2 e
      exact ⟨w, by rw [valV_neg c]; exact e1, e2⟩
def rDG : R2 := fun x y H Q => ∃ a v, x = .ref a ∧ DGet H a y (some v) ∧ Q v H
theorem op2_dget {R : RC} : Op2 R gDGet rDG := fun F H x y v u p Q le h1 h2 e q => by
  unfold gDGet at e
  split at e
  · rename_i ks y'
    obtain ⟨k, e1, e2⟩ := Option.bind_eq_some_iff.mp e
    obtain ⟨z, e3, rfl⟩ := Option.map_eq_some_iff.mp e2
    obtain ⟨a, kvs, rfl, g1, g2⟩ := h1
    obtain ⟨w, e4, e5⟩ := lk_rep g2 e3
    exact ⟨a, w, rfl, .inl ⟨kvs, k, g1, dK_rep h2 e1, e4.symm⟩, q _ F H (.refl le) e5⟩
  · cases e
theorem dOp2_or {g g' : D → D → Option Opd} {ma mb : M Opd} (e : En) : dOp2 (gOr g g') ma mb e = dOp2 g ma mb e ∨ dOp2 (gOr g g') ma mb e = dOp2 g' ma mb e := by
  unfold dOp2 bnd
  cases ma e with
  | no => exact .inl rfl
  | ex c fs e' => exact .inl rfl
  | ok p e1 =>
    simp only
    cases hold p e1 with
    | no => exact .inl rfl
    | ex c fs e' => exact .inl rfl
    | ok p1 e2 =>
      simp only
      cases mb e2 with
      | no => exact .inl rfl
      | ex c fs e' => exact .inl rfl
      | ok q e3 =>
        simp only
        cases rd p1 e3 with
        | no => exact .inl rfl
        | ex c fs e' => exact .inl rfl
        | ok x e4 =>
          simp only
          cases rd q e4 with
          | no => exact .inl rfl
          | ex c fs e' => exact .inl rfl
          | ok y e5 =>
            simp only
            unfold gOr
            cases eg : g x y with
            | some r => exact .inl rfl
            | none => exact .inr rfl
section
variable {X : Cx} {R : RC} {W : WX} {pos : Pos} {a b : Expr} {ma mb : M Opd}
theorem LE_or2 {g g' : D → D → Option Opd} {σ H Q} (h : LE R W (dOp2 (gOr g g') ma mb) σ H Q) : LE R W (dOp2 g ma mb) σ H Q ∨ LE R W (dOp2 g' ma mb) σ H Q := by
  obtain ⟨F, env, ow, s, h⟩ := h
  rcases dOp2_or (g := g) (g' := g') (ma := ma) (mb := mb) env with e | e
  · rw [e] at h
    exact .inl ⟨F, env, ow, s, h⟩
  · rw [e] at h
    exact .inr ⟨F, env, ow, s, h⟩
theorem pe_orE {e : Expr} {t t' : TE} (h : PE X e t) (h' : PE X e t') : PE X e fun σ H Q => t σ H Q ∨ t' σ H Q := ⟨fun pins s σ H Q I q => q.elim (h.run pins s σ H Q I) (h'.run pins s σ H Q I)⟩
theorem je_dget (hu : X.A.units + 1 < cLine) (ha : PE X a (LE R W ma)) (hb : PE X b (LE R W mb)) (hs : NoSl b) : PE X (.Subscript a b pos) (LE R W (dOp2 gDGet ma mb)) := wkE (pe_dget hu ha hb hs) fun _ _ _ h => LE_op2 (r := rDG) op2_dget h
/-- x[i]: of a sequence or of a dict -/
def gSub2 : D → D → Option Opd := gOr gIx gDGet
theorem je_subA (hu : X.A.units + 1 < cLine) (ha : PE X a (LE R W ma)) (hb : PE X b (LE R W mb)) (hs : NoSl b) (hK : X.K = R.K := by rfl) : PE X (.Subscript a b pos) (LE R W (dOp2 gSub2 ma mb)) :=
  wkE (pe_orE (je_sub1 ha hb hs hK) (je_dget hu ha hb hs)) fun _ _ _ h => LE_or2 h
/-! ### in a list of anything -/
def gInP (neg : Bool) : D → D → Option Opd := fun x y => match toP x, (itemsL y).bind toPs with
  | some d, some ds => if SeqAt.shaped d = true ∧ SeqAt.shaped (.list ds) = true then some (.d (.bl (if neg then !ds.any fun z => PyData.eqv z d else ds.any fun z => PyData.eqv z d))) else none
  | _, _ => none
def rInP (K : PySem.W.Frag) (neg : Bool) : R2 := fun x y H Q => ∃ d ds, Dp K H x d ∧ Dp K H y (.list ds) ∧ SeqAt.shaped d = true ∧ SeqAt.shaped (.list ds) = true ∧ Q (.bl (if neg then !ds.any fun z => PyData.eqv z d else ds.any fun z => PyData.eqv z d)) H
theorem op2_inP {neg : Bool} : Op2 R (gInP neg) (rInP R.K neg) := fun F H x y v u p Q le h1 h2 e q => by
  unfold gInP at e
  split at e
  · rename_i d ds e1 e2
    split at e
    · rename_i c
      cases e
      obtain ⟨ys, e3, e4⟩ := Option.bind_eq_some_iff.mp e2
      refine ⟨d, ds, toP_ok (h1.rep le) e1, ?_, c.1, c.2, q _ F H (.refl le) rfl⟩
      have e5 : toP y = some (.list ds) := by
        cases y <;> cases e3
        · show (toPs ys).map PyData.list = _
          rw [e4]; rfl
        · show (toPs ys).map PyData.list = _
          rw [e4]; rfl
      exact toP_ok (h2.rep le) e5
    · cases e
  · cases e
theorem je_inP (hu : X.A.units + 65 < cLine) (ha : PE X a (LE R W ma)) (hb : PE X b (LE R W mb)) (hm : behindInMarks .In b = false := by rfl) (hK : X.K = R.K := by rfl) : PE X (.Compare a [.In] [b] pos) (LE R W (dOp2 (gInP false) ma mb)) := je_cmp (r := rInP X.K false) (op_inD hu) (hK ▸ op2_inP) ha hb hm
theorem je_notinP (hu : X.A.units + 65 < cLine) (ha : PE X a (LE R W ma)) (hb : PE X b (LE R W mb)) (hm : behindInMarks .NotIn b = false := by rfl) (hK : X.K = R.K := by rfl) : PE X (.Compare a [.NotIn] [b] pos) (LE R W (dOp2 (gInP true) ma mb)) := je_cmp (r := rInP X.K true) (op_notInD hu) (hK ▸ op2_inP) ha hb hm
/-- x in y: plain items, or a list of anything -/
def gInA (neg : Bool) : D → D → Option Opd := gOr (gIn neg) (gInP neg)
theorem je_inA (hu : X.A.units + 65 < cLine) (ha : PE X a (LE R W ma)) (hb : PE X b (LE R W mb)) (hm : behindInMarks .In b = false := by rfl) (hK : X.K = R.K := by rfl) : PE X (.Compare a [.In] [b] pos) (LE R W (dOp2 (gInA false) ma mb)) :=
  wkE (pe_orE (je_in ha hb hm hK) (je_inP hu ha hb hm hK)) fun _ _ _ h => LE_or2 h
theorem je_notinA (hu : X.A.units + 65 < cLine) (ha : PE X a (LE R W ma)) (hb : PE X b (LE R W mb)) (hm : behindInMarks .NotIn b = false := by rfl) (hK : X.K = R.K := by rfl) : PE X (.Compare a [.NotIn] [b] pos) (LE R W (dOp2 (gInA true) ma mb)) :=
  wkE (pe_orE (je_notin ha hb hm hK) (je_notinP hu ha hb hm hK)) fun _ _ _ h => LE_or2 h
theorem LT_or2 {g g' : D → D → Option Opd} {σ H} {Q : Bool → Hp → Prop} (h : LT R W (dBl (dOp2 (gOr g g') ma mb)) σ H Q) : LT R W (dBl (dOp2 g ma mb)) σ H Q ∨ LT R W (dBl (dOp2 g' ma mb)) σ H Q := by
  obtain ⟨F, env, ow, s, h⟩ := h
  unfold dBl bnd at h
  rcases dOp2_or (g := g) (g' := g') (ma := ma) (mb := mb) env with e | e
  · rw [e] at h
    exact .inl ⟨F, env, ow, s, h⟩
  · rw [e] at h
    exact .inr ⟨F, env, ow, s, h⟩
theorem pt_orE {e : Expr} {t t' : TT} (h : PT X e t) (h' : PT X e t') : PT X e fun σ H Q => t σ H Q ∨ t' σ H Q := ⟨fun pins s σ H Q I q => q.elim (h.run pins s σ H Q I) (h'.run pins s σ H Q I)⟩
theorem jt_inA (hu : X.A.units + 65 < cLine) (ha : PE X a (LE R W ma)) (hb : PE X b (LE R W mb)) (hm : behindInMarks .In b = false := by rfl) (hK : X.K = R.K := by rfl) : PT X (.Compare a [.In] [b] pos) (LT R W (dBl (dOp2 (gInA false) ma mb))) :=
  wkT (pt_orE (jt_in ha hb hm hK) (jt_cmp (r := rInP X.K false) (op_inD hu) (hK ▸ op2_inP) ha hb hm)) fun _ _ _ h => LT_or2 h
theorem jt_notinA (hu : X.A.units + 65 < cLine) (ha : PE X a (LE R W ma)) (hb : PE X b (LE R W mb)) (hm : behindInMarks .NotIn b = false := by rfl) (hK : X.K = R.K := by rfl) : PT X (.Compare a [.NotIn] [b] pos) (LT R W (dBl (dOp2 (gInA true) ma mb))) :=
  wkT (pt_orE (jt_notin ha hb hm hK) (jt_cmp (r := rInP X.K true) (op_notInD hu) (hK ▸ op2_inP) ha hb hm)) fun _ _ _ h => LT_or2 h
theorem rmu65 {k : Nat} {A : Around} (r : Room k A) : A.units + 65 < cLine := by have := r.un; omega
end
/-! ### for x in y: a list, a tuple, the keys of a dict -/
def dForN (i : Nat) (t : D → M Unit) (b : M Fl) : M Fl := fun e => match gt e i with
  | some (.d (.dic ks)) => dForD i t b e
  | _ => dFor (dIt (dNm i)) t b e
section
variable {X : Cx} {R : RC} {W : WP} {pos py : Pos} {y : Str} {tg : Expr} {body : List Stmt} {i : Nat} {t : D → M Unit} {b : M Fl}
theorem js_forN (hp : PassesOwn (model X.prog X.w) X.A X.env X.xe) (hc : X.calm = true) (hy : PE X (.Name y py) (tVar i)) (hn : PE X (.Name y py) (LE R W.w (dNm i))) (hg : PG X tg (LG R W.pn t)) (hb : PSs X body (LS R W b)) (hs : ∀ x, foldedSetIterable (.Name y py) X.env x = pure x := by intro _; rfl) (hK : X.K = R.K := by rfl) :
    PS X (.For tg (.Name y py) body [] pos) (LS R W (dForN i t b)) :=
  wkS (ps_or (js_forD hp hc hy hg hb hs) (js_for hp hc (ji_seq hn hK) hg hb hs)) fun Dn σ H ⟨F, env, ow, s, pn, h⟩ => by
    unfold dForN at h
    cases e : gt env i with
    | none => simp only [e] at h; exact .inr ⟨F, env, ow, s, pn, h⟩
    | some sl =>
      cases sl with
      | o o => simp only [e] at h; exact .inr ⟨F, env, ow, s, pn, h⟩
      | d x =>
        cases x with
        | dic ks => simp only [e] at h; exact .inl ⟨F, env, ow, s, pn, h⟩
        | _ => simp only [e] at h; exact .inr ⟨F, env, ow, s, pn, h⟩
end
end Dv
set_option Elab.async false
set_option linter.all false
set_option maxRecDepth 100000
set_option maxHeartbeats 4000000
/-! Dv29: displays of dicts. -/
namespace Dv
open PySem PySem.Spec PyProof.Rows L2
variable [TabC]
def putD (ks : List (Key × D)) (k : Key) (x : D) : List (Key × D) := if (ks.any fun kv => decide (kv.1 = k)) = true then ks.map (fun kv => if kv.1 = k then (kv.1, x) else kv) else ks ++ [(k, x)]
def mrgD (ks more : List (Key × D)) : List (Key × D) := more.foldl (fun acc kv => putD acc kv.1 kv.2) ks
theorem RepK.any {R : RC} {F : Hp} {k : Key} : ∀ {ks : List (Key × D)} {kvs : List (Key × V)}, RepK R F ks kvs → (kvs.any fun kv => decide (kv.1 = k)) = (ks.any fun kv => decide (kv.1 = k))
  | [], kvs, h => by
    have h : kvs = [] := h
    subst h; rfl
  | p :: r, kvs, h => by
    obtain ⟨v, vr, rfl, h1, h2⟩ := h
    rw [List.any_cons, List.any_cons, RepK.any h2]
theorem RepK.snoc {R : RC} {F : Hp} {k : Key} {x : D} {v : V} (rx : Rep R F x v) : ∀ {ks : List (Key × D)} {kvs : List (Key × V)}, RepK R F ks kvs → RepK R F (ks ++ [(k, x)]) (kvs ++ [(k, v)])
  | [], kvs, h => by
    have h : kvs = [] := h
    subst h
    exact ⟨v, [], rfl, rx, rfl⟩
  | p :: r, kvs, h => by
    obtain ⟨w, vr, rfl, h1, h2⟩ := h
    exact ⟨w, _, rfl, h1, RepK.snoc rx h2⟩
theorem RepK.upd {R : RC} {F : Hp} {k : Key} {x : D} {v : V} (rx : Rep R F x v) : ∀ {ks : List (Key × D)} {kvs : List (Key × V)}, RepK R F ks kvs → RepK R F (ks.map fun kv => if kv.1 = k then (kv.1, x) else kv) (kvs.map fun kv => if kv.1 = k then (kv.1, v) else kv)
  | [], kvs, h => by
    have h : kvs = [] := h
    subst h; rfl
  | p :: r, kvs, h => by
    obtain ⟨w, vr, rfl, h1, h2⟩ := h
    rw [List.map_cons, List.map_cons]
    by_cases c : p.1 = k
    · rw [if_pos c, if_pos (show ((p.1, w) : Key × V).1 = k from c)]
      exact ⟨v, _, rfl, rx, RepK.upd rx h2⟩
    · rw [if_neg c, if_neg (show ¬ ((p.1, w) : Key × V).1 = k from c)]
      exact ⟨w, _, rfl, h1, RepK.upd rx h2⟩
theorem RepK.put {R : RC} {F : Hp} {k : Key} {x : D} {v : V} {ks : List (Key × D)} {kvs : List (Key × V)} (rx : Rep R F x v) (h : RepK R F ks kvs) : RepK R F (putD ks k x) (putK kvs k v) := by
  unfold putD putK
  rw [RepK.any h]
  split
  · exact RepK.upd rx h
  · exact RepK.snoc rx h
theorem RepK.mrg {R : RC} {F : Hp} : ∀ {keys : List Key} {xs : List D} {vs : List V} {ks : List (Key × D)} {kvs : List (Key × V)}, Reps R F xs vs → RepK R F ks kvs → RepK R F (mrgD ks (keys.zip xs)) (mergeK kvs (keys.zip vs))
  | [], _, _, _, _, _, h => h
  | _ :: _, [], vs, _, _, r, h => by
    have r : vs = [] := r
    subst r
    exact h
  | k :: keys, x :: xs, vs, ks, kvs, r, h => by
    obtain ⟨v, vr, rfl, r1, r2⟩ := r
    exact RepK.mrg (keys := keys) r2 (RepK.put r1 h)
/-- {k: e, ..} -/
def dDict (keys : List Key) (ms : List (M Opd)) : M Opd := bnd (dArgs ms) fun xs => opt (if xs.length = keys.length ∧ keys.length ≤ 15 then some (.n (.dic (mrgD [] (keys.zip xs)))) else none)
section
variable {X : Cx} {R : RC} {W : WX} {pos p : Pos} {j : Nat} {ke : Expr} {ee : Expr} {keys : List Key} {ms : List (M Opd)} {m : M Opd} {kes : List (Option Expr)} {ees : List Expr} {trs : List (TE × TE)}
theorem LA_uncons {σ H} {Q : List V → Hp → Prop} (h : LA R W (dArgs (m :: ms)) σ H Q) : LE R W m σ H fun v H1 => LA R W (dArgs ms) σ H1 fun vs H2 => Q (v :: vs) H2 := by
  obtain ⟨F, env, ow, s, h⟩ := h
  refine LE_mono (LE_bnd s h) fun v H1 ⟨p, env1, F1, ow1, s1, st1, ok1, h⟩ => ?_
  obtain ⟨x, env2, ex, h⟩ := h.ofPub
  obtain ⟨F2, ow2, s2, st2, r2⟩ := pub_step s.nofU s1 st1 ok1 ex
  refine LA_mono (LA_bnd s2 (h.step s.nofU st2)) fun vs H3 ⟨xs, env3, F3, ow3, s3, st3, r3, h⟩ => ?_
  exact h F3 H3 ow3 st3 s3 (v :: vs) ⟨v, vs, rfl, r2.mono st3.le, r3⟩
/-- the displays' pairs: constant keys -/
structure PDs (X : Cx) (R : RC) (W : WX) (pos : Pos) (kes : List (Option Expr)) (ees : List Expr) (keys : List Key) (ms : List (M Opd)) : Prop where
  ex : ∃ trs, PPs X pos kes ees trs ∧ ∀ σ H (Q : List (V × V) → Hp → Prop), LA R W (dArgs ms) σ H (fun vs H1 => Q ((keys.map kV).zip vs) H1) → tPairs trs σ H Q
  all : kes.all (·.isSome) = true
  len : kes.length = ees.length
  lk : kes.length = keys.length
theorem jd_nil : PDs X R W pos [] [] [] [] := ⟨⟨[], pps_nil, fun σ H Q ⟨F, env, ow, s, h⟩ => h F H ow (.refl _ _ _) s [] rfl⟩, rfl, rfl, rfl⟩
theorem jd_cons {k : Key} (hk : PE X ke (tC (kV k))) (he : PE X ee (LE R W m)) (hr : PDs X R W pos kes ees keys ms) : PDs X R W pos (some ke :: kes) (ee :: ees) (k :: keys) (m :: ms) := by
  obtain ⟨⟨trs, h1, h2⟩, a, l, lk⟩ := hr
  refine ⟨⟨_, pps_cons hk he h1, fun σ H Q h => ?_⟩, ?_, ?_, ?_⟩
  · show LE R W m σ H _
    exact LE_mono (LA_uncons h) fun v H1 q => h2 σ H1 _ q
  · rw [List.all_cons, a]; rfl
  · rw [List.length_cons, List.length_cons, l]
  · rw [List.length_cons, List.length_cons, lk]
theorem zip_kV : ∀ (keys : List Key) (vs : List V), (keys.map kV).zip vs = (keys.zip vs).map fun kv => (kV kv.1, kv.2)
  | [], _ => rfl
  | _ :: _, [] => rfl
  | k :: ks, v :: vs => by
    show (kV k, v) :: (ks.map kV).zip vs = (kV k, v) :: (ks.zip vs).map _
    rw [zip_kV ks vs]
theorem je_dict (hd : PDs X R W pos kes ees keys ms) (h0 : kes ≠ []) (h15 : kes.length ≤ 15) : PE X (.Dict kes ees pos) (LE R W (dDict keys ms)) := by
  obtain ⟨⟨trs, h1, h2⟩, a, l, lk⟩ := hd
  refine wkE (pe_disp h1 a l h0 h15) fun σ H Q ⟨F, env, ow, s, h⟩ p hp => ?_
  obtain ⟨xt, fp⟩ := Ext.newO (u := .dK []) s.le hp
  obtain ⟨j1, j2, _⟩ := xt.fin (p := .d .non) (w := .non) s rfl
  have np : ¬ un ow p := fun ⟨i, z⟩ => (s.nof i p z).2 (.of hp)
  have ovp : Ov H p := .of hp
  refine h2 σ _ _ ⟨F, env, ow, j2, (h.fst.step s.nofU j1).mono fun xs env1 F1 H1 ow1 st1 s1 k vs rv => ?_⟩
  obtain ⟨hD, fD, oD⟩ := st1.off upd_same fp np nt_dK
  refine ⟨hD, keys.zip vs, zip_kV keys vs, by rw [List.length_zip]; omega, ?_⟩
  unfold opt at k
  split at k
  · rename_i r er
    split at er
    · rename_i c
      cases er
      have sP : SR R F1 (upd H1 p (.dK (mergeK [] (keys.zip vs)))) σ env1 ow1 := s1.putOff hD fD oD nt_dK (fun _ _ z => by cases z)
      have stP : Step F H (un ow) F1 (upd H1 p (.dK (mergeK [] (keys.zip vs)))) (un ow1) := (j1.trans s.nofU st1).putOff hp hD nt_dK (fun _ _ z => by cases z)
      exact k F1 _ ow1 stP sP (.ref p) ⟨fun b => b = p, ⟨p, _, rfl, rfl, upd_same, RepK.mrg (ks := []) (kvs := []) rv rfl⟩, fun b z => by
        cases z
        exact ⟨fD, fun z => z.no upd_same nt_dK, .inr ovp⟩, fun i b z e => by
        cases e
        exact oD ⟨i, z⟩⟩
    · cases er
  · exact k.elim
end
end Dv
set_option Elab.async false
set_option linter.all false
set_option maxRecDepth 100000
set_option maxHeartbeats 4000000
/-! Dv30: the start of a law. -/
namespace Dv
open PySem PySem.Spec PyProof.Rows L2 LamX
open Classical in
noncomputable def allC (F H : Hp) : Hp := fun b => if F b = none ∧ ∃ q, H b = some (CodeO b q) then H b else F b
theorem law_start {P a : Addr} {q : Str} {fn : Fn} {H : Hp} {ns : List Int} (R : RC) (hT : H P = some (.tbl #[])) (hS : SqL R.K H a (ns.map V.int)) (h : fn none [.rol (ns.map .int)] = .ok (.bl true) none) :
    letI : TabC := ⟨[(P, q)]⟩
    spD R 1 fn [.ref a] H (fun v _ => v = .bl true) fun _ _ _ => False := by
  letI : TabC := ⟨[(P, q)]⟩
  have key : ∃ F : Hp, Le F H ∧ nT F ∧ SqL R.K F a (ns.map V.int) := by
    rcases hS with hS | hS
    · refine ⟨fun b => if b = a then H a else none, fun b u e => ?_, fun b u e => ?_, .inl ?_⟩
      · have e : (if b = a then H a else none) = some u := e
        by_cases c : b = a
        · rw [if_pos c] at e
          exact .inl (c ▸ e)
        · rw [if_neg c] at e
          cases e
      · have e : (if b = a then H a else none) = some u := e
        by_cases c : b = a
        · rw [if_pos c] at e
          rcases hS with hS | ⟨o, hS⟩
          · rw [hS] at e; cases e; exact nt_lst
          · rw [hS] at e; cases e; exact fun _ z => by cases z
        · rw [if_neg c] at e
          cases e
      · rcases hS with hS | ⟨o, hS⟩
        · exact .inl ((if_pos rfl).trans hS)
        · exact .inr ⟨o, (if_pos rfl).trans hS⟩
    · exact ⟨fun _ => none, fun _ _ e => (by cases e), fun _ _ e => (by cases e), .inr hS⟩
  obtain ⟨F, le, nt, sq⟩ := key
  have ex : ∀ b u, F b = some u → allC F H b = some u := fun b u h => by
    unfold allC
    rw [if_neg (fun z => by rw [h] at z; cases z.1)]
    exact h
  have cs : ∀ b u, allC F H b = some u → F b = some u ∨ ((∃ q, u = CodeO b q) ∧ H b = some u) := fun b u h => by
    unfold allC at h
    split at h
    · rename_i z
      obtain ⟨_, q, z3⟩ := z
      rw [z3] at h
      cases h
      exact .inr ⟨⟨q, rfl⟩, z3⟩
    · exact .inl h
  refine ⟨allC F H, fun _ => False, none, [.rol (ns.map .int)], [.ref a], fun b u h => ?_, ⟨⟨fun p hp => ?_, fun c q z => ?_⟩, fun b u h => ?_⟩, fun _ z => z.elim, rfl, ⟨.ref a, [], rfl, ⟨a, _, rfl, (Le.ofEx ex).sqL sq, Reps.of_ints ns⟩, rfl⟩, rfl, ?_⟩
  · rcases cs b u h with h | ⟨_, h⟩
    · exact le b u h
    · exact .inl h
  · rw [List.mem_singleton.mp hp]
    exact TabS.nil hT
  · cases hf : F c with
    | none =>
      unfold allC
      rw [if_pos ⟨hf, q, z⟩]; exact z
    | some w =>
      rw [ex c w hf]
      rcases le c w hf with k | ⟨kvs, o, rfl, k⟩
      · rw [z] at k; exact k.symm
      · rw [z] at k; cases k
  · rcases cs b u h with h | ⟨⟨q, rfl⟩, _⟩
    · exact nt b u h
    · exact nt_codeO
  · rw [h]
    exact fun v F' H' S' _ _ _ _ rv => rv
end Dv
set_option Elab.async false
set_option linter.all false
set_option maxRecDepth 100000
set_option maxHeartbeats 4000000
/-! Dv31: two names take the parts of a tuple that is made; what the second takes may be a new object. -/
namespace Dv
open PySem PySem.Spec PyProof.Rows L2
variable [TabC]
def noS : Opd → M Opd
  | .s _ => nop
  | p => pur p
def dAsg2 (i j : Nat) (ma mb : M Opd) : M Fl := bnd ma fun p => bnd (pub p) fun x => bnd mb fun q => bnd (noS q) fun q => bnd (setS i (.d x)) fun _ => bnd (setS j q) fun _ => pur .nx
theorem js_asg2 {X : Cx} {R : RC} {W : WP} {pos : Pos} {i j : Nat} {x y : Str} {a b : Expr} {ma mb : M Opd} {px py pt : Pos} {kt k2 pt2} (hK : X.K = R.K) (hc : X.calm = true) (hN : X.N.Nodup) (hi : X.N[i]? = some x) (hj : X.N[j]? = some y) (lx : Loc X.env.scope x) (ly : Loc X.env.scope y)
    (fx : X.fn x = true ∨ X.env.scope.names.lookup x = some .local) (fy : X.fn y = true ∨ X.env.scope.names.lookup y = some .local)
    (ha : PE X a (LE R W.w ma)) (hb : PE X b (LE R W.w mb)) (hpi : i ≠ 0 ∨ W.pn = none) (hpj : j ≠ 0 ∨ W.pn = none)
    (h1 : starEach (a :: [b]) X.env = (false, eval a X.env) :: starEach [b] X.env := by rfl) (h2 : starEach (b :: []) X.env = (false, eval b X.env) :: starEach [] X.env := by rfl)
    (h3 : (assignEach (Expr.Name x px :: [.Name y py]) X.env).map (·.2) = assign (.Name x px) X.env :: (assignEach [.Name y py] X.env).map (·.2) := by rfl)
    (h4 : (assignEach (Expr.Name y py :: []) X.env).map (·.2) = assign (.Name y py) X.env :: (assignEach [] X.env).map (·.2) := by rfl)
    (h5 : (assignEach [Expr.Name x px, .Name y py] X.env).length = 2 := by rfl) (h6 : (assignEach [Expr.Name x px, .Name y py] X.env).findIdx? (·.1) = none := by rfl)
    (hs : swapsWithSole [.Tuple [.Name x px, .Name y py] kt pt] (.Tuple [a, b] k2 pt2) pos.line X.env = pure false := by rfl) (hw : swappedStores [.Tuple [.Name x px, .Name y py] kt pt] (.Tuple [a, b] k2 pt2) X.env = pure none := by rfl)
    (h7 : (assignEach [Expr.Tuple [.Name x px, .Name y py] kt pt] X.env).map (·.2) = [assign (.Tuple [.Name x px, .Name y py] kt pt) X.env] := by rfl) :
    PS X (.Assign [.Tuple [.Name x px, .Name y py] kt pt] (.Tuple [a, b] k2 pt2) pos) (LS R W (dAsg2 i j ma mb)) :=
  wkS (ps_asg (pe_tup (pa_cons ha (pa_cons hb pa_nil h2) h1)) (pg_tup hc (pgs_cons (pg_name hN hi lx fx) (pgs_cons (pg_name hN hj ly fy) pgs_nil h4) h3) h5 h6) hs hw h7) fun Dn σ H ⟨F, env, ow, s, pn, h⟩ => by
    refine LE_mono (SE_bnd s pn h) fun v H1 ⟨p, env1, F1, ow1, s1, st1, ok1, h⟩ => ?_
    obtain ⟨x1, env2, ex, h⟩ := h.ofPub
    obtain ⟨F2, ow2, s2, st2, r2⟩ := pub_step s.nofU s1 st1 ok1 ex
    refine LE_mono (SE_bnd s2 pn (h.step s.nofU st2)) fun w H3 ⟨q, env3, F3, ow3, s3, st3, ok3, h⟩ => ?_
    refine ⟨by show 2 ≤ sizeLine; decide, fun p0 hp => ?_⟩
    obtain ⟨xt, f0⟩ := Ext.newO (u := .tup [v, w]) s3.le hp
    obtain ⟨j1, j2, _⟩ := xt.fin (p := .d .non) (w := .non) s3 rfl
    have st4 := st3.trans s2.nofU j1
    obtain ⟨ow4, s4, k4⟩ := j2.setD (i := i) (r2.mono (.ofEx st3.ex))
    have st5 := st4.less (ow2 := un ow4) fun a ⟨l, z⟩ => .inl ⟨l, k4 l a z⟩
    refine ⟨p0, [v, w], rfl, hK ▸ .of upd_same, rfl, v, [w], rfl, w, [], rfl, rfl, ?_⟩
    cases q with
    | s l => exact h.elim
    | d y1 =>
      obtain ⟨ow5, s5, k5⟩ := s4.setD (i := j) (x := y1) (v := w) ok3
      exact h _ F3 _ ow5 (st5.less fun a ⟨l, z⟩ => .inl ⟨l, k5 l a z⟩) s5 (WP.pinSet w (WP.pinSet v pn hpi) hpj)
    | n o =>
      obtain ⟨S, q1, q2, q3⟩ := ok3
      have ne : ∀ c, S c → c ≠ p0 := fun c z e => (q2 c z).2.1 (e ▸ .of hp)
      have q1' : RepO R F3 (upd H3 p0 (.tup [v, w])) o w S := q1.mono (.refl _) (fun c u z _ e => by rw [upd_ne (ne c z)]; exact e) fun _ z => z
      obtain ⟨ow5, s5, k5⟩ := s4.setO (i := j) q1' (fun c z => ⟨(q2 c z).1, fun e => (q2 c z).2.1 (e.eq (upd_ne (ne c z)).symm)⟩) fun l c z e => q3 l c (k4 l c z) e
      exact h _ F3 _ ow5 (st5.less fun c ⟨l, z⟩ => (k5 l c z).imp (fun z => ⟨l, z⟩) fun z => (q2 c z).2.2) s5 (WP.pinSet w (WP.pinSet v pn hpi) hpj)
/-! ### the sum of a list or a tuple of ints -/
def rSumT (K : PySem.W.Frag) : List V → Hp → VK → Prop := fun vs H Q => ∃ (a : Addr) (ns : List Int), vs = [V.ref a] ∧ (SqL K H a (ns.map V.int) ∨ SqT K H a (ns.map V.int)) ∧ Q (.int ns.sum) H
theorem cr_sumA {X : Cx} (hc : X.calm = true) : CallR X (.builtin "sum") (rSumT X.K) := by
  intro pins s σ H vs us Q I r h
  obtain ⟨a, ns, rfl, hs, q⟩ := h
  rcases hs with hs | hs
  · exact cr_sum hc pins s σ H _ us Q I r ⟨a, ns, rfl, hs, q⟩
  · obtain ⟨its, rv, hl, _⟩ := I.tuple hs
    rw [Vals.ref1 r]
    have hi := rv.ints
    obtain ⟨xs, e⟩ := hi.allInts.items
    have hn : numsOf (intItems xs).toList = ns := by rw [← e]; exact hi.numsOf
    rw [nums_intItems] at hn
    rw [e] at hl
    refine PySem.W.ktm_sumG (I.ok.hd hc) hl fun h' tk t' hk => ?_
    rw [preSum_eq, List.take_of_length_le (by simp), hn]
    exact ⟨.int _, H, I.kept hk, ⟨_, rfl⟩, q⟩
def gSumA : D → Option Opd := fun x => ((itemsS x).bind toInts).map fun ns => .d (.int ns.sum)
theorem op1_sumA {R : RC} : Op1 R gSumA (fun x H Q => rSumT R.K [x] H Q) := fun F H x v p Q le h e q => by
  obtain ⟨ns, e1, rfl⟩ := Option.map_eq_some_iff.mp e
  obtain ⟨xs, e2, e3⟩ := Option.bind_eq_some_iff.mp e1
  have e4 := toInts_inv e3
  subst e4
  cases x <;> cases e2
  · obtain ⟨a, vs, rfl, h1, h2⟩ := h
    exact ⟨a, ns, rfl, .inr (h2.ints ▸ le.sqT h1), q _ F H (.refl le) rfl⟩
  · obtain ⟨a, vs, rfl, h1, h2⟩ := h
    exact ⟨a, ns, rfl, .inl (.inl (.inl (h2.ints ▸ h1))), q _ F H (.refl le) rfl⟩
  · obtain ⟨a, vs, rfl, h1, h2⟩ := h
    exact ⟨a, ns, rfl, .inl (h2.ints ▸ le.sqL h1), q _ F H (.refl le) rfl⟩
end Dv
set_option Elab.async false
set_option linter.all false
set_option maxRecDepth 100000
set_option maxHeartbeats 4000000
/-! Dv32: how the combinators answer; the draws. -/
namespace Dv
open PySem PyProof.Rows L2
variable [TabC]

/-! ### rules of reckoning -/
theorem bnd_e {α β} {m : M α} {f : α → M β} {e e1 : En} {a : α} (h : m e = .ok a e1) : bnd m f e = f a e1 := by
  unfold bnd; rw [h]
theorem dSeq_e {m1 m2 : M Fl} {e e1 : En} (h : m1 e = .ok .nx e1) : dSeq m1 m2 e = m2 e1 := by
  unfold dSeq; rw [bnd_e h]
theorem dSeq_r {m1 m2 : M Fl} {e e1 : En} {d : D} (h : m1 e = .ok (.ret d) e1) : dSeq m1 m2 e = .ok (.ret d) e1 := by
  unfold dSeq; rw [bnd_e h]; rfl
theorem dIf_e {α} {t : M Bool} {ma mb : M α} {e e1 : En} {b : Bool} (h : t e = .ok b e1) : dIf t ma mb e = if b = true then ma e1 else mb e1 := by
  unfold dIf; rw [bnd_e h]; cases b <;> rfl
theorem dFor_e {it : M (List D)} {t : D → M Unit} {b : M Fl} {e e1 : En} {xs : List D} (h : it e = .ok xs e1) : dFor it t b e = dForL t b xs e1 := by
  unfold dFor; rw [bnd_e h]
theorem dForL_ok {t : D → M Unit} {b : M Fl} (I : List D → En → Prop) (step : ∀ x xs e, I (x :: xs) e → ∃ e2, bnd (KEx (t x)) (fun _ => b) e = .ok .nx e2 ∧ I xs e2) : ∀ xs e, I xs e → ∃ e', dForL t b xs e = .ok .nx e' ∧ I [] e'
  | [], e, h => ⟨e, rfl, h⟩
  | x :: xs, e, h => by
    obtain ⟨e2, h1, h2⟩ := step x xs e h
    obtain ⟨e', h3, h4⟩ := dForL_ok I step xs e2 h2
    refine ⟨e', ?_, h4⟩
    have h5 : dForL t b (x :: xs) = bnd (bnd (KEx (t x)) fun _ => b) fun fl => match fl with
      | .nx => dForL t b xs
      | .cnt => dForL t b xs
      | .brk => pur .nx
      | .ret d => pur (.ret d) := by rw [bnd_assoc]; rfl
    rw [h5, bnd_e h1]
    exact h3
theorem dWhF_ok {t : M Bool} {b : M Fl} (I : Nat → En → Prop) (J : En → Prop) (step : ∀ n e, I n e → (∃ e1, t e = .ok true e1 ∧ ∃ e2 m, m < n ∧ b e1 = .ok .nx e2 ∧ I m e2) ∨ (∃ e1, t e = .ok false e1 ∧ J e1)) : ∀ n e, I n e → ∃ k e', dWhF t b k e = .ok .nx e' ∧ J e' := by
  intro n
  induction n using Nat.strongRecOn with
  | _ n ih =>
    intro e h
    rcases step n e h with ⟨e1, h1, e2, m, lt, h2, h3⟩ | ⟨e1, h1, h2⟩
    · obtain ⟨k, e', h4, h5⟩ := ih m lt e2 h3
      refine ⟨k + 1, e', ?_, h5⟩
      show bnd t _ e = _
      rw [bnd_e h1, if_pos rfl, bnd_e h2]
      exact h4
    · refine ⟨1, e1, ?_, h2⟩
      show bnd t _ e = _
      rw [bnd_e h1, if_neg (by decide)]
      rfl
theorem dWh_ok {t : M Bool} {b : M Fl} (I : Nat → En → Prop) (J : En → Prop) (step : ∀ n e, I n e → (∃ e1, t e = .ok true e1 ∧ ∃ e2 m, m < n ∧ b e1 = .ok .nx e2 ∧ I m e2) ∨ (∃ e1, t e = .ok false e1 ∧ J e1)) (n : Nat) (e : En) (h : I n e) : ∃ e', dWh t b e = .ok .nx e' ∧ J e' := by
  obtain ⟨k, e', h1, h2⟩ := dWhF_ok I J step n e h
  exact ⟨e', dWh_eq h1 (by intro z; cases z), h2⟩
theorem fMod_p {i j : Int} (h : 0 < j) : fMod (.int i) (.int j) = some (.d (.int (i % j))) := by
  show (if decide (0 < j) = true then _ else _) = _
  rw [if_pos (decide_eq_true h)]
theorem fMul_r {i j : Int} (h : j.natAbs < 2 ^ 64) : fMul (.int i) (.int j) = some (.d (.int (i * j))) := by
  show (if okMul i j = true then _ else _) = _
  rw [if_pos]
  unfold okMul
  simp only [Bool.or_eq_true, decide_eq_true_eq]
  exact .inl (.inr h)
theorem fMul_l {i j : Int} (h : i.natAbs < 2 ^ 64) : fMul (.int i) (.int j) = some (.d (.int (i * j))) := by
  show (if okMul i j = true then _ else _) = _
  rw [if_pos]
  unfold okMul
  simp only [Bool.or_eq_true, decide_eq_true_eq]
  exact .inl (.inl h)
theorem fDiv_p {i j : Int} (h : 0 < j) (h2 : j.natAbs.log2 < 9000) : fDiv (.int i) (.int j) = some (.d (.int (i / j))) := by
  show (if okDiv i j = true then _ else _) = _
  rw [if_pos]
  unfold okDiv
  rw [Bool.and_eq_true]
  exact ⟨decide_eq_true h, decide_eq_true h2⟩
theorem fPow_p {i : Int} {j : Int} (h : 0 ≤ j) (h1 : j ≤ 1000000) (h2 : i.natAbs < 2 ^ 64) : fPow (.int i) (.int j) = some (.d (.int (i ^ j.toNat))) := by
  show (if (decide (0 ≤ j) && (decide (j ≤ 1000000) && decide (i.natAbs < 2 ^ 64))) = true then _ else _) = _
  rw [if_pos]
  rw [Bool.and_eq_true, Bool.and_eq_true]
  exact ⟨decide_eq_true h, decide_eq_true h1, decide_eq_true h2⟩
theorem fAdd_i (i j : Int) : fAdd (.int i) (.int j) = some (.d (.int (i + j))) := rfl
theorem fSub_i (i j : Int) : fSub (.int i) (.int j) = some (.d (.int (i - j))) := rfl
theorem gEq_i (i j : Int) : gEq false (.int i) (.int j) = some (.d (.bl (i == j))) := rfl
theorem gNe_i (i j : Int) : gEq true (.int i) (.int j) = some (.d (.bl (!(i == j)))) := rfl
theorem gInt_i (i : Int) : gInt (.int i) = some (.d (.int i)) := rfl
theorem log2_small {j : Int} (h0 : 0 < j) (h : j < 18446744073709551616) : j.natAbs.log2 < 9000 := by
  have : j.natAbs < 2 ^ 64 := by omega
  have h1 := (Nat.log2_lt (n := j.natAbs) (k := 64) (by omega)).mpr this
  omega

theorem gN_e {β} (i : Nat) (x : D) (f : Unit → M β) (e : En) : bnd (KEx (gN i x)) f e = f () (st e i (some (.d x))) := rfl
/-! ### the draws -/
def hBlend : M Fl := dSeq (dPar2 1 2 (dOp2 fAdd (dTurn 0) (dC (.int 1))) (dC (.int 0)))
    (dSeq (dSetTurn 0 (dNm 1))
    (dSeq (dFor (dIt (dLst [dC (.int 2147483629), dC (.int 2147483587), dC (.int 2147483579)])) (gN 3)
    (dSeq (dAsg 4 (dOp2 fMod (dOp1 gInt (dOp2 fAdd (dOp2 fMul (dNm 1) (dC (.int 69621))) (dOp2 fDiv (dNm 3) (dC (.int 7))))) (dNm 3)))
    (dSeq (dFor (dIt (dCells 0)) (gN 5)
    (dAsg 4 (dOp2 fMod (dOp1 gInt (dOp2 fAdd (dOp2 fAdd (dOp2 fMul (dNm 4) (dC (.int 48271))) (dOp1 gInt (dNm 5))) (dC (.int 1)))) (dNm 3))))
    (dAsg 2 (dOp2 fAdd (dOp2 fMul (dNm 2) (dC (.int 2147483647))) (dOp2 fMod (dOp1 gInt (dOp2 fPow (dNm 4) (dC (.int 5)))) (dNm 3)))))))
    (dRet (dNm 2))))
def fnBlend : Fn := runI 5 hBlend
theorem blend_ok (s : Drw) : ∃ k s', fnBlend (some (.drw s)) [] = .ok (.int k) (some (.drw s')) := by
  let s' : Drw := { s with turn := s.turn + 1 }
  have hl : ∃ e', dForL (gN 3)
      (dSeq (dAsg 4 (dOp2 fMod (dOp1 gInt (dOp2 fAdd (dOp2 fMul (dNm 1) (dC (.int 69621))) (dOp2 fDiv (dNm 3) (dC (.int 7))))) (dNm 3)))
      (dSeq (dFor (dIt (dCells 0)) (gN 5)
      (dAsg 4 (dOp2 fMod (dOp1 gInt (dOp2 fAdd (dOp2 fAdd (dOp2 fMul (dNm 4) (dC (.int 48271))) (dOp1 gInt (dNm 5))) (dC (.int 1)))) (dNm 3))))
      (dAsg 2 (dOp2 fAdd (dOp2 fMul (dNm 2) (dC (.int 2147483647))) (dOp2 fMod (dOp1 gInt (dOp2 fPow (dNm 4) (dC (.int 5)))) (dNm 3))))))
      [.int 2147483629, .int 2147483587, .int 2147483579] [some (.o (.drw s')), some (.d (.int (s.turn + 1))), some (.d (.int 0)), none, none, none] = .ok .nx e' ∧ ∃ f x3 x4 x5, e' = [some (.o (.drw s')), some (.d (.int (s.turn + 1))), some (.d (.int f)), x3, x4, x5] := by
    refine (dForL_ok (fun xs e => (∀ x ∈ xs, ∃ p : Int, x = .int p ∧ 0 < p ∧ p < 18446744073709551616) ∧ ∃ f x3 x4 x5, e = [some (.o (.drw s')), some (.d (.int (s.turn + 1))), some (.d (.int f)), x3, x4, x5]) ?_ _ _ ⟨?_, 0, none, none, none, rfl⟩).imp fun e' h => ⟨h.1, h.2.2⟩
    · rintro x xs e ⟨hx, f, x3, x4, x5, rfl⟩
      obtain ⟨p, rfl, p1, p2⟩ := hx x List.mem_cons_self
      rw [gN_e]; simp only [st]
      have a1 : ∃ q : Int, 0 ≤ q ∧ q < p ∧ (dAsg 4 (dOp2 fMod (dOp1 gInt (dOp2 fAdd (dOp2 fMul (dNm 1) (dC (.int 69621))) (dOp2 fDiv (dNm 3) (dC (.int 7))))) (dNm 3))) [some (.o (.drw s')), some (.d (.int (s.turn + 1))), some (.d (.int f)), some (.d (.int p)), x4, x5] = .ok .nx [some (.o (.drw s')), some (.d (.int (s.turn + 1))), some (.d (.int f)), some (.d (.int p)), some (.d (.int q)), x5] := by
        refine ⟨((s.turn + 1) * 69621 + p / 7) % p, Int.emod_nonneg _ (by omega), Int.emod_lt_of_pos _ p1, ?_⟩
        simp only [dAsg, dOp2, dOp1, dNm, dC, bnd, pur, hold, holdF, rd, rdF, opt, gt, st, setS, fMul_r (show (69621 : Int).natAbs < 2 ^ 64 by decide), fDiv_p (show (0 : Int) < 7 by decide) (by decide), fAdd_i, gInt_i, fMod_p p1]
      obtain ⟨q, q1, q2, q3⟩ := a1
      rw [dSeq_e q3]
      have a2 : ∃ e', dFor (dIt (dCells 0)) (gN 5) (dAsg 4 (dOp2 fMod (dOp1 gInt (dOp2 fAdd (dOp2 fAdd (dOp2 fMul (dNm 4) (dC (.int 48271))) (dOp1 gInt (dNm 5))) (dC (.int 1)))) (dNm 3))) [some (.o (.drw s')), some (.d (.int (s.turn + 1))), some (.d (.int f)), some (.d (.int p)), some (.d (.int q)), x5] = .ok .nx e' ∧ ∃ q x5, 0 ≤ q ∧ q < p ∧ e' = [some (.o (.drw s')), some (.d (.int (s.turn + 1))), some (.d (.int f)), some (.d (.int p)), some (.d (.int q)), x5] := by
        rw [dFor_e (show dIt (dCells 0) [some (.o (.drw s')), some (.d (.int (s.turn + 1))), some (.d (.int f)), some (.d (.int p)), some (.d (.int q)), x5] = .ok (s.cells.map D.int) [some (.o (.drw s')), some (.d (.int (s.turn + 1))), some (.d (.int f)), some (.d (.int p)), some (.d (.int q)), x5] from rfl)]
        refine (dForL_ok (fun xs e => (∀ x ∈ xs, ∃ c : Int, x = .int c) ∧ ∃ q x5, 0 ≤ q ∧ q < p ∧ e = [some (.o (.drw s')), some (.d (.int (s.turn + 1))), some (.d (.int f)), some (.d (.int p)), some (.d (.int q)), x5]) ?_ _ _ ⟨?_, q, x5, q1, q2, rfl⟩).imp fun e' h => ⟨h.1, h.2.2⟩
        · rintro x xs e ⟨hx, q, x5, q1, q2, rfl⟩
          obtain ⟨c, rfl⟩ := hx x List.mem_cons_self
          rw [gN_e]; simp only [st]
          refine ⟨[some (.o (.drw s')), some (.d (.int (s.turn + 1))), some (.d (.int f)), some (.d (.int p)), some (.d (.int ((q * 48271 + c + 1) % p))), some (.d (.int c))], ?_, fun y hy => hx y (List.mem_cons_of_mem _ hy), _, _, Int.emod_nonneg _ (by omega), Int.emod_lt_of_pos _ p1, rfl⟩
          simp only [dAsg, dOp2, dOp1, dNm, dC, bnd, pur, hold, holdF, rd, rdF, opt, gt, st, setS, fMul_r (show (48271 : Int).natAbs < 2 ^ 64 by decide), fAdd_i, gInt_i, fMod_p p1]
        · intro x hx
          obtain ⟨c, _, rfl⟩ := List.mem_map.mp hx
          exact ⟨c, rfl⟩
      obtain ⟨e', a3, q', x5', b1, b2, rfl⟩ := a2
      rw [dSeq_e a3]
      refine ⟨[some (.o (.drw s')), some (.d (.int (s.turn + 1))), some (.d (.int (f * 2147483647 + q' ^ (5 : Int).toNat % p))), some (.d (.int p)), some (.d (.int q')), x5'], ?_, fun y hy => hx y (List.mem_cons_of_mem _ hy), _, _, _, _, rfl⟩
      simp only [dAsg, dOp2, dOp1, dNm, dC, bnd, pur, hold, holdF, rd, rdF, opt, gt, st, setS, fMul_r (show (2147483647 : Int).natAbs < 2 ^ 64 by decide), fAdd_i, gInt_i, fMod_p p1, fPow_p (show (0 : Int) ≤ 5 by decide) (show (5 : Int) ≤ 1000000 by decide) (show q'.natAbs < 2 ^ 64 by omega)]
    · intro x hx
      simp only [List.mem_cons, List.not_mem_nil, or_false] at hx
      rcases hx with rfl | rfl | rfl <;> exact ⟨_, rfl, by decide, by decide⟩
  obtain ⟨e', h1, f, x3, x4, x5, rfl⟩ := hl
  refine ⟨f, s', ?_⟩
  unfold fnBlend runI hBlend
  show (match dSeq _ _ [some (.o (.drw s)), none, none, none, none, none] with
    | .ok (.ret d) e => FR.ok d (outO e)
    | .ok .nx e => .ok .non (outO e)
    | .ok _ _ => .no
    | .ex c fs e => .ex c fs (outO e)
    | .no => .no) = _
  rw [dSeq_e (show dPar2 1 2 (dOp2 fAdd (dTurn 0) (dC (.int 1))) (dC (.int 0)) [some (.o (.drw s)), none, none, none, none, none] = .ok .nx [some (.o (.drw s)), some (.d (.int (s.turn + 1))), some (.d (.int 0)), none, none, none] from rfl)]
  rw [dSeq_e (show dSetTurn 0 (dNm 1) [some (.o (.drw s)), some (.d (.int (s.turn + 1))), some (.d (.int 0)), none, none, none] = .ok .nx [some (.o (.drw s')), some (.d (.int (s.turn + 1))), some (.d (.int 0)), none, none, none] from rfl)]
  rw [dSeq_e ((dFor_e (show dIt (dLst [dC (.int 2147483629), dC (.int 2147483587), dC (.int 2147483579)]) [some (.o (.drw s')), some (.d (.int (s.turn + 1))), some (.d (.int 0)), none, none, none] = .ok [.int 2147483629, .int 2147483587, .int 2147483579] [some (.o (.drw s')), some (.d (.int (s.turn + 1))), some (.d (.int 0)), none, none, none] from rfl)).trans h1)]
  rfl
noncomputable def hTake : M Fl := dSeq (dWh (dAnd (dBl (dOp2 (gEq false) (dRest 0) (dC (.int 0)))) (dLargeNe 0))
    (dPopLarge 0))
    (dSeq (dIf (dBl (dOp2 (gEq false) (dRest 0) (dC (.int 0))))
    (dSetRest 0 (dCallIo 1 0 fnBlend []))
    (dSkip))
    (dSeq (dAsg 2 (dOp2 fMod (dOp1 gInt (dRest 0)) (dNm 1)))
    (dSeq (dSetRest 0 (dOp2 fDiv (dOp1 gInt (dRest 0)) (dNm 1)))
    (dRet (dNm 2)))))
noncomputable def fnTake : Fn := runI 1 hTake
theorem take_ok (s : Drw) (n : Int) (h0 : 0 < n) (h1 : n < 18446744073709551616) : ∃ k s', 0 ≤ k ∧ k < n ∧ fnTake (some (.drw s)) [.int n] = .ok (.int k) (some (.drw s')) := by
  have a1 : ∃ e', dWh (dAnd (dBl (dOp2 (gEq false) (dRest 0) (dC (.int 0)))) (dLargeNe 0)) (dPopLarge 0) [some (.o (.drw s)), some (.d (.int n)), none] = .ok .nx e' ∧ ∃ s', e' = [some (.o (.drw s')), some (.d (.int n)), none] := by
    refine dWh_ok (fun m e => ∃ s : Drw, s.large.length = m ∧ e = [some (.o (.drw s)), some (.d (.int n)), none]) (fun e' => ∃ s', e' = [some (.o (.drw s')), some (.d (.int n)), none]) ?_ s.large.length _ ⟨s, rfl, rfl⟩
    rintro m e ⟨⟨lg, cs, rs, tn⟩, hm, rfl⟩
    have t1 : dBl (dOp2 (gEq false) (dRest 0) (dC (.int 0))) [some (.o (.drw ⟨lg, cs, rs, tn⟩)), some (.d (.int n)), none] = .ok (rs == 0) [some (.o (.drw ⟨lg, cs, rs, tn⟩)), some (.d (.int n)), none] := rfl
    have t2 : dAnd (dBl (dOp2 (gEq false) (dRest 0) (dC (.int 0)))) (dLargeNe 0) [some (.o (.drw ⟨lg, cs, rs, tn⟩)), some (.d (.int n)), none] = if (rs == 0) = true then dLargeNe 0 [some (.o (.drw ⟨lg, cs, rs, tn⟩)), some (.d (.int n)), none] else .ok false [some (.o (.drw ⟨lg, cs, rs, tn⟩)), some (.d (.int n)), none] := by
      unfold dAnd
      rw [bnd_e t1]
      cases (rs == 0) <;> rfl
    rw [t2]
    cases hr : (rs == 0) with
    | false => exact .inr ⟨_, if_neg (by decide), _, rfl⟩
    | true =>
      cases lg with
      | nil => exact .inr ⟨_, if_pos rfl, _, rfl⟩
      | cons x r => exact .inl ⟨_, if_pos rfl, _, r.length, by rw [← hm]; exact Nat.lt_succ_self _, rfl, _, rfl, rfl⟩
  obtain ⟨e', a1, s1, rfl⟩ := a1
  have a2 : ∃ s2, dIf (dBl (dOp2 (gEq false) (dRest 0) (dC (.int 0)))) (dSetRest 0 (dCallIo 1 0 fnBlend [])) (dSkip) [some (.o (.drw s1)), some (.d (.int n)), none] = .ok .nx [some (.o (.drw s2)), some (.d (.int n)), none] := by
    rw [dIf_e (show dBl (dOp2 (gEq false) (dRest 0) (dC (.int 0))) [some (.o (.drw s1)), some (.d (.int n)), none] = .ok (s1.rest == 0) [some (.o (.drw s1)), some (.d (.int n)), none] from rfl)]
    cases (s1.rest == 0) with
    | false => exact ⟨s1, rfl⟩
    | true =>
      rw [if_pos rfl]
      obtain ⟨k, s2, hb⟩ := blend_ok s1
      refine ⟨{ s2 with rest := k }, ?_⟩
      have c1 : dCallIo 1 0 fnBlend [] [some (.o (.drw s1)), some (.d (.int n)), none] = .ok (.d (.int k)) [some (.o (.drw s2)), some (.d (.int n)), none] := by
        show callIo 1 0 fnBlend [] [some (.o (.drw s1)), some (.d (.int n)), none] = _
        unfold callIo
        rw [if_pos (show ([] : List D).length + 1 = 1 from rfl)]
        show (match fnBlend (some (.drw s1)) [] with
          | .ok d (some o') => Res.ok (Opd.d d) (st [some (.o (.drw s1)), some (.d (.int n)), none] 0 (some (.o o')))
          | .ex c fs (some o') => .ex c fs (st [some (.o (.drw s1)), some (.d (.int n)), none] 0 (some (.o o')))
          | _ => .no) = _
        rw [hb]
        rfl
      unfold dSetRest
      rw [bnd_e c1]
      rfl
  obtain ⟨s2, a2⟩ := a2
  have a3 : dAsg 2 (dOp2 fMod (dOp1 gInt (dRest 0)) (dNm 1)) [some (.o (.drw s2)), some (.d (.int n)), none] = .ok .nx [some (.o (.drw s2)), some (.d (.int n)), some (.d (.int (s2.rest % n)))] := by
    simp only [dAsg, dOp2, dOp1, dNm, dRest, drw, bnd, pur, hold, holdF, rd, rdF, opt, gt, st, setS, gInt_i, fMod_p h0]
  have a4 : dSetRest 0 (dOp2 fDiv (dOp1 gInt (dRest 0)) (dNm 1)) [some (.o (.drw s2)), some (.d (.int n)), some (.d (.int (s2.rest % n)))] = .ok .nx [some (.o (.drw { s2 with rest := s2.rest / n })), some (.d (.int n)), some (.d (.int (s2.rest % n)))] := by
    simp only [dSetRest, dOp2, dOp1, dNm, dRest, drw, bnd, pur, hold, holdF, rd, rdF, opt, gt, st, putW, toInt, gInt_i, fDiv_p h0 (log2_small h0 h1)]
  refine ⟨s2.rest % n, { s2 with rest := s2.rest / n }, Int.emod_nonneg _ (by omega), Int.emod_lt_of_pos _ h0, ?_⟩
  show (match hTake [some (.o (.drw s)), some (.d (.int n)), none] with
    | .ok (.ret d) e => FR.ok d (outO e)
    | .ok .nx e => .ok .non (outO e)
    | .ok _ _ => .no
    | .ex c fs e => .ex c fs (outO e)
    | .no => .no) = _
  unfold hTake
  rw [dSeq_e a1, dSeq_e a2, dSeq_e a3, dSeq_e a4]
  rfl
/-- a draw by a frame that owns the source -/
theorem dTake_e {e e1 : En} {i : Nat} {s : Drw} {n : Int} {m : M Opd} (hg : gt e i = some (.o (.drw s))) (hm : dArgs [m] e = .ok [.int n] e1) (hg1 : gt e1 i = some (.o (.drw s))) (h0 : 0 < n) (h1 : n < 18446744073709551616) :
    ∃ k s', 0 ≤ k ∧ k < n ∧ dCallIo 2 i fnTake [m] e = .ok (.d (.int k)) (st e1 i (some (.o (.drw s')))) := by
  obtain ⟨k, s', k0, k1, hb⟩ := take_ok s n h0 h1
  refine ⟨k, s', k0, k1, ?_⟩
  unfold dCallIo
  rw [hg]
  show bnd (dArgs [m]) (fun xs => callIo 2 i fnTake xs) e = _
  rw [bnd_e hm]
  unfold callIo
  rw [if_pos (show ([D.int n] : List D).length + 1 = 2 from rfl), hg1]
  show (match fnTake (some (.drw s)) [.int n] with
          | .ok d (some o') => Res.ok (Opd.d d) (st e1 i (some (.o o')))
          | .ex c fs (some o') => .ex c fs (st e1 i (some (.o o')))
          | _ => .no) = _
  rw [hb]
/-! ### comprehensions -/
theorem turn_yes {f : D → Option (List (Nat × D))} {m : M Opd} {vs : List Nat} {x y : D} {l : List (Nat × D)} {w e2 : En} {acc : List D} (hf : f x = some l) (ha : l.all (fun p => vs.contains p.1) = true) (hm : m (setAllE w l) = .ok (.d y) e2) (hw : wipeE e2 vs = w) (hl : acc.length < SZ) :
    turnL f dYes m vs x acc w = .ok (acc ++ [y]) w := by
  unfold turnL
  simp only [hf, ha, if_true, bnd, nX, dYes, pur, hm, pub, pubF, hl, hw]
theorem turn_if {f : D → Option (List (Nat × D))} {c : M Bool} {m : M Opd} {vs : List Nat} {x y : D} {l : List (Nat × D)} {w e1 e2 : En} {acc : List D} {b : Bool} (hf : f x = some l) (ha : l.all (fun p => vs.contains p.1) = true) (hc : c (setAllE w l) = .ok b e1) (hm : b = true → m e1 = .ok (.d y) e2) (hw : b = true → wipeE e2 vs = w) (hw1 : wipeE e1 vs = w) (hl : acc.length < SZ) :
    turnL f c m vs x acc w = .ok (acc ++ if b then [y] else []) w := by
  unfold turnL
  cases b with
  | true => simp only [hf, ha, if_true, bnd, nX, pur, hc, hm rfl, pub, pubF, hl, hw rfl]
  | false => simp only [hf, ha, if_true, bnd, nX, hc, hw1, Bool.false_eq_true, if_false, List.append_nil]
theorem dLc_e {it : M (List D)} {f : D → Option (List (Nat × D))} {c : M Bool} {m : M Opd} {vs : List Nat} {e e1 : En} {xs : List D} {g : D → List D} (hit : it e = .ok xs e1) (hok : okW e1 vs = true) (hx : ∀ x ∈ xs, (g x).length ≤ 1 ∧ ∀ acc, acc.length < SZ → turnL f c m vs x acc (wipeE e1 vs) = .ok (acc ++ g x) (wipeE e1 vs)) (hl : xs.length ≤ SZ) :
    dLc it f c m vs e = .ok (.n (.lst (xs.flatMap g))) (restE e1 vs (wipeE e1 vs)) := by
  unfold dLc
  rw [bnd_e hit, if_pos hok, loopL_eq xs [] hx (by simpa using hl)]
  rfl
theorem dLc_y {it : M (List D)} {f : D → Option (List (Nat × D))} {m : M Opd} {vs : List Nat} {e e1 : En} {xs : List D} {g : D → D} (hit : it e = .ok xs e1) (hok : okW e1 vs = true) (hx : ∀ x ∈ xs, ∃ l e2, f x = some l ∧ l.all (fun p => vs.contains p.1) = true ∧ m (setAllE (wipeE e1 vs) l) = .ok (.d (g x)) e2 ∧ wipeE e2 vs = wipeE e1 vs) (hl : xs.length ≤ SZ) :
    dLc it f dYes m vs e = .ok (.n (.lst (xs.map g))) (restE e1 vs (wipeE e1 vs)) := by
  rw [dLc_e (g := fun x => [g x]) hit hok (fun x hm => ⟨Nat.le_refl _, fun acc ha => by
    obtain ⟨l, e2, h1, h2, h3, h4⟩ := hx x hm
    exact turn_yes h1 h2 h3 h4 ha⟩) hl]
  have : ∀ l : List D, l.flatMap (fun x => [g x]) = l.map g := fun l => by
    induction l with
    | nil => rfl
    | cons a r ih => rw [List.flatMap_cons, ih]; rfl
  rw [this]
theorem enumD_ints : ∀ (l : List Int) (i : Nat), ∀ x ∈ enumD (l.map D.int) i, ∃ k v : Int, x = .tup [.int k, .int v]
  | [], _, x, h => by simp [enumD] at h
  | y :: r, i, x, h => by
    rcases List.mem_cons.mp (show x ∈ .tup [.int (i : Nat), .int y] :: enumD (r.map D.int) (i + 1) from h) with e | m
    · exact ⟨_, _, e⟩
    · exact enumD_ints r (i + 1) x m
theorem cut_last (xs : List D) (x : D) : cutD (xs ++ [x]) none (some (-1)) = xs := by
  unfold cutD
  have e : HT.sIx (xs ++ [x]).length (xs ++ [x]).length (some (-1)) = ((-1 : Int) + (((xs ++ [x]).length : Nat) : Int)).toNat := rfl
  rw [HT.sIx_none, e, List.length_append, List.length_singleton, List.drop_zero, show ((-1 : Int) + ((xs.length + 1 : Nat) : Int)).toNat - 0 = xs.length by omega]
  simp
theorem dCall_e {n : Nat} {fn : Fn} {ms : List (M Opd)} {e e1 : En} {xs : List D} {d : D} {o : Option O} (hm : dArgs ms e = .ok xs e1) (hl : xs.length = n) (hf : fn none xs = .ok d o) : dCall n fn ms e = .ok (.d d) e1 := by
  unfold dCall
  rw [bnd_e hm]
  unfold callF
  rw [if_pos hl, hf]
theorem dCall_x {n : Nat} {fn : Fn} {ms : List (M Opd)} {e e1 : En} {xs : List D} {c fs} {o : Option O} (hm : dArgs ms e = .ok xs e1) (hl : xs.length = n) (hf : fn none xs = .ex c fs o) : dCall n fn ms e = .ex c fs e1 := by
  unfold dCall
  rw [bnd_e hm]
  unfold callF
  rw [if_pos hl, hf]
theorem runF_r {n : Nat} {m : M Fl} {ds : List D} {d : D} {e : En} (h : m (dsl ds n) = .ok (.ret d) e) : runF n m none ds = .ok d none := by
  unfold runF; rw [h]
theorem runF_n {n : Nat} {m : M Fl} {ds : List D} {e : En} (h : m (dsl ds n) = .ok .nx e) : runF n m none ds = .ok .non none := by
  unfold runF; rw [h]
theorem runF_x {n : Nat} {m : M Fl} {ds : List D} {c fs} {e : En} (h : m (dsl ds n) = .ex c fs e) : runF n m none ds = .ex c fs none := by
  unfold runF; rw [h]
theorem bnd_x {α β} {m : M α} {f : α → M β} {e e1 : En} {c fs} (h : m e = .ex c fs e1) : bnd m f e = .ex c fs e1 := by
  unfold bnd; rw [h]
theorem dSeq_x {m1 m2 : M Fl} {e e1 : En} {c fs} (h : m1 e = .ex c fs e1) : dSeq m1 m2 e = .ex c fs e1 := by
  unfold dSeq; rw [bnd_x h]
theorem dRet_e {m : M Opd} {e e1 : En} {d : D} (h : m e = .ok (.d d) e1) : dRet m e = .ok (.ret d) e1 := by
  unfold dRet; rw [bnd_e h]; rfl
theorem dBl_e {m : M Opd} {e e1 : En} {b : Bool} (h : m e = .ok (.d (.bl b)) e1) : dBl m e = .ok b e1 := by
  unfold dBl; rw [bnd_e h]; rfl
theorem dTru_e {m : M Opd} {e e1 : En} {b : Bool} (h : m e = .ok (.d (.bl b)) e1) : dTru m e = .ok b e1 := by
  unfold dTru; rw [bnd_e h]; rfl
theorem dNot_e {t : M Bool} {e e1 : En} {b : Bool} (h : t e = .ok b e1) : dNot t e = .ok (!b) e1 := by
  unfold dNot; rw [bnd_e h]; rfl
theorem dOr_f {ta tb : M Bool} {e e1 : En} (h : ta e = .ok false e1) : dOr ta tb e = tb e1 := by
  unfold dOr; rw [bnd_e h]; rfl
theorem dOr_t {ta tb : M Bool} {e e1 : En} (h : ta e = .ok true e1) : dOr ta tb e = .ok true e1 := by
  unfold dOr; rw [bnd_e h]; rfl
theorem dAnd_t {ta tb : M Bool} {e e1 : En} (h : ta e = .ok true e1) : dAnd ta tb e = tb e1 := by
  unfold dAnd; rw [bnd_e h]; rfl
theorem dAnd_f {ta tb : M Bool} {e e1 : En} (h : ta e = .ok false e1) : dAnd ta tb e = .ok false e1 := by
  unfold dAnd; rw [bnd_e h]; rfl
theorem dOp1_d {g : D → Option Opd} {m : M Opd} {e e1 : En} {x : D} {p : Opd} (h : m e = .ok (.d x) e1) (hg : g x = some p) : dOp1 g m e = .ok p e1 := by
  unfold dOp1; rw [bnd_e h]
  show opt (g x) e1 = _
  rw [hg]; rfl
theorem dOp1_n {g : D → Option Opd} {m : M Opd} {e e1 : En} {xs : List D} {p : Opd} (h : m e = .ok (.n (.lst xs)) e1) (hg : g (.lst xs) = some p) : dOp1 g m e = .ok p e1 := by
  unfold dOp1; rw [bnd_e h]
  show opt (g (.lst xs)) e1 = _
  rw [hg]; rfl
/-- what an operand says, data or a new list -/
def OV (p : Opd) (x : D) : Prop := p = .d x ∨ ∃ xs, p = .n (.lst xs) ∧ x = .lst xs
theorem dOp2_e {g : D → D → Option Opd} {ma mb : M Opd} {e e1 e2 : En} {x y : D} {p q r : Opd} (h1 : ma e = .ok p e1) (v1 : OV p x) (h2 : mb e1 = .ok q e2) (v2 : OV q y) (hg : g x y = some r) : dOp2 g ma mb e = .ok r e2 := by
  unfold dOp2
  rw [bnd_e h1]
  rcases v1 with rfl | ⟨xs, rfl, rfl⟩
  · rw [bnd_e (show hold (.d x) e1 = .ok (.d x) e1 from rfl), bnd_e h2, bnd_e (show rd (.d x) e2 = .ok x e2 from rfl)]
    rcases v2 with rfl | ⟨ys, rfl, rfl⟩
    · rw [bnd_e (show rd (.d y) e2 = .ok y e2 from rfl), hg]; rfl
    · rw [bnd_e (show rd (.n (.lst ys)) e2 = .ok (.lst ys) e2 from rfl), hg]; rfl
  · rw [bnd_e (show hold (.n (.lst xs)) e1 = .ok (.d (.lst xs)) e1 from rfl), bnd_e h2, bnd_e (show rd (.d (.lst xs)) e2 = .ok (.lst xs) e2 from rfl)]
    rcases v2 with rfl | ⟨ys, rfl, rfl⟩
    · rw [bnd_e (show rd (.d y) e2 = .ok y e2 from rfl), hg]; rfl
    · rw [bnd_e (show rd (.n (.lst ys)) e2 = .ok (.lst ys) e2 from rfl), hg]; rfl
theorem dSkip_if {t : M Bool} {a m2 : M Fl} {e e1 : En} (h : t e = .ok false e1) : dSeq (dIf t a dSkip) m2 e = m2 e1 := by
  have h1 : dIf t a dSkip e = .ok .nx e1 := by
    rw [dIf_e h]; rfl
  exact dSeq_e h1
theorem dTake_if {t : M Bool} {a b m2 : M Fl} {e e1 e2 : En} {d : D} (h : t e = .ok true e1) (ha : a e1 = .ok (.ret d) e2) : dSeq (dIf t a b) m2 e = .ok (.ret d) e2 := by
  have h1 : dIf t a b e = .ok (.ret d) e2 := by
    rw [dIf_e h, if_pos rfl]; exact ha
  exact dSeq_r h1
theorem dArgs_c {m : M Opd} {ms : List (M Opd)} {e e1 e2 : En} {x : D} {xs : List D} (h1 : m e = .ok (.d x) e1) (h2 : dArgs ms e1 = .ok xs e2) : dArgs (m :: ms) e = .ok (x :: xs) e2 := by
  show bnd m (fun p => bnd (pub p) fun x => bnd (dArgs ms) fun xs => pur (x :: xs)) e = _
  rw [bnd_e h1, bnd_e (show pub (.d x) e1 = .ok x e1 from rfl), bnd_e h2]
  rfl
theorem dArgs_n {m : M Opd} {ms : List (M Opd)} {e e1 e2 : En} {ys : List D} {xs : List D} (h1 : m e = .ok (.n (.lst ys)) e1) (h2 : dArgs ms e1 = .ok xs e2) : dArgs (m :: ms) e = .ok (.lst ys :: xs) e2 := by
  show bnd m (fun p => bnd (pub p) fun x => bnd (dArgs ms) fun xs => pur (x :: xs)) e = _
  rw [bnd_e h1, bnd_e (show pub (.n (.lst ys)) e1 = .ok (.lst ys) e1 from rfl), bnd_e h2]
  rfl
theorem dTup_e {ms : List (M Opd)} {e e1 : En} {xs : List D} (h : dArgs ms e = .ok xs e1) (hl : xs.length ≤ SZ) : dTup ms e = .ok (.d (.tup xs)) e1 := by
  unfold dTup; rw [bnd_e h, if_pos hl]; rfl
theorem dLst_e {ms : List (M Opd)} {e e1 : En} {xs : List D} (h : dArgs ms e = .ok xs e1) (hl : xs.length ≤ SZ) : dLst ms e = .ok (.n (.lst xs)) e1 := by
  unfold dLst; rw [bnd_e h, if_pos hl]; rfl
theorem dDrop_e {m : M Opd} {e e1 : En} {x : D} (h : m e = .ok (.d x) e1) : dDrop m e = .ok .nx e1 := by
  unfold dDrop; rw [bnd_e h]; rfl
theorem dAsg_d {i : Nat} {m : M Opd} {e e1 : En} {x : D} (h : m e = .ok (.d x) e1) : dAsg i m e = .ok .nx (st e1 i (some (.d x))) := by
  unfold dAsg; rw [bnd_e h]; rfl
theorem dAsg_n {i : Nat} {m : M Opd} {e e1 : En} {o : O} (h : m e = .ok (.n o) e1) : dAsg i m e = .ok .nx (st e1 i (some (.o o))) := by
  unfold dAsg; rw [bnd_e h]; rfl
theorem dIf_m {t : M Bool} {ma mb : M Opd} {e e1 : En} {b : Bool} (h : t e = .ok b e1) : dIf t ma mb e = (if b then ma else mb) e1 := by
  rw [dIf_e h]; cases b <;> rfl
theorem dArgs_z (e : En) : dArgs [] e = .ok [] e := rfl
theorem dAnd_b {ta tb : M Bool} {e : En} {a b : Bool} (h1 : ta e = .ok a e) (h2 : tb e = .ok b e) : dAnd ta tb e = .ok (a && b) e := by
  cases a with
  | true => rw [dAnd_t h1, h2]; rfl
  | false => rw [dAnd_f h1]; rfl
theorem dOr_b {ta tb : M Bool} {e : En} {a b : Bool} (h1 : ta e = .ok a e) (h2 : tb e = .ok b e) : dOr ta tb e = .ok (a || b) e := by
  cases a with
  | false => rw [dOr_f h1, h2]; rfl
  | true => rw [dOr_t h1]; rfl
end Dv
set_option Elab.async false
set_option linter.all false
set_option maxRecDepth 100000
set_option maxHeartbeats 4000000
/-! Dv33: the source of draws is made from any short script; the errors' end. -/
namespace Dv
open PySem PyProof.Rows L2
variable [TabC]
def hBegunM : M Fl := dAsg 1 (dLc (dIt (dNm 0)) (fNm 2) (dBl (dOp2 fGe (dOp1 gAbs (dNm 2)) (dOp2 fPow (dC (.int 10)) (dC (.int 18))))) (dOp2 fSub (dOp1 gAbs (dNm 2)) (dOp2 fPow (dC (.int 10)) (dC (.int 18)))) [2])
def hBegunC : M Opd := dLc (dIt (dNm 0)) (fNm 2) (dYes) (dOp1 gAbs (dNm 2)) [2]
def absI (i : Int) : Int := if i < 0 then -i else i
theorem begun_ok (ns : List Int) (h : ns.length ≤ 63) : ∃ s, mkBg 2 1 hBegunM hBegunC ns = some s := by
  have a1 : ∃ ls : List Int, hBegunM [some (.d (.rol (ns.map .int))), none, none] = .ok .nx [some (.d (.rol (ns.map .int))), some (.o (.lst (ls.map .int))), none] := by
    have lc := dLc_e (it := dIt (dNm 0)) (f := fNm 2) (c := dBl (dOp2 fGe (dOp1 gAbs (dNm 2)) (dOp2 fPow (dC (.int 10)) (dC (.int 18))))) (m := dOp2 fSub (dOp1 gAbs (dNm 2)) (dOp2 fPow (dC (.int 10)) (dC (.int 18)))) (vs := [2]) (e := [some (.d (.rol (ns.map .int))), none, none]) (e1 := [some (.d (.rol (ns.map .int))), none, none]) (xs := ns.map D.int) (g := fun x => match x with
      | .int v => if decide ((10 : Int) ^ 18 ≤ absI v) then [.int (absI v - 10 ^ 18)] else []
      | _ => []) rfl rfl (fun x hx => by
        obtain ⟨v, hv, rfl⟩ := List.mem_map.mp hx
        refine ⟨by show (if _ then _ else _ : List D).length ≤ 1; split <;> simp, fun acc ha => ?_⟩
        exact turn_if (l := [(2, .int v)]) (b := decide ((10 : Int) ^ 18 ≤ absI v)) (e1 := [some (.d (.rol (ns.map .int))), none, some (.d (.int v))]) (e2 := [some (.d (.rol (ns.map .int))), none, some (.d (.int v))]) rfl rfl rfl (fun _ => rfl) (fun _ => rfl) rfl ha) (by rw [List.length_map]; unfold SZ; omega)
    have key : ∀ l : List Int, ∃ ls : List Int, (l.map D.int).flatMap (fun x => match x with
      | .int v => if decide ((10 : Int) ^ 18 ≤ absI v) then [D.int (absI v - 10 ^ 18)] else []
      | _ => []) = ls.map D.int := fun l => by
      induction l with
      | nil => exact ⟨[], rfl⟩
      | cons v r ih =>
        obtain ⟨ls, e⟩ := ih
        rw [List.map_cons, List.flatMap_cons, e]
        by_cases c : (10 : Int) ^ 18 ≤ absI v
        · exact ⟨(absI v - 10 ^ 18) :: ls, by simp only [decide_eq_true c, if_true]; rfl⟩
        · exact ⟨ls, by simp only [decide_eq_false c]; rfl⟩
    obtain ⟨ls, e⟩ := key ns
    rw [e] at lc
    exact ⟨ls, dAsg_n lc⟩
  obtain ⟨ls, a1⟩ := a1
  have a2 : hBegunC [some (.d (.rol (ns.map .int))), some (.o (.lst (ls.map .int))), none] = .ok (.n (.lst ((ns.map absI).map .int))) [some (.d (.rol (ns.map .int))), some (.o (.lst (ls.map .int))), none] := by
    have lc := dLc_y (it := dIt (dNm 0)) (f := fNm 2) (m := dOp1 gAbs (dNm 2)) (vs := [2]) (e := [some (.d (.rol (ns.map .int))), some (.o (.lst (ls.map .int))), none]) (e1 := [some (.d (.rol (ns.map .int))), some (.o (.lst (ls.map .int))), none]) (xs := ns.map D.int) (g := fun x => match x with
      | .int v => .int (absI v)
      | x => x) rfl rfl (fun x hx => by
        obtain ⟨v, hv, rfl⟩ := List.mem_map.mp hx
        exact ⟨[(2, .int v)], [some (.d (.rol (ns.map .int))), some (.o (.lst (ls.map .int))), some (.d (.int v))], rfl, rfl, rfl, rfl⟩) (by rw [List.length_map]; unfold SZ; omega)
    rw [List.map_map] at lc ⊢
    exact lc
  refine ⟨⟨ls, ns.map absI, 0, 0⟩, ?_⟩
  have e1 : dsl [.rol (ns.map .int)] 2 = [some (.d (.rol (ns.map .int))), none, none] := rfl
  have e2 : intsO (gt [some (.d (.rol (ns.map .int))), some (.o (.lst (ls.map .int))), none] 1) = some ls := toInts_map ls
  unfold mkBg
  simp only [e1, a1, a2, e2, toInts_map, if_true]
noncomputable def fnPick : Fn := runI 0 (dRet (dOp2 gSub2 (dNm 1) (dCallIo 2 0 fnTake [dOp1 gLen (dNm 1)])))
theorem pick_ok (s : Drw) (xs : List D) (h : xs ≠ []) (hl : xs.length ≤ 100000) : ∃ x ∈ xs, ∃ s', fnPick (some (.drw s)) [.lst xs] = .ok x (some (.drw s')) := by
  have hp : 0 < xs.length := List.length_pos_iff.mpr h
  obtain ⟨k, s', k0, k1, hk⟩ := dTake_e (e := [some (.o (.drw s)), some (.d (.lst xs))]) (e1 := [some (.o (.drw s)), some (.d (.lst xs))]) (i := 0) (s := s) (n := xs.length) (m := dOp1 gLen (dNm 1)) rfl rfl rfl (by omega) (by omega)
  obtain ⟨K, rfl⟩ : ∃ K : Nat, k = K := ⟨k.toNat, by omega⟩
  have hK : K < xs.length := by omega
  have ix : gSub2 (.lst xs) (.int (K : Int)) = some (.d xs[K]) := by
    have : gIx (.lst xs) (.int (K : Int)) = some (.d xs[K]) := by
      show (atI xs (K : Int)).map Opd.d = _
      unfold atI ixN
      rw [if_pos (by omega), if_pos (by omega)]
      show (xs[(K : Int).toNat]?).map Opd.d = _
      rw [Int.toNat_natCast, List.getElem?_eq_getElem hK]
      rfl
    unfold gSub2 gOr
    rw [this]
  refine ⟨xs[K], List.getElem_mem hK, s', ?_⟩
  have e1 := dRet_e (dOp2_e (g := gSub2) (ma := dNm 1) (e := [some (.o (.drw s)), some (.d (.lst xs))]) (x := .lst xs) rfl (.inl rfl) hk (.inl rfl) ix)
  show (match dRet (dOp2 gSub2 (dNm 1) (dCallIo 2 0 fnTake [dOp1 gLen (dNm 1)])) [some (.o (.drw s)), some (.d (.lst xs))] with
    | .ok (.ret d) e => FR.ok d (outO e)
    | .ok .nx e => .ok .non (outO e)
    | .ok _ _ => .no
    | .ex c fs e => .ex c fs (outO e)
    | .no => .no) = _
  rw [e1]
  rfl
end Dv
set_option Elab.async false
set_option linter.all false
set_option maxRecDepth 100000
set_option maxHeartbeats 4000000
/-! Dv34: comprehensions whose turns move the frame; picks; walks of a call's list. -/
namespace Dv
open PySem PyProof.Rows L2
variable [TabC]
theorem turn_y {f : D → Option (List (Nat × D))} {m : M Opd} {vs : List Nat} {x y : D} {l : List (Nat × D)} {e e2 : En} {acc : List D} (hf : f x = some l) (ha : l.all (fun p => vs.contains p.1) = true) (hm : m (setAllE e l) = .ok (.d y) e2) (hl : acc.length < SZ) :
    turnL f dYes m vs x acc e = .ok (acc ++ [y]) (wipeE e2 vs) := by
  unfold turnL
  simp only [hf, ha, if_true, bnd, nX, dYes, pur, hm, pub, pubF, hl]
theorem loopL_inv {f : D → Option (List (Nat × D))} {c : M Bool} {m : M Opd} {vs : List Nat} (I : En → Prop) (P : D → Prop) : ∀ (xs acc : List D) (e : En), I e → acc.length + xs.length ≤ SZ → (∀ x ∈ xs, ∀ e, I e → ∃ y e', P y ∧ I e' ∧ ∀ acc : List D, acc.length < SZ → turnL f c m vs x acc e = .ok (acc ++ [y]) e') → ∃ ys e', (∀ y ∈ ys, P y) ∧ ys.length = xs.length ∧ I e' ∧ loopL f c m vs xs acc e = .ok (acc ++ ys) e'
  | [], acc, e, h, _, _ => ⟨[], e, (fun _ z => by cases z), rfl, h, by rw [List.append_nil]; rfl⟩
  | x :: xs, acc, e, h, hl, hx => by
    obtain ⟨y, e1, py, i1, t1⟩ := hx x List.mem_cons_self e h
    have hl' : acc.length + (xs.length + 1) ≤ SZ := hl
    obtain ⟨ys, e2, pys, l2, i2, t2⟩ := loopL_inv I P xs (acc ++ [y]) e1 i1 (by rw [List.length_append, List.length_singleton]; omega) fun z hz => hx z (List.mem_cons_of_mem _ hz)
    refine ⟨y :: ys, e2, fun z hz => ?_, by rw [List.length_cons, List.length_cons, l2], i2, ?_⟩
    · rcases List.mem_cons.mp hz with rfl | hz
      · exact py
      · exact pys z hz
    · show bnd (turnL f c m vs x acc) (fun acc' => loopL f c m vs xs acc') e = _
      rw [bnd_e (t1 acc (by omega)), t2, List.append_assoc]
      rfl
theorem dLc_inv {it : M (List D)} {f : D → Option (List (Nat × D))} {c : M Bool} {m : M Opd} {vs : List Nat} {e e1 : En} {xs : List D} (I : En → Prop) (P : D → Prop) (hit : it e = .ok xs e1) (hok : okW e1 vs = true) (h : I (wipeE e1 vs)) (hl : xs.length ≤ SZ)
    (hx : ∀ x ∈ xs, ∀ e, I e → ∃ y e', P y ∧ I e' ∧ ∀ acc : List D, acc.length < SZ → turnL f c m vs x acc e = .ok (acc ++ [y]) e') :
    ∃ ys e', (∀ y ∈ ys, P y) ∧ ys.length = xs.length ∧ I e' ∧ dLc it f c m vs e = .ok (.n (.lst ys)) (restE e1 vs e') := by
  obtain ⟨ys, e', h1, h2, h3, h4⟩ := loopL_inv I P xs [] _ h (by simpa using hl) hx
  refine ⟨ys, e', h1, h2, h3, ?_⟩
  unfold dLc
  rw [bnd_e hit, if_pos hok, h4]
  rfl
/-- a pick by a frame that owns the source -/
theorem dPick_e {e e1 : En} {i : Nat} {s : Drw} {xs : List D} {m : M Opd} (hg : gt e i = some (.o (.drw s))) (hm : dArgs [m] e = .ok [.lst xs] e1) (hg1 : gt e1 i = some (.o (.drw s))) (h0 : xs ≠ []) (h1 : xs.length ≤ 100000) :
    ∃ x ∈ xs, ∃ s', dCallIo 2 i fnPick [m] e = .ok (.d x) (st e1 i (some (.o (.drw s')))) := by
  obtain ⟨x, hx, s', hb⟩ := pick_ok s xs h0 h1
  refine ⟨x, hx, s', ?_⟩
  unfold dCallIo
  rw [hg]
  show bnd (dArgs [m]) (fun xs => callIo 2 i fnPick xs) e = _
  rw [bnd_e hm]
  unfold callIo
  rw [if_pos (show ([D.lst xs] : List D).length + 1 = 2 from rfl), hg1]
  show (match fnPick (some (.drw s)) [.lst xs] with
          | .ok d (some o') => Res.ok (Opd.d d) (st e1 i (some (.o o')))
          | .ex c fs (some o') => .ex c fs (st e1 i (some (.o o')))
          | _ => .no) = _
  rw [hb]
theorem dIt_d {m : M Opd} {e e1 : En} {x : D} {xs : List D} (h : m e = .ok (.d x) e1) (hx : itemsS x = some xs) : dIt m e = .ok xs e1 := by
  unfold dIt
  rw [bnd_e h, bnd_e (show pub (.d x) e1 = .ok x e1 from rfl), hx]
  rfl
theorem dIt_n {m : M Opd} {e e1 : En} {xs : List D} (h : m e = .ok (.n (.lst xs)) e1) : dIt m e = .ok xs e1 := by
  unfold dIt
  rw [bnd_e h, bnd_e (show pub (.n (.lst xs)) e1 = .ok (.lst xs) e1 from rfl)]
  rfl
theorem dRng_e {g : List D → Option (List D)} {ms : List (M Opd)} {e e1 : En} {xs ys : List D} (h : dArgs ms e = .ok xs e1) (hg : g xs = some ys) : dRng g ms e = .ok ys e1 := by
  unfold dRng
  rw [bnd_e h, hg]
  rfl
theorem dTupR_e {ms : List (M Opd)} {e e1 : En} {xs : List D} {p : Opd} (h : dArgs ms e = .ok xs e1) (hg : gRngT gRng3 xs = some p) : dTupR ms e = .ok p e1 := by
  unfold dTupR
  rw [bnd_e h, hg]
  rfl
theorem rng1_e {j : Int} (h0 : 0 ≤ j) (h1 : j ≤ 1000000) : gRng1 [.int j] = some (rngL 0 1 j.toNat) := by
  show (if -B62 ≤ j ∧ j < B62 then some (rngL 0 1 j.toNat) else none) = _
  rw [if_pos]
  unfold B62
  omega
theorem flatDs_ints : ∀ l : List Int, flatDs (l.map .int) = some (l.map V.int)
  | [] => rfl
  | x :: r => by
    show flatDs (.int x :: r.map D.int) = _
    unfold flatDs
    rw [flatDs_ints r]
    rfl
theorem intsOf : ∀ (ys : List D), (∀ y ∈ ys, ∃ v : Int, y = .int v) → ∃ l : List Int, ys = l.map .int
  | [], _ => ⟨[], rfl⟩
  | y :: r, h => by
    obtain ⟨v, rfl⟩ := h y List.mem_cons_self
    obtain ⟨l, rfl⟩ := intsOf r fun z hz => h z (List.mem_cons_of_mem _ hz)
    exact ⟨v :: l, rfl⟩
theorem in_ints (v : Int) (l : List Int) : gInA false (.int v) (.lst (l.map .int)) = some (.d (.bl (inV (.int v) (l.map V.int)))) := by
  have : gIn false (.int v) (.lst (l.map .int)) = some (.d (.bl (inV (.int v) (l.map V.int)))) := by
    show (match some (V.int v), (some (l.map D.int)).bind flatDs with
      | some v, some vs => some (Opd.d (.bl (if false then !inV v vs else inV v vs)))
      | _, _ => none) = _
    rw [Option.bind_some, flatDs_ints]
    rfl
  unfold gInA gOr
  rw [this]
theorem dArgs_o {m : M Opd} {ms : List (M Opd)} {e e1 e2 : En} {x : D} {xs : List D} {o : O} (h1 : m e = .ok (.n o) e1) (hf : freeze o = some x) (h2 : dArgs ms e1 = .ok xs e2) : dArgs (m :: ms) e = .ok (x :: xs) e2 := by
  show bnd m (fun p => bnd (pub p) fun x => bnd (dArgs ms) fun xs => pur (x :: xs)) e = _
  rw [bnd_e h1, bnd_e (show pub (.n o) e1 = .ok x e1 by simp only [pub, pubF, hf, Option.map_some]), bnd_e h2]
  rfl
theorem dPar2_e {i j : Nat} {ma mb : M Opd} {e e1 : En} {x y : D} (h : dArgs [ma, mb] e = .ok [x, y] e1) : dPar2 i j ma mb e = .ok .nx (st (st e1 i (some (.d x))) j (some (.d y))) := by
  unfold dPar2
  rw [bnd_e h]
theorem dCaught_x {m : M Opd} {e e1 : En} {c fs} (h : m e = .ex c fs e1) : dCaught m e = .ok (.d (.exc c fs)) e1 := by
  unfold dCaught; rw [h]
end Dv
set_option Elab.async false
set_option linter.all false
set_option maxRecDepth 100000
set_option maxHeartbeats 4000000
/-! Dv35: an own error over ValueError whose __init__ says super().__init__(text) and keeps one field. -/
namespace Dv
open PySem PySem.Spec PyProof.Rows L2 NdefX
/-- ValueError.__init__ bound to an object of ours -/
theorem call_mwV {A : Around} {X : Cx} {pins : List (Addr × Obj)} {σ : L2.St} {H : Hp} {E : Value → Shared → Prop} {s : Shared} {u a C : Addr} {us : List Value} {Q : Value → Shared → Prop}
    (T : OexC X.K C) (I : Inv X pins σ H s) (e : H a = some (exo a C none)) (hu : s.heap.get? u = some (PySem.W.kxs_mw "ValueError.__init__" a)) (hl : us.length ≤ sizeLine) (h : ∀ s', Inv X pins σ H s' → Q .none s') :
    wpAny (model X.prog X.w) A (call (.ref u) us) Q E s := by
  obtain ⟨nm, q, N, bs, bm, sn, sub, ab, col, dd, k0, k1, k2, k3, k5, hC, hbm⟩ := T.cls
  obtain ⟨t1, ho⟩ := exo_at I.hok e
  have hCh := I.kIn _ _ hC
  obtain ⟨hp, g, d, t, os⟩ := s
  refine wpAny_call (codeAny_of_tree ?_)
  show wpAny _ A.in1 (callAny (.ref u) ⟨us, []⟩) _ _ _
  simp only [callAny]
  refine wpAny_bind (wpAny_load hu ?_)
  simp only [PySem.W.kxs_mw, show (Value.type "method-wrapper" == Value.type "method" || Value.type "method-wrapper" == Value.type "builtin_function_or_method" || Value.type "method-wrapper" == Value.type "method-wrapper") = true by decide, if_true]
  refine PySem.W.KFB.if_so (by decide) ?_
  refine wpAny_bind (PySem.W.check_bound_init F.excBase_ValueError.toExcCallFacts hCh ho rfl ?_)
  refine wpAny_bind (wpAny_pure (wpAny_pure ?_))
  refine ⟨plainId_quiet F.excBase_ValueError.init.plain _, codeAny_builtin F.excBase_ValueError.initEntry ?_⟩
  refine PySem.W.exc_init_tree (cls := .ref C) (t0 := t1) (dv := none) (c2 := .none) (c3 := .none) (b4 := .bool false) ho hl fun h' k hx _ => ?_
  have J := I.write (t' := t) (x := a) (e := a) (o := exo a C none) (by rw [e]; exact True.intro) (.inl rfl) k ⟨_, hx⟩ (exo_ok hx)
  have eu : upd H a (exo a C none) = H := by
    funext b
    by_cases hb : b = a
    · rw [hb, upd_same, e]
    · rw [upd_ne hb]
  rw [eu] at J
  exact h _ J
/-- __init__(self, x): super().__init__(..); self.f = x -/
def spSup (D : Addr) (f : Str) : Sp := fun vs H Q _ => ∃ (a : Addr) (y : V), vs = [.ref a, y] ∧ H a = some (exo a D none) ∧ ∀ dx, H dx = none → dx ≠ a → Q .non (upd (upd H dx (exd dx [(f, y)])) a (exo a D (some dx)))
abbrev supBody (fl x msg : Str) (j : Nat) (p0 p1 p2 p3 p4 p5 p6 p7 p8 p9 : Pos) : List Stmt :=
  [.Expr (.Call (.Attribute (.Call (.Name "super" p0) [] [] p1) "__init__" p2) [.Constant (.str msg) j p3] [] p4) p5, .Assign [.Attribute (.Name "self" p6) fl p7] (.Name x p8) p9]
theorem fn_sup {CX : CXT} {P : Program} {w : World} {K : PySem.W.Frag} {mg : Str → Option Value} {base : Heap} {f cc cda D : Addr} {name qual fl x msg : Str} {params : Arguments} {scope : Scope} {dV kV doc pm ct oc ccl cl : Value} {an od cdd cld : Option Addr} {osl ccs csl : Array (Option Value)} {vs : Array Value} {file : Str} {tf : Tok} {j : Nat}
    {p0 p1 p2 p3 p4 p5 p6 p7 p8 p9 : Pos} {ar : Arg} {cdD : ClassData}
    (lk : K.lookup f = some ⟨oc, od, .func (PySem.W.fnX name qual params (supBody fl x msg j p0 p1 p2 p3 p4 p5 p6 p7 p8 p9) scope [("__class__", cc)] dV kV doc pm an (.ref cda) ct), osl⟩) (hcd : PySem.W.codeIn K (.ref cda) qual = true)
    (S : NScope ["self", x, "__class__"] ["self", x] ["__class__"] scope) (hks : scope.names.lookup ("super" : Str) = some .globalImplicit)
    (hp_ : (params.posonlyargs ++ params.args).head? = some ar) (har : ar.arg = "self")
    (hcode : K.lookup cda = some ⟨ccl, cdd, .fields vs, ccs⟩) (hvs : vs[2]? = some (.str file tf)) (hfile : ((P.main.file : Str) == file) = true)
    (hcell : K.lookup cc = some ⟨cl, cld, .cell (some (.ref D)), csl⟩) (hD : PySem.W.clsIn K D = some cdD) (hsub : PySem.W.mroIn K D (.ref D) = some true) (hsuper : mg "super" = none)
    (htop : (P.main.scope.names.lookup ("super" : Str)).isSome = false) (hthird : PySem.W.nsIn K cStatics "thirdparty.any" = some none) (hm : PySem.W.ks_superIn K D D "__init__" = some (some (.builtin "ValueError.__init__")))
    (hB : PySem.W.subIn K (.ref D) (.type "ValueError") = some true) (hno : PySem.W.findIn K (.ref D) fl = some none) (T : OexC K D) (hev : ∀ env : Env, ∃ pl : Sem Bool, eval (.Call (.Attribute (.Call (.Name "super" p0) [] [] p1) "__init__" p2) [.Constant (.str msg) j p3] [] p4) env = (do
      let ov ← attributeBase (.Call (.Name "super" p0) [] [] p1) "__init__" env (eval (.Call (.Name "super" p0) [] [] p1) env)
      standAt p2.atName
      let (f, first) ← holding [ov] (getMethod ov "__init__" pl)
      callWith p4 f first (backTo p4 (starEach [.Constant (.str msg) j p3] env)) []))
    (nd : x ≠ "__debug__") (ncd : x ≠ "__classdict__") :
    FnOk P w K mg base CX 1 f (PySem.W.fnX name qual params (supBody fl x msg j p0 p1 p2 p3 p4 p5 p6 p7 p8 p9) scope [("__class__", cc)] dV kV doc pm an (.ref cda) ct) ["self", x] (spSup D fl) := by
  refine ⟨fun vs H Q E ⟨a, y, e, _⟩ => by rw [e]; rfl, fun A outer s H args us vs' Q E hr e0 hb r hsp => ?_⟩
  obtain ⟨a, y, rfl, ha, hq⟩ := hsp
  have hl : ([V.ref a, y] : List V).length = (["self", x] : List Str).length := rfl
  have KX : K.In s.heap := e0.mod.kin.keeps fun b o e => (e0.bs b o e).1
  have lim : s.heap.NoLimit := e0.mod.nolimit.keeps fun b o e => (e0.bs b o e).1
  let F : NF := ⟨name, qual, params, supBody fl x msg j p0 p1 p2 p3 p4 p5 p6 p7 p8 p9, scope, [("__class__", cc)], cda⟩
  have cK : ∀ b o, K.lookup b = some o → s.heap.get? b = some o ∧ H b = none := fun b o e => e0.bs b o (e0.mod.kin b o e)
  have hcc : ∀ {y : Str} {c : Addr}, F.cl.lookup y = some c → y = "__class__" ∧ c = cc := fun {y c} e => by
    have e : List.lookup y [(("__class__" : Str), cc)] = some c := e
    simp only [List.lookup] at e
    split at e
    · rename_i h; cases e; exact ⟨eq_of_beq h, rfl⟩
    · cases e
  have C : CellsAt F.cl ["__class__"] [none] s.heap H := by
    refine ⟨rfl, fun y c e => ?_, fun y z c e1 e2 => (hcc e1).1.trans (hcc e2).1.symm, fun i y e => ?_⟩
    · obtain ⟨rfl, rfl⟩ := hcc e
      exact ⟨(cK _ _ hcell).2, _, _, (cK _ _ hcell).1, rfl⟩
    · match i, e with
      | 0, e => exact ⟨cc, by cases e; rfl, fun v z => by cases z⟩
      | i + 1, e => cases e
  obtain ⟨u, rfl⟩ : ∃ u, us = [Value.ref a, u] := by
    cases r with
    | cons ra rr =>
      cases rr with
      | cons ry rn =>
        cases rn
        cases (show _ = Value.ref a from ra)
        exact ⟨_, rfl⟩
  obtain ⟨hp, g, d, t, os⟩ := s
  refine codeAny_call_function hr.depth (KX _ _ lk) rfl S.co S.gen rfl (PySem.W.codeRec_of KX hcd) (hb _ _ _ _ ?_)
  refine wpAny_newFunctionEnv S.nocell (fun ⟨n, _⟩ hy => S.par n (List.of_mem_zip hy).1) (fun h₁ hns hsb => ⟨lim.fresh _ hsb, ?_⟩) S.kind
  show codeAny _ _ (.func F.body (envF F f hp.objs.size)) _ _
  have kp : ∀ b o, hp.get? b = some o → h₁.get? b = some o := fun b o e => hsb.extBut b o (Nat.ne_of_lt (Heap.lt_size e)) (Heap.get?_push_of_some _ e)
  let X := ncx CX P w K mg base ["self", x, "__class__"] F f A outer ⟨hp, g, d, t, os⟩ H E
  have I : Inv X [] (startF ["self", x, "__class__"] [V.ref a, y] [none]) H ⟨h₁, g, d, t + ((["self", x] : List Str).zip [Value.ref a, u]).length, os⟩ := inv_startN S hr.hd e0 hl r C hns kp
  refine PySem.ks_codeAny_funcAt ?_
  have K1 : K.In h₁ := KX.keeps kp
  obtain ⟨t1, hx⟩ := exo_at I.hok ha
  obtain ⟨oD, hD1, hD2⟩ : ∃ oD, h₁.get? D = some oD ∧ oD.data = .cls cdD := by
    unfold PySem.W.clsIn at hD
    split at hD
    · rename_i c d cd' sl ho
      cases hD
      exact ⟨_, K1 _ _ ho, rfl⟩
    · cases hD
  obtain ⟨pl, hpl⟩ := hev (envF F f hp.objs.size)
  refine PySem.ks_wpAt_execs_cons (PySem.ks_wpAt_Expr_any (PySem.ks_wpAt_MethodCall ?_ hpl) I.quiet (by rfl))
  refine PySem.ks_wpAt_super_base (env := envF F f hp.objs.size) hks (S.frk _ (by simp)) (by decide) rfl (K1 _ _ lk) rfl hp_ rfl (K1 _ _ hcode) rfl hvs hfile htop ?_
  obtain ⟨mb, b1, b2⟩ := I.mod.blt
  refine PySem.W.ks_loadName_global S.kind hks (Calls.loadGlobal_builtin (I.mod.glob.keeps I.bk) hsuper (b1.keeps I.bk) ((b2 _ (by decide)).trans (by first | boot_by_name | rfl | kernel_rfl)) ⟨rfl, ?_⟩)
  refine wpAny_loadName_free S.kind (S.frk _ (by simp)) rfl ⟨_, K1 _ _ hcell, rfl⟩ ?_
  rw [har]
  refine wpAny_loadName_local S.kind (S.par _ (by simp)) hns (zip_look (i := 0) (by have := S.nd; simp only [List.nodup_cons, List.mem_cons, not_or] at this ⊢; simp [this.1.1]) rfl rfl) ?_
  refine PySem.ks_wpAny_isType_cls hD1 hD2 ⟨rfl, ?_⟩
  refine PySem.ks_wpAny_call_super hD1 hD2 hx rfl (fun c e => by cases e) (PySem.W.looks_mroIn K1 hsub) (fun h2 e2 k2 => ?_)
  have K2 : K.In h2 := K1.keeps k2
  have I2 : Inv X [] (startF ["self", x, "__class__"] [V.ref a, y] [none]) H ⟨h2, g, d, t + ((["self", x] : List Str).zip [Value.ref a, u]).length, os⟩ := I.kept k2
  have hx2 := k2 _ _ hx
  have IA : PySem.W.InstAt h2 a { cls := .ref D, data := .fields #[.ref t1, .none, .none, .none, .bool false, .none] } D none := ⟨hx2, rfl, rfl, trivial⟩
  have hI : PySem.W.Looks (model P w) h2 (isInstance (.ref a) (.type "ValueError")) true := IA.type.andThen (PySem.W.looks_subIn K2 hB)
  have hm2 : PySem.W.alongIn K "__init__" ((cdD.mro.dropWhile (· != .ref D)).drop 1) = some (some (.builtin "ValueError.__init__")) := by
    unfold PySem.W.ks_superIn at hm
    rw [hD] at hm
    exact hm
  refine PySem.W.kxs_getMethod PySem.W.kxs_ValueError e2 (PySem.W.looks_opaque K2 hthird) (l₀ := cdD.mro) (fun A Q E s k q => wpAny_bind ((PySem.W.looks_clsIn K2 hD) A _ E s k (wpAny_pure q))) rfl K2 hm2 hI (PySem.W.ks_ne K2 IA hD) (by decide) ?_
  have k3 : ∀ b o, h2.get? b = some o → (h2.push (PySem.W.kxs_mw "ValueError.__init__" a)).get? b = some o := fun b o e => Heap.get?_push_of_some _ e
  have e3 : (h2.push (PySem.W.kxs_mw "ValueError.__init__" a)).get? h2.objs.size = some (PySem.W.kxs_mw "ValueError.__init__" a) := Heap.get?_push_size _ rfl
  have I3 : Inv X [(h2.objs.size, PySem.W.kxs_mw "ValueError.__init__" a)] (startF ["self", x, "__class__"] [V.ref a, y] [none]) H ⟨h2.push (PySem.W.kxs_mw "ValueError.__init__" a), g, d, t + ((["self", x] : List Str).zip [Value.ref a, u]).length + 1, os⟩ :=
    (I2.kept (t' := t + ((["self", x] : List Str).zip [Value.ref a, u]).length + 1) k3).pins_of fun p hp' => by
      rw [List.mem_singleton.mp hp']
      exact ⟨e3, I2.hok.fresh (Nat.le_refl _), fun z => by have := I2.lt; rw [← z] at this; exact absurd this (Nat.lt_irrefl _), I2.nofs (Nat.le_refl _), fun v z => by cases z⟩
  refine PySem.W.kxs_callWith (i := "ValueError.__init__") (x := a) rfl (PySem.Calls.evalArgs_plain ?_)
  refine wpAny_mono ((pa_cons (pe_str (X := X)) pa_nil rfl).run _ _ _ _ H (fun vs H' => vs = [V.str msg] ∧ H' = H) I3 ⟨rfl, rfl⟩) (fun vs' s1 ⟨vv, H1, J, rv, e1, e4⟩ => ?_) (fun e' s1 hh => hh)
  subst e1
  rw [e4] at J
  refine ⟨(J.pin _ (List.mem_append_right _ (List.mem_singleton.mpr rfl))).1, ?_⟩
  refine call_mwV T J ha (J.pin _ (List.mem_append_right _ (List.mem_singleton.mpr rfl))).1 (by show vs'.length ≤ _; rw [← Paired.length rv, sizeLine_eq]; show 1 ≤ _; omega) fun s2 J2 => ?_
  have J3 : L2.Inv X [] (startF ["self", x, "__class__"] [V.ref a, y] [none]) H s2 := J2.pins_of fun p hp' => absurd hp' (by simp)
  show PySem.wpAt _ _ _ (execs [_] _) _ _ _
  refine PySem.wpAt_of_wpAny ?_
  have ht := pss_one (ps_ost (X := X) (f := fl) (p' := p7) (pos := p9) (pv (X := X) (pos := p6) 0 rfl (.inl (S.par _ (by simp)))) (pv (X := X) (x := x) (pos := p8) 1 rfl (.inl (S.par _ (by simp))) (by simpa using nd) (by simpa using ncd)))
  refine wpAny_mono (ht.run [] s2 _ H { nx := fun _ H' => Q .non H', rt := Q } J3 ⟨y, rfl, .ref a, rfl, a, D, rfl, T, hno, .inl ⟨ha, fun dx n ne => hq dx n ne⟩⟩) (fun fl' s' hs => ?_) fun e s' hs => hs
  have fin : ∀ {σ' : L2.St} {H' : Hp} {v : V} {u : Value}, L2.Inv X [] σ' H' s' → L2.RelV v u → Q v H' → CE outer P w H ⟨hp, g, d, t, os⟩ Q u s' :=
    fun {σ' H' v u} J rv q => ⟨v, H', J.os, J.bare, J.base, J.hok, rv, q⟩
  cases fl' with
  | ret u =>
    obtain ⟨v, σ', H', J, rv, q⟩ := hs
    exact fin J rv q
  | next =>
    obtain ⟨σ', H', J, q⟩ := hs
    exact fin (v := V.non) (u := Value.none) J rfl q
  | brk =>
    obtain ⟨_, _, _, q⟩ := hs
    exact False.elim q
  | cont =>
    obtain ⟨_, _, _, q⟩ := hs
    exact False.elim q
end Dv
set_option Elab.async false
set_option linter.all false
set_option maxRecDepth 100000
set_option maxHeartbeats 4000000
/-! Dv36: raise of an own error that keeps a field; the field read. -/
namespace Dv
open PySem PySem.Spec PyProof.Rows L2
variable [TabC]
def dRaiseF (c : Nat) (f : Str) (m : M Opd) : M Fl := bnd (dArgs [m]) fun xs => match xs with
  | [x] => fun e => .ex c [(f, x)] e
  | _ => nop
theorem sup_end {H1 : Hp} {a dx : Addr} {u : HO} {o o' : HO} {w : HO} (n : H1 a = none) (ne : dx ≠ a) : upd (del (upd (upd (upd H1 a o) dx w) a o') a) dx u = upd H1 dx u := by
  funext b
  by_cases h : b = dx
  · rw [h, upd_same, upd_same]
  · rw [upd_ne h, upd_ne h]
    by_cases k : b = a
    · rw [k, del_same, n]
    · rw [del_ne k, upd_ne k, upd_ne h, upd_ne k]
section
variable {X : Cx} {R : RC} {W : WP}
/-- what the text says of the class of an error with a field -/
structure SupC (P : Program) (w : World) (K : PySem.W.Frag) (mg : Str → Option Value) (base : Heap) (C : Addr) (fI : Addr) (fd : FuncData) (q f : Str) : Prop where
  T : OexC K C
  iC : PySem.W.findIn K (.ref C) "__init__" = some (some (.ref fI))
  tI : PySem.W.typeIn K (.ref fI) = some (.type "function")
  ok : FnOk P w K mg base CX0 1 fI fd ["self", q] (spSup C f)
  hb : Binds K fd ["self", q] []
theorem js_raiseF {c : Nat} {x f q : Str} {e : Expr} {m : M Opd} {p pos pos' : Pos} {fI : Addr} {fd : FuncData} (hc : X.calm = true) (tk : Takes X W.w) (S : SupC X.prog X.w X.K X.mg X.base (R.cl c) fI fd q f) (hr : Room 2 X.A) (gC : X.mg x = some (.ref (R.cl c))) (hg : Gl X x) (ha : PE X e (LE R W.w m))
    (hdb : (x == ("__debug__" : Str)) = false := by decide) (he : starEach (e :: []) X.env = (false, eval e X.env) :: starEach [] X.env := by rfl) (hpl : (backTo pos (starEach [] X.env)).any (·.1) = false := by rfl) :
    PS X (.Raise (some (.Call (.Name x p) [e] [] pos)) none pos') (LS R W (dRaiseF c f m)) :=
  wkS (ps_raise hc tk (pmk_oex S.T S.iC S.tI S.ok hr S.hb (.nil) pass0 hg gC (ja_cons ha ja_nil he) hdb he hpl)) fun Dn σ H ⟨F0, env, ow, s, pn, h⟩ => by
    refine LA_mono (SA_bnd s pn h) fun vs H1 ⟨xs, env1, F1, ow1, s1, st1, r1, h⟩ => ?_
    match xs, r1, h with
    | [], _, h => exact h.elim
    | [y], r1, h =>
      obtain ⟨v, r, rfl, r2, e0⟩ := r1
      have e0 : r = [] := e0
      subst e0
      refine ⟨by show 1 ≤ 1000; decide, fun a na => ⟨a, v, rfl, upd_same, fun dx n ne => ⟨rfl, dx, [(f, v)], upd_same, by rw [upd_ne ne, upd_same], ?_, ?_⟩⟩⟩
      · rw [upd_ne ne] at n; exact n
      · rw [upd_ne ne] at n
        have nx : NT (HO.xd [(f, v)]) := fun _ z => by cases z
        have k1 : Ext F1 H1 (upd F1 dx (.xd [(f, v)])) (upd H1 dx (.xd [(f, v)])) := Ext.new s1.le n nx
        obtain ⟨j1, j2, _⟩ := k1.fin (R := R) (p := .d .non) (w := .non) s1 rfl
        rw [sup_end na ne]
        exact h (some dx) [(f, v)] σ _ _ ow1 (st1.trans s.nofU j1) j2 pn (.inl upd_same) ⟨v, [], rfl, r2.mono (.ofEx k1.st.ex), rfl⟩
    | _ :: _ :: _, _, h => exact h.elim
end
/-! ### e.f, e an error of the class k -/
def gFld (k : Nat) (n : Str) : D → Option Opd
  | .exc c fs => if c = k then (fs.lookup n).map .d else none
  | _ => none
def rFld (K : PySem.W.Frag) (C : Addr) (n : Str) : V → Hp → VK → Prop := fun x H Q => ∃ (a d : Addr) (fs : List (Str × V)) (v : V), x = .ref a ∧ Rd H a (ExV C (some d) a) ∧ Rd H d (.xd fs) ∧ fs.lookup n = some v ∧ Q v H
theorem repX_look {R : RC} {F : Hp} {n : Str} {x : D} : ∀ {fs : List (Str × D)} {kvs : List (Str × V)}, RepX R F fs kvs → fs.lookup n = some x → ∃ v, kvs.lookup n = some v ∧ Rep R F x v
  | [], _, _, e => by cases e
  | (m, y) :: r, _, h, e => by
    obtain ⟨v, kr, rfl, h1, h2⟩ := h
    rw [List.lookup_cons] at e
    split at e
    · rename_i q
      cases e
      exact ⟨v, by rw [List.lookup_cons, show (n == m) = true from q], h1⟩
    · rename_i q
      obtain ⟨u, k1, k2⟩ := repX_look h2 e
      exact ⟨u, by rw [List.lookup_cons, show (n == m) = false from q]; exact k1, k2⟩
theorem op1_fld {R : RC} {k : Nat} {n : Str} : Op1 R (gFld k n) (rFld R.K (R.cl k) n) := fun F H x v p Q le r e q => by
  unfold gFld at e
  split at e
  · rename_i c fs
    split at e
    · rename_i ck
      subst ck
      obtain ⟨y, e1, rfl⟩ := Option.map_eq_some_iff.mp e
      obtain ⟨a, d, kvs, rfl, h1, h2, h3⟩ := r
      obtain ⟨u, k1, k2⟩ := repX_look h3 e1
      cases d with
      | none =>
        have h2 : kvs = [] := h2
        subst h2
        cases k1
      | some d => exact ⟨a, d, kvs, u, rfl, le.rd _ _ h1, le.rd _ _ h2, k1, q _ F H (.refl le) k2⟩
    · cases e
  · cases e
theorem xd_at {P : Program} {w : World} {H : Hp} {h : Heap} {d : Addr} {fs : List (Str × V)} (k : HOk P w H h) (r : Rd H d (.xd fs)) : ∃ mA, h.Ns1 d mA ∧ ∀ f, RelO (fs.lookup f) (mA f) := by
  rcases r with r | ⟨o, r⟩
  · exact (show ObjOk P w H h d (.xd fs) from k d _ r)
  · exact (show ObjOk P w H h d (.xd fs) from (k d _ r).2)
section
variable {X : Cx} {R : RC} {W : WX}
theorem je_fld {k : Nat} {n : Str} {e : Expr} {m : M Opd} {pos : Pos} (T : XfC X.K (R.cl k)) (hno : PySem.W.findIn X.K (.ref (R.cl k)) n = some none) (ha : PE X e (LE R W m))
    (hb : attributeBase e n X.env (eval e X.env) = eval e X.env := by rfl) (hK : X.K = R.K := by rfl) : PE X (.Attribute e n pos) (LE R W (dOp1 (gFld k n) m)) := by
  have key : PE X (.Attribute e n pos) (fun σ H Q => LE R W m σ H fun x H1 => rFld R.K (R.cl k) n x H1 Q) := by
    refine ⟨fun pins s σ H Q I h => ?_⟩
    refine attr_of hb (thn (ha.run pins s σ H _ I h) fun u s1 hh => ?_)
    obtain ⟨x, H1, I1, rx, a, d, fs, v, ex, r1, r2, l, q⟩ := hh
    subst ex
    obtain rfl : u = Value.ref a := rx
    obtain ⟨oe, vs, e1, e2, e3, e4⟩ := exV_at I1.hok r1
    obtain ⟨mA, hns, hr⟩ := xd_at I1.hok r2
    obtain ⟨od, ho, hl⟩ := lookIn_ns hns
    obtain ⟨u, hu, ru⟩ := RelO.some_of (v := v) (o := mA n) (by rw [← l]; exact hr n)
    have J : PySem.W.InstAt s1.heap a oe (R.cl k) (some od) := ⟨e1, e2, by unfold PySem.W.notCls; rw [e4] <;> rfl, by rw [e3]; exact ho⟩
    exact PySem.HandSPX.exc_get I1.kIn J T.ga T.gg T.exC (PySem.W.findObj_own T.hdC hno rfl (by rw [hl, hu])) (handed_of ru) ⟨v, H1, I1.tok _, ru, q⟩
  exact wkE key fun σ H Q h => LE_op1 op1_fld h
end
end Dv
set_option Elab.async false
set_option linter.all false
set_option maxRecDepth 100000
set_option maxHeartbeats 4000000
/-! Dv37: a tuple or a list times a number. -/
namespace Dv
open PySem PySem.Spec PyProof.Rows L2
variable [TabC]
theorem Reps.rep {R : RC} {F : Hp} {d : List D} {v : List V} (h : Reps R F d v) : ∀ k : Nat, Reps R F (List.replicate k d).flatten (List.replicate k v).flatten
  | 0 => rfl
  | k + 1 => by
    rw [List.replicate_succ, List.replicate_succ, List.flatten_cons, List.flatten_cons]
    exact h.append (h.rep k)
def gRepT : D → D → Option Opd
  | .tup xs, .int k => if xs.length ≠ 0 ∧ 2 ≤ k ∧ k ≤ 1000 ∧ xs.length ≤ 1000 then some (.d (.tup (List.replicate k.toNat xs).flatten)) else none
  | _, _ => none
def gRepL : D → D → Option Opd
  | .lst xs, .int k => if 0 ≤ k ∧ k ≤ 1000000 ∧ xs.length * k.toNat ≤ 1000000 then some (.n (.lst (List.replicate k.toNat xs).flatten)) else none
  | _, _ => none
theorem op2_repT {R : RC} : Op2 R gRepT (rRepT R.K) := by
  intro F H x y v u p Q le h1 h2 e q
  unfold gRepT at e
  split at e
  · rename_i xs k
    split at e
    · rename_i c
      cases e
      obtain ⟨a, vs, rfl, a1, a2⟩ := h1
      have h2 : u = .int k := h2
      subst h2
      have hl := a2.length
      refine ⟨a, k, vs, rfl, rfl, le.sqT a1, fun z => c.1 (by rw [← hl, z]; rfl), c.2.1, c.2.2.1, by rw [hl]; exact c.2.2.2, fun p hp => ?_⟩
      obtain ⟨k1, k2⟩ := new_tup le hp (a2.rep k.toNat)
      exact q _ _ _ k1 k2
    · cases e
  · cases e
theorem op2_repL {R : RC} : Op2 R gRepL rRep := by
  intro F H x y v u p Q le h1 h2 e q
  unfold gRepL at e
  split at e
  · rename_i xs k
    split at e
    · rename_i c
      cases e
      obtain ⟨a, vs, rfl, a1, a2⟩ := h1
      have h2 : u = .int k := h2
      subst h2
      have hl := a2.length
      refine ⟨a, k, vs, rfl, rfl, a1, by omega, by omega, by rw [hl]; exact Nat.le_trans c.2.2 (by decide), fun p hp => ?_⟩
      obtain ⟨k1, k2⟩ := new_lst le hp (a2.rep k.toNat)
      exact q _ _ _ k1 k2
    · cases e
  · cases e
section
variable {X : Cx} {R : RC} {W : WX} {a b : Expr} {ma mb : M Opd} {pos : Pos}
theorem je_repT (ha : PE X a (LE R W ma)) (hb : PE X b (LE R W mb)) (hK : X.K = R.K := by rfl) : PE X (.BinOp a .Mult b pos) (LE R W (dOp2 gRepT ma mb)) := je_op op_repT (hK ▸ op2_repT) ha hb
theorem je_repL (ha : PE X a (LE R W ma)) (hb : PE X b (LE R W mb)) : PE X (.BinOp a .Mult b pos) (LE R W (dOp2 gRepL ma mb)) := je_op op_rep op2_repL ha hb
end
end Dv
set_option Elab.async false
set_option linter.all false
set_option maxRecDepth 100000
set_option maxHeartbeats 4000000
/-! Dv38: tuples and lists of ints, equal or not; sorted; a while that is reckoned by turns. -/
namespace Dv
open PySem PyProof.Rows L2
variable [TabC]
def tupI (l : List Int) : D := .tup (l.map .int)
def lstI (l : List Int) : D := .lst (l.map .int)
theorem atI_nat {α} (xs : List α) (i : Nat) (h : i < xs.length) : atI xs (i : Int) = xs[i]? := by
  unfold atI ixN
  rw [if_pos (by omega), if_pos (by omega)]
  rfl
theorem atI_last {α} (xs : List α) (x : α) : atI (xs ++ [x]) (-1) = some x := by
  unfold atI ixN
  rw [List.length_append, List.length_singleton, if_neg (by omega), if_pos (by omega)]
  show (xs ++ [x])[((-1 : Int) + ((xs.length + 1 : Nat) : Int)).toNat]? = _
  rw [show ((-1 : Int) + ((xs.length + 1 : Nat) : Int)).toNat = xs.length by omega]
  simp
theorem ix_tup (xs : List D) (y : D) (i : Int) (h : atI xs i = some y) : gSub2 (.tup xs) (.int i) = some (.d y) := by
  have : gIx (.tup xs) (.int i) = some (.d y) := by
    show (atI xs i).map Opd.d = _
    rw [h]; rfl
  unfold gSub2 gOr
  rw [this]
theorem ix_lst (xs : List D) (y : D) (i : Int) (h : atI xs i = some y) : gSub2 (.lst xs) (.int i) = some (.d y) := by
  have : gIx (.lst xs) (.int i) = some (.d y) := by
    show (atI xs i).map Opd.d = _
    rw [h]; rfl
  unfold gSub2 gOr
  rw [this]
theorem at_ints (l : List Int) (i : Nat) (h : i < l.length) : atI (l.map D.int) (i : Int) = some (.int (l.getD i 0)) := by
  rw [atI_nat _ _ (by rw [List.length_map]; exact h), List.getElem?_map, List.getD_eq_getElem?_getD, List.getElem?_eq_getElem h]
  rfl
theorem sub_tup (l : List Int) (i : Nat) (h : i < l.length) : gSub2 (tupI l) (.int (i : Int)) = some (.d (.int (l.getD i 0))) := ix_tup _ _ _ (at_ints l i h)
theorem sub_lst (l : List Int) (i : Nat) (h : i < l.length) : gSub2 (lstI l) (.int (i : Int)) = some (.d (.int (l.getD i 0))) := ix_lst _ _ _ (at_ints l i h)
theorem len_tup (l : List Int) : gLen (tupI l) = some (.d (.int l.length)) := by
  show some (Opd.d (.int ((l.map D.int).length : Nat))) = _
  rw [List.length_map]
theorem len_lst (l : List Int) : gLen (lstI l) = some (.d (.int l.length)) := by
  show some (Opd.d (.int ((l.map D.int).length : Nat))) = _
  rw [List.length_map]
theorem toPs_ints : ∀ l : List Int, toPs (l.map D.int) = some (l.map PyData.int)
  | [] => rfl
  | x :: r => by
    show toPs (D.int x :: r.map D.int) = _
    unfold toPs
    rw [toPs_ints r]
    rfl
theorem lay_ints : ∀ l : List Int, PyData.canLayAll0 (l.map PyData.int) = true ∧ PyData.depthAll (l.map PyData.int) = 0
  | [] => ⟨rfl, rfl⟩
  | n :: r => by
    refine ⟨?_, ?_⟩
    · show (PyData.canLay0 (.int n) && PyData.canLayAll0 (r.map PyData.int)) = true
      rw [(lay_ints r).1]; rfl
    · show max (PyData.depth (.int n)) (PyData.depthAll (r.map PyData.int)) = 0
      rw [(lay_ints r).2]; rfl
theorem shaped_tup (l : List Int) : SeqAt.shaped (.tuple (l.map PyData.int)) = true := by
  show (PyData.canLayAll0 (l.map PyData.int) && decide (PyData.depthAll (l.map PyData.int) + 1 ≤ 64)) = true
  rw [(lay_ints l).1, (lay_ints l).2]; rfl
theorem shaped_lst (l : List Int) : SeqAt.shaped (.list (l.map PyData.int)) = true := by
  show (PyData.canLayAll0 (l.map PyData.int) && decide (PyData.depthAll (l.map PyData.int) + 1 ≤ 64)) = true
  rw [(lay_ints l).1, (lay_ints l).2]; rfl
theorem eqv_ints : ∀ l m : List Int, PyData.eqvAll (l.map PyData.int) (m.map PyData.int) = decide (l = m)
  | [], [] => by simp [PyData.eqvAll]
  | [], _ :: _ => by simp [PyData.eqvAll]
  | _ :: _, [] => by simp [PyData.eqvAll]
  | x :: l, y :: m => by
    show PyData.eqvAll (.int x :: l.map PyData.int) (.int y :: m.map PyData.int) = _
    rw [PyData.eqvAll, eqv_ints l m]
    show ((x == y) && decide (l = m)) = _
    by_cases h : x = y
    · subst h; simp
    · simp [h]
theorem toP_tup (l : List Int) : toP (tupI l) = some (.tuple (l.map PyData.int)) := by unfold tupI toP; rw [toPs_ints]; rfl
theorem toP_lst (l : List Int) : toP (lstI l) = some (.list (l.map PyData.int)) := by unfold lstI toP; rw [toPs_ints]; rfl
theorem gEq_of {neg : Bool} {x y : D} {p q : PyData} {b : Bool} (h1 : toP x = some p) (h2 : toP y = some q) (s1 : SeqAt.shaped p = true) (s2 : SeqAt.shaped q = true) (e : PyData.eqv p q = b) : gEq neg x y = some (.d (.bl (if neg then !b else b))) := by
  unfold gEq
  simp only [h1, h2]
  rw [if_pos ⟨s1, s2⟩, e]
theorem eqv_tup (l m : List Int) : PyData.eqv (.tuple (l.map PyData.int)) (.tuple (m.map PyData.int)) = decide (l = m) := by rw [PyData.eqv]; exact eqv_ints l m
theorem eqv_lst (l m : List Int) : PyData.eqv (.list (l.map PyData.int)) (.list (m.map PyData.int)) = decide (l = m) := by rw [PyData.eqv]; exact eqv_ints l m
theorem eq_tup (neg : Bool) (l m : List Int) : gEq neg (tupI l) (tupI m) = some (.d (.bl (if neg then !decide (l = m) else decide (l = m)))) := gEq_of (toP_tup l) (toP_tup m) (shaped_tup l) (shaped_tup m) (eqv_tup l m)
theorem eq_lst (neg : Bool) (l m : List Int) : gEq neg (lstI l) (lstI m) = some (.d (.bl (if neg then !decide (l = m) else decide (l = m)))) := gEq_of (toP_lst l) (toP_lst m) (shaped_lst l) (shaped_lst m) (eqv_lst l m)
/-! ### lists of tuples of ints -/
def lstT (ls : List (List Int)) : D := .lst (ls.map tupI)
theorem toPs_tups : ∀ ls : List (List Int), toPs (ls.map tupI) = some (ls.map fun l => .tuple (l.map PyData.int))
  | [] => rfl
  | x :: r => by
    show toPs (tupI x :: r.map tupI) = _
    unfold toPs
    rw [toPs_tups r, toP_tup]
    rfl
theorem toP_lstT (ls : List (List Int)) : toP (lstT ls) = some (.list (ls.map fun l => .tuple (l.map PyData.int))) := by unfold lstT toP; rw [toPs_tups]; rfl
theorem lay_tups : ∀ ls : List (List Int), PyData.canLayAll0 (ls.map fun l => PyData.tuple (l.map PyData.int)) = true ∧ PyData.depthAll (ls.map fun l => PyData.tuple (l.map PyData.int)) ≤ 1
  | [] => ⟨rfl, Nat.zero_le _⟩
  | l :: r => by
    refine ⟨?_, ?_⟩
    · show (PyData.canLayAll0 (l.map PyData.int) && PyData.canLayAll0 (r.map fun l => PyData.tuple (l.map PyData.int))) = true
      rw [(lay_tups r).1, (lay_ints l).1]; rfl
    · show max (PyData.depthAll (l.map PyData.int) + 1) (PyData.depthAll (r.map fun l => PyData.tuple (l.map PyData.int))) ≤ 1
      rw [(lay_ints l).2]
      exact Nat.max_le.mpr ⟨Nat.le_refl _, (lay_tups r).2⟩
theorem shaped_lstT (ls : List (List Int)) : SeqAt.shaped (.list (ls.map fun l => PyData.tuple (l.map PyData.int))) = true := by
  show (PyData.canLayAll0 (ls.map fun l => PyData.tuple (l.map PyData.int)) && decide (PyData.depthAll (ls.map fun l => PyData.tuple (l.map PyData.int)) + 1 ≤ 64)) = true
  have := (lay_tups ls).2
  rw [(lay_tups ls).1, decide_eq_true (by omega)]; rfl
theorem eqv_tups : ∀ l m : List (List Int), PyData.eqvAll (l.map fun l => PyData.tuple (l.map PyData.int)) (m.map fun l => PyData.tuple (l.map PyData.int)) = decide (l = m)
  | [], [] => by simp [PyData.eqvAll]
  | [], _ :: _ => by simp [PyData.eqvAll]
  | _ :: _, [] => by simp [PyData.eqvAll]
  | x :: l, y :: m => by
    show PyData.eqvAll (.tuple (x.map PyData.int) :: l.map fun l => PyData.tuple (l.map PyData.int)) (.tuple (y.map PyData.int) :: m.map fun l => PyData.tuple (l.map PyData.int)) = _
    rw [PyData.eqvAll, eqv_tups l m, eqv_tup]
    by_cases h : x = y
    · subst h; simp
    · simp [h]
theorem eq_lstT (neg : Bool) (l m : List (List Int)) : gEq neg (lstT l) (lstT m) = some (.d (.bl (if neg then !decide (l = m) else decide (l = m)))) :=
  gEq_of (toP_lstT l) (toP_lstT m) (shaped_lstT l) (shaped_lstT m) (by rw [PyData.eqv]; exact eqv_tups l m)
def toTups : List D → Option (List (List Int))
  | [] => some []
  | .tup xs :: r => match toInts xs, toTups r with
    | some l, some ls => some (l :: ls)
    | _, _ => none
  | _ :: _ => none
theorem toTups_inv : ∀ {xs : List D} {ls : List (List Int)}, toTups xs = some ls → xs = ls.map tupI
  | [], ls, h => by cases h; rfl
  | .tup xs :: r, ls, h => by
    unfold toTups at h
    split at h
    · rename_i l ls' e1 e2
      cases h
      rw [List.map_cons, ← toTups_inv e2, toInts_inv e1]
      rfl
    · cases h
  | .non :: _, _, h => by cases h
  | .bl _ :: _, _, h => by cases h
  | .int _ :: _, _, h => by cases h
  | .str _ :: _, _, h => by cases h
  | .lst _ :: _, _, h => by cases h
  | .rol _ :: _, _, h => by cases h
  | .dic _ :: _, _, h => by cases h
  | .exc _ _ :: _, _, h => by cases h
  | .clo _ :: _, _, h => by cases h
theorem toBls_true : ∀ l : List Int, toBls (l.map fun _ => D.bl true) = some (l.map fun _ => true)
  | [] => rfl
  | _ :: r => by
    show (toBls (r.map fun _ => D.bl true)).map _ = _
    rw [toBls_true r]; rfl
/-! ### sorted, descending -/
def Desc (l : List Int) : Prop := l.Pairwise (fun x y => y ≤ x)
theorem insD (x : Int) : ∀ l : List Int, Desc l → Desc (insI (fun x y => if true then decide (y ≤ x) else decide (x ≤ y)) x l)
  | [], _ => List.pairwise_singleton _ _
  | y :: r, h => by
    obtain ⟨h1, h2⟩ := List.pairwise_cons.mp h
    unfold insI
    simp only [if_true, decide_eq_true_eq]
    split
    · rename_i c
      exact List.pairwise_cons.mpr ⟨fun z m => by
        rcases List.mem_cons.mp m with rfl | m
        · exact c
        · exact Int.le_trans (h1 z m) c, h⟩
    · rename_i c
      refine List.pairwise_cons.mpr ⟨fun z m => ?_, insD x r h2⟩
      rcases List.mem_cons.mp ((insI_perm _ x r).mem_iff.mp m) with rfl | m
      · omega
      · exact h1 z m
theorem sortD : ∀ l : List Int, Desc (sortB true l)
  | [] => List.Pairwise.nil
  | x :: r => insD x _ (sortD r)
theorem sort_perm (b : Bool) : ∀ l : List Int, (sortB b l).Perm l
  | [] => .refl _
  | x :: r => (insI_perm _ x _).trans ((sort_perm b r).cons x)
theorem sort_desc : ∀ l : List Int, Desc l → sortB true l = l
  | [], _ => rfl
  | [x], _ => rfl
  | x :: y :: r, h => by
    obtain ⟨h1, h2⟩ := List.pairwise_cons.mp h
    have ih := sort_desc (y :: r) h2
    unfold sortB at ih ⊢
    show insI _ x (isort _ (y :: r)) = _
    rw [ih]
    show (if (if true = true then decide (y ≤ x) else decide (x ≤ y)) = true then x :: y :: r else _) = _
    have : y ≤ x := h1 y List.mem_cons_self
    rw [if_pos]
    simp only [if_true, decide_eq_true_eq]
    exact this
theorem gSort_l (b : Bool) (l : List Int) : gSort b (lstI l) = some (.n (.lst ((sortB b l).map .int))) := by
  show ((some (l.map D.int)).bind toInts).map _ = _
  rw [Option.bind_some, toInts_map]
  rfl
theorem gSort_t (b : Bool) (l : List Int) : gSort b (tupI l) = some (.n (.lst ((sortB b l).map .int))) := by
  show ((some (l.map D.int)).bind toInts).map _ = _
  rw [Option.bind_some, toInts_map]
  rfl
/-! ### a while reckoned by its turns -/
def MLe {α} (m m' : M α) : Prop := ∀ e, m e ≠ .no → m' e = m e
theorem MLe.rfl' {α} {m : M α} : MLe m m := fun _ _ => rfl
theorem MLe.bnd {α β} {m m' : M α} {f f' : α → M β} (h : MLe m m') (k : ∀ a, MLe (f a) (f' a)) : MLe (Dv.bnd m f) (Dv.bnd m' f') := fun e ne => by
  unfold Dv.bnd at ne ⊢
  cases q : m e with
  | ok a e1 =>
    rw [q] at ne
    rw [h e (by rw [q]; intro z; cases z), q]
    exact k a e1 ne
  | ex c fs e1 => rw [h e (by rw [q]; intro z; cases z), q]
  | no => rw [q] at ne; exact absurd rfl ne
theorem MLe.wh {t : M Bool} {b : M Fl} (n : Nat) : MLe (dWhF t b n) (dWh t b) := fun e ne => dWh_eq rfl ne
theorem MLe.seq {a a' b b' : M Fl} (h : MLe a a') (k : MLe b b') : MLe (dSeq a b) (dSeq a' b') := MLe.bnd h fun fl => by cases fl <;> first | exact k | exact MLe.rfl'
theorem MLe.forL {t : D → M Unit} {b b' : M Fl} (h : MLe b b') : ∀ xs, MLe (dForL t b xs) (dForL t b' xs)
  | [] => MLe.rfl'
  | x :: xs => MLe.bnd MLe.rfl' fun _ => MLe.bnd h fun fl => by cases fl <;> first | exact MLe.forL h xs | exact MLe.rfl'
theorem MLe.for_ {it : M (List D)} {t : D → M Unit} {b b' : M Fl} (h : MLe b b') : MLe (dFor it t b) (dFor it t b') := MLe.bnd MLe.rfl' fun xs => MLe.forL h xs
theorem MLe.iff {α} {t : M Bool} {a a' b b' : M α} (h : MLe a a') (k : MLe b b') : MLe (dIf t a b) (dIf t a' b') := MLe.bnd MLe.rfl' fun c => by
  cases c
  · exact k
  · exact h
theorem runF_le {n : Nat} {m m' : M Fl} {ds : List D} {r : FR} (h : MLe m m') (e : runF n m none ds = r) (ne : r ≠ .no) : runF n m' none ds = r := by
  unfold runF at e ⊢
  have : m (dsl ds n) ≠ .no := fun z => by
    rw [z] at e
    exact ne e.symm
  simp only [h _ this]
  exact e
theorem dApp_e {i : Nat} {m : M Opd} {e e1 : En} {x : D} {xs ys : List D} (hg : gt e i = some (.o (.lst ys))) (hm : m e = .ok (.d x) e1) (hg1 : gt e1 i = some (.o (.lst xs))) (hl : xs.length < SZ) : dApp i m e = .ok .nx (st e1 i (some (.o (.lst (xs ++ [x]))))) := by
  unfold dApp
  rw [bnd_e (show isL i e = .ok () e by unfold isL own; simp only [bnd, hg, pur]), bnd_e hm, bnd_e (show pub (.d x) e1 = .ok x e1 from rfl), bnd_e (show appO i x e1 = .ok () (st e1 i (some (.o (.lst (xs ++ [x]))))) by
    unfold appO own; simp only [bnd, hg1, if_pos hl, putO])]
  rfl
end Dv
set_option Elab.async false
set_option linter.all false
set_option maxRecDepth 100000
set_option maxHeartbeats 4000000
/-! Dv39: a comprehension within a comprehension: the outer one's names as its block has them. -/
namespace Dv
open PySem PySem.Spec PyProof.Rows L2
theorem look_rel {env : Env} {y : Str} : ∀ {names : List (Str × NameKind)}, names.lookup y = some .cell ∨ names.lookup y = some .free →
    (names.map fun (n, k) => if (k == NameKind.free && env.scope.kind == .function && env.kindOf n == some .cell) then (n, NameKind.cell) else (n, k)).lookup y = some .cell ∨ (names.map fun (n, k) => if (k == NameKind.free && env.scope.kind == .function && env.kindOf n == some .cell) then (n, NameKind.cell) else (n, k)).lookup y = some .free
  | [], h => by rcases h with h | h <;> cases h
  | (n, k) :: r, h => by
    have ih := look_rel (env := env) (y := y) (names := r)
    show List.lookup y ((if (k == NameKind.free && env.scope.kind == .function && env.kindOf n == some .cell) = true then (n, NameKind.cell) else (n, k)) :: _) = _ ∨ List.lookup y ((if (k == NameKind.free && env.scope.kind == .function && env.kindOf n == some .cell) = true then (n, NameKind.cell) else (n, k)) :: _) = _
    by_cases c : (k == NameKind.free && env.scope.kind == .function && env.kindOf n == some .cell) = true
    · rw [if_pos c]
      cases e : y == n with
      | true => simp only [List.lookup_cons, e]; exact .inl trivial
      | false => simp only [List.lookup_cons, e] at h ⊢; exact ih h
    · rw [if_neg c]
      cases e : y == n with
      | true => simp only [List.lookup_cons, e] at h ⊢; exact h
      | false => simp only [List.lookup_cons, e] at h ⊢; exact ih h
theorem blk_rel {N : List Str} {sc scope : Scope} {own : List (Str × Nat)} {env : Env} (h : BlkOk N sc scope own) : BlkOk N (relabel sc env) scope own :=
  ⟨h.kind, h.uniq, h.ix, fun y hy e => look_rel (h.free y hy e), h.own⟩
section
variable [TabC]
theorem dTake_e2 {e e1 : En} {i : Nat} {s s0 : Drw} {n : Int} {m : M Opd} (hg : gt e i = some (.o (.drw s0))) (hm : dArgs [m] e = .ok [.int n] e1) (hg1 : gt e1 i = some (.o (.drw s))) (h0 : 0 < n) (h1 : n < 18446744073709551616) :
    ∃ k s', 0 ≤ k ∧ k < n ∧ dCallIo 2 i fnTake [m] e = .ok (.d (.int k)) (st e1 i (some (.o (.drw s')))) := by
  obtain ⟨k, s', k0, k1, hb⟩ := take_ok s n h0 h1
  refine ⟨k, s', k0, k1, ?_⟩
  unfold dCallIo
  rw [hg]
  show bnd (dArgs [m]) (fun xs => callIo 2 i fnTake xs) e = _
  rw [bnd_e hm]
  unfold callIo
  rw [if_pos (show ([D.int n] : List D).length + 1 = 2 from rfl), hg1]
  show (match fnTake (some (.drw s)) [.int n] with
          | .ok d (some o') => Res.ok (Opd.d d) (st e1 i (some (.o o')))
          | .ex c fs (some o') => .ex c fs (st e1 i (some (.o o')))
          | _ => .no) = _
  rw [hb]
end
theorem fAdd_tup {xs ys : List D} (h : xs.length + ys.length ≤ SZ) : fAdd (.tup xs) (.tup ys) = some (.d (.tup (xs ++ ys))) := by
  have : gCatT (.tup xs) (.tup ys) = some (.d (.tup (xs ++ ys))) := if_pos h
  show gOr gCatT gCatL (.tup xs) (.tup ys) = _
  unfold gOr
  rw [this]
theorem fAdd_lst {xs ys : List D} (h : xs.length + ys.length ≤ SZ) : fAdd (.lst xs) (.lst ys) = some (.n (.lst (xs ++ ys))) := if_pos h
end Dv
set_option Elab.async false
set_option linter.all false
set_option maxRecDepth 100000
set_option maxHeartbeats 4000000
/-! Dv40: errors made as values. -/
namespace PySem
namespace Dvx
open PySem.W PySem.Calls PyProof.Rows PySem.HandSPX
section
variable {M : Model} {A : Around} {E : Value → Shared → Prop} {R : Result → Shared → Prop} {prog : Program} {w : World} {hp : Heap} {gs : Array GenState} {dr : Drawn} {tk : Nat} {os : OsState}
variable {nm qn : Str} {Cl Ns : Addr} {bs bm bmB : List Value} {hdct : Bool} {sn : List Str} {sub : List Value} {ab : Bool} {col : Option Bool} {dd : Option Addr} {k0 k1 k2 k3 k5 : Option Value} {B newId initId : String} {ps : List Value} {kw : List (Str × Value)}
theorem check_newK (Fx : ExcBaseFacts B newId initId bmB) (hT : ∀ X : String, bm.contains (.type X) = bmB.contains (.type X)) {Q : Unit → Shared → Prop}
    (oC : hp.get? Cl = some (excClassObj nm qn Cl Ns bs bm hdct sn sub ab col dd k0 k1 k2 k3 k5 newId)) (hq : Q () ⟨hp, gs, dr, tk, os⟩) : wpAny M A (checkBuiltinCall newId ⟨.ref Cl :: ps, kw⟩) Q E ⟨hp, gs, dr, tk, os⟩ := by
  have cB : (Value.ref Cl :: bm).contains (.type B) = true := by rw [List.contains_cons, hT, Fx.hasB, Bool.or_true]
  have st := Fx.noStar
  simp only [checkBuiltinCall, Fx.newKind, Fx.newSplit, Fx.newRow]
  repeat (first | refine wpAny_loadPart_at oC ?_ | (refine wpAny_isSubtype_exc oC ?_; rw [cB]) | refine wpAny_staticBase_exc oC ?_ | refine wpAny_madeBy_exc oC ?_ | simp only [bne_self_eq_false, Bool.false_eq_true, if_false] | wp_step)
  exact hq
theorem newK (Fx : ExcBaseFacts B newId initId bmB) (hT : ∀ X : String, bm.contains (.type X) = bmB.contains (.type X))
    (oC : hp.get? Cl = some (excClassObj nm qn Cl Ns bs bm hdct sn sub ab col dd k0 k1 k2 k3 k5 newId))
    (hq : R (.ok (.ret (.ref (hp.objs.size + 1)))) ⟨(hp.push { cls := .type "tuple", data := .seq ps.toArray }).push { cls := .ref Cl, data := .fields #[.ref hp.objs.size, .none, .none, .none, .bool false, .none] }, gs, dr, tk, os⟩) (hps : ps.length ≤ sizeLine) :
    codeAny (model prog w) A (.builtin newId ⟨.ref Cl :: ps, kw⟩) R ⟨hp, gs, dr, tk, os⟩ := by
  have he := Fx.ends
  have cB : (Value.ref Cl :: bm).contains (.type B) = true := by rw [List.contains_cons, hT, Fx.hasB, Bool.or_true]
  have cA : (Value.ref Cl :: bm).contains (.type "AttributeError") = false := by rw [List.contains_cons, hT, Fx.noAttr]; rfl
  have cN : (Value.ref Cl :: bm).contains (.type "NameError") = false := by rw [List.contains_cons, hT, Fx.noName]; rfl
  refine codeAny_builtinAt Fx.entry ?_
  unfold Builtin.«BaseException.__new__»
  refine wpAt_bind ?_
  show PySem.wpAt _ _ _ (stack >>= _) _ _ _
  refine wpAt_bind (wpAt_stack fun p0 bl => wpAt_of_wpAny ?_)
  wp_walk
  refine wpAt_of_wpAny ?_
  rw [Fx.owner]
  repeat (first | with_reducible refine wpAny_madeHere_exc Fx.canon oC ?_ | with_reducible refine wpAny_loadPart_at oC ?_ | (with_reducible refine wpAny_isSubtype_exc oC ?_; first | rw [cB] | rw [cA] | rw [cN]) | wp_step)
  show R _ _
  rw [Heap.size_push]
  exact hq
theorem type_callK (Fx : ExcBaseFacts B newId initId bmB) (hT : ∀ X : String, bm.contains (.type X) = bmB.contains (.type X)) {fI : Addr} {Q : Fin → Shared → Prop}
    (oC : hp.get? Cl = some (excClassObj nm qn Cl Ns bs bm hdct sn sub ab col dd k0 k1 k2 k3 k5 newId))
    (hi : W.Looks (model prog w) hp (typeLookup (.ref Cl) "__init__") (some (.ref fI))) (hb : ∀ self, W.Looks (model prog w) hp (bindSpecial (.ref fI) self) (.ref fI, [self])) (hps : ps.length ≤ sizeLine)
    (hq : codeAny (model prog w) A (.call (.ref fI) ⟨.ref (hp.objs.size + 1) :: ps, kw⟩)
      (fun r s' => match r with | .ok (.ret v) => v = .none ∧ Q (.done (.ret (.ref (hp.objs.size + 1)))) s' | .ok _ => False | .error e => E e s')
      ⟨(hp.push (W.kdv_tup ps)).push (excO Cl hp.objs.size), gs, dr, tk, os⟩) :
    wpAny (model prog w) A (Builtin.«type.__call__» ⟨.ref Cl :: ps, kw⟩) Q E ⟨hp, gs, dr, tk, os⟩ := by
  repeat (first | with_reducible refine wpAny_loadPart_at oC ?_ | with_reducible refine wpAny_madeBy_exc oC ?_ | wp_step)
  refine codeAny_call_builtin_code (Code.quiet_builtin _ Fx.quiet) (check_newK Fx hT oC ?_)
  refine newK Fx hT oC ?_ hps
  show wpAny _ _ _ _ _ _
  have kp : ∀ b o, hp.get? b = some o → ((hp.push (W.kdv_tup ps)).push (excO Cl hp.objs.size)).get? b = some o := fun b o e => Heap.get?_push_of_some _ (Heap.get?_push_of_some _ e)
  have oC₁ := kp _ _ oC
  have og : ((hp.push (W.kdv_tup ps)).push (excO Cl hp.objs.size)).get? (hp.objs.size + 1) = some (excO Cl hp.objs.size) := by heap_get
  have cC : (Value.ref Cl :: bm).contains (.ref Cl) = true := by simp
  have i1 := hi.keeps kp
  have b1 := (hb (.ref (hp.objs.size + 1))).keeps kp
  unfold isInstance
  repeat (first | with_reducible refine wpAny_loadPart_at og ?_ | (with_reducible refine wpAny_isSubtype_exc oC₁ ?_; rw [cC]) | wp_step)
  show wpAny _ _ (typeLookup (.ref Cl) _) _ _ _
  refine i1.at ?_
  refine wpAny_holding (wpAny_bind (b1.at ?_))
  refine wpAny_bind (wpAny_call (codeAny_mono hq fun r s' z => ?_))
  rcases r with e | (v | _ | _ | _) <;> first | exact z | exact z.elim | skip
  obtain ⟨rfl, z⟩ := z
  first
    | exact wpAny_pure (wpAny_pure z)
    | (wp_walk; exact z)
theorem check_typeK {Q : Unit → Shared → Prop} (oC : hp.get? Cl = some (excClassObj nm qn Cl Ns bs bm hdct sn sub ab col dd k0 k1 k2 k3 k5 newId))
    (hq : Q () ⟨hp, gs, dr, tk, os⟩) : wpAny M A (checkBuiltinCall "type.__call__" ⟨.ref Cl :: ps, kw⟩) Q E ⟨hp, gs, dr, tk, os⟩ := by
  have f3 := tc_sub
  have ty : (⟨hp, gs, dr, tk, os⟩ : Shared).TypeIs (.ref Cl) "type" := ⟨_, oC, rfl⟩
  simp only [checkBuiltinCall, tc_kind, tc_split]
  repeat (any_goals (first | assumption | with_reducible refine wpAny_loadPart_at oC ?_ | with_reducible refine wpAny_onRaise ?_ | with_reducible refine wpAny_map ?_ | wp_step))
theorem call_ownK (Fx : ExcBaseFacts B newId initId bmB) (hT : ∀ X : String, bm.contains (.type X) = bmB.contains (.type X)) {fI : Addr}
    (oC : hp.get? Cl = some (excClassObj nm qn Cl Ns bs bm hdct sn sub ab col dd k0 k1 k2 k3 k5 newId))
    (hi : W.Looks (model prog w) hp (typeLookup (.ref Cl) "__init__") (some (.ref fI))) (hb : ∀ self, W.Looks (model prog w) hp (bindSpecial (.ref fI) self) (.ref fI, [self])) (hps : ps.length ≤ sizeLine)
    (hq : codeAny (model prog w) (A.under (.builtin "type.__call__" ⟨.ref Cl :: ps, kw⟩)) (.call (.ref fI) ⟨.ref (hp.objs.size + 1) :: ps, kw⟩) (W.InitBack (hp.objs.size + 1) R)
      ⟨(hp.push (W.kdv_tup ps)).push (excO Cl hp.objs.size), gs, dr, tk, os⟩) :
    codeAny (model prog w) A (.call (.ref Cl) ⟨ps, kw⟩) R ⟨hp, gs, dr, tk, os⟩ := by
  have f1 := tc_lookup
  have f2 := tc_bind (.ref Cl)
  have ty : (⟨hp, gs, dr, tk, os⟩ : Shared).TypeIs (.ref Cl) "type" := ⟨_, oC, rfl⟩
  refine codeAny_of_tree ?_
  show wpAny _ _ (callAny (.ref Cl) _) _ _ _
  repeat (any_goals (first | assumption | with_reducible refine wpAny_loadPart_at oC ?_ | wp_step))
  refine ⟨rfl, ?_⟩
  refine codeAny_call_builtin_at (Code.quiet_builtin _ (by decide +kernel)) entry_typeCall (check_typeK oC (type_callK Fx hT oC hi hb hps ?_))
  refine codeAny_mono hq fun r s' z => ?_
  rcases r with e | (v | _ | _ | _) <;> exact z
end
end Dvx
end PySem
set_option Elab.async false
set_option linter.all false
set_option maxRecDepth 100000
set_option maxHeartbeats 4000000
/-! Dv41: errors made as values, by their denotations. -/
namespace Dv
open PySem PySem.Spec PyProof.Rows L2
variable [TabC]
theorem upd_upd {H : Hp} {a : Addr} {u w : HO} : upd (upd H a u) a w = upd H a w := by
  funext b
  by_cases h : b = a
  · rw [h, upd_same, upd_same]
  · rw [upd_ne h, upd_ne h, upd_ne h]
/-- what stands at a is told otherwise -/
theorem retag {X : Cx} {pins : List (Addr × Obj)} {σ : L2.St} {H : Hp} {s : Shared} {a : Addr} {φ : Heap → Prop} {o : HO} (I : Inv X pins σ H s) (ha : H a = some (.ext φ)) (there : ∃ u, s.heap.get? a = some u) (new : ObjOk X.prog X.w (upd H a o) s.heap a o) : Inv X pins σ (upd H a o) s :=
  I.write (h' := s.heap) (t' := s.toks) (x := a) (e := a) (o := o) (by rw [ha]; exact True.intro) (.inl rfl) (fun _ _ _ z => z) there new
theorem exV_ok {P : Program} {w : World} {H : Hp} {h : Heap} {a C : Addr} {d : Option Addr} {oe : Obj} {vs : Array Value} (e : h.get? a = some oe) (h1 : oe.cls = .ref C) (h2 : oe.dict = d) (h3 : oe.data = .fields vs) : ObjOk P w H h a (ExV C d a) :=
  ⟨⟨oe, vs, e, h1, h2, h3⟩, ⟨oe, e⟩, fun _ _ ⟨o, v, q, r⟩ k => ⟨o, v, k o q, r⟩⟩
section
variable {X : Cx} {R : RC} {W : WX} {B newId initId : String} {bmB : List Value} {x : Str} {e : Expr} {m : M Opd} {p pos : Pos}
def dExc (c : Nat) (m : M Opd) : M Opd := bnd m fun p => bnd (pub p) fun _ => pur (.d (.exc c []))
theorem nt_exV {C : Addr} {d : Option Addr} {a : Addr} : NT (ExV C d a) := fun _ z => by cases z
theorem nt_xd {fs : List (Str × V)} : NT (HO.xd fs) := fun _ z => by cases z
theorem je_exc {c : Nat} (F : ExcBaseFacts B newId initId bmB) (q : PySem.W.excIn X.K (R.cl c) bmB newId = true) (gC : X.mg x = some (.ref (R.cl c))) (kC : PySem.W.keepIn X.K (.ref (R.cl c)) = true) (hg : Gl X x)
    (ha : PE X e (LE R W m)) (hs : starEach [e] X.env = (false, eval e X.env) :: starEach [] X.env := by rfl) (hdb : (x == ("__debug__" : Str)) = false := by decide) : PE X (.Call (.Name x p) [e] [] pos) (LE R W (dExc c m)) := by
  have key : PE X (.Call (.Name x p) [e] [] pos) (fun σ H Q => LE R W m σ H fun _ H1 => ∀ a, H1 a = none → Q (.ref a) (upd H1 a (ExV (R.cl c) none a))) := by
    refine ⟨fun pins s σ H Q I h => ?_⟩
    refine thn ((pe_exc1 F q gC kC hg ha hs hdb).run pins s σ H (fun v H' => ∃ a H1, v = .ref a ∧ H' = upd H1 a (ExO (.ref (R.cl c)) a) ∧ Q v (upd H1 a (ExV (R.cl c) none a))) I (LE_mono h fun _ H1 q a na => ⟨a, H1, rfl, rfl, q a na⟩)) fun u s1 hh => ?_
    obtain ⟨v, H', I1, r1, a, H1, ev, eH, q⟩ := hh
    rw [eH] at I1
    have oh : ObjOk X.prog X.w _ s1.heap a (ExO (.ref (R.cl c)) a) := I1.hok a _ upd_same
    obtain ⟨⟨oe, vs, e1, e2, e3, _⟩, _, _⟩ := oh
    have J := retag (o := ExV (R.cl c) none a) I1 upd_same ⟨oe, e1⟩ (exV_ok e1 e2.1 e2.2 e3)
    rw [upd_upd] at J
    exact ⟨v, _, J, r1, q⟩
  exact wkE key fun σ H Q ⟨F0, env, ow, s, h⟩ => by
    refine LE_mono (LE_bnd s h) fun v H1 ⟨p, env1, F1, ow1, s1, st1, ok1, h⟩ => ?_
    obtain ⟨y, env2, ey, h⟩ := h.ofPub
    obtain ⟨F2, ow2, s2, st2, r2⟩ := pub_step s.nofU s1 st1 ok1 ey
    intro a na
    have k1 : Ext F2 H1 (upd F2 a (ExV (R.cl c) none a)) (upd H1 a (ExV (R.cl c) none a)) := Ext.new s2.le na nt_exV
    obtain ⟨j1, j2, _⟩ := k1.fin (R := R) (p := .d .non) (w := .non) s2 rfl
    exact h _ _ ow2 (st2.trans s.nofU j1) j2 (.ref a) ⟨a, none, [], rfl, .inl upd_same, rfl, rfl⟩
def dExcF (c : Nat) (f : Str) (m : M Opd) : M Opd := bnd m fun p => bnd (pub p) fun x => pur (.d (.exc c [(f, x)]))
/-- the new error with its field -/
def tExF (C : Addr) (f : Str) (te : TE) : TE := fun σ H Q => te σ H fun y H1 => ∀ a dx, H1 a = none → H1 dx = none → dx ≠ a → Q (.ref a) (upd (upd H1 a (ExV C (some dx) a)) dx (.xd [(f, y)]))
theorem LE_exF {c : Nat} {f : Str} {σ H Q} (h : LE R W (dExcF c f m) σ H Q) : tExF (R.cl c) f (LE R W m) σ H Q := by
  obtain ⟨F0, env, ow, s, h⟩ := h
  refine LE_mono (LE_bnd s h) fun v H1 ⟨p, env1, F1, ow1, s1, st1, ok1, h⟩ => ?_
  obtain ⟨y, env2, ey, h⟩ := h.ofPub
  obtain ⟨F2, ow2, s2, st2, r2⟩ := pub_step s.nofU s1 st1 ok1 ey
  intro a dx na nd ne
  have k1 : Ext F2 H1 (upd F2 a (ExV (R.cl c) (some dx) a)) (upd H1 a (ExV (R.cl c) (some dx) a)) := Ext.new s2.le na nt_exV
  obtain ⟨j1, j2, _⟩ := k1.fin (R := R) (p := .d .non) (w := .non) s2 rfl
  have k2 := Ext.new (u := .xd [(f, v)]) j2.le (show upd H1 a (ExV (R.cl c) (some dx) a) dx = none by rw [upd_ne ne]; exact nd) nt_xd
  obtain ⟨i1, i2, _⟩ := k2.fin (R := R) (p := .d .non) (w := .non) j2 rfl
  exact h _ _ ow2 ((st2.trans s.nofU j1).trans s.nofU i1) i2 (.ref a) ⟨a, some dx, [(f, v)], rfl, .inl (by rw [upd_ne (Ne.symm ne), upd_same]), .inl upd_same, ⟨v, [], rfl, (r2.mono (.ofEx k1.st.ex)).mono (.ofEx k2.st.ex), rfl⟩⟩
/-- the call of the class: by place, by name -/
theorem run_exF {pins : List (Addr × Obj)} {σ : L2.St} {H1 : Hp} {s1 : Shared} {C fI : Addr} {fd : FuncData} {q f : Str} {y : V} {u : Value} {ps : List Value} {kw : List (Str × Value)} {Q : VK} (S : SupC X.prog X.w X.K X.mg X.base C fI fd q f) (hr : Room 2 X.A) (I1 : Inv X pins σ H1 s1) (ry : RelV y u) (hz : ps.length ≤ 1)
    (hb : ∀ (s : Shared) (a : Value), BindsTo s fd ⟨a :: ps, kw⟩ ([("self" : Str), q].zip [a, u]))
    (h : ∀ a dx, H1 a = none → H1 dx = none → dx ≠ a → Q (.ref a) (upd (upd H1 a (ExV C (some dx) a)) dx (.xd [(f, y)]))) : wpAny (model X.prog X.w) X.A (call (.ref C) ps kw) (EP X pins σ Q) X.xe s1 := by
  obtain ⟨nm, qn, N, bs, bm, sn, sub, ab, col, dd, k0, k1, k2, k3, k5, hC, hbm⟩ := S.T.cls
  obtain ⟨hp, g, dr, tk, os⟩ := s1
  have hsz : hp.objs.size ≤ hp.objs.size + 1 := Nat.le_succ _
  have hn : H1 (hp.objs.size + 1) = none := I1.hok.fresh hsz
  have kk : ∀ b o, hp.get? b = some o → ((hp.push (PySem.W.kdv_tup ps)).push (PySem.HandSPX.excO C hp.objs.size)).get? b = some o := fun b o e => Heap.get?_push_of_some _ (Heap.get?_push_of_some _ e)
  have hget : ((hp.push (PySem.W.kdv_tup ps)).push (PySem.HandSPX.excO C hp.objs.size)).get? (hp.objs.size + 1) = some (PySem.HandSPX.excO C hp.objs.size) := by heap_get
  have I2 : Inv X pins σ (upd H1 (hp.objs.size + 1) (exo (hp.objs.size + 1) C none)) ⟨(hp.push (PySem.W.kdv_tup ps)).push (PySem.HandSPX.excO C hp.objs.size), g, dr, tk, os⟩ :=
    I1.laid (t' := tk) (a := hp.objs.size + 1) (o := exo (hp.objs.size + 1) C none) (h' := (hp.push (PySem.W.kdv_tup ps)).push (PySem.HandSPX.excO C hp.objs.size)) kk hsz (exo_ok hget)
  have r2 : Vals [V.ref (hp.objs.size + 1), y] [Value.ref (hp.objs.size + 1), u] := .cons rfl (.cons ry .nil)
  refine wpAny_call (PySem.Dvx.call_ownK F.excBase_ValueError (fun Y => PySem.HandSPX.refsVE_contains Y bm hbm) (I1.kIn _ _ hC) (PySem.W.looks_findIn I1.kIn S.iC) (fun self => PySem.W.bind_fn I1.kIn self S.tI) (by rw [sizeLine_eq]; omega)
    (codeAny_mono (S.ok.run _ X.stack _ _ ⟨Value.ref (hp.objs.size + 1) :: ps, kw⟩ [Value.ref (hp.objs.size + 1), u] _ (fun v H2 => v = .non ∧ ∃ dx, H1 dx = none ∧ dx ≠ hp.objs.size + 1 ∧ H2 = upd (upd (upd H1 (hp.objs.size + 1) (exo (hp.objs.size + 1) C none)) dx (exd dx [(f, y)])) (hp.objs.size + 1) (exo (hp.objs.size + 1) C (some dx))) (fun _ _ _ => False) (hr.make C ps kw) (I2.env0.make C ps kw) (hb _ _) r2
      ⟨hp.objs.size + 1, y, rfl, upd_same, fun dx n ne => ⟨rfl, dx, by rw [upd_ne ne] at n; exact n, ne, rfl⟩⟩) fun r s' hq' => ?_))
  cases r with
  | error er => exact hq'.elim
  | ok fl =>
    cases fl with
    | ret u' =>
      obtain ⟨v, H2, os2, bare2, un2, hok2, rv, ev, dx, nd, ne, eH⟩ := hq'
      subst ev
      obtain ⟨h2, g2, d2, t2, os'⟩ := s'
      have I3 : Inv X pins σ H2 ⟨h2, g2, d2, t2, os'⟩ := I2.call' (ch := []) os2 un2 hok2 bare2 (fun b z => absurd z (by simp))
      have ea : H2 (hp.objs.size + 1) = some (exo (hp.objs.size + 1) C (some dx)) := by rw [eH, upd_same]
      have ed : H2 dx = some (exd dx [(f, y)]) := by rw [eH, upd_ne ne, upd_same]
      obtain ⟨t0, hoe⟩ := exo_at I3.hok ea
      obtain ⟨mA, hns, rel⟩ := exd_at I3.hok ed
      have I4 := retag (o := ExV C (some dx) (hp.objs.size + 1)) I3 ea ⟨_, hoe⟩ (exV_ok hoe rfl rfl rfl)
      have hd : ∃ o, h2.get? dx = some o := by
        obtain ⟨o, _, _, e', _⟩ := hns
        exact ⟨o, e'⟩
      have I5 := retag (a := dx) (o := .xd [(f, y)]) I4 (by rw [upd_ne ne]; exact ed) hd (show ObjOk X.prog X.w _ h2 dx (.xd [(f, y)]) from ⟨mA, hns, rel⟩)
      have eF : upd (upd H2 (hp.objs.size + 1) (ExV C (some dx) (hp.objs.size + 1))) dx (.xd [(f, y)]) = upd (upd H1 (hp.objs.size + 1) (ExV C (some dx) (hp.objs.size + 1))) dx (.xd [(f, y)]) := by
        rw [eH]
        funext b
        by_cases h1 : b = dx
        · rw [h1, upd_same, upd_same]
        · rw [upd_ne h1, upd_ne h1]
          by_cases h2 : b = hp.objs.size + 1
          · rw [h2, upd_same, upd_same]
          · rw [upd_ne h2, upd_ne h2, upd_ne h2, upd_ne h1, upd_ne h2]
      rw [eF] at I5
      exact ⟨rv, .ref (hp.objs.size + 1), _, I5, rfl, h _ dx hn nd ne⟩
    | next => exact False.elim hq'
    | brk => exact False.elim hq'
    | cont => exact False.elim hq'
theorem je_excF {c : Nat} {f q : Str} {fI : Addr} {fd : FuncData} (S : SupC X.prog X.w X.K X.mg X.base (R.cl c) fI fd q f) (hr : Room 2 X.A) (gC : X.mg x = some (.ref (R.cl c))) (hg : Gl X x) (hb : ∀ a u : Value, bindArgs fd ⟨[a, u], []⟩ = pure ([("self" : Str), q].zip [a, u]))
    (ha : PE X e (LE R W m)) (hs : starEach [e] X.env = (false, eval e X.env) :: starEach [] X.env := by rfl) (hpl : (backTo pos (starEach [] X.env)).any (·.1) = false := by rfl) (hdb : (x == ("__debug__" : Str)) = false := by decide) : PE X (.Call (.Name x p) [e] [] pos) (LE R W (dExcF c f m)) := by
  have key : PE X (.Call (.Name x p) [e] [] pos) (tExF (R.cl c) f (LE R W m)) := by
    refine ⟨fun pins s σ H Q I h => ?_⟩
    refine wpAny_Call_Name_kw (ld_glob I hg gC ?_ hdb)
    refine PySem.W.callWith_K (h₀ := X.base) I.ok.mod.kin S.T.kC ?_ hs hpl
    rw [hs]
    show wpAny _ _ (spliced ((false, eval e X.env) :: backTo pos (starEach [] X.env))) _ _ s
    refine Calls.spliced_cons (thn (ha.run pins s σ H _ I h) fun u s1 hh => ?_)
    obtain ⟨v, H1, I1, r1, q1⟩ := hh
    exact Calls.spliced_nil ⟨I1.kIn, run_exF (kw := []) S hr I1 r1 (by show 1 ≤ 1; omega) (fun s a => BindsTo.of_eq (hb a u)) q1⟩
  exact wkE key fun σ H Q h => LE_exF h
theorem je_excFk {c : Nat} {f q : Str} {fI : Addr} {fd : FuncData} {kp : Pos} (S : SupC X.prog X.w X.K X.mg X.base (R.cl c) fI fd q f) (hr : Room 2 X.A) (gC : X.mg x = some (.ref (R.cl c))) (hg : Gl X x) (hb : ∀ a u : Value, bindArgs fd ⟨[a], [(q, u)]⟩ = pure ([("self" : Str), q].zip [a, u]))
    (ha : PE X e (LE R W m)) (hpl : ((backTo pos (starEach [] X.env)).any (·.1) || (backToKw pos (keywordEach [⟨some q, e, kp⟩] X.env)).any (·.1.isNone)) = false := by rfl) (hall : (backToKw pos (keywordEach [⟨some q, e, kp⟩] X.env)).all (·.1.isSome) = true := by rfl)
    (hks : (backToKw pos (keywordEach [⟨some q, e, kp⟩] X.env)).filterMap (·.1) = [q] := by rfl) (hdb : (x == ("__debug__" : Str)) = false := by decide) : PE X (.Call (.Name x p) [] [⟨some q, e, kp⟩] pos) (LE R W (dExcF c f m)) := by
  have key : PE X (.Call (.Name x p) [] [⟨some q, e, kp⟩] pos) (tExF (R.cl c) f (LE R W m)) := by
    refine ⟨fun pins s σ H Q I h => ?_⟩
    refine wpAny_Call_Name_kw (ld_glob I hg gC ?_ hdb)
    refine PySem.W.callWith_KW0 (h₀ := X.base) I.ok.mod.kin S.T.kC hall (thn ((pk_cons ha pk_nil).run pos pins s σ H (fun vs H' => ∃ y, vs = [y] ∧ ∀ a dx, H' a = none → H' dx = none → dx ≠ a → Q (.ref a) (upd (upd H' a (ExV (R.cl c) (some dx) a)) dx (.xd [(f, y)]))) I ?_) fun us s1 hh => ?_) hpl
    · exact LE_mono h fun y H1 q1 => ⟨y, rfl, q1⟩
    · obtain ⟨vs, H1, I1, r1, y, ev, q1⟩ := hh
      subst ev
      cases r1 with
      | cons ru rn =>
        cases rn
        rename_i u
        refine ⟨I1.kIn, ?_⟩
        rw [hks]
        exact run_exF (ps := []) (kw := [(q, u)]) S hr I1 ru (by show 0 ≤ 1; omega) (fun s a => BindsTo.of_eq (hb a u)) q1
  exact wkE key fun σ H Q h => LE_exF h
end
end Dv
set_option Elab.async false
set_option linter.all false
set_option maxRecDepth 100000
set_option maxHeartbeats 4000000
/-! Dv42: the end of a law whose own body needs to know that no repr runs around it: one run, of the law's call alone. -/
namespace Dv
open PySem PySem.Spec PyProof.Rows L2 LamX
/-- one run of a def's body, in one surrounding -/
theorem run_defA {CX : CXT} {P : Program} {w : World} {K : PySem.W.Frag} {mg : Str → Option Value} {base : Heap} {k : Nat} {f : Addr} {name qual : Str} {params : Arguments} {body : List Stmt} {scope : Scope} {dV kV doc pm cdv ct oc : Value} {an od : Option Addr} {osl : Array (Option Value)} {N qs : List Str}
    {A : Around} {outer : List Env} {s : Shared} {H : Hp} {ar : Args} {us : List Value} {xs : List V} {Q : VK} {E : XK}
    (lk : K.lookup f = some ⟨oc, od, .func (PySem.W.fnOf name qual params body scope dV kV doc pm an cdv ct), osl⟩) (hcd : PySem.W.codeIn K cdv qual = true) (S : FnScope N qs scope) (hl : xs.length = qs.length) (hr : Room (k + 1) A) (e0 : Env0 P w K mg base A outer s H)
    (hb : BindsTo s (PySem.W.fnOf name qual params body scope dV kV doc pm an cdv ct) ar (qs.zip us)) (rv : Vals xs us)
    (go : ∃ t, PSs (cxOf CX P w K mg base N qual scope f cdv A outer s H E) body t ∧ t { nx := fun _ H' => Q .non H', rt := Q } (start N xs) H) : codeAny (model P w) A (.call (.ref f) ar) (CR CX outer P w H s Q E) s := by
  have kin : K.In s.heap := e0.mod.kin.keeps fun b o z => (e0.bs b o z).1
  have nolim : s.heap.NoLimit := e0.mod.nolimit.keeps fun b o z => (e0.bs b o z).1
  have kinds : ∀ y ∈ qs.zip us, scope.names.lookup y.1 = some .local ∨ (scope.names.lookup y.1 = some .cell ∧ ((cellsFrom (s.heap.objs.size + 1) scope.names []).lookup y.1).isSome = true) := by
    rintro ⟨n, v⟩ hy
    exact (S.par n (List.of_mem_zip hy).1).imp id fun q => ⟨q, PySem.W.cellsFrom_some _ _ _ (.inl q)⟩
  refine codeAny_call_function hr.depth (kin _ _ lk) rfl S.co S.gen rfl (PySem.W.codeRec_of kin hcd) (hb _ _ _ _ (wpAny_newFunctionEnv_cells S.kind kinds fun env he s1 x => ?_))
  subst he
  obtain ⟨t, ht, hq⟩ := go
  refine ⟨nolim.keeps x.toInCall.keep, codeAny_func (wpAny_mono (ht.run [] s1 (start N xs) H _ (inv_start S hr.hd e0 hl rv x) hq) (fun fl s' hs => ?_) fun e s' hs => hs)⟩
  cases fl with
  | brk => obtain ⟨_, _, _, q⟩ := hs; exact q.elim
  | cont => obtain ⟨_, _, _, q⟩ := hs; exact q.elim
  | next =>
    obtain ⟨σ', H', J, q⟩ := hs
    exact ⟨.non, H', J.os, J.bare, J.base, J.hok, rfl, q⟩
  | ret u =>
    obtain ⟨v, σ', H', J, r', q⟩ := hs
    exact ⟨v, H', J.os, J.bare, J.base, J.hok, r', q⟩
/-- what is tracked at the law's call: its own table of code objects, the script unless the text holds it -/
noncomputable def H0 (K : PySem.W.Frag) (a T : Addr) (ol : Obj) (ns : List Int) : Hp := fun b => if b = T then some (.tbl #[]) else if b = a ∧ K.lookup a = none then some (.frz ol (.lst (ns.map V.int))) else none
theorem H0_cases {K : PySem.W.Frag} {a T : Addr} {ol : Obj} {ns : List Int} {b : Addr} {u : HO} (h : H0 K a T ol ns b = some u) : (b = T ∧ u = .tbl #[]) ∨ (b = a ∧ K.lookup a = none ∧ u = .frz ol (.lst (ns.map V.int))) := by
  unfold H0 at h
  split at h
  · rename_i e; cases h; exact .inl ⟨e, rfl⟩
  · split at h
    · rename_i e; cases h; exact .inr ⟨e.1, e.2, rfl⟩
    · cases h
theorem law_runG {P : Program} {w : World} {K : PySem.W.Frag} {mg mb : Str → Option Value} {CX : CXT} {fa a c T : Addr} {s1 : Shared} {vs : List Value} {ns : List Int} (kin : K.In s1.heap) (gl : s1.heap.Ns mainGlobals mg) (bl : s1.heap.Ns builtinsNs mb) (bb : ∀ x : Str, x ≠ "__name__" → mb x = bootBuiltins x) (nl : s1.heap.NoLimit) (ge : s1.gens = #[])
    (oT : s1.heap.get? T = some { cls := .none, data := .fields #[] }) (kT : K.lookup T = none) (C : PySem.W.CodeHd s1.heap c T)
    (bm : ∃ (b : Addr) (ob : Obj), mg "__builtins__" = some (.ref b) ∧ b ≠ builtinsNs ∧ s1.heap.get? b = some ob ∧ ob.cls = .type "module" ∧ ob.dict = some builtinsNs ∧ ob.data = .plain)
    (oa : s1.heap.get? a = some { cls := .type "list", data := .seq vs.toArray }) (hi : IntsAre vs ns) (hl : ns.length ≤ sizeLine)
    (go : ∀ (base : Heap) (H : Hp), K.In base → TabB base mg c T → Env0 P w K mg base callerA [] s1 H → H T = some (.tbl #[]) → SqL K H a (ns.map V.int) → codeAny (model P w) callerA (.call (.ref fa) ⟨[.ref a], []⟩) (CR CX [] P w H s1 (fun v _ => v = .bl true) (fun _ _ _ => False)) s1)
    (noX : ∀ H e s', CX [] H s1 (fun _ _ _ => False) e s' → False) :
    codeAny (model P w) callerA (.call (.ref fa) ⟨[.ref a], []⟩) (fun r s' => r = .ok (.ret (.bool true)) ∧ OldK s1.heap s'.heap ∧ s'.os = s1.os ∧ AllBare s'.gens) s1 := by
  have rv := vals_ints hi
  have aT : a ≠ T := fun z => by
    rw [z, oT] at oa
    have := congrArg Obj.data (Option.some.inj oa)
    cases this
  let ol : Obj := { cls := .type "list", data := .seq vs.toArray }
  let H := H0 K a T ol ns
  have HT : H T = some (.tbl #[]) := if_pos rfl
  have free : ∀ {b : Addr} {o : Obj}, s1.heap.get? b = some o → (∀ xs n, o.data ≠ .seq xs n) → o.data ≠ .fields #[] → H b = none := fun {b o} e n1 n2 => by
    cases q : H b with
    | none => rfl
    | some u =>
      rcases H0_cases q with ⟨z, _⟩ | ⟨z, _, _⟩
      · rw [z, oT] at e; cases e; exact (n2 rfl).elim
      · rw [z, oa] at e; cases e; exact (n1 _ _ rfl).elim
  have freeD : ∀ {b : Addr} {o : Obj} {es : Array DictEntry} {ep : Nat}, s1.heap.get? b = some o → o.data = .dict es ep → H b = none := fun e d => free e (fun _ _ z => by rw [d] at z; cases z) fun z => by rw [d] at z; cases z
  have nsB : ∀ {b : Addr} {m : Str → Option Value}, s1.heap.Ns b m → (hidT s1.heap H).Ns b m := fun {b m} q => by
    obtain ⟨o, es, ep, e, d, r⟩ := q
    exact ⟨o, es, ep, hidT_get e (freeD e d), d, r⟩
  have kB : K.In (hidT s1.heap H) := fun b o e => by
    refine hidT_get (kin b o e) ?_
    cases q : H b with
    | none => rfl
    | some u =>
      rcases H0_cases q with ⟨z, _⟩ | ⟨z, z2, _⟩
      · rw [z, kT] at e; cases e
      · rw [z, z2] at e; cases e
  have md : L2.Mod K mg (hidT s1.heap H) := by
    obtain ⟨mc, l1, l2⟩ := nl
    exact ⟨kB, nsB gl, ⟨mb, nsB bl, bb⟩, ⟨mc, nsB l1, l2⟩⟩
  have tb : TabB (hidT s1.heap H) mg c T := by
    refine ⟨?_, ?_, fun z => ?_⟩
    · obtain ⟨o, us, file, tf, flags, tg, inF, text, tt, e1, r1, r2, r3, r⟩ := C
      refine ⟨o, us, file, tf, flags, tg, inF, text, tt, hidT_get e1 (free e1 (fun _ _ z => by rw [r2] at z; cases z) fun z => ?_), r1, r2, r3, r⟩
      rw [r2] at z
      cases z
      simp at r3
    · obtain ⟨b, ob, b1, b2, b3, b4, b5, b6⟩ := bm
      have n1 : b ≠ mainGlobals := fun q => by
        obtain ⟨o, es, ep, e, d, _⟩ := gl
        rw [q, e] at b3
        cases b3
        rw [d] at b6
        cases b6
      have n2 : b ≠ T := fun q => by
        rw [q, oT] at b3
        cases b3
        cases b6
      exact ⟨b, ob, b1, b2, n1, n2, hidT_get b3 (free b3 (fun _ _ z => by rw [b6] at z; cases z) fun z => by rw [b6] at z; cases z), b4, b5, b6⟩
    · obtain ⟨o, es, ep, e, d, _⟩ := gl
      rw [z, oT] at e
      cases e
      cases d
  have hk : HOk P w H s1.heap := fun b u q => by
    rcases H0_cases q with ⟨rfl, rfl⟩ | ⟨rfl, _, rfl⟩
    · exact oT
    · exact ⟨oa, by rw [List.length_map]; exact hl, vs, _, rv, oa⟩
  have sq : SqL K H a (ns.map V.int) := by
    cases ka : K.lookup a with
    | none => exact .inl (.inr ⟨ol, (if_neg aT).trans (if_pos ⟨rfl, ka⟩)⟩)
    | some o =>
      have e := kin a o ka
      rw [oa] at e
      cases e
      exact .inr ⟨_, vs.toArray, _, ka, rfl, rfl, rfl, by rw [List.size_toArray, hi.length]; exact hl, by simpa using rv⟩
  have e0 : Env0 P w K mg (hidT s1.heap H) callerA [] s1 H := ⟨rfl, md, fun _ _ e => of_hidT e, Nat.le_of_eq (hidT_size _ _), trivial, fun b hb => absurd (show b ∈ ([] : List Addr) from hb) (by simp), hk, .of_eq ge⟩
  refine codeAny_mono (go _ H kB tb e0 HT sq) fun r s' h => ?_
  cases r with
  | error e => exact (noX H e s' h).elim
  | ok fl =>
    cases fl with
    | next => exact False.elim h
    | brk => exact False.elim h
    | cont => exact False.elim h
    | ret u =>
      obtain ⟨v, H', os, bare, un, hk', r', q⟩ := h
      have q : v = .bl true := q
      subst q
      obtain rfl : u = Value.bool true := r'
      obtain ⟨more, zT⟩ := un.tbls T #[] HT
      have gT : s'.heap.get? T = some { cls := .none, data := .fields (#[] ++ more) } := hk' T _ zT
      have keep : ∀ b o, b ≠ T → s1.heap.get? b = some o → s'.heap.get? b = some o := fun b o nb e => by
        cases q : H b with
        | none => exact un.keep b o e q (fun z => absurd (show b ∈ ([] : List Addr) from z) (by simp)) (by simp)
        | some u =>
          rcases H0_cases q with ⟨z, _⟩ | ⟨_, _, z⟩
          · exact absurd z nb
          · rw [z] at q
            obtain ⟨e1, _⟩ := hk b _ q
            obtain ⟨e2, _⟩ := hk' b _ (un.frzs b ol _ q)
            rw [e] at e1; cases e1
            exact e2
      refine ⟨rfl, ⟨fun b o e => ?_, fun b o e => ?_⟩, os, bare⟩
      · by_cases hb : b = T
        · rw [hb] at e ⊢
          rw [oT] at e
          cases e
          exact .inr (.inl ⟨(C.tab oT).isCodeTable, rfl, #[], more, rfl, gT⟩)
        · exact .inl (keep b o hb e)
      · by_cases hb : b = T
        · exact ⟨_, by rw [hb]; exact gT⟩
        · exact ⟨o, keep b o hb e⟩
end Dv
set_option Elab.async false
set_option linter.all false
set_option maxRecDepth 100000
set_option maxHeartbeats 4000000
/-! Dv43: repr of a list that is made in its call, where no repr runs around. -/
namespace Dv
open PySem PySem.Spec PyProof.Rows L2
variable [TabC]
def keyP : Key → PyData
  | .inl i => .int i
  | .inr x => .str x
mutual
def flatP : PyData → Bool
  | .none => true
  | .bool _ => true
  | .int _ => true
  | .str _ => true
  | .tuple xs => flatPs xs
  | .list _ => false
  | .dict _ => false
def flatPs : List PyData → Bool
  | [] => true
  | x :: r => flatP x && flatPs r
end
mutual
theorem reads_flat {h : Heap} : ∀ {d : PyData} {u : Value} {as : List Addr}, Reads h u d as → flatP d = true → as = []
  | .none, _, _, r, _ => by cases r; rfl
  | .bool _, _, _, r, _ => by cases r; rfl
  | .int _, _, _, r, _ => by cases r; rfl
  | .str _, _, _, r, _ => by cases r; rfl
  | .tuple _, _, _, r, f => by
    cases r with
    | tuple h1 h2 h3 h4 => exact reads_flats h4 f
  | .list _, _, _, _, f => by cases f
  | .dict _, _, _, _, f => by cases f
theorem reads_flats {h : Heap} : ∀ {ds : List PyData} {us : List Value} {as : List Addr}, ReadsAll h us ds as → flatPs ds = true → as = []
  | [], _, _, r, _ => by cases r; rfl
  | d :: ds, _, _, r, f => by
    cases r with
    | cons h1 h2 =>
      obtain ⟨f1, f2⟩ := Bool.and_eq_true_iff.mp (show (flatP d && flatPs ds) = true from f)
      rw [reads_flat h1 f1, reads_flats h2 f2]
      rfl
end
def valsP : List (Key × D) → Option (List (PyData × PyData))
  | [] => some []
  | (k, x) :: r => match toP x, valsP r with
    | some p, some ps => if flatP p = true then some ((keyP k, p) :: ps) else none
    | _, _ => none
def toPv : D → Option PyData
  | .dic ks => (valsP ks).map .dict
  | x => match toP x with
    | some p => if p.hasDict = true then none else some p
    | none => none
def toPvs : List D → Option (List PyData)
  | [] => some []
  | x :: r => match toPv x, toPvs r with
    | some p, some ps => some (p :: ps)
    | _, _ => none
theorem reads_pairs {X : Cx} {R : RC} {pins : List (Addr × Obj)} {σ : L2.St} {H : Hp} {s : Shared} (I : Inv X pins σ H s) (hK : X.K = R.K) : ∀ {ks : List (Key × D)} {kvs : List (Key × V)} {vs : List (Key × Value)} {es : List DictEntry} {ps : List (PyData × PyData)}, RepK R H ks kvs → KV kvs vs → Pairs (mixKind X.prog X.w) es vs → valsP ks = some ps →
    ReadsAll s.heap (es.map (·.key)) (ps.map (·.1)) [] ∧ ReadsAll s.heap (es.map (·.val)) (ps.map (·.2)) []
  | [], kvs, vs, es, ps, h, kv, pr, e => by
    have h : kvs = [] := h
    subst h
    cases kv
    cases pr
    cases e
    exact ⟨.nil, .nil⟩
  | (k, x) :: r, kvs, vs, es, ps, h, kv, pr, e => by
    obtain ⟨v, kr, rfl, h1, h2⟩ := h
    cases kv with
    | @cons _ b _ vs' q qs =>
      cases pr with
      | @cons en _ es' _ p1 p2 p3 =>
        unfold valsP at e
        split at e
        · rename_i p pr e1 e2
          split at e
          · rename_i fl
            cases e
            obtain ⟨g1, g2⟩ := reads_pairs I hK h2 qs p3 e2
            obtain ⟨qk, qv⟩ := q
            have qk : k = b.1 := qk
            obtain ⟨as, ra⟩ := Dp.reads I p _ _ (hK ▸ toP_ok h1 e1) qv
            have z := reads_flat ra fl
            subst z
            refine ⟨.cons (as := []) (bs := []) ?_ g1, .cons (as := []) (bs := []) ?_ g2⟩
            · show Reads s.heap en.key (keyP k) []
              have p1 : keyIs b.1 en.key = true := p1
              rw [← qk] at p1
              cases k with
              | inl i =>
                rcases keyIs_shape p1 with ⟨i', t, e1, e2⟩ | ⟨y, t, e1, e2⟩
                · cases e1; rw [e2]; exact .int _ _
                · cases e1
              | inr y =>
                rcases keyIs_shape p1 with ⟨i', t, e1, e2⟩ | ⟨y', t, e1, e2⟩
                · cases e1
                · cases e1; rw [e2]; exact .str _ _
            · show Reads s.heap en.val p []
              rw [p2]; exact ra
          · cases e
        · cases e
theorem reads_of {X : Cx} {R : RC} {pins : List (Addr × Obj)} {σ : L2.St} {F H : Hp} {s : Shared} (I : Inv X pins σ H s) (hK : X.K = R.K) (le : Le F H) {x : D} {v : V} {u : Value} {d : PyData} (h : Rep R F x v) (r : L2.RelV v u) (e : toPv x = some d) : ∃ as, Reads s.heap u d as ∧ (d.hasDict = true → sysModules ∉ as) := by
  have old : ∀ {p : PyData}, toP x = some p → p.hasDict = false → ∃ as, Reads s.heap u p as ∧ (p.hasDict = true → sysModules ∉ as) := fun {p} e1 nd => by
    obtain ⟨as, ra⟩ := Dp.reads I p _ _ (hK ▸ toP_ok (h.mono le) e1) r
    exact ⟨as, ra, fun z => by rw [nd] at z; cases z⟩
  have gen : (match toP x with
    | some p => if p.hasDict = true then none else some p
    | none => none) = some d → ∃ as, Reads s.heap u d as ∧ (d.hasDict = true → sysModules ∉ as) := fun e => by
    split at e
    · rename_i p e1
      split at e
      · cases e
      · rename_i nd
        cases e
        exact old e1 (by simpa using nd)
    · cases e
  cases x with
  | dic ks =>
    obtain ⟨ps, e1, rfl⟩ := Option.map_eq_some_iff.mp e
    obtain ⟨a, kvs, rfl, h1, h2⟩ := h.mono le
    obtain rfl : u = Value.ref a := r
    have ok : ∃ vs, (a == sysModules) = false ∧ KV kvs vs ∧ s.heap.DictOf (mixKind X.prog X.w) a vs := by
      rcases h1 with h1 | ⟨o, h1⟩
      · obtain ⟨_, q1, vs, q2, q3⟩ := I.hok a _ h1
        exact ⟨vs, q1, q2, q3⟩
      · obtain ⟨_, _, q1, vs, q2, q3⟩ := I.hok a _ h1
        exact ⟨vs, q1, q2, q3⟩
    obtain ⟨vs, ns, kv, o, es, ep, g1, g2, g3, _, g4, _⟩ := ok
    obtain ⟨r1, r2⟩ := reads_pairs I hK h2 kv g4 e1
    refine ⟨_, .dict g1 g2.1 g3 r1 r2, fun _ z => ?_⟩
    simp only [List.append_nil, List.mem_singleton] at z
    rw [z] at ns
    simp at ns
  | non => exact gen e
  | bl b => exact gen e
  | int i => exact gen e
  | str y => exact gen e
  | tup xs => exact gen e
  | lst xs => exact gen e
  | rol xs => exact gen e
  | exc c fs => exact gen e
  | clo k => exact gen e
theorem reads_all {X : Cx} {R : RC} {pins : List (Addr × Obj)} {σ : L2.St} {F H : Hp} {s : Shared} (I : Inv X pins σ H s) (hK : X.K = R.K) (le : Le F H) : ∀ {xs : List D} {vs : List V} {us : List Value} {ds : List PyData}, Reps R F xs vs → Vals vs us → toPvs xs = some ds → ∃ as, ReadsAll s.heap us ds as ∧ (PyData.hasDictAll ds = true → sysModules ∉ as → True) ∧ (sysModules ∈ as → ∀ d ∈ ds, d.hasDict = true → False ∨ ∃ d' ∈ ds, d'.hasDict = false)
  | [], _, _, _, h, r, e => by
    have h : _ = [] := h
    subst h
    cases r
    cases e
    exact ⟨[], .nil, fun _ _ => trivial, fun _ d m => by cases m⟩
  | x :: xs, _, _, ds, h, r, e => by
    obtain ⟨v, vr, rfl, h1, h2⟩ := h
    cases r with
    | cons r1 r2 =>
      unfold toPvs at e
      split at e
      · rename_i p ps e1 e2
        cases e
        obtain ⟨as, g1, g2⟩ := reads_of I hK le h1 r1 e1
        obtain ⟨bs, g3, _, g4⟩ := reads_all I hK le h2 r2 e2
        refine ⟨as ++ bs, .cons g1 g3, fun _ _ => trivial, fun m d dm hd => ?_⟩
        rcases List.mem_append.mp m with m | m
        · by_cases c : p.hasDict = true
          · exact absurd m (g2 c)
          · exact .inr ⟨p, List.mem_cons_self, by simpa using c⟩
        · by_cases c : ∃ d' ∈ ps, d'.hasDict = false
          · obtain ⟨d', m', z⟩ := c
            exact .inr ⟨d', List.mem_cons_of_mem _ m', z⟩
          · by_cases c2 : ∃ d' ∈ ps, d'.hasDict = true
            · obtain ⟨d', m', z⟩ := c2
              rcases g4 m d' m' z with z | ⟨d2, m2, z2⟩
              · exact z.elim
              · exact .inr ⟨d2, List.mem_cons_of_mem _ m2, z2⟩
            · cases ps with
              | nil =>
                cases g3
                cases m
              | cons d2 ps2 =>
                cases hd2 : d2.hasDict with
                | true => exact absurd ⟨d2, List.mem_cons_self, hd2⟩ c2
                | false => exact absurd ⟨d2, List.mem_cons_self, hd2⟩ c
      · cases e
/-- all of them dicts, or none holds one -/
def oneKind (ds : List PyData) : Bool := !PyData.hasDictAll ds || ds.all PyData.hasDict
theorem all_of_no : ∀ {ds : List PyData}, PyData.hasDictAll ds = true → ∃ d ∈ ds, d.hasDict = true
  | [], h => by simp [PyData.hasDictAll] at h
  | d :: ds, h => by
    rw [PyData.hasDictAll, Bool.or_eq_true] at h
    rcases h with h | h
    · exact ⟨d, List.mem_cons_self, h⟩
    · obtain ⟨d', m, z⟩ := all_of_no h
      exact ⟨d', List.mem_cons_of_mem _ m, z⟩
def gReprL (xs : List D) : Option Opd := match toPvs xs with
  | some ds => if xs.length ≤ SZ ∧ PyData.showable (.list ds) = true ∧ PyData.depth (.list ds) ≤ 60 ∧ (PyData.shown (.list ds)).length ≤ SZ ∧ oneKind ds = true then some (.d (.str (PyData.shown (.list ds)))) else none
  | none => none
def dRepr (ms : List (M Opd)) : M Opd := bnd (dArgs ms) fun xs => opt (gReprL xs)
section
variable {X : Cx} {R : RC} {W : WX} {es : List Expr} {ms : List (M Opd)} {p lp pos : Pos}
theorem je_repr (hG : X.A.guards = some []) (hU : X.A.units + 64 < cLine) (hg : Gl X "repr") (hm : X.mg "repr" = none) (ha : PA X es (LA R W (dArgs ms))) (hs : starEach [.List es lp] X.env = (false, eval (.List es lp) X.env) :: starEach [] X.env := by rfl)
    (hK : X.K = R.K := by rfl) : PE X (.Call (.Name "repr" p) [.List es lp] [] pos) (LE R W (dRepr ms)) := by
  have key : PE X (.Call (.Name "repr" p) [.List es lp] [] pos) (fun σ H Q => LA R W (dArgs ms) σ H fun vs H1 => ∃ F xs ds, Le F H1 ∧ Reps R F xs vs ∧ toPvs xs = some ds ∧ xs.length ≤ SZ ∧ PyData.showable (.list ds) = true ∧ PyData.depth (.list ds) ≤ 60 ∧ (PyData.shown (.list ds)).length ≤ SZ ∧ oneKind ds = true ∧ Q (.str (PyData.shown (.list ds))) H1) := by
    refine ⟨fun pins s σ H Q I h => ?_⟩
    refine wpAny_Call_Name_kw (ld_blt I hg hm (by first | boot_by_name | rfl | kernel_rfl) ?_)
    refine PyProof.Rows.callWith_builtin1 ?_ hs rfl
    rw [hs]
    show wpAny _ _ (spliced ((false, eval (.List es lp) X.env) :: backTo pos (starEach [] X.env))) _ _ s
    refine Calls.spliced_cons (wpAny_List_spliced (thn (ha.run lp pins s σ H _ I h) fun us s1 hh => ?_))
    obtain ⟨vs, H1, I1, r1, F, xs, ds, le, rx, ed, lz, sh, dp, ln, ok, q⟩ := hh
    have hl : us.length ≤ sizeLine := by rw [← Paired.length r1, rx.length]; exact lz
    refine ⟨hl, Calls.spliced_nil ?_⟩
    have nf : H1 s1.heap.objs.size = none := I1.hok.fresh (Nat.le_refl _)
    have up : ∀ b o, s1.heap.get? b = some o → (s1.heap.push { cls := .type "list", data := .seq us.toArray }).get? b = some o := fun b o e => Heap.get?_push_of_some _ e
    have I2 : Inv X pins σ H1 { s1 with heap := s1.heap.push { cls := .type "list", data := .seq us.toArray } } := I1.kept up
    obtain ⟨as, ra, _, rs⟩ := reads_all I2 hK le rx r1 ed
    have rl : Reads (s1.heap.push { cls := .type "list", data := .seq us.toArray }) (.ref s1.heap.objs.size) (.list ds) (s1.heap.objs.size :: as) := .list (Heap.get?_push_size _ rfl) rfl rfl ra
    show wpAny _ _ (call (.builtin "repr") [.ref s1.heap.objs.size]) _ _ { s1 with heap := s1.heap.push { cls := .type "list", data := .seq us.toArray } }
    refine repr_of_reads' rl sh (fun hd m => ?_) hG (by omega) (fun _ _ e => e) (fun h' u tk k => ⟨.str (PyData.shown (.list ds)), H1, I1.kept (fun b o e => k b o (up b o e)), ⟨u, rfl⟩, q⟩) ln
    rcases List.mem_cons.mp m with m | m
    · have := I1.big
      rw [m] at this
      exact absurd this (Nat.lt_irrefl _)
    · obtain ⟨d, dm, hdd⟩ := all_of_no (show PyData.hasDictAll ds = true from by simpa [PyData.hasDict] using hd)
      rcases rs m d dm hdd with z | ⟨d', m', z⟩
      · exact z
      · rcases Bool.or_eq_true_iff.mp (show (!PyData.hasDictAll ds || ds.all PyData.hasDict) = true from ok) with y | y
        · rw [show PyData.hasDictAll ds = true from by simpa [PyData.hasDict] using hd] at y
          cases y
        · rw [List.all_eq_true.mp y d' m'] at z
          cases z
  exact wkE key fun σ H Q ⟨F0, env, ow, s, h⟩ => by
    refine LA_mono (LA_bnd s h) fun vs H1 ⟨xs, env1, F1, ow1, s1, st1, r1, h⟩ => ?_
    obtain ⟨y, ey, h⟩ := h.ofOpt'
    unfold gReprL at ey
    split at ey
    · rename_i ds ed
      split at ey
      · rename_i c
        cases ey
        exact ⟨F1, xs, ds, s1.le, r1, ed, c.1, c.2.1, c.2.2.1, c.2.2.2.1, c.2.2.2.2, h F1 H1 ow1 st1 s1 _ rfl⟩
      · cases ey
    · cases ey
end
end Dv
set_option Elab.async false
set_option linter.all false
set_option maxRecDepth 100000
set_option maxHeartbeats 4000000
/-! Dv44: isinstance against ValueError, the empty dict, the end of a guarded law. -/
namespace Dv
open PySem PySem.Spec PyProof.Rows L2 LamX
section
variable [TabC]
def gIsv : D → Option Opd
  | .exc _ _ => some (.d (.bl true))
  | _ => none
structure IsV (R : RC) : Prop where
  hx : ∀ c, PySem.W.kitOne R.K (.ref (R.cl c)) (.type "ValueError") = some true
  hc : ∀ c, ExcC R.K (R.cl c)
def rIsv (K : PySem.W.Frag) : List V → Hp → VK → Prop := fun xs H Q => ∃ (a C : Addr) (b : Bool), xs = [.ref a, .ty "ValueError"] ∧ (∃ d, Rd H a (ExV C d a) ∧ ∀ dx, d = some dx → ∃ fs, Rd H dx (.xd fs)) ∧ ExcC K C ∧ PySem.W.kitOne K (.ref C) (.type "ValueError") = some b ∧ Q (.bl b) H
section
variable {X : Cx}
theorem call_isv : CallR X (.builtin "isinstance") (rIsv X.K) := by
  intro pins s σ H xs us Q I r h
  obtain ⟨a, C, b, rfl, h1, h2, h3, q⟩ := h
  obtain ⟨u1, u2, rfl, r1, r2⟩ := vals2 r
  cases (show u1 = Value.ref a from r1)
  cases (show u2 = Value.type "ValueError" from r2)
  obtain ⟨d, h1, h4⟩ := h1
  obtain ⟨⟨oc, od, dt, sl⟩, vs, e1, e2, e3, e4⟩ := exV_at I.hok h1
  dsimp only at e2 e3 e4
  subst e2 e3 e4
  obtain ⟨cd, hcd, _⟩ := PySem.W.any_some h2.hd
  have at_ : ∃ ob, PySem.W.InstAt s.heap a ⟨.ref C, od, .fields vs, sl⟩ C ob := by
    cases od with
    | none => exact ⟨none, e1, rfl, rfl, trivial⟩
    | some dx =>
      obtain ⟨fs, r⟩ := h4 dx rfl
      have g : ∃ o, s.heap.get? dx = some o := by
        rcases r with r | ⟨o, r⟩
        · exact objOk_get (I.hok dx _ r)
        · exact objOk_get (I.hok dx _ r)
      obtain ⟨o, g⟩ := g
      exact ⟨some o, e1, rfl, rfl, g⟩
  obtain ⟨ob, J⟩ := at_
  exact PySem.W.kia_one (PySem.W.kitx_exc (od := ob) (by rw [hcd]; rfl) h2.hg h2.hk h2.hs h2.ha h2.hn h2.ht h2.hm) I.kIn J h3 (fun z => nomatch z) fun tk => ⟨.bl b, H, I.tok tk, rfl, q⟩
variable {R : RC} {W : WX}
theorem op1_isv (h : IsV R) : Op1 R gIsv (fun x H Q => rIsv R.K [x, .ty "ValueError"] H Q) := fun F H x v p Q le r e q => by
  unfold gIsv at e
  split at e
  · rename_i c fs
    cases e
    obtain ⟨a, d, kvs, rfl, h1, h2, h3⟩ := r
    refine ⟨a, R.cl c, _, rfl, ⟨d, le.rd _ _ h1, fun dx e => ?_⟩, h.hc c, h.hx c, q _ F H (.refl le) rfl⟩
    subst e
    exact ⟨kvs, le.rd _ _ h2⟩
  · cases e
theorem je_isv {b x : Str} {p p2 pos : Pos} {a : Expr} {ma : M Opd} (hI : IsV R) (hg : Gl X x) (hm : X.mg x = none) (hv : bootBuiltins x = some (.builtin "isinstance")) (ha : PE X a (LE R W ma)) (hg2 : Gl X b) (hm2 : X.mg b = none) (hv2 : bootBuiltins b = some (.type "ValueError"))
    (hs : starEach [a, .Name b p2] X.env = (false, eval a X.env) :: starEach [.Name b p2] X.env := by rfl) (hs2 : starEach [.Name b p2] X.env = (false, eval (.Name b p2) X.env) :: starEach [] X.env := by rfl)
    (hn : x ≠ "__name__" := by decide) (hdb : (x == ("__debug__" : Str)) = false := by decide) (hn2 : b ≠ "__name__" := by decide) (hdb2 : (b == ("__debug__" : Str)) = false := by decide) (hK : X.K = R.K := by rfl) : PE X (.Call (.Name x p) [a, .Name b p2] [] pos) (LE R W (dOp1 gIsv ma)) :=
  wkE (pe_callB call_isv hg hm hv (pa_cons ha (pa_cons (pe_bltn (v := .ty "ValueError") hg2 hm2 hv2 rfl hn2 hdb2) pa_nil hs2) hs) hn hdb hs (by rw [hs2]; rfl)) fun σ H Q h => by
    rw [hK]
    exact LE_op1 (op1_isv hI) h
/-- {} -/
def dDnil : M Opd := pur (.n (.dic []))
theorem je_dnil {pos : Pos} : PE X (.Dict [] [] pos) (LE R W dDnil) :=
  wkE pe_dnewK fun σ H Q ⟨F, env, ow, s, h⟩ p hp => by
    obtain ⟨xt, fp⟩ := Ext.newO (u := .dK []) s.le hp
    obtain ⟨j1, j2, _⟩ := xt.fin (p := .d .non) (w := .non) s rfl
    have np : ¬ un ow p := fun ⟨i, z⟩ => (s.nof i p z).2 (.of hp)
    have ovp : Ov H p := .of hp
    refine h F _ ow j1 j2 (.ref p) ⟨fun b => b = p, ⟨p, [], rfl, rfl, upd_same, rfl⟩, fun b z => by
        cases z
        exact ⟨fp, fun z => z.no upd_same nt_dK, .inr ovp⟩, fun i b z e => by
        cases e
        exact np ⟨i, z⟩⟩
end
end
/-- the law's run, whose own body knows that no repr runs around -/
def LawAtG (l : PySem.W.OpenLaw) (w : World) (K : PySem.W.Frag) (CX : CXT) (n : Nat) (mg : Str → Option Value) (fa : Addr) (h : Heap) : Prop :=
  ∃ c T : Addr, h.get? T = some { cls := .none, data := .fields #[] } ∧ K.lookup T = none ∧ PySem.W.CodeHd h c T ∧
    ∀ (base : Heap) (H : Hp) (s1 : Shared) (a : Addr) (ns : List Int), ns.length ≤ n → K.In base → TabB base mg c T → Env0 l.prog w K mg base callerA [] s1 H → H T = some (.tbl #[]) → SqL K H a (ns.map V.int) →
      codeAny (model l.prog w) callerA (.call (.ref fa) ⟨[.ref a], []⟩) (CR CX [] l.prog w H s1 (fun v _ => v = .bl true) (fun _ _ _ => False)) s1
theorem walk_ofG {l : PySem.W.OpenLaw} {n : Nat} {q : Program} {loose : List Str} {XP : (Str → Option Value) → Heap → Prop} {YP : World → Heap → Prop} {d : DefRec} {K : Params → PySem.W.Frag} {CX : World → CXT}
    (hn : l.most = some n) (hn2 : n ≤ sizeLine) (hdf : d.params.defaults = []) (hrec : ((recsOf q).any fun e => e.name == d.name) = true) (hY : ∀ (w : World) (h : Heap), YP w h → (K w.params).In h)
    (F : ∀ (w : World) (mg : Str → Option Value) (fa : Addr) (h : Heap), YP w h → (K w.params).In h → h.Ns mainGlobals mg → mg d.name = some (.ref fa) → OwnTab (K w.params) fa h → LawAtG l w (K w.params) (CX w) n mg fa h)
    (hCX : ∀ (w : World) (H : Hp) (s : Shared) (e : Value) (s' : Shared), CX w [] H s (fun _ _ _ => False) e s' → False) :
    PySem.W.WalkO q loose XP YP l.row.toRowW d [] (fun f vs => PySem.call f vs) := by
  refine Att.attach_callB hn hdf fun w s₀ s₁ mg mb fa o pm cd doc a vs ns G Y ho hd hcd hmg hobj hints hlen hbits hg => ?_
  have KX := hY w _ Y
  have own : OwnTab (K w.params) fa s₁.heap := fun c P o1 fd1 e dd vs1 sl k1 k2 k3 k4 k5 => by
    obtain ⟨dL, hm, hn1⟩ := List.any_eq_true.mp hrec
    have hn2 : dL.name = d.name := beq_iff_eq.mp hn1
    obtain ⟨a', o', fd', c', P', h1, h2, h3, h4, h5, h6⟩ := G.T.tab dL hm
    rw [hn2, hmg] at h1
    cases h1
    have g1 := KX _ _ k1
    rw [g1] at h2
    cases h2
    rw [k2] at h3
    cases h3
    rw [k3] at h4
    cases h4
    obtain ⟨⟨oc, vc, e1, _, e3, e4⟩, hP⟩ := h6
    have g2 := KX _ _ k4
    rw [g2] at e1
    cases e1
    cases e3
    rw [k5] at e4
    cases e4
    exact hP
  obtain ⟨c, T, hT, nT, C, go⟩ := F w mg fa _ Y KX G.T.g hmg own
  exact law_runG KX G.T.g G.T.b G.T.builtins G.T.nolimit hg hT nT C G.T.bmain hobj hints (Nat.le_trans hlen hn2) (fun base H kb tb e0 hT hS => go base H s₁ a ns hlen kb tb e0 hT hS) fun H e s' => hCX w H s₁ e s'
/-- the law's call from its body's derivation -/
theorem law_call {P : Program} {w : World} {K : PySem.W.Frag} {mg : Str → Option Value} {base : Heap} {H : Hp} {s1 : Shared} {x qual q : Str} {sta : Stmt} {f a c T : Addr} {oc kV doc pm cdv ct : Value} {od an : Option Addr} {osl : Array (Option Value)} {N : List Str} {k ex : Nat} {sc : Str} {ns : List Int} (R : RC)
    (hK : R.K = K) (lk : K.lookup f = some ⟨oc, od, .func (PySem.W.fnOf x qual (defArgs sta) (defBody sta) (defScope sta) .none kV doc pm an cdv ct), osl⟩)
    (hcd : PySem.W.codeIn K cdv qual = true) (S : FnScope N [sc] (defScope sta)) (hx : 1 + ex = N.length) (hr : Room (k + 1) callerA) (e0 : Env0 P w K mg base callerA [] s1 H) (hT : H T = some (.tbl #[])) (hS : SqL K H a (ns.map V.int))
    (hb : BindsTo s1 (PySem.W.fnOf x qual (defArgs sta) (defBody sta) (defScope sta) .none kV doc pm an cdv ct) ⟨[.ref a], []⟩ [(sc, .ref a)]) (m : letI : TabC := ⟨[(T, q)]⟩; M Fl)
    (hbody : letI : TabC := ⟨[(T, q)]⟩; ∀ (A : Around) (outer : List Env) (s : Shared) (H : Hp) (E : XK), Room k (A.deeper (envOfC qual (defScope sta) s.heap.objs.size f cdv)) → A.guards = some [] → A.units ≤ 4 →
      PSs (cxOf (L2.CX P w) P w K mg base N qual (defScope sta) f cdv A outer s H E) (defBody sta) (LS R ⟨fun cls d _ H => E cls d H, none⟩ m))
    (law : letI : TabC := ⟨[(T, q)]⟩; runF ex m none [.rol (ns.map .int)] = .ok (.bl true) none) :
    codeAny (model P w) callerA (.call (.ref f) ⟨[.ref a], []⟩) (CR (L2.CX P w) [] P w H s1 (fun v _ => v = .bl true) (fun _ _ _ => False)) s1 := by
  letI : TabC := ⟨[(T, q)]⟩
  subst hK
  exact run_defA (us := [.ref a]) (xs := [.ref a]) (qs := [sc]) lk hcd S rfl hr e0 hb (.cons rfl .nil) ⟨_, hbody callerA [] s1 H _ (hr.deeper _) rfl (Nat.le_refl _), ls_start hx (law_start R hT hS law)⟩
end Dv
set_option Elab.async false
set_option linter.all false
set_option maxRecDepth 100000
set_option maxHeartbeats 4000000
/-! Dv45: facts of many own classes of errors, told once for all. -/
namespace Dv
open PySem PySem.Spec PyProof.Rows L2 LamX
theorem units_G {A : Around} {env : Env} (h : A.units ≤ 4) : (A.deeper env).units + 64 < cLine := by
  have : (4 : Nat) + 3 + 64 < cLine := by decide
  show A.units + 3 + 64 < cLine
  omega
def subN (n c k : Nat) : Bool := (if c < n then c else 0) == k || k == 0
def rcL (K : PySem.W.Frag) (cs : List Addr) : RC := ⟨K, fun c => cs.getD c (cs.headD 0), fun _ a _ => .own a, Str.ofString ""⟩
def rowI (K : PySem.W.Frag) (k : Nat) (d : Addr) : Nat → List Addr → Bool
  | _, [] => true
  | j, c :: r => (PySem.W.kitOne K (.ref c) (.ref d) == some (j == k || k == 0)) && rowI K k d (j + 1) r
def allI (K : PySem.W.Frag) (cs : List Addr) : Nat → List Addr → Bool
  | _, [] => true
  | k, d :: r => (PySem.W.kitOne K (.type "NoneType") (.ref d) == some false) && (rowI K k d 0 cs && allI K cs (k + 1) r)
theorem rowI_ok {K : PySem.W.Frag} {k : Nat} {d x : Addr} : ∀ {r : List Addr} {j : Nat}, rowI K k d j r = true → ∀ i, i < r.length → PySem.W.kitOne K (.ref (r.getD i x)) (.ref d) = some (j + i == k || k == 0)
  | [], _, _, _, hi => by cases hi
  | c :: r, j, h, i, hi => by
    obtain ⟨h1, h2⟩ := Bool.and_eq_true_iff.mp (show ((PySem.W.kitOne K (.ref c) (.ref d) == some (j == k || k == 0)) && rowI K k d (j + 1) r) = true from h)
    cases i with
    | zero => exact beq_iff_eq.mp h1
    | succ i =>
      have := rowI_ok (x := x) h2 i (Nat.lt_of_succ_lt_succ hi)
      rw [show j + 1 + i = j + (i + 1) by omega] at this
      exact this
theorem allI_ok {K : PySem.W.Frag} {cs : List Addr} {x : Addr} : ∀ {r : List Addr} {k : Nat}, allI K cs k r = true → ∀ i, i < r.length → PySem.W.kitOne K (.type "NoneType") (.ref (r.getD i x)) = some false ∧ rowI K (k + i) (r.getD i x) 0 cs = true
  | [], _, _, _, hi => by cases hi
  | d :: r, k, h, i, hi => by
    obtain ⟨h1, h2⟩ := Bool.and_eq_true_iff.mp (show ((PySem.W.kitOne K (.type "NoneType") (.ref d) == some false) && (rowI K k d 0 cs && allI K cs (k + 1) r)) = true from h)
    obtain ⟨h2, h3⟩ := Bool.and_eq_true_iff.mp h2
    cases i with
    | zero => exact ⟨beq_iff_eq.mp h1, h2⟩
    | succ i =>
      have := allI_ok (x := x) h3 i (Nat.lt_of_succ_lt_succ hi)
      rw [show k + 1 + i = k + (i + 1) by omega] at this
      exact this
def clsX (K : PySem.W.Frag) (c : Addr) : Bool :=
  (PySem.W.findIn K (.ref c) "__getattribute__" == some (some (.builtin "BaseException.__getattribute__"))) && ((PySem.W.findIn K (.ref c) "__getattr__" == some none) && ((PySem.W.subIn K (.ref c) (.type "BaseException") == some true) && (PySem.W.hasDictIn K c &&
  ((PySem.W.findIn K (.ref c) "__class__" == some (some (.builtin "object.__class__"))) && ((PySem.W.mroIn K c (.type "object") == some true) && (PySem.W.kitOne K (.ref c) (.type "ValueError") == some true))))))
def clsQ (K : PySem.W.Frag) (c : Addr) : Bool := PySem.W.excIn K c exBm exNew && PySem.W.keepIn K (.ref c)
theorem getD_mem {cs : List Addr} (h : 0 < cs.length) (c : Nat) : cs.getD c (cs.headD 0) ∈ cs := by
  by_cases q : c < cs.length
  · rw [List.getD_eq_getElem?_getD, List.getElem?_eq_getElem q]
    exact List.getElem_mem q
  · rw [List.getD_eq_getElem?_getD, List.getElem?_eq_none (by omega)]
    cases cs with
    | nil => cases h
    | cons a r => exact List.mem_cons_self
theorem clsX_ok {K : PySem.W.Frag} {c : Addr} (h : clsX K c = true) (g6 : PySem.W.specialIn K (.builtin "object.__class__") "__get__" = some (some (.builtin "getset_descriptor.__get__"))) (g7 : PySem.W.takesIn K (.builtin "object.__class__") = some true) : ExcC K c ∧ PySem.W.kitOne K (.ref c) (.type "ValueError") = some true := by
  unfold clsX at h
  simp only [Bool.and_eq_true, beq_iff_eq] at h
  obtain ⟨h1, h2, h3, h4, h5, h6, h7⟩ := h
  exact ⟨⟨h1, h2, h3, h4, h5, g6, g7, h6⟩, h7⟩
section
variable {K : PySem.W.Frag} {cs : List Addr} {n : Nat}
theorem isv_all (h0 : 0 < cs.length) (h : cs.all (clsX K) = true) (g6 : PySem.W.specialIn K (.builtin "object.__class__") "__get__" = some (some (.builtin "getset_descriptor.__get__"))) (g7 : PySem.W.takesIn K (.builtin "object.__class__") = some true) : IsV (rcL K cs) :=
  ⟨fun c => (clsX_ok (List.all_eq_true.mp h _ (getD_mem h0 c)) g6 g7).2, fun c => (clsX_ok (List.all_eq_true.mp h _ (getD_mem h0 c)) g6 g7).1⟩
theorem isx_all (hn : cs.length = n) (h0 : 0 < cs.length) (h : cs.all (clsX K) = true) (hI : allI K cs 0 cs = true) (g6 : PySem.W.specialIn K (.builtin "object.__class__") "__get__" = some (some (.builtin "getset_descriptor.__get__"))) (g7 : PySem.W.takesIn K (.builtin "object.__class__") = some true) :
    ∀ k, k < n → IsX (rcL K cs) (subN n) k := by
  subst hn
  intro k hk
  obtain ⟨z1, z2⟩ := allI_ok (x := cs.headD 0) hI k hk
  rw [Nat.zero_add] at z2
  have row : ∀ i, i < cs.length → PySem.W.kitOne K (.ref (cs.getD i (cs.headD 0))) (.ref (cs.getD k (cs.headD 0))) = some (i == k || k == 0) := fun i hi => by
    have := rowI_ok (x := cs.headD 0) z2 i hi
    rw [Nat.zero_add] at this
    exact this
  refine ⟨z1, fun c => ?_, (isv_all h0 h g6 g7).hc⟩
  show PySem.W.kitOne K (.ref (cs.getD c (cs.headD 0))) (.ref (cs.getD k (cs.headD 0))) = some (subN cs.length c k)
  unfold subN
  by_cases q : c < cs.length
  · rw [if_pos q]; exact row c q
  · rw [if_neg q]
    have e : cs.getD c (cs.headD 0) = cs.getD 0 (cs.headD 0) := by
      rw [List.getD_eq_getElem?_getD, List.getElem?_eq_none (by omega)]
      cases cs with
      | nil => cases h0
      | cons a r => rfl
    rw [e]; exact row 0 h0
theorem qk_all {ks : List Nat} (h : (ks.all fun k => clsQ K (cs.getD k (cs.headD 0))) = true) : ∀ k, k ∈ ks → PySem.W.excIn (rcL K cs).K ((rcL K cs).cl k) exBm exNew = true ∧ PySem.W.keepIn (rcL K cs).K (.ref ((rcL K cs).cl k)) = true := fun k m =>
  Bool.and_eq_true_iff.mp (List.all_eq_true.mp h k m)
end
end Dv
set_option Elab.async false
set_option linter.all false
set_option maxRecDepth 100000
set_option maxHeartbeats 4000000
/-! Dv46: sorted(set(t)), isinstance(x, (list, tuple)), t.count(x), repr of an expression. -/
namespace Dv
open PySem PySem.Spec PyProof.Rows L2
/-! ### unlike ints in order -/
def insU (x : Int) : List Int → List Int
  | [] => [x]
  | y :: r => if x < y then x :: y :: r else if x = y then y :: r else y :: insU x r
def sortU : List Int → List Int
  | [] => []
  | x :: r => insU x (sortU r)
theorem insU_mem (x k : Int) : ∀ l : List Int, k ∈ insU x l ↔ k = x ∨ k ∈ l
  | [] => by simp [insU]
  | y :: r => by
    unfold insU
    split
    · exact List.mem_cons
    · split
      · rename_i h; subst h
        constructor
        · exact .inr
        · rintro (rfl | h)
          · exact List.mem_cons_self
          · exact h
      · rw [List.mem_cons, insU_mem x k r, List.mem_cons]
        constructor
        · rintro (h | h | h) <;> simp [h]
        · rintro (h | h | h) <;> simp [h]
theorem insU_lt (x : Int) : ∀ l : List Int, l.Pairwise (· < ·) → (insU x l).Pairwise (· < ·)
  | [], _ => List.pairwise_singleton _ _
  | y :: r, h => by
    obtain ⟨h1, h2⟩ := List.pairwise_cons.mp h
    unfold insU
    split
    · rename_i c
      exact List.pairwise_cons.mpr ⟨fun z m => by
        rcases List.mem_cons.mp m with rfl | m
        · exact c
        · have := h1 z m; omega, h⟩
    · split
      · exact h
      · rename_i c d
        exact List.pairwise_cons.mpr ⟨fun z m => by
          rcases (insU_mem x z r).mp m with rfl | m
          · omega
          · exact h1 z m, insU_lt x r h2⟩
theorem sortU_mem (k : Int) : ∀ l : List Int, k ∈ sortU l ↔ k ∈ l
  | [] => Iff.rfl
  | x :: r => by
    show k ∈ insU x (sortU r) ↔ _
    rw [insU_mem, sortU_mem k r, List.mem_cons]
theorem sortU_lt : ∀ l : List Int, (sortU l).Pairwise (· < ·)
  | [] => .nil
  | x :: r => insU_lt x _ (sortU_lt r)
theorem lt_uniq : ∀ {xs ys : List Int}, xs.Pairwise (· < ·) → ys.Pairwise (· < ·) → (∀ k, k ∈ xs ↔ k ∈ ys) → xs = ys
  | [], [], _, _, _ => rfl
  | [], y :: ys, _, _, h => by have := (h y).mpr List.mem_cons_self; cases this
  | x :: xs, [], _, _, h => by have := (h x).mp List.mem_cons_self; cases this
  | x :: xs, y :: ys, hx, hy, h => by
    obtain ⟨x1, x2⟩ := List.pairwise_cons.mp hx
    obtain ⟨y1, y2⟩ := List.pairwise_cons.mp hy
    have e : x = y := by
      rcases List.mem_cons.mp ((h x).mp List.mem_cons_self) with e | m
      · exact e
      · rcases List.mem_cons.mp ((h y).mpr List.mem_cons_self) with e | m2
        · exact e.symm
        · have a := y1 x m; have b := x1 y m2; omega
    subst e
    rw [lt_uniq x2 y2 fun k => ?_]
    constructor
    · intro m
      rcases List.mem_cons.mp ((h k).mp (List.mem_cons_of_mem _ m)) with e | m2
      · have := x1 k m; omega
      · exact m2
    · intro m
      rcases List.mem_cons.mp ((h k).mpr (List.mem_cons_of_mem _ m)) with e | m2
      · have := y1 k m; omega
      · exact m2
variable [TabC]
/-! ### sorted(set(t)) -/
def gSortSet : D → Option Opd
  | .tup xs => (toInts xs).bind fun ns => if ns.length ≤ 60 then some (.n (.lst ((sortU ns).map .int))) else none
  | _ => none
def rSortSet (K : PySem.W.Frag) : V → Hp → VK → Prop := fun v H Q => ∃ (p : Addr) (ns : List Int), v = .ref p ∧ SqT K H p (ns.map V.int) ∧ ns.length ≤ 60 ∧ ∀ q, H q = none → Q (.ref q) (upd H q (.lst ((sortU ns).map V.int)))
section
variable {X : Cx} {R : RC} {W : WX} {a : Expr} {ta : TE} {m : M Opd} {p p2 q pos : Pos}
theorem pe_sortSet (hc : X.calm = true) (hg : Gl X "sorted") (hm : X.mg "sorted" = none) (hv : bootBuiltins "sorted" = some (.builtin "sorted")) (hg2 : Gl X "set") (hm2 : X.mg "set" = none) (ha : PE X a ta) (na : starEach [a] X.env = (false, eval a X.env) :: starEach [] X.env := by rfl) :
    PE X (.Call (.Name "sorted" p) [.Call (.Name "set" p2) [a] [] q] [] pos) (fun σ H Q => ta σ H fun x H1 => rSortSet X.K x H1 Q) := by
  constructor
  intro pins s σ H Q I h
  refine Call_ (ld_blt I hg hm hv ?_)
  refine PyProof.Rows.callWith_builtin1 (PyProof.Rows.args_cons ?_ rfl) rfl rfl
  refine Call_ (ld_blt I hg2 hm2 PyProof.Rows.boot_set ?_)
  refine PyProof.Rows.callWith_type1 (PyProof.Rows.args_cons (thn (ha.run pins s σ H _ I h) ?_) na) na rfl
  rintro v s1 ⟨x, H1, I1, r1, l, ns, rfl, hq, hl, q1⟩
  cases r1
  apply PyProof.Rows.args_nil
  obtain ⟨its, rv, pt, hz⟩ := I1.tuple hq
  have hi : IntsAre its.toArray.toList ns := ints_of_vals rv
  refine call_set_tupI ns (I1.ok.hd hc) (show s1.heap.IsTuple l its.toArray from pt) hi (by unfold scanBound; omega) fun h' tk c R1 hcn k => ?_
  apply PyProof.Rows.args_nil
  have I2 : Inv X pins σ H1 { s1 with heap := h', toks := tk } := I1.kept k
  refine sorted_set R1 (I2.ok.hd hc) (by omega) fun s' p out c ks k g o hp hg hi hs hm hl => ?_
  have ek : ks = sortU ns := lt_uniq hs (sortU_lt ns) fun k => by rw [hm k, sortU_mem, decide_eq_true_eq]
  subst ek
  have hlen : ((sortU ns).map V.int).length ≤ sizeLine := by rw [List.length_map, hl, sizeLine_eq]; omega
  have hn : H1 p = none := I2.hok.fresh hp
  have J : Inv X pins σ (upd H1 p (.lst ((sortU ns).map V.int))) { ({ s1 with heap := h', toks := tk } : Shared) with heap := s'.heap, gens := s'.gens, drawn := s'.drawn, toks := s'.toks } :=
    I2.call (ch := []) (Un.laid k hp hn) (I2.hok.laid k hp ⟨hlen, out.toList, c, vals_of_ints hi, hg⟩) (by rw [g]; exact I2.bare) (fun _ z => nomatch z)
  have e : s' = { ({ s1 with heap := h', toks := tk } : Shared) with heap := s'.heap, gens := s'.gens, drawn := s'.drawn, toks := s'.toks } := by
    cases s'
    cases s1
    cases o
    rfl
  rw [e]
  exact ⟨.ref p, _, J, rfl, q1 p hn⟩
theorem je_sortSet (hc : X.calm = true) (hg : Gl X "sorted") (hm : X.mg "sorted" = none) (hv : bootBuiltins "sorted" = some (.builtin "sorted")) (hg2 : Gl X "set") (hm2 : X.mg "set" = none) (ha : PE X a (LE R W m)) (na : starEach [a] X.env = (false, eval a X.env) :: starEach [] X.env := by rfl) (hK : X.K = R.K := by rfl) :
    PE X (.Call (.Name "sorted" p) [.Call (.Name "set" p2) [a] [] q] [] pos) (LE R W (dOp1 gSortSet m)) :=
  wkE (pe_sortSet hc hg hm hv hg2 hm2 ha na) fun σ H Q h => LE_op1 (r := rSortSet X.K) (fun F H x v p Q le r e q => by
    rw [hK]
    unfold gSortSet at e
    split at e
    · obtain ⟨ns, e1, e2⟩ := Option.bind_eq_some_iff.mp e
      have e3 := toInts_inv e1
      subst e3
      split at e2
      · rename_i c
        cases e2
        obtain ⟨b, vs, rfl, h1, h2⟩ := r
        have h3 := h2.ints
        subst h3
        refine ⟨b, ns, rfl, le.sqT h1, c, fun t ht => ?_⟩
        obtain ⟨k1, k2⟩ := new_lst (R := R) (xs := (sortU ns).map .int) le ht (Reps.of_ints (sortU ns))
        exact q _ _ _ k1 k2
      · cases e2
    · cases e) h
/-! ### isinstance(x, (list, tuple)) -/
def gIsi2 : D → Option Opd := fun x => (tyN x).map fun n => .d (.bl (instB n "list" || instB n "tuple"))
def rIsi2 (K : PySem.W.Frag) : V → Hp → VK → Prop := fun x H Q => ∀ p, H p = none → ∃ t b, TyX K (upd H p (.tup [.ty "list", .ty "tuple"])) x t ∧ PySem.W.kitAny K t [.type "list", .type "tuple"] = some b ∧ Q (.bl b) (upd H p (.tup [.ty "list", .ty "tuple"]))
theorem op1_isi2 : Op1 R gIsi2 (rIsi2 R.K) := fun F H x v p Q le h e q a ha => by
  obtain ⟨n, e1, rfl⟩ := Option.map_eq_some_iff.mp e
  have up : Le H (upd H a (.tup [.ty "list", .ty "tuple"])) := .ofEx (Ext.new (F := H) (.refl H) ha).st.ex
  have r2 : RepT R (upd H a (.tup [.ty "list", .ty "tuple"])) (upd H a (.tup [.ty "list", .ty "tuple"])) x v := RepT.of (.refl _) ((h.rep le).mono up)
  obtain ⟨xt, _⟩ := Ext.newO (u := .tup [.ty "list", .ty "tuple"]) le ha
  have k1 : PySem.W.kitOne R.K (.type n) (.type "list") = some (instB n "list") := kit_ty (kitB_of (tyN_mem e1) (by decide))
  have k2 : PySem.W.kitOne R.K (.type n) (.type "tuple") = some (instB n "tuple") := kit_ty (kitB_of (tyN_mem e1) (by decide))
  refine ⟨.type n, instB n "list" || instB n "tuple", tyX_of (.refl _) r2 e1, kitAny_cons k1 (fun z => ?_) (fun z => by rw [z]; rfl), q _ _ _ xt rfl⟩
  rw [z, Bool.false_or]
  refine kitAny_cons k2 (fun z => ?_) (fun z => z)
  rw [z]; exact kitAny_nil
theorem je_isi2 {b c : Str} {p3 p4 p5 : Pos} {k : Nat} (hg : Gl X "isinstance") (hm : X.mg "isinstance" = none) (hv : bootBuiltins "isinstance" = some (.builtin "isinstance")) (ha : PE X a (LE R W m)) (hg2 : Gl X "list") (hm2 : X.mg "list" = none) (hg3 : Gl X "tuple") (hm3 : X.mg "tuple" = none)
    (hs : starEach [a, .Tuple [.Name "list" p3, .Name "tuple" p4] k p5] X.env = (false, eval a X.env) :: starEach [.Tuple [.Name "list" p3, .Name "tuple" p4] k p5] X.env := by rfl) (hs2 : starEach [.Tuple [.Name "list" p3, .Name "tuple" p4] k p5] X.env = (false, eval (.Tuple [.Name "list" p3, .Name "tuple" p4] k p5) X.env) :: starEach [] X.env := by rfl)
    (hK : X.K = R.K := by rfl) : PE X (.Call (.Name "isinstance" p) [a, .Tuple [.Name "list" p3, .Name "tuple" p4] k p5] [] pos) (LE R W (dOp1 gIsi2 m)) :=
  wkE (pe_callB call_isiT hg hm hv (pa_cons ha (pa_cons (pe_tup (pa_cons (pe_bltn (v := .ty "list") hg2 hm2 boot_list rfl) (pa_cons (pe_bltn (v := .ty "tuple") hg3 hm3 boot_tuple rfl) pa_nil))) pa_nil hs2) hs) (by decide) (by decide) hs (by rw [hs2]; rfl)) fun σ H Q h => by
    have h1 := LE_op1 op1_isi2 h
    refine LE_mono h1 fun v H1 q => ⟨by decide, fun tp ht => ?_⟩
    obtain ⟨t, b, e1, e2, e3⟩ := q tp ht
    rw [hK]
    exact ⟨v, tp, _, t, _, b, rfl, upd_same, .cons (.ty _) (.cons (.ty _) .nil), e1, e2, e3⟩
/-! ### t.count(x) -/
def gCnt : D → D → Option Opd
  | .tup xs, .int k => (toInts xs).bind fun ns => some (.d (.int ((ns.countP fun y => decide (y = k) : Nat) : Int)))
  | _, _ => none
end
end Dv
set_option Elab.async false
set_option linter.all false
set_option maxRecDepth 100000
set_option maxHeartbeats 4000000
/-! Dv47: a lambda made and kept as a value. -/
namespace Dv
open PySem PySem.Spec PyProof.Rows L2 LamX
/-- a lambda's object: its text, its cells, its code object c' -/
def LamO (q : Str) (params : Arguments) (body : Expr) (scope : Scope) (cl : List (Str × Addr)) (f c' : Addr) : HO := .ext fun h => ∃ pm ctv : Value, h.get? f = some (PySem.W.kla_obj "<lambda>" q params body scope cl pm c' ctv)
theorem lamO_ok {P : Program} {w : World} {H : Hp} {h : Heap} {q : Str} {params : Arguments} {body : Expr} {scope : Scope} {cl : List (Str × Addr)} {f c' : Addr} {pm ctv : Value} (e : h.get? f = some (PySem.W.kla_obj "<lambda>" q params body scope cl pm c' ctv)) : ObjOk P w H h f (LamO q params body scope cl f c') :=
  ⟨⟨pm, ctv, e⟩, ⟨_, e⟩, fun _ _ ⟨a, b, z⟩ k => ⟨a, b, k _ z⟩⟩
theorem nt_lamO {q : Str} {params : Arguments} {body : Expr} {scope : Scope} {cl : List (Str × Addr)} {f c' : Addr} : NT (LamO q params body scope cl f c') := fun _ z => by cases z
/-- one more row in a table: its code object is new -/
theorem tabs_row {T : List (Addr × Str)} {H : Hp} {P k : Addr} {q : Str} {ps : Array Value} {pos : Pos} (t : Tabs T H) (hm : (P, q) ∈ T) (hP : H P = some (.tbl ps)) (hk : H k = none) (hu : ∀ p ∈ T, p.1 = P → p.2 = q) :
    ExtN H (upd (upd H P (.tbl (ps ++ #[rawInt pos.line, rawInt pos.col, .ref k]))) k (CodeO k q)) ∧ Tabs T (upd (upd H P (.tbl (ps ++ #[rawInt pos.line, rawInt pos.col, .ref k]))) k (CodeO k q)) := by
  have kP : P ≠ k := ne_of_none hP hk
  have E : ExtN H (upd (upd H P (.tbl (ps ++ #[rawInt pos.line, rawInt pos.col, .ref k]))) k (CodeO k q)) := fun b o hb n => by
    have b1 : b ≠ k := ne_of_none hb hk
    have b2 : b ≠ P := fun z => by
      subst z
      rw [hP] at hb
      exact n ps (Option.some.inj hb).symm
    rw [upd_ne b1, upd_ne b2, hb]
  refine ⟨E, fun p hp => ?_⟩
  obtain ⟨qs, y1, y2, y3⟩ := t p hp
  by_cases c : p.1 = P
  · have eq := hu p hp c
    rw [c, hP] at y1
    cases y1
    have ls : (ps ++ #[rawInt pos.line, rawInt pos.col, .ref k]).toList = ps.toList ++ [rawInt pos.line, rawInt pos.col, .ref k] := by simp
    refine ⟨_, by rw [c, upd_ne kP, upd_same], by rw [ls]; exact PySem.TriplesOk_snoc _ _ _ _ y2, fun ps2 cv hc => ?_⟩
    rw [ls] at hc
    rcases among_app _ y2 hc with z | z
    · obtain ⟨d, z1, z2⟩ := y3 ps2 cv z
      exact ⟨d, z1, E _ _ z2 codeO_ne⟩
    · exact ⟨k, z, by rw [eq, upd_same]⟩
  · refine ⟨qs, by rw [upd_ne (ne_of_none y1 hk), upd_ne c]; exact y1, y2, fun ps2 cv hc => ?_⟩
    obtain ⟨d, z1, z2⟩ := y3 ps2 cv hc
    exact ⟨d, z1, E _ _ z2 codeO_ne⟩
def tLamV (T : List (Addr × Str)) (q : Str) (o : Addr → Addr → HO) : TE := fun _ H Q => Tabs T H ∧ ∀ (H1 : Hp) (f k : Addr), ExtN H H1 → Tabs T H1 → H1 k = some (CodeO k q) → H1 f = none → Q (.ref f) (upd H1 f (o f k))
section
variable {X : Cx}
theorem pe_lamV {T : List (Addr × Str)} {c P : Addr} {params : Arguments} {body : Expr} {scope : Scope} {pos : Pos} (TB : TabB X.base X.mg c P) (hcode : X.env.code = .ref c) (hm : (P, X.env.qual ++ "<lambda>") ∈ T) (hu : ∀ p ∈ T, p.1 = P → p.2 = X.env.qual ++ "<lambda>")
    (hdef : defaultsOf params X.env = ([], [])) (L : LamS X.env.scope scope) : PE X (.Lambda params body scope pos) (tLamV T (X.env.qual ++ "<lambda>") (LamO (X.env.qual ++ "<lambda>") params body scope (cloFrom X.env.cells scope.names []))) := by
  refine ⟨fun pins s σ H Q I h => ?_⟩
  obtain ⟨t, h⟩ := h
  have free := L.has I.ok
  obtain ⟨ps, hP, tri, among⟩ := t _ hm
  refine PySem.W.kla_eval hdef ?_
  have hP' : s.heap.get? P = some { cls := .none, data := .fields ps } := I.hok P _ hP
  cases hc : codeAmong pos ps.toList with
  | none =>
    refine PySem.W.kla_makeFunction (mg := X.mg) (c := c) (P := P) (ps := ps) (closure_ok free) I.ok.glob (I.mod.glob.keeps I.bk) hcode (TB.code.keeps I.bk) hP' tri hc TB.gP (TB.bm.keeps I.bk) fun k ctv h' tk hx hge hlt hrec htb => ?_
    obtain ⟨k2, oc, vs, tt, e2, hoc, hd, hv⟩ := hrec
    cases e2
    have nk : H k = none := I.hok.fresh hge
    obtain ⟨E, T2⟩ := tabs_row (pos := pos) t hm hP nk hu
    have J0 := inv_table (t' := tk) (more := #[rawInt pos.line, rawInt pos.col, .ref k]) (h' := h') I hP hx htb hge ⟨oc, vs, tt, hoc, hd, hv⟩
    have fr := J0.hok.fresh (Nat.le_refl h'.objs.size)
    have J1 := J0.laid (t' := tk) (a := h'.objs.size) (o := LamO (X.env.qual ++ "<lambda>") params body scope (cloFrom X.env.cells scope.names []) h'.objs.size k) (h' := h'.push (PySem.W.kla_obj "<lambda>" (X.env.qual ++ "<lambda>") params body scope (cloFrom X.env.cells scope.names []) ((X.mg "__name__").getD .none) k ctv))
      (fun b o e => Heap.get?_push_of_some _ e) (Nat.le_refl _) (lamO_ok (Heap.get?_push_size _ rfl))
    exact ⟨.ref h'.objs.size, _, J1, rfl, h _ _ k E T2 upd_same fr⟩
  | some cv =>
    obtain ⟨k, e, hco⟩ := among pos cv hc
    subst e
    refine PySem.W.kla_makeFunctionHit (mg := X.mg) (c := c) (P := P) (ps := ps) (closure_ok free) I.ok.glob (I.mod.glob.keeps I.bk) hcode (TB.code.keeps I.bk) hP' tri hc (TB.bm.keeps I.bk) fun ctv h' tk hx hsz => ?_
    have J1 := I.laid (t' := tk) (a := h'.objs.size) (o := LamO (X.env.qual ++ "<lambda>") params body scope (cloFrom X.env.cells scope.names []) h'.objs.size k) (h' := h'.push (PySem.W.kla_obj "<lambda>" (X.env.qual ++ "<lambda>") params body scope (cloFrom X.env.cells scope.names []) ((X.mg "__name__").getD .none) k ctv))
      (fun b o e => Heap.get?_push_of_some _ (hx b o e)) hsz (lamO_ok (Heap.get?_push_size _ rfl))
    exact ⟨.ref h'.objs.size, _, J1, rfl, h _ _ k (ExtN.refl H) t hco (I.hok.fresh hsz)⟩
variable [TabC] {R : RC} {W : WX}
def dLam (k : Nat) : M Opd := pur (.d (.clo k))
theorem je_lam {c P : Addr} {k : Nat} {params : Arguments} {body : Expr} {scope : Scope} {pos : Pos} (TB : TabB X.base X.mg c P) (hcode : X.env.code = .ref c) (hm : (P, X.env.qual ++ "<lambda>") ∈ TabC.T) (hu : ∀ p ∈ TabC.T, p.1 = P → p.2 = X.env.qual ++ "<lambda>")
    (hdef : defaultsOf params X.env = ([], [])) (L : LamS X.env.scope scope) (hq : R.cq = X.env.qual ++ "<lambda>") (hco : R.co k = LamO (X.env.qual ++ "<lambda>") params body scope (cloFrom X.env.cells scope.names [])) : PE X (.Lambda params body scope pos) (LE R W (dLam k)) :=
  wkE (pe_lamV TB hcode hm hu hdef L) fun σ H Q ⟨F, env, ow, s, h⟩ => by
    refine ⟨s.tb.1, fun H1 f d e t hd hf => ?_⟩
    have s1 : SR R (codeF F H H1) H1 σ env ow := extN_sr s e t
    have st0 : Step F H (un ow) (codeF F H H1) H1 (un ow) := extN_step s e t
    have fd : codeF F H H1 d = some (CodeO d (X.env.qual ++ "<lambda>")) := s1.tb.2 _ _ hd
    have x := Ext.new (u := R.co k f d) s1.le hf (by rw [hco]; exact nt_lamO)
    have df : d ≠ f := ne_of_none hd hf
    have rep : Rep R (upd (codeF F H H1) f (R.co k f d)) (.clo k) (.ref f) := ⟨f, d, rfl, .inl upd_same, by rw [hq, upd_ne df]; exact fd⟩
    obtain ⟨k1, k2, _⟩ := x.fin (p := .d (.clo k)) (w := .ref f) s1 rep
    have := h _ _ ow (st0.trans s.nofU k1) k2 (.ref f) rep
    rw [hco] at this
    exact this
end
end Dv
set_option Elab.async false
set_option linter.all false
set_option maxRecDepth 100000
set_option maxHeartbeats 4000000
/-! Dv48: two names take the parts of a tuple that is made; what the first takes may be a new object. -/
namespace Dv
open PySem PySem.Spec PyProof.Rows L2
variable [TabC]
/-- x, y = <what may be new>, <a name of frozen data> -/
def dAsgLN (i j k : Nat) (ma : M Opd) : M Fl := bnd ma fun p => bnd (noS p) fun p e => match gt e k with
  | some (.d y) => (bnd (setS i p) fun _ => bnd (setS j (.d y)) fun _ => pur .nx) e
  | _ => .no
theorem js_asgLN {X : Cx} {R : RC} {W : WP} {pos : Pos} {i j k : Nat} {x y : Str} {a b : Expr} {ma : M Opd} {px py pt : Pos} {kt k2 pt2} (hK : X.K = R.K) (hc : X.calm = true) (hN : X.N.Nodup) (hi : X.N[i]? = some x) (hj : X.N[j]? = some y) (lx : Loc X.env.scope x) (ly : Loc X.env.scope y)
    (fx : X.fn x = true ∨ X.env.scope.names.lookup x = some .local) (fy : X.fn y = true ∨ X.env.scope.names.lookup y = some .local)
    (ha : PE X a (LE R W.w ma)) (hb : PE X b (tVar k)) (hpi : i ≠ 0 ∨ W.pn = none) (hpj : j ≠ 0 ∨ W.pn = none)
    (h1 : starEach (a :: [b]) X.env = (false, eval a X.env) :: starEach [b] X.env := by rfl) (h2 : starEach (b :: []) X.env = (false, eval b X.env) :: starEach [] X.env := by rfl)
    (h3 : (assignEach (Expr.Name x px :: [.Name y py]) X.env).map (·.2) = assign (.Name x px) X.env :: (assignEach [.Name y py] X.env).map (·.2) := by rfl)
    (h4 : (assignEach (Expr.Name y py :: []) X.env).map (·.2) = assign (.Name y py) X.env :: (assignEach [] X.env).map (·.2) := by rfl)
    (h5 : (assignEach [Expr.Name x px, .Name y py] X.env).length = 2 := by rfl) (h6 : (assignEach [Expr.Name x px, .Name y py] X.env).findIdx? (·.1) = none := by rfl)
    (hs : swapsWithSole [.Tuple [.Name x px, .Name y py] kt pt] (.Tuple [a, b] k2 pt2) pos.line X.env = pure false := by rfl) (hw : swappedStores [.Tuple [.Name x px, .Name y py] kt pt] (.Tuple [a, b] k2 pt2) X.env = pure none := by rfl)
    (h7 : (assignEach [Expr.Tuple [.Name x px, .Name y py] kt pt] X.env).map (·.2) = [assign (.Tuple [.Name x px, .Name y py] kt pt) X.env] := by rfl) :
    PS X (.Assign [.Tuple [.Name x px, .Name y py] kt pt] (.Tuple [a, b] k2 pt2) pos) (LS R W (dAsgLN i j k ma)) :=
  wkS (ps_asg (pe_tup (pa_cons ha (pa_cons hb pa_nil h2) h1)) (pg_tup hc (pgs_cons (pg_name hN hi lx fx) (pgs_cons (pg_name hN hj ly fy) pgs_nil h4) h3) h5 h6) hs hw h7) fun Dn σ H ⟨F, env, ow, s, pn, h⟩ => by
    refine LE_mono (SE_bnd s pn h) fun v H1 ⟨p, env1, F1, ow1, s1, st1, ok1, h⟩ => ?_
    have look : ∃ y1 w, gt env1 k = some (.d y1) ∧ σ[k]? = some (some w) ∧ Rep R F1 y1 w := by
      cases e : gt env1 k with
      | none =>
        exfalso
        cases p with
        | s l => exact h.elim
        | d x1 => simp only [noS, bnd, pur, e] at h; exact h.elim
        | n o => simp only [noS, bnd, pur, e] at h; exact h.elim
      | some sl =>
        cases sl with
        | o z =>
          exfalso
          cases p with
          | s l => exact h.elim
          | d x1 => simp only [noS, bnd, pur, e] at h; exact h.elim
          | n o => simp only [noS, bnd, pur, e] at h; exact h.elim
        | d y1 =>
          obtain ⟨w, e1, r⟩ := s1.sl k _ e
          exact ⟨y1, w, rfl, e1, r⟩
    obtain ⟨y1, w, ek, e1, r⟩ := look
    refine ⟨w, e1, by show 2 ≤ sizeLine; decide, fun p0 hp => ?_⟩
    obtain ⟨xt, f0⟩ := Ext.newO (u := .tup [v, w]) s1.le hp
    obtain ⟨j1, j2, _⟩ := xt.fin (p := .d .non) (w := .non) s1 rfl
    have st5 := st1.trans s.nofU j1
    refine ⟨p0, [v, w], rfl, hK ▸ .of upd_same, rfl, v, [w], rfl, w, [], rfl, rfl, ?_⟩
    cases p with
    | s l => exact h.elim
    | d x1 =>
      simp only [noS, bnd, pur, ek] at h
      obtain ⟨ow5, s5, k5⟩ := j2.setD (i := i) (x := x1) (v := v) ok1
      obtain ⟨ow6, s6, k6⟩ := s5.setD (i := j) r
      exact h _ F1 _ ow6 (st5.less fun c ⟨l, z⟩ => .inl ⟨l, k5 l c (k6 l c z)⟩) s6 (WP.pinSet w (WP.pinSet v pn hpi) hpj)
    | n o =>
      simp only [noS, bnd, pur, ek] at h
      obtain ⟨S, q1, q2, q3⟩ := ok1
      have ne : ∀ c, S c → c ≠ p0 := fun c z e => (q2 c z).2.1 (e ▸ .of hp)
      have q1' : RepO R F1 (upd H1 p0 (.tup [v, w])) o v S := q1.mono (.refl _) (fun c u z _ e => by rw [upd_ne (ne c z)]; exact e) fun _ z => z
      obtain ⟨ow5, s5, k5⟩ := j2.setO (i := i) q1' (fun c z => ⟨(q2 c z).1, fun e => (q2 c z).2.1 (e.eq (upd_ne (ne c z)).symm)⟩) fun l c z e => q3 l c z e
      obtain ⟨ow6, s6, k6⟩ := s5.setD (i := j) r
      exact h _ F1 _ ow6 (st5.less fun c ⟨l, z⟩ => (k5 l c (k6 l c z)).imp (fun z => ⟨l, z⟩) fun z => (q2 c z).2.2) s6 (WP.pinSet w (WP.pinSet v pn hpi) hpj)
/-- .. where both are locals: stored without a tuple -/
theorem js_parLN {X : Cx} {R : RC} {W : WP} {pos : Pos} {i j k : Nat} {x y : Str} {a b : Expr} {ma : M Opd} {px py pt : Pos} {kt k2 pt2} (hc : X.calm = true) (hN : X.N.Nodup) (hi : X.N[i]? = some x) (hj : X.N[j]? = some y) (hij : i ≠ j)
    (hx : X.env.scope.names.lookup x = some .local) (hy : X.env.scope.names.lookup y = some .local)
    (ha : PE X a (LE R W.w ma)) (hb : PE X b (tVar k)) (hpi : i ≠ 0 ∨ W.pn = none) (hpj : j ≠ 0 ∨ W.pn = none)
    (hw : swappedStores [.Tuple [.Name x px, .Name y py] kt pt] (.Tuple [a, b] k2 pt2) X.env = pure (some [x, y]))
    (h1 : starEach (a :: [b]) X.env = (false, eval a X.env) :: starEach [b] X.env := by rfl) (h2 : starEach (b :: []) X.env = (false, eval b X.env) :: starEach [] X.env := by rfl)
    (hs : swapsWithSole [.Tuple [.Name x px, .Name y py] kt pt] (.Tuple [a, b] k2 pt2) pos.line X.env = pure false := by rfl) :
    PS X (.Assign [.Tuple [.Name x px, .Name y py] kt pt] (.Tuple [a, b] k2 pt2) pos) (LS R W (dAsgLN i j k ma)) :=
  wkS (ps_par hc hN hi hj hij hx hy (pa_cons ha (pa_cons hb pa_nil h2) h1) hw hs) fun Dn σ H ⟨F, env, ow, s, pn, h⟩ => by
    refine LE_mono (SE_bnd s pn h) fun v H1 ⟨p, env1, F1, ow1, s1, st1, ok1, h⟩ => ?_
    have look : ∃ y1 w, gt env1 k = some (.d y1) ∧ σ[k]? = some (some w) ∧ Rep R F1 y1 w := by
      cases e : gt env1 k with
      | none =>
        exfalso
        cases p with
        | s l => exact h.elim
        | d x1 => simp only [noS, bnd, pur, e] at h; exact h.elim
        | n o => simp only [noS, bnd, pur, e] at h; exact h.elim
      | some sl =>
        cases sl with
        | o z =>
          exfalso
          cases p with
          | s l => exact h.elim
          | d x1 => simp only [noS, bnd, pur, e] at h; exact h.elim
          | n o => simp only [noS, bnd, pur, e] at h; exact h.elim
        | d y1 =>
          obtain ⟨w, e1, r⟩ := s1.sl k _ e
          exact ⟨y1, w, rfl, e1, r⟩
    obtain ⟨y1, w, ek, e1, r⟩ := look
    refine ⟨w, e1, v, w, rfl, ?_⟩
    cases p with
    | s l => exact h.elim
    | d x1 =>
      simp only [noS, bnd, pur, ek] at h
      obtain ⟨ow5, s5, k5⟩ := s1.setD (i := i) (x := x1) (v := v) ok1
      obtain ⟨ow6, s6, k6⟩ := s5.setD (i := j) r
      exact h _ F1 _ ow6 (st1.less fun c ⟨l, z⟩ => .inl ⟨l, k5 l c (k6 l c z)⟩) s6 (WP.pinSet w (WP.pinSet v pn hpi) hpj)
    | n o =>
      simp only [noS, bnd, pur, ek] at h
      obtain ⟨S, q1, q2, q3⟩ := ok1
      obtain ⟨ow5, s5, k5⟩ := s1.setO (i := i) q1 (fun c z => ⟨(q2 c z).1, (q2 c z).2.1⟩) fun l c z e => q3 l c z e
      obtain ⟨ow6, s6, k6⟩ := s5.setD (i := j) r
      exact h _ F1 _ ow6 (st1.less fun c ⟨l, z⟩ => (k5 l c (k6 l c z)).imp (fun z => ⟨l, z⟩) fun z => (q2 c z).2.2) s6 (WP.pinSet w (WP.pinSet v pn hpi) hpj)
end Dv
set_option Elab.async false
set_option linter.all false
set_option maxRecDepth 100000
set_option maxHeartbeats 4000000
/-! Dv49: a comprehension whose block still sees the frame around it: closures kept in a list are called there. -/
namespace Dv
open PySem PySem.Spec PyProof.Rows L2 LamX
/-- the block that a comprehension of X opens at s -/
abbrev bEnv (X : Cx) (s : Shared) (sc : Scope) : Env := compEnvC sc (cellsFrom (s.heap.objs.size + 1) sc.names (cloFrom X.env.cells sc.names [])) s.heap.objs.size X.env
abbrev bCx (X : Cx) (s : Shared) (H : Hp) (sc : Scope) (fp : List Addr) : Cx := X.blk s H sc (bEnv X s sc) fp
/-- wherever Y stands, the frame of X stands with the slots σ -/
def Sees (Y X : Cx) (pins : List (Addr × Obj)) (σ : L2.St) : Prop := ∀ p2 s2 τ H2, Inv Y p2 τ H2 s2 → Inv X pins σ H2 s2
section
variable {X : Cx} {pins : List (Addr × Obj)} {σ : L2.St} {H : Hp} {s : Shared} {sc : Scope} {fp : List Addr}
theorem sees_blk (I : Inv X pins σ H s) (hf : ∀ b ∈ fp, FpOk X pins H b) : Sees (bCx X s H sc fp) X pins σ := fun _ _ _ _ J =>
  Inv.call' (ch := fp) I J.os J.base J.hok J.bare fun b hb => by
    obtain ⟨_, a1, _, a3, a4, a5⟩ := hf b hb
    exact ⟨a3, a1, a4, a5⟩
/-- what the turns of such a block keep -/
structure TurnI (X : Cx) (σ : L2.St) (s : Shared) (H : Hp) (sc : Scope) (fp : List Addr) (vs : List Nat) (tn : Nat → Heap → Prop) (Wv : Nat → Nat → Hp → Prop) (n : Nat) (s' : Shared) : Prop where
  ex : ∃ (i : Nat) (H' : Hp), Inv (bCx X s H sc fp) [] (wipe σ vs) H' s' ∧ tn i s'.heap ∧ Wv i n H' ∧ ∀ b ∈ fp, H' b = none
theorem fp_in {τ : L2.St} {H' : Hp} {s' : Shared} (J : Inv (bCx X s H sc fp) [] τ H' s') (n : ∀ b ∈ fp, H' b = none) : ∀ b ∈ fp, FpOk (bCx X s H sc fp) [] H' b := fun b hb => by
  have e := J.ok.exf b hb
  refine ⟨n b hb, e.1, J.ok.exfs b hb, Or.inl hb, fun x c k => e.2 x c k, fun p hp => ?_⟩
  have hp : p ∈ ([] : List (Addr × Obj)) := hp
  cases hp
theorem lcV_turns {elt tg iter : Expr} {ifs : List Expr} {own : List (Str × Nat)} {pos : Pos} {g : TG} {tt : TT} {te : TE} {J : It} {it D : Addr} {tn : Nat → Heap → Prop} {Wv : Nat → Nat → Hp → Prop} {Q : VK} {Rz : Result → Shared → Prop} {m0 : Nat} {s4 : Shared}
    (hc : X.calm = true) (T : Turn X.prog X.w X.K tg J fp it tn)
    (pg : PG (bCx X s H sc fp) tg g) (pt : PTs (bCx X s H sc fp) ifs tt) (pe : PE (bCx X s H sc fp) elt te)
    (tr : ∀ i m H, Wv i m H → (J.stop i H ∧ Q (.ref D) H) ∨ (J.go i H ∧ ∃ Nx : Hp → Prop, (∀ H', Nx H' → ∃ m', m' < m ∧ Wv (i + 1) m' H') ∧ ∀ x H', J.yld i H x H' → g x (wipe σ (own.map (·.2))) H' fun σ2 H2 => wipe σ2 (own.map (·.2)) = wipe σ (own.map (·.2)) ∧ tt σ2 H2 fun b H3 =>
      if b = true then te σ2 H3 fun y H4 => ∃ acc, H4 D = some (.lst acc) ∧ acc.length < sizeLine ∧ Nx (upd H4 D (.lst (acc ++ [y]))) else Nx H3))
    (fin : ∀ H' s', Inv (bCx X s H sc fp) [] (wipe σ (own.map (·.2))) H' s' → Q (.ref D) H' → Rz (.ok .next) s')
    (h0 : TurnI X σ s H sc fp (own.map (·.2)) tn Wv m0 s4) :
    codeAny (model X.prog X.w) X.A (.compLoop (.ListComp elt [⟨tg, iter, ifs, 0⟩] sc pos) 0 (.ref it) (.ref D) (bEnv X s sc)) Rz s4 := by
  refine compLoop_any (TurnI X σ s H sc fp (own.map (·.2)) tn Wv) (fun n sa ⟨⟨i, Ha, Ia, ta, wa, na⟩⟩ => ?_) m0 h0
  rcases tr i n Ha wa with ⟨hstop, hq⟩ | ⟨hgo, Nx, hNx, step⟩
  · refine thnF (T.done (bCx X s H sc fp) rfl rfl rfl hc i [] sa _ Ha (fun _ _ => False) Ia (fp_in Ia na) ta hstop) fun r sb ⟨er, Ib⟩ => ?_
    cases er
    exact fin Ha sb Ib hq
  · refine thnF (T.item (bCx X s H sc fp) rfl rfl rfl hc i [] sa _ Ha (fun _ _ => False) Ia (fp_in Ia na) ta hgo) fun r sb ⟨u, er, hb⟩ => ?_
    cases er
    refine thnF hb fun _ sd ⟨x, Hd, Id, rx, yx, td, nd⟩ => ?_
    have Ip := Id.pinned (fp_in Id nd) (T.obj _ _ td)
    refine thnF (pg.run _ sd _ Hd x u _ Ip rx (step x Hd yx)) fun _ se ⟨σe, He, Ie, we, qe⟩ => ?_
    -- behind a turn
    have nextT : ∀ {sz : Shared} {Hz : Hp}, Inv (bCx X s H sc fp) ([] ++ pinsAt fp sd.heap) σe Hz sz → Nx Hz → ∃ m, m < n ∧ TurnI X σ s H sc fp (own.map (·.2)) tn Wv m sz := fun {sz Hz} Iz nz => by
      obtain ⟨m', lt, wz⟩ := hNx Hz nz
      have held : ∀ b ∈ fp, ∀ o, sd.heap.get? b = some o → sz.heap.get? b = some o ∧ Hz b = none := fun b hb o e => by
        have z := Iz.pin (b, o) (List.mem_append_right _ (List.mem_append_right _ (mem_pinsAt hb e)))
        exact ⟨z.1, z.2.1⟩
      refine ⟨m', lt, ⟨i + 1, Hz, (Inv.unpinned (pins := []) Iz).weak ?_ (fun j v e => ?_), T.keep _ _ _ td fun b hb o e => (held b hb o e).1, wz, fun b hb => ?_⟩⟩
      · rw [← we, wipe_length]
      · rw [← we] at e
        exact (wipe_some e).1
      · obtain ⟨o, e, _⟩ := T.obj _ _ td b hb
        exact (held b hb o e).2
    refine thnF (pt.run _ se σe He _ Ie qe) fun b sf ⟨Hf, If, qf⟩ => ?_
    cases b with
    | true =>
      rw [if_pos rfl] at qf ⊢
      refine thnF (pe.run _ sf σe Hf _ If qf) fun z sg ⟨yv, Hg, Ig, rg, acc, hD, hz, nz⟩ => ?_
      exact app_ok (X := bCx X s H sc fp) Ig hD hz rg fun sh Ih => nextT Ih nz
    | false =>
      rw [if_neg Bool.false_ne_true] at qf ⊢
      exact nextT If qf
end
section
variable {X : Cx}
theorem lcV_core {pins : List (Addr × Obj)} {s : Shared} {σ : L2.St} {H : Hp} {Q : VK} {elt tg iter : Expr} {ifs : List Expr} {scope : Scope} {own : List (Str × Nat)} {pos pos' : Pos} {wi : TI} {g : TG} {tt : TT} {te : TE} {use : Option (Value → Sem Unit)} {Qf : Value → Shared → Prop}
    (hc : X.calm = true) (hN : X.N.Nodup) (I : Inv X pins σ H s) (hi : PI X tg iter wi) (ok : BlkOk X.N X.env.scope scope own)
    (hg : ∀ (s : Shared) (H : Hp) (fp : List Addr), PG (bCx X s H scope fp) tg g) (ht : ∀ (s : Shared) (H : Hp) (fp : List Addr), Sees (bCx X s H scope fp) X pins σ → PTs (bCx X s H scope fp) ifs tt)
    (he : ∀ (s : Shared) (H : Hp) (fp : List Addr), Sees (bCx X s H scope fp) X pins σ → PE (bCx X s H scope fp) elt te) (hs : ∀ x, foldedSetIterable iter X.env x = pure x)
    (h : tLc wi g tt te (own.map (·.2)) σ H Q)
    (hRR : ∀ D C s' m H', Inv X pins σ H' s' → Q (.ref D) H' → s'.heap.Ns C m → FpOk X pins H' C → compPost (model X.prog X.w) X.A X.xe use Qf (.ref D) C (.ok .next) s') :
    wpAny (model X.prog X.w) X.A (comprehension (.ListComp elt [⟨tg, iter, ifs, 0⟩] scope pos) scope X.env pos' (newList []) false (eval iter X.env) use) Qf X.xe s := by
  have fr : ∀ y ∈ scope.names, y.2 = .free → ∃ c, X.env.cells.lookup y.1 = some c := fun y hy e => (ok.free y hy e).elim (fun k => I.ok.has _ (.inl k)) fun k => I.ok.has _ (.inr k)
  refine wpAny_comprehension_free (use := use) rfl hs (closure_ok fr) ok.kind (fun y hy e => by rw [ok.uniq y hy, e]) (thn (hi.run pins s σ H _ I h) fun xv s1 hx => thn hx fun itv s2 h2 => ?_)
  obtain ⟨it, fp, tn, J, H2, rfl, I2, T, t2, f2, q⟩ := h2
  refine wpAny_newObj_type (newEnv_comp ?_) (by show 0 ≤ sizeLine; decide)
  obtain ⟨D, hD⟩ : ∃ D, D = s2.heap.objs.size := ⟨_, rfl⟩
  rw [← hD]
  obtain ⟨Wv, ⟨m0, w0⟩, tr⟩ := q D (I2.hok.fresh (Nat.le_of_eq hD.symm))
  obtain ⟨s3, hs3⟩ : ∃ s3 : Shared, s3 = { s2 with heap := s2.heap.push { cls := .type "list", data := .seq ([] : List Value).toArray } } := ⟨_, rfl⟩
  rw [← hs3]
  have e3 : s3.heap = s2.heap.push { cls := .type "list", data := .seq ([] : List Value).toArray } := by rw [hs3]
  have I3 : Inv X pins σ (upd H2 D (.lst [])) s3 := by
    rw [hs3]
    refine I2.laid (t' := s2.toks) (fun b o e => Heap.get?_push_of_some _ e) (Nat.le_of_eq hD.symm) ⟨Nat.zero_le _, [], 0, .nil, ?_⟩
    rw [hD]
    exact Heap.get?_push_size _ rfl
  have lt2 : ∀ b ∈ fp, b < s2.heap.objs.size := fun b hb => (T.obj _ _ t2 b hb).elim fun o z => Heap.lt_size z.1
  have f3 : ∀ b ∈ fp, FpOk X pins (upd H2 D (.lst [])) b ∧ b < s3.heap.objs.size := fun b hb => by
    have z := lt2 b hb
    refine ⟨⟨?_, (f2 b hb).2⟩, ?_⟩
    · have ne : b ≠ D := by
        rw [hD]
        exact Nat.ne_of_lt z
      rw [upd_ne ne]
      exact (f2 b hb).1
    · rw [e3, Heap.size_push]
      exact Nat.lt_succ_of_lt z
  have se : Sees (bCx X s3 (upd H2 D (.lst [])) scope fp) X pins σ := sees_blk I3 fun b hb => (f3 b hb).1
  have I4 := block_start I3 ok hN f3
  have t3 : tn 0 s3.heap := T.keep _ _ _ t2 fun b _ o e => by rw [e3]; exact Heap.get?_push_of_some _ e
  have t4 : tn 0 (pushCells (s3.heap.push { cls := .type "dict", data := .dict #[] }) scope.names) := T.keep _ _ _ t3 fun b _ o e => pushCells_keeps _ _ _ _ (Heap.get?_push_of_some _ e)
  have lp := lcV_turns (σ := σ) (elt := elt) (iter := iter) (ifs := ifs) (own := own) (pos := pos) (Q := Q) (D := D) (m0 := m0) (Rz := compPost (model X.prog X.w) X.A X.xe use Qf (.ref D) s3.heap.objs.size)
    hc T (hg s3 _ fp) (ht s3 _ fp se) (he s3 _ fp se) tr (fun H' s' Iz qz => ?_) ⟨0, _, I4, t4, w0, fun b hb => (f3 b hb).1.1⟩
  · exact codeAny_compStart_list lp (T.self X.A 0 _ _ _ t4 lp)
  · have nC : H' s3.heap.objs.size = none := Iz.free
    obtain ⟨m, hn, _⟩ := Iz.loc
    exact hRR D s3.heap.objs.size s' m H' (se _ _ _ _ Iz) qz hn (I3.fpOk (Nat.le_refl _) nC)
theorem pe_lcV {elt tg iter : Expr} {ifs : List Expr} {scope : Scope} {own : List (Str × Nat)} {pos : Pos} {wi : TI} {g : TG} {tt : L2.St → TT} {te : L2.St → TE} (hc : X.calm = true) (hN : X.N.Nodup) (hi : PI X tg iter wi) (ok : BlkOk X.N X.env.scope scope own)
    (hg : ∀ (s : Shared) (H : Hp) (fp : List Addr), PG (bCx X s H scope fp) tg g) (ht : ∀ (pins : List (Addr × Obj)) (σ : L2.St) (s : Shared) (H : Hp) (fp : List Addr), Sees (bCx X s H scope fp) X pins σ → PTs (bCx X s H scope fp) ifs (tt σ))
    (he : ∀ (pins : List (Addr × Obj)) (σ : L2.St) (s : Shared) (H : Hp) (fp : List Addr), Sees (bCx X s H scope fp) X pins σ → PE (bCx X s H scope fp) elt (te σ)) (hs : ∀ x, foldedSetIterable iter X.env x = pure x := by intro _; rfl) :
    PE X (.ListComp elt [⟨tg, iter, ifs, 0⟩] scope pos) (fun σ H Q => tLc wi g (tt σ) (te σ) (own.map (·.2)) σ H Q) := by
  constructor
  intro pins s σ H Q I h
  rw [eval_ListComp]
  refine lcV_core hc hN I hi ok hg (ht pins σ) (he pins σ) hs h fun D C s' m H' I' q hn ⟨a0, a1, _, a3, a4, a5⟩ => ⟨m, hn, fun h2 sb => ⟨.ref D, H', ?_, rfl, q⟩⟩
  exact I'.turned (t' := s'.toks) (fun b o hb e => (sb.2 b hb).trans e) a0 a1 a3 a4 a5
theorem ps_setLcV {i : Nat} {y : Str} {py : Pos} {elt tg iter : Expr} {ifs : List Expr} {scope : Scope} {own : List (Str × Nat)} {pos spos : Pos} {wi : TI} {g : TG} {tt : L2.St → TT} {te : L2.St → TE} (hc : X.calm = true) (hN : X.N.Nodup) (hy : X.N[i]? = some y) (hyl : X.env.scope.names.lookup y = some .local)
    (hsw : swapsWith (.ListComp elt [⟨tg, iter, ifs, 0⟩] scope pos) (some (.Name y py)) spos.line X.env = pure true) (hi : PI X tg iter wi) (ok : BlkOk X.N X.env.scope scope own)
    (hg : ∀ (s : Shared) (H : Hp) (fp : List Addr), PG (bCx X s H scope fp) tg g) (ht : ∀ (pins : List (Addr × Obj)) (σ : L2.St) (s : Shared) (H : Hp) (fp : List Addr), Sees (bCx X s H scope fp) X pins σ → PTs (bCx X s H scope fp) ifs (tt σ))
    (he : ∀ (pins : List (Addr × Obj)) (σ : L2.St) (s : Shared) (H : Hp) (fp : List Addr), Sees (bCx X s H scope fp) X pins σ → PE (bCx X s H scope fp) elt (te σ)) (hs : ∀ x, foldedSetIterable iter X.env x = pure x := by intro _; rfl) :
    PS X (.Assign [.Name y py] (.ListComp elt [⟨tg, iter, ifs, 0⟩] scope pos) spos) (fun Dn σ H => tLc wi g (tt σ) (te σ) (own.map (·.2)) σ H fun x H1 => gName i x σ H1 Dn.nx) := by
  constructor
  intro pins s σ H Dn I h
  rw [exec_Assign_Name_used _ _ _ _ hsw]
  refine wpAny_bind (wpAny_standAt (wpAny_bind ?_))
  show wpAny _ X.A (do let _ ← comprehension (.ListComp elt [⟨tg, iter, ifs, 0⟩] scope pos) scope X.env (firstIterPos [⟨tg, iter, ifs, 0⟩] pos) (newList []) false (eval iter X.env) (some (assign (.Name y py) X.env))) _ _ s
  refine wpAny_bind (thn (lcV_core (Qf := fun _ s' => SP X pins Dn .next s') hc hN I hi ok hg (ht pins σ) (he pins σ) hs h fun L C s' m H' I' q hn f => ?_) fun _ s' hq => wpAny_pure (wpAny_pure hq))
  obtain ⟨a0, a1, _, a3, a4, a5⟩ := f
  show wpAny _ _ (assign (.Name y py) X.env (.ref L)) _ _ _
  refine wpAny_assign_Name (store_ok2 (v := V.ref L) I' hN hy (.inl hyl) rfl (fun s2 I2 ⟨a, sb, ha⟩ => ?_) (.inr hyl))
  have ne : C ≠ a := fun e => by
    rcases ha with z | z
    · exact a1 (e.trans z)
    · exact a4 y a z e.symm
  refine ⟨m, hn.sameBut sb ne, fun h3 sb3 => ⟨_, H', ?_, q⟩⟩
  exact I2.turned (t' := s2.toks) (fun b o hb e => (sb3.2 b hb).trans e) a0 a1 a3 a4 a5
end
end Dv
set_option Elab.async false
set_option linter.all false
set_option maxRecDepth 100000
set_option maxHeartbeats 4000000
/-! Dv50: closures kept in a list, called in a comprehension. -/
namespace Dv
open PySem PySem.Spec PyProof.Rows L2 LamX
theorem lamO_at {P : Program} {w : World} {H : Hp} {h : Heap} {a f c' : Addr} {q : Str} {params : Arguments} {body : Expr} {scope : Scope} {cl : List (Str × Addr)} (k : HOk P w H h) (r : Rd H a (LamO q params body scope cl f c')) : ∃ pm ctv : Value, h.get? f = some (PySem.W.kla_obj "<lambda>" q params body scope cl pm c' ctv) := by
  rcases r with r | ⟨o, r⟩
  · exact (show ObjOk P w H h a (LamO q params body scope cl f c') from k a _ r).1
  · exact (show ObjOk P w H h a (LamO q params body scope cl f c') from (k a _ r).2).1
section
variable {X : Cx} {pins : List (Addr × Obj)} {σ : L2.St} {H : Hp} {s : Shared}
/-- x(), in the def that got the closure: its object is found in the heap -/
theorem pe_actV {CXg : CXT} {Eg E : XK} {Ng : List Str} {qg : Str} {sg scope : Scope} {g f c' : Addr} {cdg : Value} {params : Arguments} {body : Expr} {k i : Nat} {a : Str} {pn : List (Addr × Obj)} {xe : Value → Shared → Prop} {W : WX} {tb : TE} {p1 p2 : Pos}
    (I : Inv X pins σ H s) (L : LamS X.env.scope scope)
    (hbind : ∀ (q : Str) (cl : List (Str × Addr)) (pm cv ctv : Value), bindArgs (PySem.W.kla_fn "<lambda>" q params body scope cl pm cv ctv) ⟨[], []⟩ = pure [])
    (tk : Takes ((cxOf CXg X.prog X.w X.K X.mg X.base Ng qg sg g cdg X.A X.stack s H Eg).tr pn xe) W) (hW : ∀ cls d σ' H', E cls d H' → W cls d σ' H') (hr : Room (k + 1) (X.A.deeper (envOfC qg sg s.heap.objs.size g cdg)))
    (hbody : ∀ (A : Around) (outer : List Env) (s : Shared) (H : Hp), Room k (A.deeper (lamEnv X scope s.heap.objs.size f c')) → PE (lamCx X A outer s H E scope f c') body tb)
    (hN : Ng[i]? = some a) (hv : Vis sg a) (hd : (a == ("__debug__" : Str)) = false := by decide) (hcd : (a == ("__classdict__" : Str)) = false := by decide) :
    PE ((cxOf CXg X.prog X.w X.K X.mg X.base Ng qg sg g cdg X.A X.stack s H Eg).tr pn xe) (.Call (.Name a p1) [] [] p2)
      (fun σZ HZ Q => σZ[i]? = some (some (.ref f)) ∧ HZ c' = some (CodeO c' (X.env.qual ++ "<lambda>")) ∧ Rd HZ f (LamO (X.env.qual ++ "<lambda>") params body scope (cloFrom X.env.cells scope.names []) f c') ∧ tb σ HZ Q) := by
  constructor
  rintro pz sz σz HZ Q Iz ⟨hs, hc, hlam, ht⟩
  refine wpAny_Call_Name_kw (thn ((pe_var (pos := p1) (i := i) hN hv hd hcd).run pz sz σz HZ (fun v H1 => v = .ref f ∧ H1 = HZ) Iz ⟨.ref f, hs, rfl, rfl⟩) ?_)
  rintro u s1 ⟨v, H1, I1, r1, rfl, rfl⟩
  obtain rfl : u = Value.ref f := r1
  obtain ⟨pm, ctv, hfun⟩ := lamO_at I1.hok hlam
  refine PySem.W.callWith_F0 ⟨_, _, _, _, hfun⟩ ?_
  obtain ⟨⟨oc, ov, tk0, oc1, oc2, oc3⟩, _⟩ := I1.hok c' _ hc
  have go : codeAny (model X.prog X.w) (X.A.deeper (envOfC qg sg s.heap.objs.size g cdg)) (.call (.ref f) ⟨[], []⟩) (CR (L2.CX X.prog X.w) (envOfC qg sg s.heap.objs.size g cdg :: X.stack) X.prog X.w H1 s1 Q E) s1 := by
    refine PySem.W.kla_callFunE hr.depth hfun rfl L.co L.gen rfl ⟨c', oc, ov, tk0, rfl, oc1, oc2, oc3⟩ ?_
    rw [hbind]
    refine wpAny_pure (wpAny_newFunctionEnv (fun y hy => (L.own y hy).2) (fun y hy => absurd hy (by simp)) (fun hh hns hsb => ⟨I1.nolimit.fresh _ hsb, ?_⟩) L.kind)
    have kp : ∀ b o, s1.heap.get? b = some o → hh.get? b = some o := fun b o e => hsb.extBut b o (Nat.ne_of_lt (Heap.lt_size e)) (Heap.get?_push_of_some _ e)
    have J : Inv (lamCx X (X.A.deeper (envOfC qg sg s.heap.objs.size g cdg)) (envOfC qg sg s.heap.objs.size g cdg :: X.stack) s1 H1 E scope f c') [] σ H1 { s1 with heap := hh, toks := s1.toks + ([] : List (Str × Value)).length } :=
      lam_start2 I L I1.env0 hr.hd I1.base hns kp
    show codeAny _ _ (.expr body (lamEnv X scope s1.heap.objs.size f c')) _ _
    refine PySem.W.kla_codeExpr (wpAny_mono ((hbody _ _ s1 H1 (hr.deeper _)).run [] _ _ H1 Q J ht) ?_ fun e s' hq => hq)
    rintro v s' ⟨w', H', J', rv, q⟩
    exact ⟨w', H', J'.os, J'.bare, J'.base, J'.hok, rv, q⟩
  have hx : Passes (L2.CX X.prog X.w) ((cxOf CXg X.prog X.w X.K X.mg X.base Ng qg sg g cdg X.A X.stack s H Eg).tr pn xe) E := passes_call tk hW
  refine wpAny_call (codeAny_mono go fun r s' hq => ?_)
  match r, hq with
  | .error e, hq => exact hx pz σz H1 s1 e s' I1 hq
  | .ok (.ret u), hq => exact I1.after hq
  | .ok .next, hq => exact hq.elim
  | .ok .brk, hq => exact hq.elim
  | .ok .cont, hq => exact hq.elim
end
section
variable [TabC]
/-- the error of the closure at j; the block's own slots vs are not the closure's -/
def dCaughtV (j : Nat) (vs : List Nat) (ms : Nat → Option (M Opd)) : M Opd := fun e => match gt e j with
  | some (.d (.clo k)) => match ms k with
    | some m => if okW e vs = true then (match m (wipeE e vs) with
      | .ok _ e' => .ok (.d .non) (restE e vs e')
      | .ex c fs e' => .ok (.d (.exc c fs)) (restE e vs e')
      | .no => .no) else .no
    | none => .no
  | _ => .no
/-- the closures of the frame X by their numbers -/
def ClosOk (X : Cx) (R : RC) (k : Nat) (ms : Nat → Option (M Opd)) : Prop := R.cq = X.env.qual ++ "<lambda>" ∧ ∀ j m, ms j = some m → ∃ (params : Arguments) (body : Expr) (scope : Scope),
  R.co j = LamO (X.env.qual ++ "<lambda>") params body scope (cloFrom X.env.cells scope.names []) ∧ LamS X.env.scope scope ∧
  (∀ (q : Str) (cl : List (Str × Addr)) (pm cv ctv : Value), bindArgs (PySem.W.kla_fn "<lambda>" q params body scope cl pm cv ctv) ⟨[], []⟩ = pure []) ∧
  ∀ (A : Around) (outer : List Env) (s : Shared) (H : Hp) (E : XK) (f c' : Addr), Room k (A.deeper (lamEnv X scope s.heap.objs.size f c')) → PE (lamCx X A outer s H E scope f c') body (LE R (fun cls d _ H => E cls d H) m)
theorem SR.ofWipe {R F H σ env ow} {vs : List Nat} (s : SR R F H (L2.wipe σ vs) env ow) : SR R F H σ env ow :=
  ⟨s.le, s.nof, s.dis, by rw [s.len, wipe_length], fun i sl h => let ⟨v, e, k⟩ := s.sl i sl h; ⟨v, (wipe_some e).1, k⟩, s.tb, s.nt⟩
theorem SR.back {R F H F' H' σ τ env e' ow ow'} {vs : List Nat} (s : SR R F H τ env ow) (st : Step F H (un ow) F' H' (un ow')) (hw : L2.wipe τ vs = L2.wipe σ vs) (hk : okW env vs = true) (s' : SR R F' H' σ e' ow') : SR R F' H' τ (restE env vs e') ow' := by
  have hl : τ.length = σ.length := by rw [← wipe_length τ vs, hw, wipe_length]
  have hlen : env.length = e'.length := by rw [s.len, s'.len, hl]
  refine ⟨s'.le, s'.nof, s'.dis, by rw [restE_len, s'.len, hl], fun j sl hj => ?_, s'.tb, s'.nt⟩
  rcases restE_get hlen hj with ⟨mj, ej⟩ | ⟨mj, ej⟩
  · obtain ⟨v, e1, kv⟩ := s.sl j sl ej
    cases sl with
    | d y => exact ⟨v, e1, Rep.mono st.le kv⟩
    | o o => exact absurd ej (okW_get hk mj)
  · obtain ⟨v, e1, kv⟩ := s'.sl j sl ej
    refine ⟨v, ?_, kv⟩
    rw [← wipe_out mj, hw, wipe_out mj]
    exact e1
/-- a reading beside a fact of the slots -/
def cj (P : L2.St → Prop) (t : TE) : TE := fun τ H Q => P τ ∧ t τ H Q
def cjT (P : L2.St → Prop) (t : TT) : TT := fun τ H Q => P τ ∧ t τ H Q
section
variable {X : Cx} {R : RC} {pins : List (Addr × Obj)} {σ : L2.St} {s0 : Shared} {H0 : Hp} {sc : Scope} {fp : List Addr} {vs : List Nat}
/-- _law_caught(work) in the block -/
theorem je_caughtV {x y : Str} {sta : Stmt} {fd : FuncData} {g CS : Addr} {k j : Nat} {ms : Nat → Option (M Opd)} {p p1 pos : Pos} (se : Sees (bCx X s0 H0 sc fp) X pins σ) (hg : Gl (bCx X s0 H0 sc fp) x) (hm : X.mg x = some (.ref g)) (FU : L2.Fun X.K x x sta g fd) (hb : Binds X.K fd ["work"] []) (Sg : FnScope nCau ["work"] (defScope sta)) (hva : Vis (defScope sta) "work")
    (hG : ∀ cdv, GivesTo X nCau x (defScope sta) g cdv (defBody sta) "work" (X.env.qual ++ "<lambda>") (TCau R.K CS)) (hX : ∀ c, PySem.W.exmOne R.K (.ref (R.cl c)) (.ref CS) = some true)
    (hr : Room (k + 2) X.A) (hcl : ClosOk X R k ms) (hN : X.N[j]? = some y) (hv : Vis (bEnv X s0 sc).scope y)
    (hd : (y == ("__debug__" : Str)) = false := by decide) (hcd : (y == ("__classdict__" : Str)) = false := by decide)
    (hdb : (x == ("__debug__" : Str)) = false := by decide) : PE (bCx X s0 H0 sc fp) (.Call (.Name x p) [.Name y p1] [] pos) (cj (fun τ => L2.wipe τ vs = L2.wipe σ vs) (LE R W0 (dCaughtV j vs ms))) := by
  obtain ⟨⟨oc, od, kV, doc, pm, an, cdv, ct, osl, rfl, lk, hcdv⟩, hk⟩ := FU
  constructor
  rintro p2 s τ H Q I ⟨hw, F, env, ow, sr, h⟩
  unfold dCaughtV at h
  cases e1 : gt env j with
  | none => rw [e1] at h; exact h.elim
  | some sl =>
  cases sl with
  | o o => rw [e1] at h; exact h.elim
  | d y1 =>
  cases y1 with
  | clo c =>
    rw [e1] at h
    dsimp only at h
    cases e2 : ms c with
    | none => rw [e2] at h; exact h.elim
    | some m =>
    rw [e2] at h
    dsimp only at h
    by_cases okw : okW env vs = true
    case neg => rw [if_neg okw] at h; exact h.elim
    rw [if_pos okw] at h
    obtain ⟨hq, hcl⟩ := hcl
    obtain ⟨params, body, scope, hco, L, hbind, hbody⟩ := hcl c m e2
    obtain ⟨vf, hf, f, c', rfl, r1, r2⟩ := sr.sl j _ e1
    rw [hco] at r1
    rw [hq] at r2
    refine wpAny_Call_Name_kw (ld_glob I hg hm ?_ hdb)
    refine PySem.W.callWith_K (h₀ := X.base) I.ok.mod.kin hk ?_ (by rfl) (by rfl)
    show wpAny _ _ (spliced ((false, eval (.Name y p1) (bEnv X s0 sc)) :: backTo pos (starEach [] (bEnv X s0 sc)))) _ _ s
    refine Calls.spliced_cons (thn ((pe_var (X := bCx X s0 H0 sc fp) (pos := p1) (i := j) hN hv hd hcd).run p2 s τ H (fun v H1 => v = .ref f ∧ H1 = H) I ⟨.ref f, hf, rfl, rfl⟩) ?_)
    rintro u s1 ⟨v, H1, I1, ru, rfl, rfl⟩
    obtain rfl : u = Value.ref f := ru
    refine Calls.spliced_nil ⟨I1.kIn, ?_⟩
    have IX : Inv X pins σ H1 s1 := se _ _ _ _ I1
    have go : codeAny (model X.prog X.w) X.A (.call (.ref g) ⟨[.ref f], []⟩) (CR C8.CX0 X.stack X.prog X.w H1 s1 Q C8.E0) s1 := by
      refine run_ofS (N := nCau) (ps := ["work"]) (us := [.ref f]) (vs := [.ref f]) lk hcdv Sg hr IX.env0 (hb s1 [.ref f] IX.kIn rfl) (.cons rfl .nil) rfl fun hr2 => ?_
      have body_ok : TCau R.K CS (fun E HZ Q' => Rd HZ f (LamO (X.env.qual ++ "<lambda>") params body scope (cloFrom X.env.cells scope.names []) f c') ∧ LE R (fun cls d _ H => E cls d H) m σ HZ Q') H1 Q := by
        refine ⟨sr.le.rd _ _ r1, F, wipeE env vs, ow, (hw ▸ sr.wipe vs).ofWipe, ?_⟩
        cases q : m (wipeE env vs) with
        | no => rw [q] at h; exact h.elim
        | ok p e' =>
          rw [q] at h
          exact fun F' H' ow' st s' v _ => h F' H' ow' st (sr.back st hw okw s') .non rfl
        | ex c0 fs e' =>
          rw [q] at h
          refine fun d kvs F' H' ow' st s' xd rx => ⟨R.cl c0, rfl, hX c0, fun a ha => ?_⟩
          obtain ⟨x1, r⟩ := new_exc (c := c0) s' ha xd rx
          obtain ⟨k1, k2, _⟩ := x1.fin (p := .d (.exc c0 fs)) (w := .ref a) s' r
          exact h _ _ ow' (st.trans sr.nofU k1) (sr.back (st.trans sr.nofU k1) hw okw k2) (.ref a) r
      obtain ⟨t', ht', hq'⟩ := hG cdv f c' s1 H1 Q _
        (fun W pn xe E q1 q2 tk hW => pe_actV (i := 0) IX L hbind tk hW hr2 (fun A outer s H hr3 => hbody A outer s H E f c' hr3) rfl hva (by decide) (by decide)) (sr.le.code r2) body_ok
      exact ⟨t', ht'.nox, hq'⟩
    refine wpAny_call (codeAny_mono go fun r s2 hq => ?_)
    match r, hq with
    | .error e, hq => exact (show False from hq).elim
    | .ok (.ret u), hq => exact I1.after hq
    | .ok .next, hq => exact hq.elim
    | .ok .brk, hq => exact hq.elim
    | .ok .cont, hq => exact hq.elim
  | _ => rw [e1] at h; exact h.elim
end
section
variable {X : Cx} {R : RC} {W : WX} {P : L2.St → Prop}
theorem je_isxV {sub : Nat → Nat → Bool} {k : Nat} {b x : Str} {p p2 pos : Pos} {a : Expr} {ma : M Opd} (hI : IsX R sub k) (hg : Gl X x) (hm : X.mg x = none) (hv : bootBuiltins x = some (.builtin "isinstance")) (ha : PE X a (cj P (LE R W ma))) (hg2 : Gl X b) (hm2 : X.mg b = some (.ref (R.cl k)))
    (hs : starEach [a, .Name b p2] X.env = (false, eval a X.env) :: starEach [.Name b p2] X.env := by rfl) (hs2 : starEach [.Name b p2] X.env = (false, eval (.Name b p2) X.env) :: starEach [] X.env := by rfl)
    (hn : x ≠ "__name__" := by decide) (hdb : (x == ("__debug__" : Str)) = false := by decide) (hdb2 : (b == ("__debug__" : Str)) = false := by decide) (hK : X.K = R.K := by rfl) : PE X (.Call (.Name x p) [a, .Name b p2] [] pos) (cj P (LE R W (dOp1 (gIsx sub k) ma))) :=
  wkE (pe_callB call_isx hg hm hv (pa_cons ha (pa_cons (pe_glob (v := .ref (R.cl k)) hg2 hm2 rfl hdb2) pa_nil hs2) hs) hn hdb hs (by rw [hs2]; rfl)) fun σ H Q h => by
    rw [hK]
    exact ⟨h.1, LE_op1 (op1_isx hI) h.2⟩
theorem jt_truV {a : Expr} {ma : M Opd} (ha : PE X a (cj P (LE R W ma))) (he : ∀ whole, isTrue a X.env whole = (do let v ← whole; standAt a.pos; holding [v] (truthy v)) := by intro _; rfl) (hK : X.K = R.K := by rfl) : PT X a (cjT P (LT R W (dTru ma))) :=
  wkT (pt_truth ha he) fun σ H Q ⟨hp, F, env, ow, s, h⟩ => by
    refine ⟨hp, LE_mono (LE_bnd s h) fun v H1 ⟨p, env1, F1, ow1, s1, st1, ok1, h⟩ => ?_⟩
    obtain ⟨x, ex, h⟩ := h.ofRd
    obtain ⟨k, ek, h⟩ := h.ofOpt'
    exact ⟨k, hK ▸ tru_of s1.le (rd_ok s1 ok1 ex) ek, h F1 H1 ow1 st1 s1⟩
theorem jt_notV {a : Expr} {ta : M Bool} {pos : Pos} (ha : PT X a (cjT P (LT R W ta))) : PT X (.UnaryOp .Not a pos) (cjT P (LT R W (dNot ta))) := wkT (pt_not ha) fun σ H Q ⟨hp, F, env, ow, s, h⟩ =>
  ⟨hp, LT_mono (LT_bnd s h) fun b H1 ⟨env1, F1, ow1, s1, st1, h⟩ => h F1 H1 ow1 st1 s1⟩
theorem je_cj {a : Expr} {t : TE} (ha : PE X a t) : PE X a (cj P t) := wkE ha fun _ _ _ h => h.2
theorem jt_cj {a : Expr} {t : TT} (ha : PT X a t) : PT X a (cjT P t) := wkT ha fun _ _ _ h => h.2
theorem jts_cjN : PTs X [] (cjT P (LT R W dYes)) := wkTs jts_nil fun _ _ _ h => h.2
theorem jts_cj1 {e : Expr} {tb : TT} (h : PT X e tb) : PTs X [e] tb := pts_one h
end
section
variable {X : Cx} {R : RC} {it : M (List D)} {c : M Bool} {m : M Opd}
theorem tLc_cj {W : WX} {i : Nat} {tt : TT} {te : TE} {vs : List Nat} {σ : L2.St} {H : Hp} {Q : VK} (h : tLc (LI R W it) (gName i) tt te vs σ H Q) :
    tLc (LI R W it) (gName i) (cjT (fun τ => L2.wipe τ vs = L2.wipe σ vs) tt) (cj (fun τ => L2.wipe τ vs = L2.wipe σ vs) te) vs σ H Q := by
  obtain ⟨F, env, ow, s, h⟩ := h
  refine ⟨F, env, ow, s, h.mono fun xs env1 F1 H1 ow1 st1 s1 k J wk D hD => ?_⟩
  obtain ⟨Wv, w0, tr⟩ := k J wk D hD
  refine ⟨Wv, w0, fun i n H' hW => ?_⟩
  rcases tr i n H' hW with z | ⟨go, Nx, hNx, step⟩
  · exact .inl z
  · refine .inr ⟨go, Nx, hNx, fun x H2 hy => ?_⟩
    obtain ⟨z1, z2⟩ := step x H2 hy
    refine ⟨z1, z1, ?_⟩
    refine Eq.mp ?_ z2
    congr 1
    funext b H3
    cases b with
    | false => rfl
    | true =>
      rw [if_pos rfl, if_pos rfl]
      exact propext ⟨fun z => ⟨z1, z⟩, fun z => z.2⟩
theorem je_lcV {W : WX} {elt iter : Expr} {i : Nat} {y : Str} {py : Pos} {ifs : List Expr} {scope : Scope} {own : List (Str × Nat)} {pos : Pos} (hc : X.calm = true) (hN : X.N.Nodup) (hi : PI X (.Name y py) iter (LI R W it)) (ok : BlkOk X.N X.env.scope scope own)
    (hg : ∀ (s : Shared) (H : Hp) (fp : List Addr), PG (bCx X s H scope fp) (.Name y py) (gName i))
    (ht : ∀ (pins : List (Addr × Obj)) (σ : L2.St) (s : Shared) (H : Hp) (fp : List Addr), Sees (bCx X s H scope fp) X pins σ → PTs (bCx X s H scope fp) ifs (cjT (fun τ => L2.wipe τ (own.map (·.2)) = L2.wipe σ (own.map (·.2))) (LT R W0 c)))
    (he : ∀ (pins : List (Addr × Obj)) (σ : L2.St) (s : Shared) (H : Hp) (fp : List Addr), Sees (bCx X s H scope fp) X pins σ → PE (bCx X s H scope fp) elt (cj (fun τ => L2.wipe τ (own.map (·.2)) = L2.wipe σ (own.map (·.2))) (LE R W0 m))) (hs : ∀ x, foldedSetIterable iter X.env x = pure x := by intro _; rfl) (hK : X.K = R.K := by rfl) :
    PE X (.ListComp elt [⟨.Name y py, iter, ifs, 0⟩] scope pos) (LE R W (dLc it (fNm i) c m (own.map (·.2)))) := wkE (pe_lcV hc hN hi ok hg ht he hs) fun _ _ _ h => tLc_cj (LE_lc (hK ▸ gc_nm i) h)
theorem js_setLcV {W : WP} {l i : Nat} {x y : Str} {px py : Pos} {elt iter : Expr} {ifs : List Expr} {scope : Scope} {own : List (Str × Nat)} {pos spos : Pos} (hc : X.calm = true) (hN : X.N.Nodup) (hx : X.N[l]? = some x) (hxl : X.env.scope.names.lookup x = some .local)
    (hsw : swapsWith (.ListComp elt [⟨.Name y py, iter, ifs, 0⟩] scope pos) (some (.Name x px)) spos.line X.env = pure true) (hi : PI X (.Name y py) iter (LI R W.w it)) (ok : BlkOk X.N X.env.scope scope own)
    (hg : ∀ (s : Shared) (H : Hp) (fp : List Addr), PG (bCx X s H scope fp) (.Name y py) (gName i))
    (ht : ∀ (pins : List (Addr × Obj)) (σ : L2.St) (s : Shared) (H : Hp) (fp : List Addr), Sees (bCx X s H scope fp) X pins σ → PTs (bCx X s H scope fp) ifs (cjT (fun τ => L2.wipe τ (own.map (·.2)) = L2.wipe σ (own.map (·.2))) (LT R W0 c)))
    (he : ∀ (pins : List (Addr × Obj)) (σ : L2.St) (s : Shared) (H : Hp) (fp : List Addr), Sees (bCx X s H scope fp) X pins σ → PE (bCx X s H scope fp) elt (cj (fun τ => L2.wipe τ (own.map (·.2)) = L2.wipe σ (own.map (·.2))) (LE R W0 m))) (hs : ∀ x, foldedSetIterable iter X.env x = pure x := by intro _; rfl) (hK : X.K = R.K := by rfl) (hp : l ≠ 0 ∨ W.pn = none := by first | exact .inl (by decide) | exact .inr rfl) :
    PS X (.Assign [.Name x px] (.ListComp elt [⟨.Name y py, iter, ifs, 0⟩] scope pos) spos) (LS R W (dAsg l (dLc it (fNm i) c m (own.map (·.2))))) := wkS (ps_setLcV hc hN hx hxl hsw hi ok hg ht he hs) fun _ _ _ h => tLc_cj (LE_lc (hK ▸ gc_nm i) (LS_asg hp h))
end
end
end Dv
set_option Elab.async false
set_option linter.all false
set_option maxRecDepth 100000
set_option maxHeartbeats 4000000
/-! Dv51: parts of a text by their place; the law's call where its closures are kept. -/
namespace Dv
open PySem PySem.Spec PyProof.Rows L2 LamX
def nilS : Stmt := .Pass ⟨0, 0, 0, 0⟩
def nilE : Expr := .Constant .none 0 ⟨0, 0, 0, 0⟩
/-- the i-th statement within, of the other branch -/
def inS (i : Nat) : Stmt → Stmt
  | .For _ _ b _ _ => b.getD i nilS
  | .While _ b _ _ => b.getD i nilS
  | .If _ b _ _ => b.getD i nilS
  | _ => nilS
def elS (i : Nat) : Stmt → Stmt
  | .If _ _ b _ => b.getD i nilS
  | _ => nilS
def valS : Stmt → Expr
  | .Assign _ v _ => v
  | .Expr v _ => v
  | .Return (some v) _ => v
  | .If t _ _ _ => t
  | _ => nilE
/-- the i-th part of an expression: an item, an argument, what is walked -/
def inE (i : Nat) : Expr → Expr
  | .List es _ => es.getD i nilE
  | .Tuple es _ _ => es.getD i nilE
  | .Call _ es _ _ => es.getD i nilE
  | .ListComp _ gs _ _ => (gs.map (·.iter)).getD i nilE
  | .BinOp a _ b _ => if i = 0 then a else b
  | .Compare a _ bs _ => if i = 0 then a else bs.getD (i - 1) nilE
  | .UnaryOp _ a _ => a
  | _ => nilE
def lamP : Expr → Arguments
  | .Lambda p _ _ _ => p
  | _ => { posonlyargs := [], args := [], vararg := none, kwonlyargs := [], kw_defaults := [], kwarg := none, defaults := [] }
def lamB : Expr → Expr
  | .Lambda _ b _ _ => b
  | _ => nilE
theorem law_callV {P : Program} {w : World} {K : PySem.W.Frag} {mg : Str → Option Value} {base : Heap} {H : Hp} {s1 : Shared} {x qual q : Str} {sta : Stmt} {f a c T : Addr} {oc kV doc pm cdv ct : Value} {od an : Option Addr} {osl : Array (Option Value)} {N : List Str} {k ex : Nat} {sc : Str} {ns : List Int} (R : RC)
    (hK : R.K = K) (lk : K.lookup f = some ⟨oc, od, .func (PySem.W.fnOf x qual (defArgs sta) (defBody sta) (defScope sta) .none kV doc pm an cdv ct), osl⟩)
    (hcd : PySem.W.codeIn K cdv qual = true) (S : FnScope N [sc] (defScope sta)) (hx : 1 + ex = N.length) (hr : Room (k + 1) callerA) (e0 : Env0 P w K mg base callerA [] s1 H) (hT : H T = some (.tbl #[])) (hS : SqL K H a (ns.map V.int))
    (hb : BindsTo s1 (PySem.W.fnOf x qual (defArgs sta) (defBody sta) (defScope sta) .none kV doc pm an cdv ct) ⟨[.ref a], []⟩ [(sc, .ref a)]) (m : letI : TabC := ⟨[(T, q)]⟩; M Fl)
    (hbody : letI : TabC := ⟨[(T, q)]⟩; ∀ (E : XK), Room k (callerA.deeper (envOfC qual (defScope sta) s1.heap.objs.size f cdv)) →
      PSs (cxOf (L2.CX P w) P w K mg base N qual (defScope sta) f cdv callerA [] s1 H E) (defBody sta) (LS R ⟨fun cls d _ H => E cls d H, none⟩ m))
    (law : letI : TabC := ⟨[(T, q)]⟩; runF ex m none [.rol (ns.map .int)] = .ok (.bl true) none) :
    codeAny (model P w) callerA (.call (.ref f) ⟨[.ref a], []⟩) (CR (L2.CX P w) [] P w H s1 (fun v _ => v = .bl true) (fun _ _ _ => False)) s1 := by
  letI : TabC := ⟨[(T, q)]⟩
  subst hK
  exact run_defA (us := [.ref a]) (xs := [.ref a]) (qs := [sc]) lk hcd S rfl hr e0 hb (.cons rfl .nil) ⟨_, hbody _ (hr.deeper _), ls_start hx (law_start R hT hS law)⟩
end Dv
set_option Elab.async false
set_option linter.all false
set_option maxRecDepth 100000
set_option maxHeartbeats 4000000
/-! Dv52: reckoning by rule: `rk` closes m e = .ok ?v ?e', e a list of slots. -/
namespace Dv
open PySem PyProof.Rows L2
/-- below 2 ^ p -/
def Bd (p : Nat) (i : Int) : Prop := i.natAbs < 2 ^ p
theorem Bd.mono {p q : Nat} {i : Int} (h : Bd p i) (l : p ≤ q) : Bd q i := Nat.lt_of_lt_of_le h (Nat.pow_le_pow_right (by decide) l)
theorem Bd.add {p q : Nat} {i j : Int} (hi : Bd p i) (hj : Bd q j) : Bd (max p q + 1) (i + j) := by
  have h1 := hi.mono (Nat.le_max_left p q)
  have h2 := hj.mono (Nat.le_max_right p q)
  unfold Bd at *
  rw [Nat.pow_succ]
  omega
theorem Bd.sub {p q : Nat} {i j : Int} (hi : Bd p i) (hj : Bd q j) : Bd (max p q + 1) (i - j) := by
  have h1 := hi.mono (Nat.le_max_left p q)
  have h2 := hj.mono (Nat.le_max_right p q)
  unfold Bd at *
  rw [Nat.pow_succ]
  omega
theorem Bd.neg {p : Nat} {i : Int} (hi : Bd p i) : Bd p (-i) := by
  unfold Bd at *
  omega
theorem Bd.mul {p q : Nat} {i j : Int} (hi : Bd p i) (hj : Bd q j) : Bd (p + q) (i * j) := by
  unfold Bd at *
  rw [Int.natAbs_mul, Nat.pow_add]
  exact Nat.mul_lt_mul'' hi hj
theorem Bd.log {p : Nat} {i : Int} (h : Bd p i) : i.natAbs.log2 ≤ p := by
  by_cases z : i.natAbs = 0
  · rw [z]; exact Nat.zero_le _
  · exact Nat.le_of_lt ((Nat.log2_lt z).mpr h)
theorem Bd.log' {p : Nat} {i : Int} (h : Bd p i) (hp : p < 9000) : i.natAbs.log2 < 9000 := Nat.lt_of_le_of_lt h.log hp
section
variable [TabC]
theorem fMul_b {p q : Nat} {i j : Int} (hi : Bd p i) (hj : Bd q j) (h : p + q < 1000000) : fMul (.int i) (.int j) = some (.d (.int (i * j))) := by
  show (if okMul i j = true then _ else _) = _
  rw [if_pos]
  unfold okMul
  have := hi.log
  have := hj.log
  simp only [Bool.or_eq_true, decide_eq_true_eq]
  exact .inr (by omega)
theorem fDiv_b {p : Nat} {i j : Int} (h : 0 < j) (hj : Bd p j) (hp : p < 9000) : fDiv (.int i) (.int j) = some (.d (.int (i / j))) := fDiv_p h (hj.log' hp)
theorem fDiv_n {p : Nat} {i j : Int} (h : j ≠ 0) (hj : Bd p j) (hp : p < 9000) : fDiv (.int i) (.int j) = some (.d (.int (i.fdiv j))) := by
  show (if okDiv i j = true then _ else _) = _
  have l := hj.log' hp
  by_cases c : 0 < j
  · rw [if_pos (show okDiv i j = true by unfold okDiv; rw [Bool.and_eq_true]; exact ⟨decide_eq_true c, decide_eq_true l⟩), Int.fdiv_eq_ediv_of_nonneg i (by omega)]
  · rw [if_neg (show ¬ okDiv i j = true by unfold okDiv; rw [Bool.and_eq_true]; intro z; exact c (of_decide_eq_true z.1)), if_pos]
    rw [Bool.and_eq_true]
    exact ⟨decide_eq_true (by omega), decide_eq_true l⟩
theorem ov_d (x : D) : OV (.d x) x := .inl rfl
theorem ov_n (xs : List D) : OV (.n (.lst xs)) (.lst xs) := .inr ⟨_, rfl, rfl⟩
theorem dAsgG_d {t : D → M Unit} {m : M Opd} {e e1 e2 : En} {x : D} (h : m e = .ok (.d x) e1) (ht : t x e1 = .ok () e2) : dAsgG t m e = .ok .nx e2 := by
  unfold dAsgG
  rw [bnd_e h, bnd_e (show pub (.d x) e1 = .ok x e1 from rfl), bnd_e (show KEx (t x) e1 = .ok () e2 by unfold KEx; rw [ht])]
  rfl
theorem dAsgG_n {t : D → M Unit} {m : M Opd} {e e1 e2 : En} {xs : List D} (h : m e = .ok (.n (.lst xs)) e1) (ht : t (.lst xs) e1 = .ok () e2) : dAsgG t m e = .ok .nx e2 := by
  unfold dAsgG
  rw [bnd_e h, bnd_e (show pub (.n (.lst xs)) e1 = .ok (.lst xs) e1 from rfl), bnd_e (show KEx (t (.lst xs)) e1 = .ok () e2 by unfold KEx; rw [ht])]
  rfl
theorem dPar2_r {i j : Nat} {ma mb : M Opd} {e e1 e2 : En} {x y : D} (h1 : ma e = .ok (.d x) e1) (h2 : mb e1 = .ok (.d y) e2) : dPar2 i j ma mb e = .ok .nx (st (st e2 i (some (.d x))) j (some (.d y))) :=
  dPar2_e (dArgs_c h1 (dArgs_c h2 (dArgs_z _)))
theorem dPar3_r {i j l : Nat} {ma mb mc : M Opd} {e e1 e2 e3 : En} {x y z : D} (h1 : ma e = .ok (.d x) e1) (h2 : mb e1 = .ok (.d y) e2) (h3 : mc e2 = .ok (.d z) e3) : dPar3 i j l ma mb mc e = .ok .nx (st (st (st e3 i (some (.d x))) j (some (.d y))) l (some (.d z))) := by
  unfold dPar3
  rw [bnd_e (dArgs_c h1 (dArgs_c h2 (dArgs_c h3 (dArgs_z _))))]
theorem dRet_n {m : M Opd} {e e1 : En} {xs : List D} (h : m e = .ok (.n (.lst xs)) e1) : dRet m e = .ok (.ret (.lst xs)) e1 := by
  unfold dRet; rw [bnd_e h]; rfl
theorem dCallK_e {n nk : Nat} {is : List Nat} {fn : Fn} {ms : List (M Opd)} {e e1 : En} {xs : List D} {d : D} {o : Option O} (hm : dArgs ms e = .ok xs e1) (hl : xs.length = nk) (hn : (prm is xs).length = n) (hf : fn none (prm is xs) = .ok d o) : dCallK n is nk fn ms e = .ok (.d d) e1 := by
  unfold dCallK
  rw [bnd_e hm, if_pos hl]
  unfold callF
  rw [if_pos hn, hf]
/-- a call that moves the source of draws -/
theorem dCallIo_e {n i : Nat} {fn : Fn} {ms : List (M Opd)} {e e1 : En} {xs : List D} {d : D} {o o0 o' : O} (hg : gt e i = some (.o o0)) (hm : dArgs ms e = .ok xs e1) (hl : xs.length + 1 = n) (hg1 : gt e1 i = some (.o o)) (hf : fn (some o) xs = .ok d (some o')) : dCallIo n i fn ms e = .ok (.d d) (st e1 i (some (.o o'))) := by
  unfold dCallIo
  rw [hg]
  show bnd (dArgs ms) (fun xs => callIo n i fn xs) e = _
  rw [bnd_e hm]
  unfold callIo
  rw [if_pos hl, hg1]
  show (match fn (some o) xs with
          | .ok d (some o') => Res.ok (Opd.d d) (st e1 i (some (.o o')))
          | .ex c fs (some o') => .ex c fs (st e1 i (some (.o o')))
          | _ => .no) = _
  rw [hf]
theorem runI_r {n : Nat} {m : M Fl} {o o' : O} {ds : List D} {d : D} {e : En} (h : m (some (.o o) :: dsl ds n) = .ok (.ret d) e) (ho : outO e = some o') : runI n m (some o) ds = .ok d (some o') := by
  unfold runI
  show (match m (some (.o o) :: dsl ds n) with
    | .ok (.ret d) e => FR.ok d (outO e)
    | .ok .nx e => .ok .non (outO e)
    | .ok _ _ => .no
    | .ex c fs e => .ex c fs (outO e)
    | .no => .no) = _
  rw [h, ← ho]
theorem dAndV_e {ma mb : M Opd} {e e1 : En} {b : Bool} (h : ma e = .ok (.d (.bl b)) e1) : dAndV ma mb e = if b = true then mb e1 else .ok (.d (.bl false)) e1 := by
  unfold dAndV; rw [bnd_e (dBl_e h)]; cases b <;> rfl
theorem dOrV_e {ma mb : M Opd} {e e1 : En} {b : Bool} (h : ma e = .ok (.d (.bl b)) e1) : dOrV ma mb e = if b = true then .ok (.d (.bl true)) e1 else mb e1 := by
  unfold dOrV; rw [bnd_e (dBl_e h)]; cases b <;> rfl
theorem dNotV_e {m : M Opd} {e e1 : En} {b : Bool} (h : m e = .ok (.d (.bl b)) e1) : dNotV m e = .ok (.d (.bl (!b))) e1 := by
  unfold dNotV; rw [bnd_e h]; rfl
theorem dIf_t {α} {t : M Bool} {ma mb : M α} {e e1 : En} (h : t e = .ok true e1) : dIf t ma mb e = ma e1 := by rw [dIf_e h, if_pos rfl]
theorem dIf_f {α} {t : M Bool} {ma mb : M α} {e e1 : En} (h : t e = .ok false e1) : dIf t ma mb e = mb e1 := by rw [dIf_e h]; rfl
theorem dBl_r {m : M Opd} {e e1 : En} {x : D} {b : Bool} (h : m e = .ok (.d x) e1) (hx : tobl x = some b) : dBl m e = .ok b e1 := by
  unfold dBl; rw [bnd_e h]
  show opt (tobl x) e1 = _
  rw [hx]; rfl
theorem dTru_r {m : M Opd} {e e1 : En} {x : D} {b : Bool} (h : m e = .ok (.d x) e1) (hx : truth x = some b) : dTru m e = .ok b e1 := by
  unfold dTru; rw [bnd_e h]
  show opt (truth x) e1 = _
  rw [hx]; rfl
theorem dSl_d {m : M Opd} {ml mh : M (Option Int)} {e e1 e2 e3 : En} {x : D} {lo hi : Option Int} {p : Opd} (h : m e = .ok (.d x) e1) (h1 : ml e1 = .ok lo e2) (h2 : mh e2 = .ok hi e3) (hg : gSl lo hi x = some p) : dSl m ml mh e = .ok p e3 := by
  unfold dSl
  rw [bnd_e h, bnd_e (show hold (.d x) e1 = .ok (.d x) e1 from rfl), bnd_e h1, bnd_e h2, bnd_e (show rd (.d x) e3 = .ok x e3 from rfl), hg]; rfl
theorem dPart_e {m : M Opd} {e e1 : En} {i : Int} (h : m e = .ok (.d (.int i)) e1) : dPart m e = .ok (some i) e1 := by
  unfold dPart; rw [bnd_e h]; rfl
theorem dOp2_s {g : D → D → Option Opd} {ma mb : M Opd} {e e1 e2 : En} {i : Nat} {o : O} {x y : D} {r : Opd} (h1 : ma e = .ok (.s i) e1) (h2 : mb e1 = .ok (.d y) e2) (hi : gt e2 i = some (.o o)) (hf : freeze o = some x) (hg : g x y = some r) : dOp2 g ma mb e = .ok r e2 := by
  unfold dOp2
  rw [bnd_e h1, bnd_e (show hold (.s i) e1 = .ok (.s i) e1 from rfl), bnd_e h2, bnd_e (show rd (.s i) e2 = .ok x e2 by unfold rd; simp only [rdF, hi, hf]), bnd_e (show rd (.d y) e2 = .ok y e2 from rfl), hg]
  rfl
theorem dNm_d {i : Nat} {e : En} {x : D} (h : gt e i = some (.d x)) : dNm i e = .ok (.d x) e := by
  unfold dNm; rw [h]
theorem dNm_s {i : Nat} {e : En} {o : O} (h : gt e i = some (.o o)) : dNm i e = .ok (.s i) e := by
  unfold dNm; rw [h]
theorem dDnil_e (e : En) : dDnil e = .ok (.n (.dic [])) e := rfl
theorem dC_e (x : D) (e : En) : dC x e = .ok (.d x) e := rfl
/-- a list of the frame's own is read -/
theorem dOp1_s {g : D → Option Opd} {m : M Opd} {e e1 : En} {i : Nat} {o : O} {x : D} {p : Opd} (h : m e = .ok (.s i) e1) (hi : gt e1 i = some (.o o)) (hf : freeze o = some x) (hg : g x = some p) : dOp1 g m e = .ok p e1 := by
  unfold dOp1
  rw [bnd_e h, bnd_e (show rd (.s i) e1 = .ok x e1 by unfold rd; simp only [rdF, hi, hf]), hg]
  rfl
end
end Dv
set_option Elab.async false
set_option linter.all false
set_option maxRecDepth 100000
set_option maxHeartbeats 4000000
/-! the symbol, as the program reckons it, obeys the laws of the Jacobi symbol: no program in sight. -/
namespace Jac
def two (n : Nat) : Int := if n % 8 = 3 ∨ n % 8 = 5 then -1 else 1
def eps (m n : Nat) : Int := if m % 4 = 3 ∧ n % 4 = 3 then -1 else 1
def m1 (n : Nat) : Int := if n % 4 = 3 then -1 else 1
def J (a n : Nat) : Int :=
  if n = 0 then 0
  else if n ≤ a then J (a % n) n
  else if a = 0 then (if n = 1 then 1 else 0)
  else if a % 2 = 0 then two n * J (a / 2) n
  else eps a n * J (n % a) a
termination_by a + n
decreasing_by
  · have := Nat.mod_lt a (show 0 < n by omega); omega
  · omega
  · have := Nat.mod_lt n (show 0 < a by omega); omega
theorem J_mod {a n : Nat} (hn : 0 < n) : J (a % n) n = J a n := by
  by_cases h : n ≤ a
  · conv => rhs; unfold J
    rw [if_neg (by omega), if_pos h]
  · rw [Nat.mod_eq_of_lt (by omega)]
theorem J_zero {n : Nat} : J 0 n = if n = 1 then 1 else 0 := by
  unfold J
  by_cases h : n = 0
  · subst h; rfl
  · rw [if_neg h, if_neg (by omega), if_pos rfl]
theorem J_even {a n : Nat} (h0 : a ≠ 0) (h : a < n) (he : a % 2 = 0) : J a n = two n * J (a / 2) n := by
  conv => lhs; unfold J
  rw [if_neg (by omega), if_neg (by omega), if_neg h0, if_pos he]
theorem J_odd {a n : Nat} (h : a < n) (ho : a % 2 = 1) : J a n = eps a n * J n a := by
  conv => lhs; unfold J
  rw [if_neg (by omega), if_neg (by omega), if_neg (by omega), if_neg (by omega), J_mod (by omega)]
theorem J_congr {a b n : Nat} (hn : 0 < n) (h : a % n = b % n) : J a n = J b n := by
  rw [← J_mod hn, h, J_mod hn]
theorem sq1 {x : Int} (h : x = 1 ∨ x = -1) : x * x = 1 := by rcases h with rfl | rfl <;> rfl
theorem two_s (n) : two n = 1 ∨ two n = -1 := by unfold two; split <;> simp
theorem eps_s (m n) : eps m n = 1 ∨ eps m n = -1 := by unfold eps; split <;> simp
theorem m1_s (n) : m1 n = 1 ∨ m1 n = -1 := by unfold m1; split <;> simp
theorem eps_comm (m n) : eps m n = eps n m := by unfold eps; simp only [and_comm]
theorem J_one (a : Nat) : J a 1 = 1 := by rw [← J_mod (by omega), Nat.mod_one, J_zero]; rfl
theorem J_self {n : Nat} (h : 0 < n) : J n n = if n = 1 then 1 else 0 := by rw [← J_mod h, Nat.mod_self, J_zero]
/-- reciprocity of odd numbers -/
theorem J_rec {a n : Nat} (ha : a % 2 = 1) (hn : n % 2 = 1) : J a n = eps a n * J n a := by
  by_cases h : a < n
  · exact J_odd h ha
  · by_cases h2 : n < a
    · rw [J_odd h2 hn, ← Int.mul_assoc, eps_comm n a, sq1 (eps_s a n), Int.one_mul]
    · have : a = n := by omega
      subst this
      rw [J_self (by omega)]
      by_cases h3 : a = 1
      · subst h3; rfl
      · rw [if_neg h3, Int.mul_zero]
/-- powers of two, below the modulus -/
theorem J_pow {n : Nat} : ∀ (k m : Nat), m ≠ 0 → 2 ^ k * m < n → J (2 ^ k * m) n = two n ^ k * J m n
  | 0, m, _, _ => by rw [Nat.pow_zero, Nat.one_mul, Int.pow_zero, Int.one_mul]
  | k + 1, m, h0, h => by
    have hp : 0 < 2 ^ k * m := Nat.mul_pos (Nat.pow_pos (by decide)) (by omega)
    have e : 2 ^ (k + 1) * m = 2 * (2 ^ k * m) := by rw [Nat.pow_succ, Nat.mul_comm (2 ^ k) 2, Nat.mul_assoc]
    rw [e] at h ⊢
    rw [J_even (by omega) h (by omega), Nat.mul_div_cancel_left _ (by decide), J_pow k m h0 (by omega), ← Int.mul_assoc, Int.pow_succ, Int.mul_comm (two n ^ k)]
theorem strip : ∀ n : Nat, n ≠ 0 → ∃ k m, n = 2 ^ k * m ∧ m % 2 = 1 := by
  intro n
  induction n using Nat.strongRecOn with
  | ind n ih =>
    intro h0
    by_cases h : n % 2 = 1
    · exact ⟨0, n, by simp, h⟩
    · obtain ⟨k, m, e, hm⟩ := ih (n / 2) (by omega) (by omega)
      refine ⟨k + 1, m, ?_, hm⟩
      rw [Nat.pow_succ, Nat.mul_comm (2 ^ k) 2, Nat.mul_assoc, ← e]
      omega
def Two (n : Nat) : Prop := ∀ a, J (2 * a) n = two n * J a n
def Neg (n : Nat) : Prop := ∀ a, a ≤ n → J (n - a) n = m1 n * J a n
theorem Two.pow {n : Nat} (h : Two n) : ∀ (k a : Nat), J (2 ^ k * a) n = two n ^ k * J a n
  | 0, a => by rw [Nat.pow_zero, Nat.one_mul, Int.pow_zero, Int.one_mul]
  | k + 1, a => by
    have e : 2 ^ (k + 1) * a = 2 * (2 ^ k * a) := by rw [Nat.pow_succ, Nat.mul_comm (2 ^ k) 2, Nat.mul_assoc]
    rw [e, h, h.pow k a, ← Int.mul_assoc, Int.pow_succ, Int.mul_comm (two n ^ k)]
theorem two_mod {a b : Nat} (h : a % 8 = b % 8) : two a = two b := by unfold two; rw [h]
theorem eps_mod {m a b : Nat} (h : a % 4 = b % 4) : eps m a = eps m b := by unfold eps; rw [h]
theorem m1_eps {a n : Nat} (h : n % 4 = a % 4) : m1 n * eps a n = 1 := by
  unfold m1 eps
  rw [h]
  by_cases c : a % 4 = 3
  · rw [if_pos c, if_pos ⟨c, c⟩]; rfl
  · rw [if_neg c, if_neg (fun z => c z.1)]; rfl
theorem case1 : ∀ a, a < 8 → a % 2 = 1 → ∀ m, m < 8 → m % 2 = 1 → two ((a + 2 * m) % 8) * eps m ((a + 2 * m) % 8) = m1 ((a + 2 * m) % 8) * eps a ((a + 2 * m) % 8) * two a * eps m a := by decide
theorem two8 (n) : two (n % 8) = two n := two_mod (Nat.mod_mod _ _)
theorem eps8 (m n) : eps m (n % 8) = eps m n := eps_mod (by omega)
theorem eps8l (m n) : eps (m % 8) n = eps m n := by rw [eps_comm, eps8, eps_comm]
theorem m18 (n) : m1 (n % 8) = m1 n := by
  unfold m1
  rw [show n % 8 % 4 = n % 4 by omega]
theorem signs {a m k : Nat} (ha : a % 2 = 1) (hm : m % 2 = 1) (hk : 0 < k) : two (a + 2 ^ k * m) ^ k * eps m (a + 2 ^ k * m) = m1 (a + 2 ^ k * m) * eps a (a + 2 ^ k * m) * two a ^ k * eps m a := by
  match k, hk with
  | 1, _ =>
    have h := case1 (a % 8) (by omega) (by omega) (m % 8) (by omega) (by omega)
    rw [show (a % 8 + 2 * (m % 8)) % 8 = (a + 2 ^ 1 * m) % 8 by omega, two8, m18, eps8, eps8, two8, eps8, eps8l, eps8l, eps8l] at h
    rw [Int.pow_succ, Int.pow_zero, Int.one_mul, Int.pow_succ, Int.pow_zero, Int.one_mul]
    exact h
  | 2, _ =>
    have h4 : (a + 2 ^ 2 * m) % 4 = a % 4 := by omega
    have p2 : ∀ x : Int, (x = 1 ∨ x = -1) → x ^ 2 = 1 := fun x hx => by rcases hx with rfl | rfl <;> rfl
    rw [p2 _ (two_s _), p2 _ (two_s _), eps_mod h4, m1_eps h4]
    simp only [Int.one_mul]
  | k + 3, _ =>
    have e : 2 ^ (k + 3) * m = 8 * (2 ^ k * m) := by rw [Nat.pow_add, Nat.mul_comm (2 ^ k) (2 ^ 3), Nat.mul_assoc]
    have h8 : (a + 2 ^ (k + 3) * m) % 8 = a % 8 := by rw [e]; omega
    have h4 : (a + 2 ^ (k + 3) * m) % 4 = a % 4 := by rw [e]; omega
    rw [two_mod h8, eps_mod h4, m1_eps h4, Int.one_mul]
/-- the even one of a, n - a -/
theorem neg_even {a e n : Nat} (hn : n = a + e) (ha : a % 2 = 1) (he : e % 2 = 0) (h0 : e ≠ 0) (T : Two a) : J e n = m1 n * J a n := by
  obtain ⟨k, m, rfl, hm⟩ := strip e h0
  have hk : 0 < k := by
    rcases Nat.eq_zero_or_pos k with rfl | h
    · rw [Nat.pow_zero, Nat.one_mul] at he; omega
    · exact h
  have hno : n % 2 = 1 := by omega
  have l : 2 ^ k * m < n := by omega
  have pm : 0 < m := by omega
  rw [J_pow k m (by omega) l, J_rec hm hno, J_congr (a := n) (b := a) (n := m) pm (by rw [hn, Nat.add_mul_mod_self_right])]
  have e2 : J a n = eps a n * (two a ^ k * (eps m a * J a m)) := by
    rw [J_rec ha hno, J_congr (a := n) (b := 2 ^ k * m) (n := a) (by omega) (by rw [hn, Nat.add_mod_left]), T.pow k m, J_rec hm ha]
  rw [e2]
  have s := signs ha hm hk
  rw [← hn] at s
  calc two n ^ k * (eps m n * J a m) = (two n ^ k * eps m n) * J a m := (Int.mul_assoc _ _ _).symm
    _ = (m1 n * eps a n * two a ^ k * eps m a) * J a m := by rw [s]
    _ = m1 n * (eps a n * (two a ^ k * (eps m a * J a m))) := by simp only [Int.mul_assoc]
theorem neg_of {n : Nat} (hn : n % 2 = 1) (T : ∀ a, a < n → a % 2 = 1 → Two a) : Neg n := fun a ha => by
  by_cases h0 : a = 0
  · subst h0
    rw [Nat.sub_zero, J_self (by omega), J_zero]
    by_cases h1 : n = 1
    · subst h1; rfl
    · rw [if_neg h1, Int.mul_zero]
  · by_cases h1 : a = n
    · subst h1
      rw [Nat.sub_self, J_self (by omega), J_zero]
      by_cases h1 : a = 1
      · subst h1; rfl
      · rw [if_neg h1, Int.mul_zero]
    · by_cases ho : a % 2 = 1
      · exact neg_even (a := a) (e := n - a) (by omega) ho (by omega) (by omega) (T a (by omega) ho)
      · have := neg_even (a := n - a) (e := a) (n := n) (by omega) (by omega) (by omega) h0 (T (n - a) (by omega) (by omega))
        rw [this, ← Int.mul_assoc, sq1 (m1_s n), Int.one_mul]
theorem two_of {n : Nat} (hn : n % 2 = 1) (N : Neg n) : Two n := by
  have low : ∀ a, a < n → J (2 * a) n = two n * J a n := fun a ha => by
    by_cases h0 : a = 0
    · subst h0
      rw [Nat.mul_zero, J_zero]
      by_cases h1 : n = 1
      · subst h1; rfl
      · rw [if_neg h1, Int.mul_zero]
    · by_cases h : 2 * a < n
      · rw [J_even (by omega) h (by omega), Nat.mul_div_cancel_left _ (by decide)]
      · have h1 : J (2 * a) n = J (2 * a - n) n := J_congr (by omega) (by rw [← Nat.mod_eq_sub_mod (by omega)])
        have h2 := N (2 * a - n) (by omega)
        rw [show n - (2 * a - n) = 2 * (n - a) by omega, J_even (by omega) (by omega) (by omega), Nat.mul_div_cancel_left _ (by decide), N a (by omega)] at h2
        rw [h1]
        calc J (2 * a - n) n = m1 n * (m1 n * J (2 * a - n) n) := by rw [← Int.mul_assoc, sq1 (m1_s n), Int.one_mul]
          _ = m1 n * (two n * (m1 n * J a n)) := by rw [h2]
          _ = (m1 n * m1 n) * (two n * J a n) := by simp only [Int.mul_assoc, Int.mul_left_comm]
          _ = two n * J a n := by rw [sq1 (m1_s n), Int.one_mul]
  intro a
  have hp : 0 < n := by omega
  have := low (a % n) (Nat.mod_lt _ hp)
  rw [J_mod hp] at this
  rw [← this]
  exact J_congr hp (by rw [Nat.mul_mod, Nat.mul_mod 2 (a % n), Nat.mod_mod])
theorem both : ∀ n, n % 2 = 1 → Neg n ∧ Two n := by
  intro n
  induction n using Nat.strongRecOn with
  | ind n ih =>
    intro hn
    have N := neg_of hn fun a ha ho => (ih a ha ho).2
    exact ⟨N, two_of hn N⟩
theorem J_two {n : Nat} (hn : n % 2 = 1) (a : Nat) : J (2 * a) n = two n * J a n := (both n hn).2 a
theorem J_neg {n a : Nat} (hn : n % 2 = 1) (ha : a ≤ n) : J (n - a) n = m1 n * J a n := (both n hn).1 a ha
theorem J_twos {n : Nat} (hn : n % 2 = 1) (k a : Nat) : J (2 ^ k * a) n = two n ^ k * J a n := (both n hn).2.pow k a
end Jac
set_option Elab.async false
set_option linter.all false
set_option maxRecDepth 100000
set_option maxHeartbeats 4000000
/-! the root by the symbol: what S and T do to it. -/
namespace Jac
/-- plus or minus one where there is no common divisor -/
theorem J_unit : ∀ (s a n : Nat), a + n ≤ s → n % 2 = 1 → Nat.gcd a n = 1 → J a n = 1 ∨ J a n = -1
  | 0, a, n, h, hn, _ => by omega
  | s + 1, a, n, h, hn, hg => by
    by_cases h1 : n ≤ a
    · rw [← J_mod (by omega)]
      have := Nat.mod_lt a (show 0 < n by omega)
      exact J_unit s (a % n) n (by omega) hn (by rw [← Nat.gcd_rec, Nat.gcd_comm]; exact hg)
    · by_cases h0 : a = 0
      · subst h0
        rw [Nat.gcd_zero_left] at hg
        subst hg
        exact .inl (J_one 0)
      · by_cases he : a % 2 = 0
        · rw [J_even h0 (by omega) he]
          have g2 : Nat.gcd (a / 2) n = 1 := Nat.Coprime.coprime_dvd_left ⟨2, by omega⟩ hg
          rcases J_unit s (a / 2) n (by omega) hn g2 with z | z <;> rcases two_s n with w | w <;> rw [z, w] <;> simp
        · rw [J_odd (by omega) (by omega), ← J_mod (by omega : 0 < a)]
          have := Nat.mod_lt n (show 0 < a by omega)
          have g2 : Nat.gcd (n % a) a = 1 := by rw [← Nat.gcd_rec]; exact hg
          rcases J_unit s (n % a) a (by omega) (by omega) g2 with z | z <;> rcases eps_s a n with w | w <;> rw [z, w] <;> simp
def JI (a : Int) (n : Nat) : Int := J (a % (n : Int)).toNat n
theorem JI_nat (a n : Nat) (h : 0 < n) : JI (a : Int) n = J a n := by
  unfold JI
  rw [show ((a : Int) % (n : Int)).toNat = a % n by omega, J_mod h]
theorem JI_congr {a b : Int} {n : Nat} (h : a % (n : Int) = b % (n : Int)) : JI a n = JI b n := by unfold JI; rw [h]
theorem JI_neg {n : Nat} (hn : n % 2 = 1) (a : Int) : JI (-a) n = m1 n * JI a n := by
  unfold JI
  have hp : (0 : Int) < n := by omega
  have h1 := Int.emod_nonneg a (show (n : Int) ≠ 0 by omega)
  have h2 := Int.emod_lt_of_pos a hp
  rw [← J_neg hn (a := (a % (n : Int)).toNat) (by omega)]
  rw [← J_mod (a := n - (a % (n : Int)).toNat) (by omega)]
  congr 1
  have e : ((n - (a % (n : Int)).toNat : Nat) : Int) % (n : Int) = (-a) % (n : Int) := by
    rw [Int.ofNat_sub (by omega), Int.toNat_of_nonneg h1]
    have e1 : (-a) % (n : Int) = (-(a % (n : Int))) % (n : Int) := by
      have q := Int.emod_add_mul_ediv a (n : Int)
      have : -a = -(a % (n : Int)) + (n : Int) * (-(a / (n : Int))) := by rw [Int.mul_neg]; omega
      rw [this, Int.add_mul_emod_self_left]
    rw [e1, show (n : Int) - a % (n : Int) = -(a % (n : Int)) + (n : Int) * 1 by omega, Int.add_mul_emod_self_left]
  omega
theorem JI_unit {a x y : Int} {n : Nat} (hn : n % 2 = 1) (h : x * a + y * (n : Int) = 1) : JI a n = 1 ∨ JI a n = -1 := by
  unfold JI
  refine J_unit _ _ _ (Nat.le_refl _) hn ?_
  have hp : (0 : Int) < n := by omega
  have h1 := Int.emod_nonneg a (show (n : Int) ≠ 0 by omega)
  have d1 := Nat.gcd_dvd_left (a % (n : Int)).toNat n
  have d2 := Nat.gcd_dvd_right (a % (n : Int)).toNat n
  have e1 : (((a % (n : Int)).toNat.gcd n : Nat) : Int) ∣ a % (n : Int) := by
    have := Int.natCast_dvd_natCast.mpr d1
    rw [Int.toNat_of_nonneg h1] at this
    exact this
  have e2 : (((a % (n : Int)).toNat.gcd n : Nat) : Int) ∣ (n : Int) := Int.natCast_dvd_natCast.mpr d2
  have e3 : (((a % (n : Int)).toNat.gcd n : Nat) : Int) ∣ a := by
    have q := Int.emod_add_mul_ediv a (n : Int)
    have z := Int.dvd_add e1 (Int.dvd_trans e2 (Int.dvd_mul_right (n : Int) (a / (n : Int))))
    rw [q] at z
    exact z
  have e4 : (((a % (n : Int)).toNat.gcd n : Nat) : Int) ∣ 1 := by
    rw [← h]
    exact Int.dvd_add (Int.dvd_trans e3 (Int.dvd_mul_left _ _)) (Int.dvd_trans e2 (Int.dvd_mul_left _ _))
  exact Nat.dvd_one.mp (Int.natCast_dvd_natCast.mp e4)
def ng (x : Int) : Int := if x = -1 then 12 else 0
def nu (a b c d : Int) : Int :=
  if c = 0 then b
  else if c % 2 = 1 then (a + d) * c - b * d * (c * c - 1) - 3 * c + ng (JI d c.toNat)
  else (a + d) * c - b * d * (c * c - 1) + 3 * d - 3 - 3 * (c * d) + ng (JI c d.natAbs)
theorem nu_zero (a b d : Int) : nu a b 0 d = b := if_pos rfl
theorem nu_odd {a b c d : Int} (ho : c % 2 = 1) : nu a b c d = (a + d) * c - b * d * (c * c - 1) - 3 * c + ng (JI d c.toNat) := by
  unfold nu; rw [if_neg (by omega), if_pos ho]
theorem nu_even {a b c d : Int} (h0 : c ≠ 0) (he : c % 2 = 0) : nu a b c d = (a + d) * c - b * d * (c * c - 1) + 3 * d - 3 - 3 * (c * d) + ng (JI c d.natAbs) := by
  unfold nu; rw [if_neg h0, if_neg (by omega)]
theorem polS (a b c d : Int) (h : a * d - b * c = 1) : (b + -c) * d - -a * -c * (d * d - 1) = (a + d) * c - b * d * (c * c - 1) - 3 * (c * d) := by grind
theorem cd4 (c d : Int) : ∃ k, c * d = 16 * k + 4 * ((c / 4) * (d % 4)) + 4 * ((c % 4) * (d / 4)) + (c % 4) * (d % 4) := by
  refine ⟨(c / 4) * (d / 4), ?_⟩
  have h1 := Int.emod_add_mul_ediv c 4
  have h2 := Int.emod_add_mul_ediv d 4
  generalize c / 4 = p at *
  generalize c % 4 = r at *
  generalize d / 4 = q at *
  generalize d % 4 = s at *
  subst h1 h2
  grind
theorem m1_i {d : Int} (h : 0 ≤ d) : m1 d.toNat = if d % 4 = 3 then -1 else 1 := by
  unfold m1
  by_cases c : d % 4 = 3
  · rw [if_pos c, if_pos (by omega)]
  · rw [if_neg c, if_neg (by omega)]
theorem eps_i {c d : Int} (hc : 0 ≤ c) (hd : 0 ≤ d) : eps c.toNat d.toNat = if c % 4 = 3 ∧ d % 4 = 3 then -1 else 1 := by
  unfold eps
  by_cases k : c % 4 = 3 ∧ d % 4 = 3
  · rw [if_pos k, if_pos (by omega)]
  · rw [if_neg k, if_neg (by omega)]
theorem JI_rec {c d : Int} (hc : 0 < c) (hd : 0 < d) (oc : c % 2 = 1) (od : d % 2 = 1) : JI c d.toNat = eps c.toNat d.toNat * JI d c.toNat := by
  have e1 : JI c d.toNat = J c.toNat d.toNat := by
    have := JI_nat c.toNat d.toNat (by omega)
    rw [Int.toNat_of_nonneg (by omega)] at this
    exact this
  have e2 : JI d c.toNat = J d.toNat c.toNat := by
    have := JI_nat d.toNat c.toNat (by omega)
    rw [Int.toNat_of_nonneg (by omega)] at this
    exact this
  rw [e1, e2]
  exact J_rec (by omega) (by omega)
theorem S_pos {a b c d : Int} (h : a * d - b * c = 1) (hc : 0 < c) (hd : 0 < d) : (nu b (-a) d (-c) - nu a b c d - 21) % 24 = 0 := by
  have P := polS a b c d h
  by_cases od : d % 2 = 1
  · have uD : JI c d.toNat = 1 ∨ JI c d.toNat = -1 := JI_unit (x := -b) (y := a) (by omega) (by rw [Int.toNat_of_nonneg (by omega)]; grind)
    rw [nu_odd (c := d) od, P, JI_neg (by omega), m1_i (by omega)]
    by_cases oc : c % 2 = 1
    · have uC : JI d c.toNat = 1 ∨ JI d c.toNat = -1 := JI_unit (x := a) (y := -b) (by omega) (by rw [Int.toNat_of_nonneg (by omega)]; grind)
      rw [nu_odd (c := c) oc, JI_rec hc hd oc od, eps_i (by omega) (by omega)]
      obtain ⟨k, hk⟩ := cd4 c d
      have c4 : c % 4 = 1 ∨ c % 4 = 3 := by omega
      have d4 : d % 4 = 1 ∨ d % 4 = 3 := by omega
      rcases uC with z | z <;> rcases c4 with c4 | c4 <;> rcases d4 with d4 | d4 <;> rw [z, c4, d4] <;> rw [c4, d4] at hk <;> simp [ng] <;> omega
    · rw [nu_even (c := c) (by omega) (by omega), show d.natAbs = d.toNat by omega]
      have d4 : d % 4 = 1 ∨ d % 4 = 3 := by omega
      rcases uD with z | z <;> rcases d4 with d4 | d4 <;> rw [z, d4] <;> simp [ng] <;> omega
  · have oc : c % 2 = 1 := by
      rcases Int.emod_two_eq c with z | z
      · exfalso
        have : (a * d - b * c) % 2 = 0 := by
          rw [Int.sub_emod, Int.mul_emod a d, Int.mul_emod b c, z, show d % 2 = 0 by omega]
          simp
        omega
      · exact z
    rw [nu_even (c := d) (by omega) (by omega), P, nu_odd (c := c) oc, show (-c).natAbs = c.toNat by omega]
    have : d * -c = -(c * d) := by grind
    rw [this]
    generalize ng (JI d c.toNat) = z
    omega
theorem polS' (a b c d : Int) (h : a * d - b * c = 1) : (-b + c) * -d - a * c * (-d * -d - 1) = (a + d) * c - b * d * (c * c - 1) - 3 * (c * d) := by grind
theorem S_neg {a b c d : Int} (h : a * d - b * c = 1) (hc : 0 < c) (hd : d < 0) : (nu (-b) a (-d) c - nu a b c d - 27) % 24 = 0 := by
  have P := polS' a b c d h
  by_cases od : d % 2 = 1
  · have uD : JI c (-d).toNat = 1 ∨ JI c (-d).toNat = -1 := JI_unit (x := -b) (y := -a) (by omega) (by rw [Int.toNat_of_nonneg (by omega)]; grind)
    rw [nu_odd (c := -d) (by omega), P]
    by_cases oc : c % 2 = 1
    · have uC : JI d c.toNat = 1 ∨ JI d c.toNat = -1 := JI_unit (x := a) (y := -b) (by omega) (by rw [Int.toNat_of_nonneg (by omega)]; grind)
      rw [nu_odd (c := c) oc, JI_rec hc (by omega) oc (by omega), eps_i (by omega) (by omega), JI_neg (by omega), m1_i (by omega)]
      obtain ⟨k, hk⟩ := cd4 c d
      have c4 : c % 4 = 1 ∨ c % 4 = 3 := by omega
      have d4 : (d % 4 = 1 ∧ (-d) % 4 = 3) ∨ (d % 4 = 3 ∧ (-d) % 4 = 1) := by omega
      rcases uC with z | z <;> rcases c4 with c4 | c4 <;> rcases d4 with ⟨d4, e4⟩ | ⟨d4, e4⟩ <;> rw [z, c4, e4] <;> rw [c4, d4] at hk <;> simp [ng] <;> omega
    · rw [nu_even (c := c) (by omega) (by omega), show d.natAbs = (-d).toNat by omega]
      generalize ng (JI c (-d).toNat) = z
      omega
  · have oc : c % 2 = 1 := by
      rcases Int.emod_two_eq c with z | z
      · exfalso
        have : (a * d - b * c) % 2 = 0 := by
          rw [Int.sub_emod, Int.mul_emod a d, Int.mul_emod b c, z, show d % 2 = 0 by omega]
          simp
        omega
      · exact z
    have uC : JI d c.toNat = 1 ∨ JI d c.toNat = -1 := JI_unit (x := a) (y := -b) (by omega) (by rw [Int.toNat_of_nonneg (by omega)]; grind)
    rw [nu_even (c := -d) (by omega) (by omega), P, nu_odd (c := c) oc, show c.natAbs = c.toNat by omega, JI_neg (by omega), m1_i (by omega)]
    have : -d * c = -(c * d) := by grind
    rw [this]
    have c4 : c % 4 = 1 ∨ c % 4 = 3 := by omega
    rcases uC with z | z <;> rcases c4 with c4 | c4 <;> rw [z, c4] <;> simp [ng] <;> omega
theorem S_nil {a b c d : Int} (h : a * d - b * c = 1) (hc : 0 < c) (hd : d = 0) : (nu (-b) a (-d) c - nu a b c d - 27) % 24 = 0 := by
  subst hd
  have e : b * c = -1 := by omega
  have c1 : c = 1 := by
    have : c ∣ 1 := ⟨-b, by rw [Int.mul_neg, Int.mul_comm, e]; rfl⟩
    exact Int.eq_one_of_dvd_one (by omega) this
  subst c1
  have b1 : b = -1 := by omega
  subst b1
  have z : JI 0 (1 : Int).toNat = 1 := J_one _
  rw [Int.neg_zero, nu_zero, nu_odd (by decide), z]
  simp [ng]
  omega
theorem S_T (b : Int) : (nu b (-1) 1 0 - nu 1 b 0 1 - 21) % 24 = 0 := by
  have z : JI 0 (1 : Int).toNat = 1 := J_one _
  rw [nu_zero, nu_odd (by decide), z]
  simp [ng]
  omega
/-! ### T -/
theorem polT (a b c d : Int) (h : a * d - b * c = 1) : (a + (d + c)) * c - (b + a) * (d + c) * (c * c - 1) = (a + d) * c - b * d * (c * c - 1) + 1 - c * (c * c - 1) * (a + 2 * b) := by grind
theorem cub : ∀ r : Nat, r < 24 → r % 2 = 1 → ((r : Int) * ((r : Int) * r - 1)) % 24 = 0 := by decide
theorem cube_odd {c : Int} (h : c % 2 = 1) : ∃ w, c * (c * c - 1) = 24 * w := by
  have q := Int.emod_add_mul_ediv c 24
  have r0 := Int.emod_nonneg c (show (24 : Int) ≠ 0 by decide)
  have r1 := Int.emod_lt_of_pos c (show (0 : Int) < 24 by decide)
  have k := cub (c % 24).toNat (by omega) (by omega)
  rw [Int.toNat_of_nonneg r0] at k
  generalize c % 24 = r at *
  generalize c / 24 = p at *
  subst q
  refine ⟨576 * (p * p * p) + 72 * (p * p * r) + 3 * (p * r * r) - p + (r * (r * r - 1)) / 24, ?_⟩
  have k2 : r * (r * r - 1) = 24 * ((r * (r * r - 1)) / 24) := by omega
  generalize (r * (r * r - 1)) / 24 = t at *
  grind
theorem T_odd {a b c d : Int} (h : a * d - b * c = 1) (hc : 0 < c) (ho : c % 2 = 1) : (nu a (b + a) c (d + c) - nu a b c d - 1) % 24 = 0 := by
  rw [nu_odd ho, nu_odd ho, polT a b c d h]
  have e : JI (d + c) c.toNat = JI d c.toNat := JI_congr (by
    rw [Int.toNat_of_nonneg (by omega)]
    exact Int.add_emod_right _ _)
  obtain ⟨w, hw⟩ := cube_odd ho
  rw [e, hw]
  have : 24 * w * (a + 2 * b) = 24 * (w * (a + 2 * b)) := Int.mul_assoc _ _ _
  rw [this]
  generalize ng (JI d c.toNat) = z
  omega
def twoI (d : Int) : Int := if d % 8 = 3 ∨ d % 8 = 5 then -1 else 1
def epsI (m : Nat) (d : Int) : Int := if m % 4 = 3 ∧ d % 4 = 3 then -1 else 1
theorem twoI_s (n) : twoI n = 1 ∨ twoI n = -1 := by unfold twoI; split <;> simp
theorem epsI_s (m n) : epsI m n = 1 ∨ epsI m n = -1 := by unfold epsI; split <;> simp
theorem two_abs {d : Int} : two d.natAbs = twoI d := by
  unfold two twoI
  by_cases h : d % 8 = 3 ∨ d % 8 = 5
  · rw [if_pos h, if_pos (by omega)]
  · rw [if_neg h, if_neg (by omega)]
theorem chi_eq {c d : Int} {k m : Nat} (hc : c = ((2 ^ k * m : Nat) : Int)) (hm : m % 2 = 1) (hd : d % 2 = 1) : JI c d.natAbs = twoI d ^ k * (epsI m d * JI d m) := by
  have hn : d.natAbs % 2 = 1 := by omega
  rw [hc, JI_nat _ _ (by omega), J_twos hn, two_abs, J_rec hm hn]
  congr 1
  by_cases h : 0 ≤ d
  · have e : J d.natAbs m = JI d m := by
      have := JI_nat d.natAbs m (by omega)
      rw [show ((d.natAbs : Nat) : Int) = d by omega] at this
      exact this.symm
    rw [e]
    congr 1
    unfold eps epsI
    by_cases q : m % 4 = 3 ∧ d % 4 = 3
    · rw [if_pos q, if_pos (by omega)]
    · rw [if_neg q, if_neg (by omega)]
  · have e : J d.natAbs m = m1 m * JI d m := by
      have := JI_nat d.natAbs m (by omega)
      rw [show ((d.natAbs : Nat) : Int) = -d by omega, JI_neg hm] at this
      exact this.symm
    rw [e, ← Int.mul_assoc]
    congr 1
    unfold eps epsI m1
    by_cases q : m % 4 = 3
    · by_cases q2 : d % 4 = 3
      · rw [if_neg (show ¬(m % 4 = 3 ∧ d.natAbs % 4 = 3) by omega), if_pos q, if_pos (show m % 4 = 3 ∧ d % 4 = 3 from ⟨q, q2⟩)]; rfl
      · rw [if_pos (show m % 4 = 3 ∧ d.natAbs % 4 = 3 by omega), if_pos q, if_neg (show ¬(m % 4 = 3 ∧ d % 4 = 3) by omega)]; rfl
    · rw [if_neg (show ¬(m % 4 = 3 ∧ d.natAbs % 4 = 3) by omega), if_neg q, if_neg (show ¬(m % 4 = 3 ∧ d % 4 = 3) by omega)]; rfl
theorem sq_pow {x : Int} (h : x = 1 ∨ x = -1) : x ^ 2 = 1 := by rcases h with rfl | rfl <;> rfl
theorem T_even {a b c d : Int} (h : a * d - b * c = 1) (hc : 0 < c) (he : c % 2 = 0) : (nu a (b + a) c (d + c) - nu a b c d - 1) % 24 = 0 := by
  obtain ⟨k, m, e, hm⟩ := strip c.toNat (by omega)
  have hk : 0 < k := by
    rcases Nat.eq_zero_or_pos k with rfl | h
    · rw [Nat.pow_zero, Nat.one_mul] at e; omega
    · exact h
  have ec : c = ((2 ^ k * m : Nat) : Int) := by omega
  have bc : (b * c) % 2 = 0 := by rw [Int.mul_emod, he]; simp
  have od : d % 2 = 1 := by
    rcases Int.emod_two_eq d with z | z
    · exfalso
      have : (a * d) % 2 = 0 := by rw [Int.mul_emod, z]; simp
      omega
    · exact z
  have oa : a % 2 = 1 := by
    rcases Int.emod_two_eq a with z | z
    · exfalso
      have : (a * d) % 2 = 0 := by rw [Int.mul_emod, z]; simp
      omega
    · exact z
  rw [nu_even (by omega) he, nu_even (by omega) he, polT a b c d h, chi_eq (d := d) ec hm od, chi_eq (d := d + c) ec hm (by omega)]
  have es : JI (d + c) m = JI d m := JI_congr (by
    rw [ec, Int.natCast_mul, Int.add_mul_emod_self_right])
  rw [es]
  have us : JI d m = 1 ∨ JI d m = -1 := JI_unit (x := a) (y := -(b * ((2 ^ k : Nat) : Int))) hm (by
    rw [ec, Int.natCast_mul] at h
    grind)
  obtain ⟨u, rfl⟩ : ∃ u, c = 2 * u := ⟨c / 2, by omega⟩
  obtain ⟨w, hw⟩ : ∃ w, u * (4 * (u * u) - 1) = 3 * w := by
    have q := Int.emod_add_mul_ediv u 3
    have r0 : u % 3 = 0 ∨ u % 3 = 1 ∨ u % 3 = 2 := by omega
    generalize u / 3 = p at *
    rcases r0 with r | r | r
    · rw [r] at q; exact ⟨p * (4 * (u * u) - 1), by rw [← q]; grind⟩
    · rw [r] at q; exact ⟨u * (12 * (p * p) + 8 * p + 1), by rw [← q]; grind⟩
    · rw [r] at q; exact ⟨u * (12 * (p * p) + 16 * p + 5), by rw [← q]; grind⟩
  have c3 : 2 * u * (2 * u * (2 * u) - 1) * (a + 2 * b) = 6 * (w * (a + 2 * b)) := by
    have : 2 * u * (2 * u * (2 * u) - 1) = 2 * (u * (4 * (u * u) - 1)) := by grind
    rw [this, hw]; grind
  have cc : 2 * u * (d + 2 * u) = 2 * u * d + 4 * (u * u) := by grind
  rw [c3, cc]
  have hw2 : 3 * w = 4 * (u * (u * u)) - u := by rw [← hw]; grind
  obtain ⟨y, rfl⟩ : ∃ y, a = 2 * y + 1 := ⟨a / 2, by omega⟩
  match k, hk with
  | 1, _ =>
    have eu : u = (m : Int) := by rw [Nat.pow_one, Int.natCast_mul] at ec; omega
    obtain ⟨v, hv⟩ : ∃ v, u = 2 * v + 1 := ⟨u / 2, by omega⟩
    obtain ⟨x, hx⟩ : ∃ x, w = 2 * x + 1 := ⟨w / 2, by omega⟩
    obtain ⟨z, hz⟩ : ∃ z, d = 2 * z + 1 := ⟨d / 2, by omega⟩
    have e1 : w * (2 * y + 1 + 2 * b) = w + 4 * (x * y) + 2 * y + 4 * (x * b) + 2 * b := by rw [hx]; grind
    have e2 : u * u = 4 * (v * v) + 4 * v + 1 := by rw [hv]; grind
    have e3 : y + z + 2 * (y * z) = b + 2 * (b * v) := by
      rw [hz, hv] at h
      have : 2 * (y + z + 2 * (y * z)) = 2 * (b + 2 * (b * v)) := by grind
      omega
    rw [e1, e2, Int.pow_succ, Int.pow_zero, Int.one_mul, Int.pow_succ, Int.pow_zero, Int.one_mul]
    have d8 : d % 8 = 1 ∨ d % 8 = 3 ∨ d % 8 = 5 ∨ d % 8 = 7 := by omega
    have m4 : m % 4 = 1 ∨ m % 4 = 3 := by omega
    generalize (2 * y + 1 + d) * (2 * u) = g1 at *
    generalize b * d * (2 * u * (2 * u) - 1) = g2 at *
    generalize 2 * u * d = g3 at *
    rcases m4 with m4 | m4 <;> rcases d8 with d8 | d8 | d8 | d8 <;> rcases us with s | s
    all_goals
      rw [s]
      have f1 : (d + 2 * u) % 8 = (d % 8 + 2 * ((m % 4 : Nat) : Int)) % 8 := by omega
      have f2 : (d + 2 * u) % 4 = (d % 8 + 2 * ((m % 4 : Nat) : Int)) % 4 := by omega
      have f3 : d % 4 = (d % 8) % 4 := by omega
      rw [d8, m4] at f1 f2
      rw [d8] at f3
      simp only [twoI, epsI, f1, f2, f3, d8, m4]
      simp [ng]
      omega
  | k + 2, _ =>
    have e4 : (2 : Nat) ^ (k + 2) * m = 4 * (2 ^ k * m) := by rw [Nat.pow_add, Nat.mul_comm (2 ^ k) (2 ^ 2), Nat.mul_assoc]
    obtain ⟨v, hv⟩ : ∃ v, u = 2 * v := ⟨u / 2, by rw [e4] at ec; omega⟩
    obtain ⟨x, hx⟩ : ∃ x, w = 2 * x := ⟨w / 2, by omega⟩
    have e1 : w * (2 * y + 1 + 2 * b) = 2 * x + 4 * (x * y) + 4 * (x * b) := by rw [hx]; grind
    have e2 : u * u = 4 * (v * v) := by rw [hv]; grind
    have ee : epsI m (d + 2 * u) = epsI m d := by
      unfold epsI
      rw [show (d + 2 * u) % 4 = d % 4 by omega]
    have et : twoI (d + 2 * u) ^ (k + 2) = twoI d ^ (k + 2) := by
      match k with
      | 0 => rw [sq_pow (twoI_s _), sq_pow (twoI_s _)]
      | k + 1 =>
        have e8 : (2 : Nat) ^ (k + 1 + 2) * m = 8 * (2 ^ k * m) := by rw [show k + 1 + 2 = k + 3 by omega, Nat.pow_add, Nat.mul_comm (2 ^ k) (2 ^ 3), Nat.mul_assoc]
        have : twoI (d + 2 * u) = twoI d := by
          unfold twoI
          rw [show (d + 2 * u) % 8 = d % 8 by rw [e8] at ec; omega]
        rw [this]
    rw [e1, e2, ee, et]
    generalize ng (twoI d ^ (k + 2) * (epsI m d * JI d m)) = g0
    generalize (2 * y + 1 + d) * (2 * u) = g1 at *
    generalize b * d * (2 * u * (2 * u) - 1) = g2 at *
    generalize 2 * u * d = g3 at *
    omega
end Jac
set_option Elab.async false
set_option linter.all false
set_option maxRecDepth 100000
set_option maxHeartbeats 4000000
/-! the root of a product. -/
namespace Jac
structure Mat where
  a : Int
  b : Int
  c : Int
  d : Int
def Mat.mul (A B : Mat) : Mat := ⟨A.a * B.a + A.b * B.c, A.a * B.b + A.b * B.d, A.c * B.a + A.d * B.c, A.c * B.b + A.d * B.d⟩
def Mat.det (A : Mat) : Int := A.a * A.d - A.b * A.c
def Mat.neg (A : Mat) : Mat := ⟨0 - A.a, 0 - A.b, 0 - A.c, 0 - A.d⟩
def Up (A : Mat) : Prop := 0 < A.c ∨ (A.c = 0 ∧ A.d = 1)
instance (A : Mat) : Decidable (Up A) := inferInstanceAs (Decidable (_ ∨ _))
def upm (A : Mat) : Mat := if Up A then A else A.neg
def wt (A : Mat) : Int := if Up A then 0 else 6
def nuM (A : Mat) : Int := nu A.a A.b A.c A.d
def tm (m : Int) : Mat := ⟨1, m, 0, 1⟩
def sm : Mat := ⟨0, -1, 1, 0⟩
theorem Mat.ext {A B : Mat} (h1 : A.a = B.a) (h2 : A.b = B.b) (h3 : A.c = B.c) (h4 : A.d = B.d) : A = B := by
  cases A; cases B; simp only at h1 h2 h3 h4; subst h1 h2 h3 h4; rfl
theorem mul_assoc (A B C : Mat) : (A.mul B).mul C = A.mul (B.mul C) := by
  apply Mat.ext <;> simp only [Mat.mul] <;> grind
theorem neg_mul (A B : Mat) : A.neg.mul B = (A.mul B).neg := by
  apply Mat.ext <;> simp only [Mat.mul, Mat.neg] <;> grind
theorem mul_neg (A B : Mat) : A.mul B.neg = (A.mul B).neg := by
  apply Mat.ext <;> simp only [Mat.mul, Mat.neg] <;> grind
theorem neg_neg (A : Mat) : A.neg.neg = A := by
  apply Mat.ext <;> simp only [Mat.neg] <;> omega
theorem det_mul {A B : Mat} (hA : A.det = 1) (hB : B.det = 1) : (A.mul B).det = 1 := by
  have : (A.mul B).det = A.det * B.det := by simp only [Mat.mul, Mat.det]; grind
  rw [this, hA, hB]; rfl
theorem det_neg (A : Mat) : A.neg.det = A.det := by simp only [Mat.neg, Mat.det]; grind
theorem det_upm {A : Mat} (h : A.det = 1) : (upm A).det = 1 := by
  unfold upm; split
  · exact h
  · rw [det_neg]; exact h
theorem unit_cases {x y : Int} (h : x * y = 1) : (x = 1 ∧ y = 1) ∨ (x = -1 ∧ y = -1) := by
  rcases Int.le_total 0 y with hy | hy
  · have := Int.eq_one_of_dvd_one hy ⟨x, by rw [Int.mul_comm]; exact h.symm⟩
    subst this; exact .inl ⟨by omega, rfl⟩
  · have := Int.eq_one_of_dvd_one (a := -y) (by omega) ⟨-x, by rw [Int.neg_mul_neg, Int.mul_comm]; exact h.symm⟩
    have : y = -1 := by omega
    subst this; exact .inr ⟨by omega, rfl⟩
theorem c_zero {A : Mat} (h : A.det = 1) (hc : A.c = 0) : (A.a = 1 ∧ A.d = 1) ∨ (A.a = -1 ∧ A.d = -1) := by
  unfold Mat.det at h
  rw [hc, Int.mul_zero, Int.sub_zero] at h
  exact unit_cases h
theorem up_neg {A : Mat} (h : A.det = 1) : Up A.neg ↔ ¬ Up A := by
  unfold Up
  show (0 < 0 - A.c ∨ (0 - A.c = 0 ∧ 0 - A.d = 1)) ↔ _
  by_cases hc : A.c = 0
  · rcases c_zero h hc with ⟨_, e⟩ | ⟨_, e⟩ <;> omega
  · omega
theorem up_upm {A : Mat} (h : A.det = 1) : Up (upm A) := by
  unfold upm; split
  · assumption
  · rename_i k; exact (up_neg h).mpr k
theorem upm_up {A : Mat} (h : Up A) : upm A = A := if_pos h
theorem upm_neg {A : Mat} (h : A.det = 1) : upm A.neg = upm A := by
  unfold upm
  by_cases k : Up A
  · rw [if_pos k, if_neg (fun z => (up_neg h).mp z k), neg_neg]
  · rw [if_neg k, if_pos ((up_neg h).mpr k)]
theorem upm_mul_l {A B : Mat} (hA : A.det = 1) (hB : B.det = 1) : upm ((upm A).mul B) = upm (A.mul B) := by
  conv => lhs; arg 1; unfold upm
  by_cases k : Up A
  · rw [if_pos k]
  · rw [if_neg k, neg_mul, upm_neg (det_mul hA hB)]
theorem upm_mul_r {A B : Mat} (hA : A.det = 1) (hB : B.det = 1) : upm (A.mul (upm B)) = upm (A.mul B) := by
  conv => lhs; arg 1; unfold upm
  by_cases k : Up B
  · rw [if_pos k]
  · rw [if_neg k, mul_neg, upm_neg (det_mul hA hB)]
theorem row_id (A B C : Mat) (hB : B.det = 1) : C.c * A.c = (A.mul B).c * (B.mul C).c - B.c * ((A.mul B).mul C).c := by
  have : C.c * (A.c * B.det) = (A.mul B).c * (B.mul C).c - B.c * ((A.mul B).mul C).c := by simp only [Mat.mul, Mat.det]; grind
  rw [hB, Int.mul_one] at this
  exact this
theorem up_both {A B C : Mat} (hA : A.det = 1) (hB : B.det = 1) (hC : C.det = 1) (uA : Up A) (uB : Up B) (uC : Up C) (uE : Up ((A.mul B).mul C)) : Up (A.mul B) ↔ Up (B.mul C) := by
  have R := row_id A B C hB
  by_cases cA : A.c = 0
  · have dA : A.d = 1 := by rcases uA with h | h <;> omega
    have e1 : (A.mul B).c = B.c := by simp only [Mat.mul]; rw [cA, dA]; omega
    have e2 : (A.mul B).d = B.d := by simp only [Mat.mul]; rw [cA, dA]; omega
    have e3 : ((A.mul B).mul C).c = (B.mul C).c := by
      show (A.mul B).c * C.a + (A.mul B).d * C.c = _
      rw [e1, e2]; rfl
    have e4 : ((A.mul B).mul C).d = (B.mul C).d := by
      show (A.mul B).c * C.b + (A.mul B).d * C.d = _
      rw [e1, e2]; rfl
    unfold Up at *
    rw [e1, e2]
    rw [e3, e4] at uE
    exact ⟨fun _ => uE, fun _ => uB⟩
  · by_cases cC : C.c = 0
    · have dC : C.d = 1 := by rcases uC with h | h <;> omega
      have aC : C.a = 1 := by rcases c_zero hC cC with h | h <;> omega
      have e1 : (B.mul C).c = B.c := by simp only [Mat.mul]; rw [cC, aC]; omega
      have e2 : (B.mul C).d = B.c * C.b + B.d := by simp only [Mat.mul]; rw [dC]; omega
      have e3 : ((A.mul B).mul C).c = (A.mul B).c := by
        show (A.mul B).c * C.a + (A.mul B).d * C.c = _
        rw [aC, cC]; omega
      have e4 : ((A.mul B).mul C).d = (A.mul B).c * C.b + (A.mul B).d := by
        show (A.mul B).c * C.b + (A.mul B).d * C.d = _
        rw [dC]; omega
      unfold Up at *
      rw [e3, e4] at uE
      rw [e1, e2]
      constructor
      · intro _
        rcases uB with h | ⟨h, k⟩
        · exact .inl h
        · exact .inr ⟨h, by rw [h, k]; omega⟩
      · intro _
        rcases uE with h | ⟨h, k⟩
        · exact .inl h
        · exact .inr ⟨h, by rw [h] at k; omega⟩
    · have pos : 0 < C.c * A.c := Int.mul_pos (by rcases uC with h | h <;> omega) (by rcases uA with h | h <;> omega)
      have yB : 0 ≤ B.c := by rcases uB with h | h <;> omega
      have fE : 0 ≤ ((A.mul B).mul C).c := by rcases uE with h | h <;> omega
      have m2 := Int.mul_nonneg yB fE
      constructor
      · intro h
        by_cases k : Up (B.mul C)
        · exact k
        · exfalso
          have x0 : 0 ≤ (A.mul B).c := by rcases h with h | h <;> omega
          have f0 : (B.mul C).c ≤ 0 := by unfold Up at k; omega
          have := Int.mul_nonneg x0 (show 0 ≤ -(B.mul C).c by omega)
          rw [Int.mul_neg] at this
          omega
      · intro h
        by_cases k : Up (A.mul B)
        · exact k
        · exfalso
          have x0 : (A.mul B).c ≤ 0 := by unfold Up at k; omega
          have f0 : 0 ≤ (B.mul C).c := by rcases h with h | h <;> omega
          have := Int.mul_nonneg (show 0 ≤ -(A.mul B).c by omega) f0
          rw [Int.neg_mul] at this
          omega
/-- the not-ups are as many, however three are grouped -/
theorem wt_assoc {A B C : Mat} (hA : A.det = 1) (hB : B.det = 1) (hC : C.det = 1) (uA : Up A) (uB : Up B) (uC : Up C) : wt (A.mul B) + wt ((upm (A.mul B)).mul C) = wt (B.mul C) + wt (A.mul (upm (B.mul C))) := by
  have dAB := det_mul hA hB
  have dBC := det_mul hB hC
  have dE := det_mul dAB hC
  have l : Up ((upm (A.mul B)).mul C) ↔ (Up (A.mul B) ↔ Up ((A.mul B).mul C)) := by
    unfold upm
    by_cases k : Up (A.mul B)
    · rw [if_pos k]; simp [k]
    · rw [if_neg k, neg_mul, up_neg dE]; simp [k]
  have r : Up (A.mul (upm (B.mul C))) ↔ (Up (B.mul C) ↔ Up ((A.mul B).mul C)) := by
    rw [mul_assoc]
    unfold upm
    by_cases k : Up (B.mul C)
    · rw [if_pos k]; simp [k]
    · rw [if_neg k, mul_neg, up_neg (det_mul hA dBC)]; simp [k]
  unfold wt
  by_cases e : Up ((A.mul B).mul C)
  · have q := up_both hA hB hC uA uB uC e
    by_cases k : Up (A.mul B)
    · have k2 := q.mp k
      rw [if_pos k, if_pos k2, if_pos (l.mpr (by simp [k, e])), if_pos (r.mpr (by simp [k2, e]))]
    · have k2 : ¬ Up (B.mul C) := fun z => k (q.mpr z)
      rw [if_neg k, if_neg k2, if_neg (fun z => by have := l.mp z; exact k (this.mpr e)), if_neg (fun z => by have := r.mp z; exact k2 (this.mpr e))]
  · have a1 : (if Up (A.mul B) then (0 : Int) else 6) + (if Up ((upm (A.mul B)).mul C) then 0 else 6) = 6 := by
      by_cases k : Up (A.mul B)
      · rw [if_pos k, if_neg (fun z => e ((l.mp z).mp k))]; rfl
      · rw [if_neg k, if_pos (l.mpr ⟨fun z => absurd z k, fun z => absurd z e⟩)]; rfl
    have a2 : (if Up (B.mul C) then (0 : Int) else 6) + (if Up (A.mul (upm (B.mul C))) then 0 else 6) = 6 := by
      by_cases k : Up (B.mul C)
      · rw [if_pos k, if_neg (fun z => e ((r.mp z).mp k))]; rfl
      · rw [if_neg k, if_pos (r.mpr ⟨fun z => absurd z k, fun z => absurd z e⟩)]; rfl
    rw [a1, a2]
/-! ### S and T -/
theorem T_one {A : Mat} (h : A.det = 1) (u : Up A) : Up (A.mul (tm 1)) ∧ (nuM (A.mul (tm 1)) - nuM A - 1) % 24 = 0 := by
  obtain ⟨a, b, c, d⟩ := A
  have e : Mat.mul ⟨a, b, c, d⟩ (tm 1) = ⟨a, b + a, c, d + c⟩ := by apply Mat.ext <;> simp only [Mat.mul, tm] <;> omega
  rw [e]
  have h : a * d - b * c = 1 := h
  have u : 0 < c ∨ (c = 0 ∧ d = 1) := u
  refine ⟨show 0 < c ∨ (c = 0 ∧ d + c = 1) by omega, ?_⟩
  show (nu a (b + a) c (d + c) - nu a b c d - 1) % 24 = 0
  rcases u with u | ⟨u, v⟩
  · rcases Int.emod_two_eq c with z | z
    · exact T_even h u z
    · exact T_odd h u z
  · subst u v
    rw [nu_zero, nu_zero]
    omega
theorem tm_add (m n : Int) : (tm m).mul (tm n) = tm (m + n) := by apply Mat.ext <;> simp only [Mat.mul, tm] <;> omega
theorem tm_det (m : Int) : (tm m).det = 1 := by simp [Mat.det, tm]
theorem tm_up (m : Int) : Up (tm m) := .inr ⟨rfl, rfl⟩
theorem up_T {A : Mat} (h : A.det = 1) (u : Up A) (m : Int) : Up (A.mul (tm m)) := by
  obtain ⟨a, b, c, d⟩ := A
  have u : 0 < c ∨ (c = 0 ∧ d = 1) := u
  show 0 < c * 1 + d * 0 ∨ (c * 1 + d * 0 = 0 ∧ c * m + d * 1 = 1)
  rcases u with u | ⟨u, v⟩
  · exact .inl (by omega)
  · subst u v; exact .inr ⟨by omega, by omega⟩
theorem T_nat {A : Mat} (h : A.det = 1) (u : Up A) : ∀ m : Nat, (nuM (A.mul (tm m)) - nuM A - m) % 24 = 0
  | 0 => by
    have : A.mul (tm ((0 : Nat) : Int)) = A := by apply Mat.ext <;> simp [Mat.mul, tm]
    rw [this]; omega
  | m + 1 => by
    have ih := T_nat h u m
    have k := (T_one (det_mul h (tm_det m)) (up_T h u m)).2
    rw [mul_assoc, tm_add] at k
    rw [Int.natCast_add]
    have e : ((1 : Nat) : Int) = 1 := rfl
    rw [e]
    omega
theorem T_all {A : Mat} (h : A.det = 1) (u : Up A) (m : Int) : (nuM (A.mul (tm m)) - nuM A - m) % 24 = 0 := by
  rcases Int.le_total 0 m with hm | hm
  · have := T_nat h u m.toNat
    rw [Int.toNat_of_nonneg hm] at this
    exact this
  · have := T_nat (det_mul h (tm_det m)) (up_T h u m) (-m).toNat
    rw [Int.toNat_of_nonneg (by omega), mul_assoc, tm_add, show m + -m = 0 by omega] at this
    have e : A.mul (tm 0) = A := by apply Mat.ext <;> simp [Mat.mul, tm]
    rw [e] at this
    omega
theorem sm_det : sm.det = 1 := rfl
theorem sm_up : Up sm := .inl (by decide)
theorem S_all {A : Mat} (h : A.det = 1) (u : Up A) : (nuM (upm (A.mul sm)) - nuM A - 21 - wt (A.mul sm)) % 24 = 0 := by
  obtain ⟨a, b, c, d⟩ := A
  have e : Mat.mul ⟨a, b, c, d⟩ sm = ⟨b, -a, d, -c⟩ := by apply Mat.ext <;> simp only [Mat.mul, sm] <;> omega
  have hd : a * d - b * c = 1 := h
  have u : 0 < c ∨ (c = 0 ∧ d = 1) := u
  rw [e]
  unfold upm wt
  rcases u with u | ⟨u, v⟩
  · by_cases p : 0 < d
    · have k : Up ⟨b, -a, d, -c⟩ := .inl p
      rw [if_pos k, if_pos k]
      have := S_pos hd u p
      show (nu b (-a) d (-c) - nu a b c d - 21 - 0) % 24 = 0
      omega
    · have k : ¬ Up ⟨b, -a, d, -c⟩ := fun z => by
        have z : 0 < d ∨ (d = 0 ∧ -c = 1) := z
        omega
      rw [if_neg k, if_neg k]
      have q : (nu (-b) a (-d) c - nu a b c d - 27) % 24 = 0 := by
        by_cases n : d < 0
        · exact S_neg hd u n
        · exact S_nil hd u (by omega)
      show (nu (0 - b) (0 - -a) (0 - d) (0 - -c) - nu a b c d - 21 - 6) % 24 = 0
      rw [show 0 - b = -b by omega, show 0 - -a = a by omega, show 0 - d = -d by omega, show 0 - -c = c by omega]
      omega
  · subst u v
    have a1 : a = 1 := by omega
    subst a1
    have k : Up ⟨b, -1, 1, -0⟩ := .inl (show (0 : Int) < 1 by decide)
    rw [if_pos k, if_pos k]
    have := S_T b
    show (nu b (-1) 1 (-0) - nu 1 b 0 1 - 21 - 0) % 24 = 0
    rw [Int.neg_zero]
    omega
/-! ### all products -/
def Pr (B : Mat) : Prop := ∀ A : Mat, A.det = 1 → Up A → (nuM A + nuM B + wt (A.mul B) - nuM (upm (A.mul B))) % 24 = 0
theorem Pr_T (m : Int) : Pr (tm m) := fun A h u => by
  have k := up_T h u m
  have := T_all h u m
  unfold wt
  rw [if_pos k, upm_up k]
  have e : nuM (tm m) = m := nu_zero _ _ _
  rw [e]
  omega
theorem Pr_S : Pr sm := fun A h u => by
  have := S_all h u
  have e : nuM sm = -3 := by decide +kernel
  rw [e]
  omega
theorem Pr_mul {B C : Mat} (hB : B.det = 1) (hC : C.det = 1) (uB : Up B) (uC : Up C) (pB : Pr B) (pC : Pr C) : Pr (upm (B.mul C)) := fun A h u => by
  have dAB := det_mul h hB
  have k1 := pC B hB uB
  have k2 := pC (upm (A.mul B)) (det_upm dAB) (up_upm dAB)
  have k3 := pB A h u
  have k4 := wt_assoc h hB hC u uB uC
  rw [upm_mul_l dAB hC, mul_assoc] at k2
  rw [upm_mul_r h (det_mul hB hC)]
  omega
theorem Pr_all : ∀ (n : Nat) (B : Mat), B.det = 1 → Up B → B.c.toNat ≤ n → Pr B := by
  intro n
  induction n with
  | zero =>
    intro B h u hn
    obtain ⟨a, b, c, d⟩ := B
    have u : 0 < c ∨ (c = 0 ∧ d = 1) := u
    have hn : c.toNat ≤ 0 := hn
    have c0 : c = 0 := by omega
    have d1 : d = 1 := by omega
    subst c0 d1
    have h : a * 1 - b * 0 = 1 := h
    have a1 : a = 1 := by omega
    subst a1
    exact Pr_T b
  | succ n ih =>
    intro B h u hn
    by_cases hc : B.c = 0
    · exact ih B h u (by rw [hc]; exact Nat.zero_le _)
    · obtain ⟨a, b, c, d⟩ := B
      have u : 0 < c ∨ (c = 0 ∧ d = 1) := u
      have hn : c.toNat ≤ n + 1 := hn
      have hc : c ≠ 0 := hc
      have h : a * d - b * c = 1 := h
      have q := Int.emod_add_mul_ediv a c
      have r0 := Int.emod_nonneg a hc
      have r1 := Int.emod_lt_of_pos a (show 0 < c by omega)
      have dC : Mat.det ⟨c, d, -(a % c), -(b - a / c * d)⟩ = 1 := by
        show c * -(b - a / c * d) - d * -(a % c) = 1
        have : a % c = a - c * (a / c) := by omega
        rw [this]; grind
      have E : (tm (a / c)).mul (sm.mul ⟨c, d, -(a % c), -(b - a / c * d)⟩) = ⟨a, b, c, d⟩ := by
        apply Mat.ext <;> simp only [Mat.mul, sm, tm]
        · have : a % c = a - c * (a / c) := by omega
          rw [this]; grind
        · grind
        · omega
        · omega
      have pC : Pr (upm ⟨c, d, -(a % c), -(b - a / c * d)⟩) := by
        refine ih _ (det_upm dC) (up_upm dC) ?_
        unfold upm
        by_cases k : Up ⟨c, d, -(a % c), -(b - a / c * d)⟩
        · rw [if_pos k]
          show (-(a % c)).toNat ≤ n
          omega
        · rw [if_neg k]
          show (0 - -(a % c)).toNat ≤ n
          omega
      have p1 := Pr_mul sm_det (det_upm dC) sm_up (up_upm dC) Pr_S pC
      rw [upm_mul_r sm_det dC] at p1
      have d1 := det_mul sm_det dC
      have p2 := Pr_mul (tm_det (a / c)) (det_upm d1) (tm_up _) (up_upm d1) (Pr_T _) p1
      rw [upm_mul_r (tm_det _) d1, E, upm_up (show Up ⟨a, b, c, d⟩ from u)] at p2
      exact p2
theorem nu_mul {A B : Mat} (hA : A.det = 1) (hB : B.det = 1) (uA : Up A) (uB : Up B) : (nuM A + nuM B + wt (A.mul B) - nuM (upm (A.mul B))) % 24 = 0 := Pr_all _ B hB uB (Nat.le_refl _) A hA uA
end Jac
set_option Elab.async false
set_option linter.all false
set_option maxRecDepth 100000
set_option maxHeartbeats 4000000
/-! the walk of law_k17_whole_roots_along_words: printed by gen.py -/
namespace Lk17
open PySem PySem.Spec PyProof.Rows L2 Dv LamX
variable [TabC]
def topS (i : Nat) : Stmt := PySem.Challenge.pw_etasure_k17_whole_roots_along_words.main.body.getD i (.Pass ⟨0, 0, 0, 0⟩)
abbrev s_is_number : Stmt := topS 4
theorem sc_is_number : FnScope ["thing"] ["thing"] (defScope s_is_number) := ⟨rfl, rfl, rfl, by decide +kernel, rfl, by decide +kernel, by decide +kernel⟩
abbrev s_are_numbers : Stmt := topS 5
theorem sc_are_numbers : FnScope ["thing", "many", "item"] ["thing", "many"] (defScope s_are_numbers) := ⟨rfl, rfl, rfl, by decide +kernel, rfl, by decide +kernel, by decide +kernel⟩
def bs_are_numbers_0 : Scope := { kind := .function, names := [(".0", .local), ("item", .local), ("is_number", .globalImplicit)], isGenerator := false, isCoroutine := false, more := [] }
theorem blk_are_numbers_0 : BlkOk ["thing", "many", "item"] (defScope s_are_numbers) bs_are_numbers_0 [("item", 2)] := ⟨rfl, by decide +kernel, by decide +kernel, by decide +kernel, by decide +kernel⟩
abbrev s_is_matrix : Stmt := topS 7
theorem sc_is_matrix : FnScope ["thing"] ["thing"] (defScope s_is_matrix) := ⟨rfl, rfl, rfl, by decide +kernel, rfl, by decide +kernel, by decide +kernel⟩
abbrev s_is_upright : Stmt := topS 8
theorem sc_is_upright : FnScope ["thing"] ["thing"] (defScope s_is_upright) := ⟨rfl, rfl, rfl, by decide +kernel, rfl, by decide +kernel, by decide +kernel⟩
abbrev s_need_upright : Stmt := topS 9
theorem sc_need_upright : FnScope ["thing"] ["thing"] (defScope s_need_upright) := ⟨rfl, rfl, rfl, by decide +kernel, rfl, by decide +kernel, by decide +kernel⟩
abbrev s_symbol : Stmt := topS 11
theorem sc_symbol : FnScope ["a", "n", "found", "here", "there"] ["a", "n"] (defScope s_symbol) := ⟨rfl, rfl, rfl, by decide +kernel, rfl, by decide +kernel, by decide +kernel⟩
abbrev s_root_by : Stmt := topS 12
theorem sc_root_by : FnScope ["matrix", "a", "b", "c", "d", "found"] ["matrix"] (defScope s_root_by) := ⟨rfl, rfl, rfl, by decide +kernel, rfl, by decide +kernel, by decide +kernel⟩
abbrev s_root_of : Stmt := topS 13
theorem sc_root_of : FnScope ["matrix"] ["matrix"] (defScope s_root_of) := ⟨rfl, rfl, rfl, by decide +kernel, rfl, by decide +kernel, by decide +kernel⟩
abbrev s_law_begun : Stmt := topS 15
theorem sc_law_begun : FnScope ["script", "large", "cell"] ["script"] (defScope s_law_begun) := ⟨rfl, rfl, rfl, by decide +kernel, rfl, by decide +kernel, by decide +kernel⟩
def bs_law_begun_0 : Scope := { kind := .function, names := [(".0", .local), ("cell", .local), ("abs", .globalImplicit)], isGenerator := false, isCoroutine := false, more := [] }
def bs_law_begun_1 : Scope := { kind := .function, names := [(".0", .local), ("cell", .local), ("abs", .globalImplicit)], isGenerator := false, isCoroutine := false, more := [] }
theorem blk_law_begun_0 : BlkOk ["script", "large", "cell"] (defScope s_law_begun) bs_law_begun_0 [("cell", 2)] := ⟨rfl, by decide +kernel, by decide +kernel, by decide +kernel, by decide +kernel⟩
theorem blk_law_begun_1 : BlkOk ["script", "large", "cell"] (defScope s_law_begun) bs_law_begun_1 [("cell", 2)] := ⟨rfl, by decide +kernel, by decide +kernel, by decide +kernel, by decide +kernel⟩
abbrev s_law_blend : Stmt := topS 16
theorem sc_law_blend : FnScope ["draw", "turn", "found", "prime", "stirred", "cell"] ["draw"] (defScope s_law_blend) := ⟨rfl, rfl, rfl, by decide +kernel, rfl, by decide +kernel, by decide +kernel⟩
abbrev s_law_take : Stmt := topS 17
theorem sc_law_take : FnScope ["draw", "size", "found"] ["draw", "size"] (defScope s_law_take) := ⟨rfl, rfl, rfl, by decide +kernel, rfl, by decide +kernel, by decide +kernel⟩
abbrev s_law_pick : Stmt := topS 18
theorem sc_law_pick : FnScope ["draw", "some"] ["draw", "some"] (defScope s_law_pick) := ⟨rfl, rfl, rfl, by decide +kernel, rfl, by decide +kernel, by decide +kernel⟩
abbrev s_law_caught : Stmt := topS 19
theorem sc_law_caught : FnScope ["work", "caught", "error"] ["work"] (defScope s_law_caught) := ⟨rfl, rfl, rfl, by decide +kernel, rfl, by decide +kernel, by decide +kernel⟩
abbrev s_law_is_number : Stmt := topS 20
theorem sc_law_is_number : FnScope ["thing"] ["thing"] (defScope s_law_is_number) := ⟨rfl, rfl, rfl, by decide +kernel, rfl, by decide +kernel, by decide +kernel⟩
abbrev s_law_gcd : Stmt := topS 21
theorem sc_law_gcd : FnScope ["one", "other", "here", "there"] ["one", "other"] (defScope s_law_gcd) := ⟨rfl, rfl, rfl, by decide +kernel, rfl, by decide +kernel, by decide +kernel⟩
abbrev s_law_euclid : Stmt := topS 22
theorem sc_law_euclid : FnScope ["one", "other", "here", "there", "first", "second", "third", "fourth", "many"] ["one", "other"] (defScope s_law_euclid) := ⟨rfl, rfl, rfl, by decide +kernel, rfl, by decide +kernel, by decide +kernel⟩
abbrev s_law_times : Stmt := topS 23
theorem sc_law_times : FnScope ["one", "other", "a", "b", "c", "d", "e", "f", "g", "h"] ["one", "other"] (defScope s_law_times) := ⟨rfl, rfl, rfl, by decide +kernel, rfl, by decide +kernel, by decide +kernel⟩
abbrev s_law_undone : Stmt := topS 24
theorem sc_law_undone : FnScope ["matrix"] ["matrix"] (defScope s_law_undone) := ⟨rfl, rfl, rfl, by decide +kernel, rfl, by decide +kernel, by decide +kernel⟩
abbrev s_law_is_up : Stmt := topS 25
theorem sc_law_is_up : FnScope ["matrix"] ["matrix"] (defScope s_law_is_up) := ⟨rfl, rfl, rfl, by decide +kernel, rfl, by decide +kernel, by decide +kernel⟩
abbrev s_law_up : Stmt := topS 26
theorem sc_law_up : FnScope ["matrix", "item"] ["matrix"] (defScope s_law_up) := ⟨rfl, rfl, rfl, by decide +kernel, rfl, by decide +kernel, by decide +kernel⟩
def bs_law_up_0 : Scope := { kind := .function, names := [(".0", .local), ("item", .local)], isGenerator := false, isCoroutine := false, more := [] }
theorem blk_law_up_0 : BlkOk ["matrix", "item"] (defScope s_law_up) bs_law_up_0 [("item", 1)] := ⟨rfl, by decide +kernel, by decide +kernel, by decide +kernel, by decide +kernel⟩
abbrev s_law_is_matrix : Stmt := topS 27
theorem sc_law_is_matrix : FnScope ["thing", "item"] ["thing"] (defScope s_law_is_matrix) := ⟨rfl, rfl, rfl, by decide +kernel, rfl, by decide +kernel, by decide +kernel⟩
def bs_law_is_matrix_0 : Scope := { kind := .function, names := [(".0", .local), ("item", .local), ("_law_is_number", .globalImplicit)], isGenerator := false, isCoroutine := false, more := [] }
theorem blk_law_is_matrix_0 : BlkOk ["thing", "item"] (defScope s_law_is_matrix) bs_law_is_matrix_0 [("item", 1)] := ⟨rfl, by decide +kernel, by decide +kernel, by decide +kernel, by decide +kernel⟩
abbrev s_law_word_matrix : Stmt := topS 28
theorem sc_law_word_matrix : FnScope ["word", "a", "b", "c", "d", "many"] ["word"] (defScope s_law_word_matrix) := ⟨rfl, rfl, rfl, by decide +kernel, rfl, by decide +kernel, by decide +kernel⟩
abbrev s_law_number : Stmt := topS 29
theorem sc_law_number : FnScope ["draw"] ["draw"] (defScope s_law_number) := ⟨rfl, rfl, rfl, by decide +kernel, rfl, by decide +kernel, by decide +kernel⟩
abbrev s_law_word : Stmt := topS 30
theorem sc_law_word : FnScope ["draw", "most", "lap"] ["draw", "most"] (defScope s_law_word) := ⟨rfl, rfl, rfl, by decide +kernel, rfl, by decide +kernel, by decide +kernel⟩
def bs_law_word_0 : Scope := { kind := .function, names := [(".0", .local), ("lap", .local), ("_law_number", .globalImplicit), ("draw", .free)], isGenerator := false, isCoroutine := false, more := [] }
theorem blk_law_word_0 : BlkOk ["draw", "most", "lap"] (defScope s_law_word) bs_law_word_0 [("lap", 2)] := ⟨rfl, by decide +kernel, by decide +kernel, by decide +kernel, by decide +kernel⟩
abbrev s_law_some_matrix : Stmt := topS 31
theorem sc_law_some_matrix : FnScope ["draw", "found", "item"] ["draw"] (defScope s_law_some_matrix) := ⟨rfl, rfl, rfl, by decide +kernel, rfl, by decide +kernel, by decide +kernel⟩
def bs_law_some_matrix_0 : Scope := { kind := .function, names := [(".0", .local), ("item", .local)], isGenerator := false, isCoroutine := false, more := [] }
theorem blk_law_some_matrix_0 : BlkOk ["draw", "found", "item"] (defScope s_law_some_matrix) bs_law_some_matrix_0 [("item", 2)] := ⟨rfl, by decide +kernel, by decide +kernel, by decide +kernel, by decide +kernel⟩
abbrev s_law_over : Stmt := topS 32
theorem sc_law_over : FnScope ["c", "d", "left", "right"] ["c", "d"] (defScope s_law_over) := ⟨rfl, rfl, rfl, by decide +kernel, rfl, by decide +kernel, by decide +kernel⟩
abbrev s_law_odd_matrix : Stmt := topS 33
theorem sc_law_odd_matrix : FnScope ["draw", "matrix", "a", "b", "c", "d", "some", "thing"] ["draw", "matrix"] (defScope s_law_odd_matrix) := ⟨rfl, rfl, rfl, by decide +kernel, rfl, by decide +kernel, by decide +kernel⟩
def bs_law_odd_matrix_0 : Scope := { kind := .function, names := [(".0", .local), ("thing", .local), ("_law_is_matrix", .globalImplicit)], isGenerator := false, isCoroutine := false, more := [] }
theorem blk_law_odd_matrix_0 : BlkOk ["draw", "matrix", "a", "b", "c", "d", "some", "thing"] (defScope s_law_odd_matrix) bs_law_odd_matrix_0 [("thing", 7)] := ⟨rfl, by decide +kernel, by decide +kernel, by decide +kernel, by decide +kernel⟩
abbrev s_law_root : Stmt := topS 34
theorem sc_law_root : FnScope ["matrix", "word", "left", "many", "here", "found"] ["matrix"] (defScope s_law_root) := ⟨rfl, rfl, rfl, by decide +kernel, rfl, by decide +kernel, by decide +kernel⟩
abbrev s_law_some_up : Stmt := topS 35
theorem sc_law_some_up : FnScope ["draw", "kind", "c", "d"] ["draw"] (defScope s_law_some_up) := ⟨rfl, rfl, rfl, by decide +kernel, rfl, by decide +kernel, by decide +kernel⟩
abbrev s_law_root_right : Stmt := topS 36
theorem sc_law_root_right : FnScope ["matrix", "found"] ["matrix"] (defScope s_law_root_right) := ⟨rfl, rfl, rfl, by decide +kernel, rfl, by decide +kernel, by decide +kernel⟩
abbrev s_law : Stmt := topS 37
theorem sc_law : FnScope ["script", "lap", "product", "total", "many", "works", "draw", "one", "other", "matrix", "item", "work"] ["script"] (defScope s_law) := ⟨rfl, rfl, rfl, by decide +kernel, rfl, by decide +kernel, by decide +kernel⟩
def bs_law_0 : Scope := { kind := .function, names := [(".0", .local), ("matrix", .local), ("_law_root_right", .globalImplicit)], isGenerator := false, isCoroutine := false, more := [] }
def bs_law_1 : Scope := { kind := .function, names := [("draw", .free), ("one", .free), ("root_of", .globalImplicit), ("_law_odd_matrix", .globalImplicit)], isGenerator := false, isCoroutine := false, more := [] }
def bs_law_2 : Scope := { kind := .function, names := [(".0", .local), ("item", .local)], isGenerator := false, isCoroutine := false, more := [] }
def bs_law_3 : Scope := { kind := .function, names := [("other", .free), ("root_of", .globalImplicit), ("tuple", .globalImplicit)], isGenerator := false, isCoroutine := false, more := [("fast", .str "item"), ("fast", .str "other")] }
def bs_law_4 : Scope := { kind := .function, names := [(".0", .local), ("work", .local), ("isinstance", .globalImplicit), ("_law_caught", .globalImplicit), ("BadMatrix", .globalImplicit)], isGenerator := false, isCoroutine := false, more := [] }
theorem blk_law_0 : BlkOk ["script", "lap", "product", "total", "many", "works", "draw", "one", "other", "matrix", "item", "work"] (defScope s_law) bs_law_0 [("matrix", 9)] := ⟨rfl, by decide +kernel, by decide +kernel, by decide +kernel, by decide +kernel⟩
theorem blk_law_2 : BlkOk ["script", "lap", "product", "total", "many", "works", "draw", "one", "other", "matrix", "item", "work"] bs_law_3 bs_law_2 [("item", 10)] := ⟨rfl, by decide +kernel, by decide +kernel, by decide +kernel, by decide +kernel⟩
theorem blk_law_4 : BlkOk ["script", "lap", "product", "total", "many", "works", "draw", "one", "other", "matrix", "item", "work"] (defScope s_law) bs_law_4 [("work", 11)] := ⟨rfl, by decide +kernel, by decide +kernel, by decide +kernel, by decide +kernel⟩
theorem lams_law_1 : LamX.LamS (defScope s_law) bs_law_1 := ⟨rfl, rfl, rfl, by decide +kernel, by decide +kernel⟩
theorem lams_law_3 : LamX.LamS (defScope s_law) bs_law_3 := ⟨rfl, rfl, rfl, by decide +kernel, by decide +kernel⟩
def sub_ (c k : Nat) : Bool := (if c < 2 then c else 0) == k || k == 0
structure Zf (R : RC) (mg : Str → Option Value) where
  a_is_number : Addr
  d_is_number : FuncData
  F_is_number : L2.Fun R.K "is_number" "is_number" s_is_number a_is_number d_is_number
  b_is_number : Binds R.K d_is_number ["thing"] []
  g_is_number : mg "is_number" = some (.ref a_is_number)
  a_are_numbers : Addr
  d_are_numbers : FuncData
  F_are_numbers : L2.Fun R.K "are_numbers" "are_numbers" s_are_numbers a_are_numbers d_are_numbers
  b_are_numbers : Binds R.K d_are_numbers ["thing", "many"] []
  g_are_numbers : mg "are_numbers" = some (.ref a_are_numbers)
  a_is_matrix : Addr
  d_is_matrix : FuncData
  F_is_matrix : L2.Fun R.K "is_matrix" "is_matrix" s_is_matrix a_is_matrix d_is_matrix
  b_is_matrix : Binds R.K d_is_matrix ["thing"] []
  g_is_matrix : mg "is_matrix" = some (.ref a_is_matrix)
  a_is_upright : Addr
  d_is_upright : FuncData
  F_is_upright : L2.Fun R.K "is_upright" "is_upright" s_is_upright a_is_upright d_is_upright
  b_is_upright : Binds R.K d_is_upright ["thing"] []
  g_is_upright : mg "is_upright" = some (.ref a_is_upright)
  a_need_upright : Addr
  d_need_upright : FuncData
  F_need_upright : L2.Fun R.K "need_upright" "need_upright" s_need_upright a_need_upright d_need_upright
  b_need_upright : Binds R.K d_need_upright ["thing"] []
  g_need_upright : mg "need_upright" = some (.ref a_need_upright)
  a_symbol : Addr
  d_symbol : FuncData
  F_symbol : L2.Fun R.K "symbol" "symbol" s_symbol a_symbol d_symbol
  b_symbol : Binds R.K d_symbol ["a", "n"] []
  g_symbol : mg "symbol" = some (.ref a_symbol)
  a_root_by : Addr
  d_root_by : FuncData
  F_root_by : L2.Fun R.K "root_by" "root_by" s_root_by a_root_by d_root_by
  b_root_by : Binds R.K d_root_by ["matrix"] []
  g_root_by : mg "root_by" = some (.ref a_root_by)
  a_root_of : Addr
  d_root_of : FuncData
  F_root_of : L2.Fun R.K "root_of" "root_of" s_root_of a_root_of d_root_of
  b_root_of : Binds R.K d_root_of ["matrix"] []
  g_root_of : mg "root_of" = some (.ref a_root_of)
  a_law_begun : Addr
  d_law_begun : FuncData
  F_law_begun : L2.Fun R.K "_law_begun" "_law_begun" s_law_begun a_law_begun d_law_begun
  b_law_begun : Binds R.K d_law_begun ["script"] []
  g_law_begun : mg "_law_begun" = some (.ref a_law_begun)
  a_law_blend : Addr
  d_law_blend : FuncData
  F_law_blend : L2.Fun R.K "_law_blend" "_law_blend" s_law_blend a_law_blend d_law_blend
  b_law_blend : Binds R.K d_law_blend ["draw"] []
  g_law_blend : mg "_law_blend" = some (.ref a_law_blend)
  a_law_take : Addr
  d_law_take : FuncData
  F_law_take : L2.Fun R.K "_law_take" "_law_take" s_law_take a_law_take d_law_take
  b_law_take : Binds R.K d_law_take ["draw", "size"] []
  g_law_take : mg "_law_take" = some (.ref a_law_take)
  a_law_pick : Addr
  d_law_pick : FuncData
  F_law_pick : L2.Fun R.K "_law_pick" "_law_pick" s_law_pick a_law_pick d_law_pick
  b_law_pick : Binds R.K d_law_pick ["draw", "some"] []
  g_law_pick : mg "_law_pick" = some (.ref a_law_pick)
  a_law_caught : Addr
  d_law_caught : FuncData
  F_law_caught : L2.Fun R.K "_law_caught" "_law_caught" s_law_caught a_law_caught d_law_caught
  b_law_caught : Binds R.K d_law_caught ["work"] []
  g_law_caught : mg "_law_caught" = some (.ref a_law_caught)
  a_law_is_number : Addr
  d_law_is_number : FuncData
  F_law_is_number : L2.Fun R.K "_law_is_number" "_law_is_number" s_law_is_number a_law_is_number d_law_is_number
  b_law_is_number : Binds R.K d_law_is_number ["thing"] []
  g_law_is_number : mg "_law_is_number" = some (.ref a_law_is_number)
  a_law_gcd : Addr
  d_law_gcd : FuncData
  F_law_gcd : L2.Fun R.K "_law_gcd" "_law_gcd" s_law_gcd a_law_gcd d_law_gcd
  b_law_gcd : Binds R.K d_law_gcd ["one", "other"] []
  g_law_gcd : mg "_law_gcd" = some (.ref a_law_gcd)
  a_law_euclid : Addr
  d_law_euclid : FuncData
  F_law_euclid : L2.Fun R.K "_law_euclid" "_law_euclid" s_law_euclid a_law_euclid d_law_euclid
  b_law_euclid : Binds R.K d_law_euclid ["one", "other"] []
  g_law_euclid : mg "_law_euclid" = some (.ref a_law_euclid)
  a_law_times : Addr
  d_law_times : FuncData
  F_law_times : L2.Fun R.K "_law_times" "_law_times" s_law_times a_law_times d_law_times
  b_law_times : Binds R.K d_law_times ["one", "other"] []
  g_law_times : mg "_law_times" = some (.ref a_law_times)
  a_law_undone : Addr
  d_law_undone : FuncData
  F_law_undone : L2.Fun R.K "_law_undone" "_law_undone" s_law_undone a_law_undone d_law_undone
  b_law_undone : Binds R.K d_law_undone ["matrix"] []
  g_law_undone : mg "_law_undone" = some (.ref a_law_undone)
  a_law_is_up : Addr
  d_law_is_up : FuncData
  F_law_is_up : L2.Fun R.K "_law_is_up" "_law_is_up" s_law_is_up a_law_is_up d_law_is_up
  b_law_is_up : Binds R.K d_law_is_up ["matrix"] []
  g_law_is_up : mg "_law_is_up" = some (.ref a_law_is_up)
  a_law_up : Addr
  d_law_up : FuncData
  F_law_up : L2.Fun R.K "_law_up" "_law_up" s_law_up a_law_up d_law_up
  b_law_up : Binds R.K d_law_up ["matrix"] []
  g_law_up : mg "_law_up" = some (.ref a_law_up)
  a_law_is_matrix : Addr
  d_law_is_matrix : FuncData
  F_law_is_matrix : L2.Fun R.K "_law_is_matrix" "_law_is_matrix" s_law_is_matrix a_law_is_matrix d_law_is_matrix
  b_law_is_matrix : Binds R.K d_law_is_matrix ["thing"] []
  g_law_is_matrix : mg "_law_is_matrix" = some (.ref a_law_is_matrix)
  a_law_word_matrix : Addr
  d_law_word_matrix : FuncData
  F_law_word_matrix : L2.Fun R.K "_law_word_matrix" "_law_word_matrix" s_law_word_matrix a_law_word_matrix d_law_word_matrix
  b_law_word_matrix : Binds R.K d_law_word_matrix ["word"] []
  g_law_word_matrix : mg "_law_word_matrix" = some (.ref a_law_word_matrix)
  a_law_number : Addr
  d_law_number : FuncData
  F_law_number : L2.Fun R.K "_law_number" "_law_number" s_law_number a_law_number d_law_number
  b_law_number : Binds R.K d_law_number ["draw"] []
  g_law_number : mg "_law_number" = some (.ref a_law_number)
  a_law_word : Addr
  d_law_word : FuncData
  F_law_word : L2.Fun R.K "_law_word" "_law_word" s_law_word a_law_word d_law_word
  b_law_word : Binds R.K d_law_word ["draw", "most"] []
  g_law_word : mg "_law_word" = some (.ref a_law_word)
  a_law_some_matrix : Addr
  d_law_some_matrix : FuncData
  F_law_some_matrix : L2.Fun R.K "_law_some_matrix" "_law_some_matrix" s_law_some_matrix a_law_some_matrix d_law_some_matrix
  b_law_some_matrix : Binds R.K d_law_some_matrix ["draw"] []
  g_law_some_matrix : mg "_law_some_matrix" = some (.ref a_law_some_matrix)
  a_law_over : Addr
  d_law_over : FuncData
  F_law_over : L2.Fun R.K "_law_over" "_law_over" s_law_over a_law_over d_law_over
  b_law_over : Binds R.K d_law_over ["c", "d"] []
  g_law_over : mg "_law_over" = some (.ref a_law_over)
  a_law_odd_matrix : Addr
  d_law_odd_matrix : FuncData
  F_law_odd_matrix : L2.Fun R.K "_law_odd_matrix" "_law_odd_matrix" s_law_odd_matrix a_law_odd_matrix d_law_odd_matrix
  b_law_odd_matrix : Binds R.K d_law_odd_matrix ["draw", "matrix"] []
  g_law_odd_matrix : mg "_law_odd_matrix" = some (.ref a_law_odd_matrix)
  a_law_root : Addr
  d_law_root : FuncData
  F_law_root : L2.Fun R.K "_law_root" "_law_root" s_law_root a_law_root d_law_root
  b_law_root : Binds R.K d_law_root ["matrix"] []
  g_law_root : mg "_law_root" = some (.ref a_law_root)
  a_law_some_up : Addr
  d_law_some_up : FuncData
  F_law_some_up : L2.Fun R.K "_law_some_up" "_law_some_up" s_law_some_up a_law_some_up d_law_some_up
  b_law_some_up : Binds R.K d_law_some_up ["draw"] []
  g_law_some_up : mg "_law_some_up" = some (.ref a_law_some_up)
  a_law_root_right : Addr
  d_law_root_right : FuncData
  F_law_root_right : L2.Fun R.K "_law_root_right" "_law_root_right" s_law_root_right a_law_root_right d_law_root_right
  b_law_root_right : Binds R.K d_law_root_right ["matrix"] []
  g_law_root_right : mg "_law_root_right" = some (.ref a_law_root_right)
  n_abs : mg "abs" = none
  n_all : mg "all" = none
  n_bool : mg "bool" = none
  n_int : mg "int" = none
  n_isinstance : mg "isinstance" = none
  n_len : mg "len" = none
  n_list : mg "list" = none
  n_min : mg "min" = none
  n_range : mg "range" = none
  n_tuple : mg "tuple" = none
  m_BadMatrix : mg "BadMatrix" = some (.ref (R.cl 1))
  k_BadMatrix : PySem.W.keepIn R.K (.ref (R.cl 1)) = true
  q_BadMatrix : PySem.W.excIn R.K (R.cl 1) exBm exNew = true
  s_BadMatrix : PySem.W.subIn R.K (.ref (R.cl 1)) (.type "BaseException") = some true
  t_BadMatrix : PySem.W.typeIn R.K (.ref (R.cl 1)) = some (.type "type")
  m_SeriesError : mg "SeriesError" = some (.ref (R.cl 0))
  k_SeriesError : PySem.W.keepIn R.K (.ref (R.cl 0)) = true
  q_SeriesError : PySem.W.excIn R.K (R.cl 0) exBm exNew = true
  s_SeriesError : PySem.W.subIn R.K (.ref (R.cl 0)) (.type "BaseException") = some true
  t_SeriesError : PySem.W.typeIn R.K (.ref (R.cl 0)) = some (.type "type")
  hX : ∀ c, PySem.W.exmOne R.K (.ref (R.cl c)) (.ref (R.cl 0)) = some true
  isx_BadMatrix : IsX R sub_ 1
section
variable {P : Program} {w : World} {mg : Str → Option Value} {base : Heap} {R : RC}
noncomputable def m_is_number : M Fl := dRet (dAndV (dOp1 (gIsi "int") (dNm 0)) (dNotV (dOp1 (gIsi "bool") (dNm 0))))
noncomputable def fn_is_number : Fn := runF 0 m_is_number
theorem ok_is_number (Z : Zf R mg) : FnOk P w R.K mg base (L2.CX P w) 1 Z.a_is_number Z.d_is_number ["thing"] (spD R 1 fn_is_number) :=
  fn_ok (m := m_is_number) (k := 0) Z.F_is_number sc_is_number rfl rfl fun cdv A outer s H E hr =>
    jss_one (js_ret (je_and (je_isi (by decide) (by rfl) Z.n_isinstance (by rfl) (je_nm 0) (by rfl) Z.n_int (by rfl)) (je_one (je_not (je_isi (by decide) (by rfl) Z.n_isinstance (by rfl) (je_nm 0) (by rfl) Z.n_bool (by rfl))))))
noncomputable def m_are_numbers : M Fl := dRet (dAndV (dOp1 (gIsi "tuple") (dNm 0)) (dAndV (dOp2 (gEq false) (dOp1 gLen (dNm 0)) (dNm 1)) (dOp1 gAll (dLc (dIt (dNm 0)) (fNm 2) (dYes) (dCall 1 fn_is_number [dNm 2]) [2]))))
noncomputable def fn_are_numbers : Fn := runF 1 m_are_numbers
theorem ok_are_numbers (Z : Zf R mg) : FnOk P w R.K mg base (L2.CX P w) 2 Z.a_are_numbers Z.d_are_numbers ["thing", "many"] (spD R 2 fn_are_numbers) :=
  fn_ok (m := m_are_numbers) (k := 1) Z.F_are_numbers sc_are_numbers rfl rfl fun cdv A outer s H E hr =>
    jss_one (js_ret (je_and (je_isi (by decide) (by rfl) Z.n_isinstance (by rfl) (je_nm 0) (by rfl) Z.n_tuple (by rfl)) (je_and (je_eq hr.units (je_b1 cr_lenD op1_len (by rfl) Z.n_len (by rfl) (je_nm 0)) (je_nm 1)) (je_one (je_b1 (cr_all rfl) op1_all (by rfl) Z.n_all (by rfl) (je_lc rfl sc_are_numbers.nd (ji_seq (je_nm 0)) (own := [("item", 2)]) (blk_are_numbers_0) (gc_nm 2) (fun _ _ _ _ _ => pg_name (i := 2) sc_are_numbers.nd rfl (by first | exact .inl rfl | exact .inr rfl) (by first | exact .inr rfl | exact .inl rfl)) (fun _ _ _ _ _ => jts_nil) (fun _ _ _ _ _ => je_call (ok_is_number Z) L2.takes0 (hr.mono (by omega)) (by rfl) Z.g_is_number Z.F_is_number.kp Z.b_is_number (ja_cons (je_nm 2) (ja_nil)))))))))
noncomputable def m_is_matrix : M Fl := dRet (dAndV (dCall 2 fn_are_numbers [dNm 0, dC (.int 4)]) (dOp2 (gEq false) (dOp2 fSub (dOp2 fMul (dOp2 gSub2 (dNm 0) (dC (.int 0))) (dOp2 gSub2 (dNm 0) (dC (.int 3)))) (dOp2 fMul (dOp2 gSub2 (dNm 0) (dC (.int 1))) (dOp2 gSub2 (dNm 0) (dC (.int 2))))) (dC (.int 1))))
noncomputable def fn_is_matrix : Fn := runF 0 m_is_matrix
theorem ok_is_matrix (Z : Zf R mg) : FnOk P w R.K mg base (L2.CX P w) 3 Z.a_is_matrix Z.d_is_matrix ["thing"] (spD R 1 fn_is_matrix) :=
  fn_ok (m := m_is_matrix) (k := 2) Z.F_is_matrix sc_is_matrix rfl rfl fun cdv A outer s H E hr =>
    jss_one (js_ret (je_and (je_call (ok_are_numbers Z) tkF (hr.mono (by omega)) (by rfl) Z.g_are_numbers Z.F_are_numbers.kp Z.b_are_numbers (ja_cons (je_nm 0) (ja_cons (je_int) (ja_nil)))) (je_one (je_eq hr.units (je_sub (je_mul (je_subA (rmu1 hr) (je_nm 0) (je_int) (fun _ _ => rfl)) (je_subA (rmu1 hr) (je_nm 0) (je_int) (fun _ _ => rfl))) (je_mul (je_subA (rmu1 hr) (je_nm 0) (je_int) (fun _ _ => rfl)) (je_subA (rmu1 hr) (je_nm 0) (je_int) (fun _ _ => rfl)))) (je_int)))))
noncomputable def m_is_upright : M Fl := dRet (dAndV (dCall 1 fn_is_matrix [dNm 0]) (dOrV (dOp2 fGt (dOp2 gSub2 (dNm 0) (dC (.int 2))) (dC (.int 0))) (dAndV (dOp2 (gEq false) (dOp2 gSub2 (dNm 0) (dC (.int 2))) (dC (.int 0))) (dOp2 (gEq false) (dOp2 gSub2 (dNm 0) (dC (.int 3))) (dC (.int 1))))))
noncomputable def fn_is_upright : Fn := runF 0 m_is_upright
theorem ok_is_upright (Z : Zf R mg) : FnOk P w R.K mg base (L2.CX P w) 4 Z.a_is_upright Z.d_is_upright ["thing"] (spD R 1 fn_is_upright) :=
  fn_ok (m := m_is_upright) (k := 3) Z.F_is_upright sc_is_upright rfl rfl fun cdv A outer s H E hr =>
    jss_one (js_ret (je_and (je_call (ok_is_matrix Z) tkF (hr.mono (by omega)) (by rfl) Z.g_is_matrix Z.F_is_matrix.kp Z.b_is_matrix (ja_cons (je_nm 0) (ja_nil))) (je_one (je_or (je_gt (je_subA (rmu1 hr) (je_nm 0) (je_int) (fun _ _ => rfl)) (je_int)) (je_one (je_and (je_eq hr.units (je_subA (rmu1 hr) (je_nm 0) (je_int) (fun _ _ => rfl)) (je_int)) (je_one (je_eq hr.units (je_subA (rmu1 hr) (je_nm 0) (je_int) (fun _ _ => rfl)) (je_int)))))))))
noncomputable def m_need_upright : M Fl := dIf (dNot (dTru (dCall 1 fn_is_upright [dNm 0])))
    (dRaise 1)
    (dSkip)
noncomputable def fn_need_upright : Fn := runF 0 m_need_upright
theorem ok_need_upright (Z : Zf R mg) : FnOk P w R.K mg base (L2.CX P w) 5 Z.a_need_upright Z.d_need_upright ["thing"] (spD R 1 fn_need_upright) :=
  fn_ok (m := m_need_upright) (k := 4) Z.F_need_upright sc_need_upright rfl rfl fun cdv A outer s H E hr =>
    jss_one (js_if (jt_not (jt_tru (je_call (ok_is_upright Z) tkF (hr.mono (by omega)) (by rfl) Z.g_is_upright Z.F_is_upright.kp Z.b_is_upright (ja_cons (je_nm 0) (ja_nil)))))
    (jss_one (js_raise rfl tkF exBase Z.q_BadMatrix Z.m_BadMatrix Z.k_BadMatrix Z.s_BadMatrix Z.t_BadMatrix (by rfl)))
    (jss_nil))
noncomputable def m_symbol : M Fl := dSeq (dPar3 2 3 4 (dC (.int 1)) (dOp2 fMod (dNm 0) (dNm 1)) (dNm 1))
    (dSeq (dWh (dBl (dOp2 (gEq true) (dNm 3) (dC (.int 0))))
    (dSeq (dWh (dBl (dOp2 (gEq false) (dOp2 fMod (dNm 3) (dC (.int 2))) (dC (.int 0))))
    (dSeq (dAsg 3 (dOp2 fDiv (dNm 3) (dC (.int 2))))
    (dIf (dBl (dOp2 (gInA false) (dOp2 fMod (dNm 4) (dC (.int 8))) (dTup [dC (.int 3), dC (.int 5)])))
    (dAsg 2 (dOp2 fSub (dC (.int 0)) (dNm 2)))
    (dSkip))))
    (dSeq (dPar2 3 4 (dNm 4) (dNm 3))
    (dSeq (dIf (dAnd (dBl (dOp2 (gEq false) (dOp2 fMod (dNm 3) (dC (.int 4))) (dC (.int 3)))) (dBl (dOp2 (gEq false) (dOp2 fMod (dNm 4) (dC (.int 4))) (dC (.int 3)))))
    (dAsg 2 (dOp2 fSub (dC (.int 0)) (dNm 2)))
    (dSkip))
    (dAsg 3 (dOp2 fMod (dNm 3) (dNm 4)))))))
    (dRet (dIf (dBl (dOp2 (gEq false) (dNm 4) (dC (.int 1)))) (dNm 2) (dC (.int 0)))))
noncomputable def fn_symbol : Fn := runF 3 m_symbol
theorem ok_symbol (Z : Zf R mg) : FnOk P w R.K mg base (L2.CX P w) 1 Z.a_symbol Z.d_symbol ["a", "n"] (spD R 2 fn_symbol) :=
  fn_ok (m := m_symbol) (k := 0) Z.F_symbol sc_symbol rfl rfl fun cdv A outer s H E hr =>
    jss_cons (js_par3 rfl sc_symbol.nd rfl rfl rfl (by decide) (by decide) (by decide) rfl rfl rfl (ja_cons (je_int) (ja_cons (je_mod (je_nm 0) (je_nm 1)) (ja_cons (je_nm 1) (ja_nil)))) (by first | exact .inl (by decide) | exact .inr rfl) (by first | exact .inl (by decide) | exact .inr rfl) (by first | exact .inl (by decide) | exact .inr rfl) (by rfl))
    (jss_cons (js_wh pwF (jt_ne hr.units (je_nm 3) (je_int))
    (jss_cons (js_wh pwF (jt_eq hr.units (je_mod (je_nm 3) (je_int)) (je_int))
    (jss_cons (js_asg 3 sc_symbol.nd (je_div (je_nm 3) (je_int)))
    (jss_one (js_if (jt_inA (rmu65 hr) (je_mod (je_nm 4) (je_int)) (je_tup (ja_cons (je_int) (ja_cons (je_int) (ja_nil)))))
    (jss_one (js_asg 2 sc_symbol.nd (je_sub (je_int) (je_nm 2))))
    (jss_nil)))))
    (jss_cons (js_par2 rfl sc_symbol.nd rfl rfl (by decide) rfl rfl (ja_cons (je_nm 4) (ja_cons (je_nm 3) (ja_nil))) (by first | exact .inl (by decide) | exact .inr rfl) (by first | exact .inl (by decide) | exact .inr rfl) (by rfl))
    (jss_cons (js_if (PW.pt (jw_and (jt_eq hr.units (je_mod (je_nm 3) (je_int)) (je_int)) (jw_and1 (jt_eq hr.units (je_mod (je_nm 4) (je_int)) (je_int)))))
    (jss_one (js_asg 2 sc_symbol.nd (je_sub (je_int) (je_nm 2))))
    (jss_nil))
    (jss_one (js_asg 3 sc_symbol.nd (je_mod (je_nm 3) (je_nm 4))))))))
    (jss_one (js_ret (je_if (jt_eq hr.units (je_nm 4) (je_int)) (je_nm 2) (je_int)))))
noncomputable def m_root_by : M Fl := dSeq (dAsgG (gT 4 (gsC (gN 1) (gsC (gN 2) (gsC (gN 3) (gsC (gN 4) (gsN)))))) (dNm 0))
    (dSeq (dIf (dBl (dOp2 (gEq false) (dNm 3) (dC (.int 0))))
    (dRet (dOp2 fMod (dNm 2) (dC (.int 24))))
    (dSkip))
    (dSeq (dAsg 5 (dOp2 fSub (dOp2 fMul (dOp2 fAdd (dNm 1) (dNm 4)) (dNm 3)) (dOp2 fMul (dOp2 fMul (dNm 2) (dNm 4)) (dOp2 fSub (dOp2 fMul (dNm 3) (dNm 3)) (dC (.int 1))))))
    (dSeq (dIf (dBl (dOp2 (gEq false) (dOp2 fMod (dNm 3) (dC (.int 2))) (dC (.int 1))))
    (dRet (dOp2 fMod (dOp2 fAdd (dOp2 fSub (dNm 5) (dOp2 fMul (dC (.int 3)) (dNm 3))) (dOp2 fMul (dC (.int 12)) (dOp1 gInt (dOp2 (gEq false) (dCall 2 fn_symbol [dNm 4, dNm 3]) (dOp1 fNeg (dC (.int 1))))))) (dC (.int 24))))
    (dSkip))
    (dRet (dOp2 fMod (dOp2 fAdd (dOp2 fSub (dOp2 fSub (dOp2 fAdd (dNm 5) (dOp2 fMul (dC (.int 3)) (dNm 4))) (dC (.int 3))) (dOp2 fMul (dOp2 fMul (dC (.int 3)) (dNm 3)) (dNm 4))) (dOp2 fMul (dC (.int 12)) (dOp1 gInt (dOp2 (gEq false) (dCall 2 fn_symbol [dNm 3, dOp1 gAbs (dNm 4)]) (dOp1 fNeg (dC (.int 1))))))) (dC (.int 24)))))))
noncomputable def fn_root_by : Fn := runF 5 m_root_by
theorem ok_root_by (Z : Zf R mg) : FnOk P w R.K mg base (L2.CX P w) 2 Z.a_root_by Z.d_root_by ["matrix"] (spD R 1 fn_root_by) :=
  fn_ok (m := m_root_by) (k := 1) Z.F_root_by sc_root_by rfl rfl fun cdv A outer s H E hr =>
    jss_cons (js_asgT (je_nm 0) (jg_tup rfl (jgs_cons (jg_nm 1 sc_root_by.nd) (jgs_cons (jg_nm 2 sc_root_by.nd) (jgs_cons (jg_nm 3 sc_root_by.nd) (jgs_cons (jg_nm 4 sc_root_by.nd) (jgs_nil)))))))
    (jss_cons (js_if (jt_eq hr.units (je_nm 3) (je_int))
    (jss_one (js_ret (je_mod (je_nm 2) (je_int))))
    (jss_nil))
    (jss_cons (js_asg 5 sc_root_by.nd (je_sub (je_mul (je_add (je_nm 1) (je_nm 4)) (je_nm 3)) (je_mul (je_mul (je_nm 2) (je_nm 4)) (je_sub (je_mul (je_nm 3) (je_nm 3)) (je_int)))))
    (jss_cons (js_if (jt_eq hr.units (je_mod (je_nm 3) (je_int)) (je_int))
    (jss_one (js_ret (je_mod (je_add (je_sub (je_nm 5) (je_mul (je_int) (je_nm 3))) (je_mul (je_int) (je_t1 call_int1 op1_int (by rfl) Z.n_int (by rfl) (je_eq hr.units (je_call (ok_symbol Z) tkF (hr.mono (by omega)) (by rfl) Z.g_symbol Z.F_symbol.kp Z.b_symbol (ja_cons (je_nm 4) (ja_cons (je_nm 3) (ja_nil)))) (je_neg (je_int)))))) (je_int))))
    (jss_nil))
    (jss_one (js_ret (je_mod (je_add (je_sub (je_sub (je_add (je_nm 5) (je_mul (je_int) (je_nm 4))) (je_int)) (je_mul (je_mul (je_int) (je_nm 3)) (je_nm 4))) (je_mul (je_int) (je_t1 call_int1 op1_int (by rfl) Z.n_int (by rfl) (je_eq hr.units (je_call (ok_symbol Z) tkF (hr.mono (by omega)) (by rfl) Z.g_symbol Z.F_symbol.kp Z.b_symbol (ja_cons (je_nm 3) (ja_cons (je_b1 call_abs op1_abs (by rfl) Z.n_abs (by rfl) (je_nm 4)) (ja_nil)))) (je_neg (je_int)))))) (je_int)))))))
noncomputable def m_root_of : M Fl := dSeq (dDrop (dCall 1 fn_need_upright [dNm 0]))
    (dRet (dCall 1 fn_root_by [dNm 0]))
noncomputable def fn_root_of : Fn := runF 0 m_root_of
theorem ok_root_of (Z : Zf R mg) : FnOk P w R.K mg base (L2.CX P w) 6 Z.a_root_of Z.d_root_of ["matrix"] (spD R 1 fn_root_of) :=
  fn_ok (m := m_root_of) (k := 5) Z.F_root_of sc_root_of rfl rfl fun cdv A outer s H E hr =>
    jss_cons (js_drop (je_call (ok_need_upright Z) tkF (hr.mono (by omega)) (by rfl) Z.g_need_upright Z.F_need_upright.kp Z.b_need_upright (ja_cons (je_nm 0) (ja_nil))))
    (jss_one (js_ret (je_call (ok_root_by Z) tkF (hr.mono (by omega)) (by rfl) Z.g_root_by Z.F_root_by.kp Z.b_root_by (ja_cons (je_nm 0) (ja_nil)))))
def m_law_begun : M Fl := dAsg 1 (dLc (dIt (dNm 0)) (fNm 2) (dBl (dOp2 fGe (dOp1 gAbs (dNm 2)) (dOp2 fPow (dC (.int 10)) (dC (.int 18))))) (dOp2 fSub (dOp1 gAbs (dNm 2)) (dOp2 fPow (dC (.int 10)) (dC (.int 18)))) [2])
def c_law_begun : M Opd := dLc (dIt (dNm 0)) (fNm 2) (dYes) (dOp1 gAbs (dNm 2)) [2]
def mk_law_begun : List Int → Option Drw := mkBg 2 1 m_law_begun c_law_begun
theorem ok_law_begun (Z : Zf R mg) : FnOk P w R.K mg base (L2.CX P w) 1 Z.a_law_begun Z.d_law_begun ["script"] (spBg R mk_law_begun) :=
  fn_begun (m1 := m_law_begun) (mC := c_law_begun) (i := 1) (k := 0) Z.F_law_begun sc_law_begun rfl rfl fun cdv A outer s H E hr =>
    pss_cons (js_setLc rfl sc_law_begun.nd rfl rfl rfl (ji_seq (je_nm 0)) (own := [("cell", 2)]) (blk_law_begun_0) (gc_nm 2) (fun _ _ _ _ _ => pg_name (i := 2) sc_law_begun.nd rfl (by first | exact .inl rfl | exact .inr rfl) (by first | exact .inr rfl | exact .inl rfl)) (fun _ _ _ _ _ => jts_one (jt_ge (je_b1 call_abs op1_abs (by rfl) Z.n_abs (by rfl) (je_nm 2)) (je_pow (je_int) (je_int)))) (fun _ _ _ _ _ => je_sub (je_b1 call_abs op1_abs (by rfl) Z.n_abs (by rfl) (je_nm 2)) (je_pow (je_int) (je_int))))
    (pss_one (ps_ret (pe_drw (W := W0) (pv 1) (je_lc rfl sc_law_begun.nd (ji_seq (je_nm 0)) (own := [("cell", 2)]) (blk_law_begun_1) (gc_nm 2) (fun _ _ _ _ _ => pg_name (i := 2) sc_law_begun.nd rfl (by first | exact .inl rfl | exact .inr rfl) (by first | exact .inr rfl | exact .inl rfl)) (fun _ _ _ _ _ => jts_nil) (fun _ _ _ _ _ => je_b1 call_abs op1_abs (by rfl) Z.n_abs (by rfl) (je_nm 2))))))
noncomputable def m_law_blend : M Fl := dSeq (dPar2 1 2 (dOp2 fAdd (dTurn 0) (dC (.int 1))) (dC (.int 0)))
    (dSeq (dSetTurn 0 (dNm 1))
    (dSeq (dFor (dIt (dLst [dC (.int 2147483629), dC (.int 2147483587), dC (.int 2147483579)])) (gN 3)
    (dSeq (dAsg 4 (dOp2 fMod (dOp1 gInt (dOp2 fAdd (dOp2 fMul (dNm 1) (dC (.int 69621))) (dOp2 fDiv (dNm 3) (dC (.int 7))))) (dNm 3)))
    (dSeq (dFor (dIt (dCells 0)) (gN 5)
    (dAsg 4 (dOp2 fMod (dOp1 gInt (dOp2 fAdd (dOp2 fAdd (dOp2 fMul (dNm 4) (dC (.int 48271))) (dOp1 gInt (dNm 5))) (dC (.int 1)))) (dNm 3))))
    (dAsg 2 (dOp2 fAdd (dOp2 fMul (dNm 2) (dC (.int 2147483647))) (dOp2 fMod (dOp1 gInt (dOp2 fPow (dNm 4) (dC (.int 5)))) (dNm 3)))))))
    (dRet (dNm 2))))
noncomputable def fn_law_blend : Fn := runI 5 m_law_blend
theorem ok_law_blend (Z : Zf R mg) : FnOk P w R.K mg base (L2.CX P w) 1 Z.a_law_blend Z.d_law_blend ["draw"] (spD R 1 fn_law_blend) :=
  fn_okI (m := m_law_blend) (k := 0) Z.F_law_blend sc_law_blend rfl rfl fun cdv A outer s H E v hr =>
    jss_cons (js_par2 rfl sc_law_blend.nd rfl rfl (by decide) rfl rfl (ja_cons (je_add (je_turn (rmu1 hr) (pv 0) (by intro _ _; rfl)) (je_int)) (ja_cons (je_int) (ja_nil))) (by first | exact .inl (by decide) | exact .inr rfl) (by first | exact .inl (by decide) | exact .inr rfl) (by rfl))
    (jss_cons (js_setTurn (rmu1 hr) (pv 0) (je_nm 1) (by rfl))
    (jss_cons (js_for pwF rfl (ji_seq (je_lst (ja_cons (je_int) (ja_cons (je_int) (ja_cons (je_int) (ja_nil)))))) (jg_nm 3 sc_law_blend.nd)
    (jss_cons (js_asg 4 sc_law_blend.nd (je_mod (je_t1 call_int1 op1_int (by rfl) Z.n_int (by rfl) (je_add (je_mul (je_nm 1) (je_int)) (je_div (je_nm 3) (je_int)))) (je_nm 3)))
    (jss_cons (js_for pwF rfl (ji_seq (je_cells (rmu1 hr) (pv 0) (by intro _ _; rfl))) (jg_nm 5 sc_law_blend.nd)
    (jss_one (js_asg 4 sc_law_blend.nd (je_mod (je_t1 call_int1 op1_int (by rfl) Z.n_int (by rfl) (je_add (je_add (je_mul (je_nm 4) (je_int)) (je_t1 call_int1 op1_int (by rfl) Z.n_int (by rfl) (je_nm 5))) (je_int))) (je_nm 3)))))
    (jss_one (js_asg 2 sc_law_blend.nd (je_add (je_mul (je_nm 2) (je_int)) (je_mod (je_t1 call_int1 op1_int (by rfl) Z.n_int (by rfl) (je_pow (je_nm 4) (je_int))) (je_nm 3))))))))
    (jss_one (js_ret (je_nm 2)))))
noncomputable def m_law_take : M Fl := dSeq (dWh (dAnd (dBl (dOp2 (gEq false) (dRest 0) (dC (.int 0)))) (dLargeNe 0))
    (dPopLarge 0))
    (dSeq (dIf (dBl (dOp2 (gEq false) (dRest 0) (dC (.int 0))))
    (dSetRest 0 (dCallIo 1 0 fn_law_blend []))
    (dSkip))
    (dSeq (dAsg 2 (dOp2 fMod (dOp1 gInt (dRest 0)) (dNm 1)))
    (dSeq (dSetRest 0 (dOp2 fDiv (dOp1 gInt (dRest 0)) (dNm 1)))
    (dRet (dNm 2)))))
noncomputable def fn_law_take : Fn := runI 1 m_law_take
theorem ok_law_take (Z : Zf R mg) : FnOk P w R.K mg base (L2.CX P w) 2 Z.a_law_take Z.d_law_take ["draw", "size"] (spD R 2 fn_law_take) :=
  fn_okI (m := m_law_take) (k := 1) Z.F_law_take sc_law_take rfl rfl fun cdv A outer s H E v hr =>
    jss_cons (js_wh pwF (PW.pt (jw_and (jt_eq hr.units (je_rest (rmu1 hr) (pv 0) (by intro _ _; rfl)) (je_int)) (jw_and1 (jt_largeNe (rmu1 hr) hr.units (pv 0) (by intro _ _; rfl)))))
    (jss_one (js_popLarge (rmu1 hr) (pv 0) (pv 0) (by intro _ _; rfl) (fun to t h1 h2 => pe_bm PySem.F.plainAttrs_list PySem.F.slot_list_pop PySem.F.type_list_pop (mt_popAt) h1 h2))))
    (jss_cons (js_if (jt_eq hr.units (je_rest (rmu1 hr) (pv 0) (by intro _ _; rfl)) (je_int))
    (jss_one (js_setRest (rmu1 hr) (pv 0) (je_callIo (ok_law_blend Z) tkF (hr.mono (by omega)) (by rfl) Z.g_law_blend Z.F_law_blend.kp Z.b_law_blend (pv 0) (ja_nil)) (by rfl)))
    (jss_nil))
    (jss_cons (js_asg 2 sc_law_take.nd (je_mod (je_t1 call_int1 op1_int (by rfl) Z.n_int (by rfl) (je_rest (rmu1 hr) (pv 0) (by intro _ _; rfl))) (je_nm 1)))
    (jss_cons (js_setRest (rmu1 hr) (pv 0) (je_div (je_t1 call_int1 op1_int (by rfl) Z.n_int (by rfl) (je_rest (rmu1 hr) (pv 0) (by intro _ _; rfl))) (je_nm 1)) (by rfl))
    (jss_one (js_ret (je_nm 2))))))
noncomputable def m_law_pick : M Fl := dRet (dOp2 gSub2 (dNm 1) (dCallIo 2 0 fn_law_take [dOp1 gLen (dNm 1)]))
noncomputable def fn_law_pick : Fn := runI 0 m_law_pick
theorem ok_law_pick (Z : Zf R mg) : FnOk P w R.K mg base (L2.CX P w) 3 Z.a_law_pick Z.d_law_pick ["draw", "some"] (spD R 2 fn_law_pick) :=
  fn_okI (m := m_law_pick) (k := 2) Z.F_law_pick sc_law_pick rfl rfl fun cdv A outer s H E v hr =>
    jss_one (js_ret (je_subA (rmu1 hr) (je_nm 1) (je_callIo (ok_law_take Z) tkF (hr.mono (by omega)) (by rfl) Z.g_law_take Z.F_law_take.kp Z.b_law_take (pv 0) (ja_cons (je_b1 cr_lenD op1_len (by rfl) Z.n_len (by rfl) (je_nm 1)) (ja_nil))) (fun _ _ => rfl)))
noncomputable def m_law_is_number : M Fl := dRet (dAndV (dOp1 (gIsi "int") (dNm 0)) (dNotV (dOp1 (gIsi "bool") (dNm 0))))
noncomputable def fn_law_is_number : Fn := runF 0 m_law_is_number
theorem ok_law_is_number (Z : Zf R mg) : FnOk P w R.K mg base (L2.CX P w) 1 Z.a_law_is_number Z.d_law_is_number ["thing"] (spD R 1 fn_law_is_number) :=
  fn_ok (m := m_law_is_number) (k := 0) Z.F_law_is_number sc_law_is_number rfl rfl fun cdv A outer s H E hr =>
    jss_one (js_ret (je_and (je_isi (by decide) (by rfl) Z.n_isinstance (by rfl) (je_nm 0) (by rfl) Z.n_int (by rfl)) (je_one (je_not (je_isi (by decide) (by rfl) Z.n_isinstance (by rfl) (je_nm 0) (by rfl) Z.n_bool (by rfl))))))
noncomputable def m_law_gcd : M Fl := dSeq (dPar2 2 3 (dOp1 gAbs (dNm 0)) (dOp1 gAbs (dNm 1)))
    (dSeq (dWh (dBl (dOp2 (gEq true) (dNm 3) (dC (.int 0))))
    (dPar2 2 3 (dNm 3) (dOp2 fMod (dOp1 gInt (dNm 2)) (dNm 3))))
    (dRet (dNm 2)))
noncomputable def fn_law_gcd : Fn := runF 2 m_law_gcd
theorem ok_law_gcd (Z : Zf R mg) : FnOk P w R.K mg base (L2.CX P w) 1 Z.a_law_gcd Z.d_law_gcd ["one", "other"] (spD R 2 fn_law_gcd) :=
  fn_ok (m := m_law_gcd) (k := 0) Z.F_law_gcd sc_law_gcd rfl rfl fun cdv A outer s H E hr =>
    jss_cons (js_par2 rfl sc_law_gcd.nd rfl rfl (by decide) rfl rfl (ja_cons (je_b1 call_abs op1_abs (by rfl) Z.n_abs (by rfl) (je_nm 0)) (ja_cons (je_b1 call_abs op1_abs (by rfl) Z.n_abs (by rfl) (je_nm 1)) (ja_nil))) (by first | exact .inl (by decide) | exact .inr rfl) (by first | exact .inl (by decide) | exact .inr rfl) (by rfl))
    (jss_cons (js_wh pwF (jt_ne hr.units (je_nm 3) (je_int))
    (jss_one (js_par2 rfl sc_law_gcd.nd rfl rfl (by decide) rfl rfl (ja_cons (je_nm 3) (ja_cons (je_mod (je_t1 call_int1 op1_int (by rfl) Z.n_int (by rfl) (je_nm 2)) (je_nm 3)) (ja_nil))) (by first | exact .inl (by decide) | exact .inr rfl) (by first | exact .inl (by decide) | exact .inr rfl) (by rfl))))
    (jss_one (js_ret (je_nm 2))))
noncomputable def m_law_euclid : M Fl := dSeq (dAsgG (gT 6 (gsC (gN 2) (gsC (gN 3) (gsC (gN 4) (gsC (gN 5) (gsC (gN 6) (gsC (gN 7) (gsN)))))))) (dTup [dNm 0, dNm 1, dC (.int 1), dC (.int 0), dC (.int 0), dC (.int 1)]))
    (dSeq (dWh (dBl (dOp2 (gEq true) (dNm 3) (dC (.int 0))))
    (dSeq (dAsg 8 (dOp2 fDiv (dNm 2) (dNm 3)))
    (dSeq (dPar2 2 3 (dNm 3) (dOp2 fSub (dNm 2) (dOp2 fMul (dNm 8) (dNm 3))))
    (dSeq (dPar2 4 5 (dNm 5) (dOp2 fSub (dNm 4) (dOp2 fMul (dNm 8) (dNm 5))))
    (dPar2 6 7 (dNm 7) (dOp2 fSub (dNm 6) (dOp2 fMul (dNm 8) (dNm 7))))))))
    (dRet (dIf (dBl (dOp2 fGt (dNm 2) (dC (.int 0)))) (dTup [dNm 4, dNm 6]) (dTup [dOp2 fSub (dC (.int 0)) (dNm 4), dOp2 fSub (dC (.int 0)) (dNm 6)]))))
noncomputable def fn_law_euclid : Fn := runF 7 m_law_euclid
theorem ok_law_euclid (Z : Zf R mg) : FnOk P w R.K mg base (L2.CX P w) 1 Z.a_law_euclid Z.d_law_euclid ["one", "other"] (spD R 2 fn_law_euclid) :=
  fn_ok (m := m_law_euclid) (k := 0) Z.F_law_euclid sc_law_euclid rfl rfl fun cdv A outer s H E hr =>
    jss_cons (js_asgT (je_tup (ja_cons (je_nm 0) (ja_cons (je_nm 1) (ja_cons (je_int) (ja_cons (je_int) (ja_cons (je_int) (ja_cons (je_int) (ja_nil)))))))) (jg_tup rfl (jgs_cons (jg_nm 2 sc_law_euclid.nd) (jgs_cons (jg_nm 3 sc_law_euclid.nd) (jgs_cons (jg_nm 4 sc_law_euclid.nd) (jgs_cons (jg_nm 5 sc_law_euclid.nd) (jgs_cons (jg_nm 6 sc_law_euclid.nd) (jgs_cons (jg_nm 7 sc_law_euclid.nd) (jgs_nil)))))))))
    (jss_cons (js_wh pwF (jt_ne hr.units (je_nm 3) (je_int))
    (jss_cons (js_asg 8 sc_law_euclid.nd (je_div (je_nm 2) (je_nm 3)))
    (jss_cons (js_par2 rfl sc_law_euclid.nd rfl rfl (by decide) rfl rfl (ja_cons (je_nm 3) (ja_cons (je_sub (je_nm 2) (je_mul (je_nm 8) (je_nm 3))) (ja_nil))) (by first | exact .inl (by decide) | exact .inr rfl) (by first | exact .inl (by decide) | exact .inr rfl) (by rfl))
    (jss_cons (js_par2 rfl sc_law_euclid.nd rfl rfl (by decide) rfl rfl (ja_cons (je_nm 5) (ja_cons (je_sub (je_nm 4) (je_mul (je_nm 8) (je_nm 5))) (ja_nil))) (by first | exact .inl (by decide) | exact .inr rfl) (by first | exact .inl (by decide) | exact .inr rfl) (by rfl))
    (jss_one (js_par2 rfl sc_law_euclid.nd rfl rfl (by decide) rfl rfl (ja_cons (je_nm 7) (ja_cons (je_sub (je_nm 6) (je_mul (je_nm 8) (je_nm 7))) (ja_nil))) (by first | exact .inl (by decide) | exact .inr rfl) (by first | exact .inl (by decide) | exact .inr rfl) (by rfl)))))))
    (jss_one (js_ret (je_if (jt_gt (je_nm 2) (je_int)) (je_tup (ja_cons (je_nm 4) (ja_cons (je_nm 6) (ja_nil)))) (je_tup (ja_cons (je_sub (je_int) (je_nm 4)) (ja_cons (je_sub (je_int) (je_nm 6)) (ja_nil))))))))
noncomputable def m_law_times : M Fl := dSeq (dAsgG (gT 4 (gsC (gN 2) (gsC (gN 3) (gsC (gN 4) (gsC (gN 5) (gsN)))))) (dNm 0))
    (dSeq (dAsgG (gT 4 (gsC (gN 6) (gsC (gN 7) (gsC (gN 8) (gsC (gN 9) (gsN)))))) (dNm 1))
    (dRet (dTup [dOp2 fAdd (dOp2 fMul (dNm 2) (dNm 6)) (dOp2 fMul (dNm 3) (dNm 8)), dOp2 fAdd (dOp2 fMul (dNm 2) (dNm 7)) (dOp2 fMul (dNm 3) (dNm 9)), dOp2 fAdd (dOp2 fMul (dNm 4) (dNm 6)) (dOp2 fMul (dNm 5) (dNm 8)), dOp2 fAdd (dOp2 fMul (dNm 4) (dNm 7)) (dOp2 fMul (dNm 5) (dNm 9))])))
noncomputable def fn_law_times : Fn := runF 8 m_law_times
theorem ok_law_times (Z : Zf R mg) : FnOk P w R.K mg base (L2.CX P w) 1 Z.a_law_times Z.d_law_times ["one", "other"] (spD R 2 fn_law_times) :=
  fn_ok (m := m_law_times) (k := 0) Z.F_law_times sc_law_times rfl rfl fun cdv A outer s H E hr =>
    jss_cons (js_asgT (je_nm 0) (jg_tup rfl (jgs_cons (jg_nm 2 sc_law_times.nd) (jgs_cons (jg_nm 3 sc_law_times.nd) (jgs_cons (jg_nm 4 sc_law_times.nd) (jgs_cons (jg_nm 5 sc_law_times.nd) (jgs_nil)))))))
    (jss_cons (js_asgT (je_nm 1) (jg_tup rfl (jgs_cons (jg_nm 6 sc_law_times.nd) (jgs_cons (jg_nm 7 sc_law_times.nd) (jgs_cons (jg_nm 8 sc_law_times.nd) (jgs_cons (jg_nm 9 sc_law_times.nd) (jgs_nil)))))))
    (jss_one (js_ret (je_tup (ja_cons (je_add (je_mul (je_nm 2) (je_nm 6)) (je_mul (je_nm 3) (je_nm 8))) (ja_cons (je_add (je_mul (je_nm 2) (je_nm 7)) (je_mul (je_nm 3) (je_nm 9))) (ja_cons (je_add (je_mul (je_nm 4) (je_nm 6)) (je_mul (je_nm 5) (je_nm 8))) (ja_cons (je_add (je_mul (je_nm 4) (je_nm 7)) (je_mul (je_nm 5) (je_nm 9))) (ja_nil)))))))))
noncomputable def m_law_undone : M Fl := dRet (dTup [dOp2 gSub2 (dNm 0) (dC (.int 3)), dOp2 fSub (dC (.int 0)) (dOp2 gSub2 (dNm 0) (dC (.int 1))), dOp2 fSub (dC (.int 0)) (dOp2 gSub2 (dNm 0) (dC (.int 2))), dOp2 gSub2 (dNm 0) (dC (.int 0))])
noncomputable def fn_law_undone : Fn := runF 0 m_law_undone
theorem ok_law_undone (Z : Zf R mg) : FnOk P w R.K mg base (L2.CX P w) 1 Z.a_law_undone Z.d_law_undone ["matrix"] (spD R 1 fn_law_undone) :=
  fn_ok (m := m_law_undone) (k := 0) Z.F_law_undone sc_law_undone rfl rfl fun cdv A outer s H E hr =>
    jss_one (js_ret (je_tup (ja_cons (je_subA (rmu1 hr) (je_nm 0) (je_int) (fun _ _ => rfl)) (ja_cons (je_sub (je_int) (je_subA (rmu1 hr) (je_nm 0) (je_int) (fun _ _ => rfl))) (ja_cons (je_sub (je_int) (je_subA (rmu1 hr) (je_nm 0) (je_int) (fun _ _ => rfl))) (ja_cons (je_subA (rmu1 hr) (je_nm 0) (je_int) (fun _ _ => rfl)) (ja_nil)))))))
noncomputable def m_law_is_up : M Fl := dRet (dOrV (dOp2 fGt (dOp2 gSub2 (dNm 0) (dC (.int 2))) (dC (.int 0))) (dAndV (dOp2 (gEq false) (dOp2 gSub2 (dNm 0) (dC (.int 2))) (dC (.int 0))) (dOp2 (gEq false) (dOp2 gSub2 (dNm 0) (dC (.int 3))) (dC (.int 1)))))
noncomputable def fn_law_is_up : Fn := runF 0 m_law_is_up
theorem ok_law_is_up (Z : Zf R mg) : FnOk P w R.K mg base (L2.CX P w) 1 Z.a_law_is_up Z.d_law_is_up ["matrix"] (spD R 1 fn_law_is_up) :=
  fn_ok (m := m_law_is_up) (k := 0) Z.F_law_is_up sc_law_is_up rfl rfl fun cdv A outer s H E hr =>
    jss_one (js_ret (je_or (je_gt (je_subA (rmu1 hr) (je_nm 0) (je_int) (fun _ _ => rfl)) (je_int)) (je_one (je_and (je_eq hr.units (je_subA (rmu1 hr) (je_nm 0) (je_int) (fun _ _ => rfl)) (je_int)) (je_one (je_eq hr.units (je_subA (rmu1 hr) (je_nm 0) (je_int) (fun _ _ => rfl)) (je_int)))))))
noncomputable def m_law_up : M Fl := dRet (dIf (dTru (dCall 1 fn_law_is_up [dNm 0])) (dNm 0) (dOp1 gTuple (dLc (dIt (dNm 0)) (fNm 1) (dYes) (dOp2 fSub (dC (.int 0)) (dNm 1)) [1])))
noncomputable def fn_law_up : Fn := runF 1 m_law_up
theorem ok_law_up (Z : Zf R mg) : FnOk P w R.K mg base (L2.CX P w) 2 Z.a_law_up Z.d_law_up ["matrix"] (spD R 1 fn_law_up) :=
  fn_ok (m := m_law_up) (k := 1) Z.F_law_up sc_law_up rfl rfl fun cdv A outer s H E hr =>
    jss_one (js_ret (je_if (jt_tru (je_call (ok_law_is_up Z) tkF (hr.mono (by omega)) (by rfl) Z.g_law_is_up Z.F_law_is_up.kp Z.b_law_is_up (ja_cons (je_nm 0) (ja_nil)))) (je_nm 0) (je_t1 call_tuple_of op1_tuple (by rfl) Z.n_tuple (by rfl) (je_lc rfl sc_law_up.nd (ji_seq (je_nm 0)) (own := [("item", 1)]) (blk_law_up_0) (gc_nm 1) (fun _ _ _ _ _ => pg_name (i := 1) sc_law_up.nd rfl (by first | exact .inl rfl | exact .inr rfl) (by first | exact .inr rfl | exact .inl rfl)) (fun _ _ _ _ _ => jts_nil) (fun _ _ _ _ _ => je_sub (je_int) (je_nm 1))))))
noncomputable def m_law_is_matrix : M Fl := dSeq (dIf (dOr (dNot (dTru (dOp1 (gIsi "tuple") (dNm 0)))) (dBl (dOp2 (gEq true) (dOp1 gLen (dNm 0)) (dC (.int 4)))))
    (dRet (dC (.bl false)))
    (dSkip))
    (dSeq (dIf (dBl (dOp2 (gEq true) (dLc (dIt (dNm 0)) (fNm 1) (dNot (dTru (dCall 1 fn_law_is_number [dNm 1]))) (dC (.int 1)) [1]) (dLst [])))
    (dRet (dC (.bl false)))
    (dSkip))
    (dRet (dOp2 (gEq false) (dOp2 fSub (dOp2 fMul (dOp2 gSub2 (dNm 0) (dC (.int 0))) (dOp2 gSub2 (dNm 0) (dC (.int 3)))) (dOp2 fMul (dOp2 gSub2 (dNm 0) (dC (.int 1))) (dOp2 gSub2 (dNm 0) (dC (.int 2))))) (dC (.int 1)))))
noncomputable def fn_law_is_matrix : Fn := runF 1 m_law_is_matrix
theorem ok_law_is_matrix (Z : Zf R mg) : FnOk P w R.K mg base (L2.CX P w) 2 Z.a_law_is_matrix Z.d_law_is_matrix ["thing"] (spD R 1 fn_law_is_matrix) :=
  fn_ok (m := m_law_is_matrix) (k := 1) Z.F_law_is_matrix sc_law_is_matrix rfl rfl fun cdv A outer s H E hr =>
    jss_cons (js_if (PW.pt (jw_or (jt_not (jt_tru (je_isi (by decide) (by rfl) Z.n_isinstance (by rfl) (je_nm 0) (by rfl) Z.n_tuple (by rfl)))) (jw_or1 (jt_ne hr.units (je_b1 cr_lenD op1_len (by rfl) Z.n_len (by rfl) (je_nm 0)) (je_int)))))
    (jss_one (js_ret (je_bl)))
    (jss_nil))
    (jss_cons (js_if (jt_ne hr.units (je_lc rfl sc_law_is_matrix.nd (ji_seq (je_nm 0)) (own := [("item", 1)]) (blk_law_is_matrix_0) (gc_nm 1) (fun _ _ _ _ _ => pg_name (i := 1) sc_law_is_matrix.nd rfl (by first | exact .inl rfl | exact .inr rfl) (by first | exact .inr rfl | exact .inl rfl)) (fun _ _ _ _ _ => jts_one (jt_not (jt_tru (je_call (ok_law_is_number Z) L2.takes0 (hr.mono (by omega)) (by rfl) Z.g_law_is_number Z.F_law_is_number.kp Z.b_law_is_number (ja_cons (je_nm 1) (ja_nil)))))) (fun _ _ _ _ _ => je_int)) (je_lst (ja_nil)))
    (jss_one (js_ret (je_bl)))
    (jss_nil))
    (jss_one (js_ret (je_eq hr.units (je_sub (je_mul (je_subA (rmu1 hr) (je_nm 0) (je_int) (fun _ _ => rfl)) (je_subA (rmu1 hr) (je_nm 0) (je_int) (fun _ _ => rfl))) (je_mul (je_subA (rmu1 hr) (je_nm 0) (je_int) (fun _ _ => rfl)) (je_subA (rmu1 hr) (je_nm 0) (je_int) (fun _ _ => rfl)))) (je_int)))))
noncomputable def m_law_word_matrix : M Fl := dSeq (dAsgG (gT 4 (gsC (gN 1) (gsC (gN 2) (gsC (gN 3) (gsC (gN 4) (gsN)))))) (dTup [dC (.int 1), dOp2 gSub2 (dNm 0) (dC (.int 0)), dC (.int 0), dC (.int 1)]))
    (dSeq (dFor (dIt (dSl (dNm 0) (dPart (dC (.int 1))) (dNoPart))) (gN 5)
    (dAsgG (gT 4 (gsC (gN 1) (gsC (gN 2) (gsC (gN 3) (gsC (gN 4) (gsN)))))) (dTup [dNm 2, dOp2 fSub (dOp2 fMul (dNm 2) (dNm 5)) (dNm 1), dNm 4, dOp2 fSub (dOp2 fMul (dNm 4) (dNm 5)) (dNm 3)])))
    (dRet (dTup [dNm 1, dNm 2, dNm 3, dNm 4])))
noncomputable def fn_law_word_matrix : Fn := runF 5 m_law_word_matrix
theorem ok_law_word_matrix (Z : Zf R mg) : FnOk P w R.K mg base (L2.CX P w) 1 Z.a_law_word_matrix Z.d_law_word_matrix ["word"] (spD R 1 fn_law_word_matrix) :=
  fn_ok (m := m_law_word_matrix) (k := 0) Z.F_law_word_matrix sc_law_word_matrix rfl rfl fun cdv A outer s H E hr =>
    jss_cons (js_asgT (je_tup (ja_cons (je_int) (ja_cons (je_subA (rmu1 hr) (je_nm 0) (je_int) (fun _ _ => rfl)) (ja_cons (je_int) (ja_cons (je_int) (ja_nil)))))) (jg_tup rfl (jgs_cons (jg_nm 1 sc_law_word_matrix.nd) (jgs_cons (jg_nm 2 sc_law_word_matrix.nd) (jgs_cons (jg_nm 3 sc_law_word_matrix.nd) (jgs_cons (jg_nm 4 sc_law_word_matrix.nd) (jgs_nil)))))))
    (jss_cons (js_for pwF rfl (ji_seq (je_slice (je_nm 0) (jo_some (je_int)) (jo_none))) (jg_nm 5 sc_law_word_matrix.nd)
    (jss_one (js_asgT (je_tup (ja_cons (je_nm 2) (ja_cons (je_sub (je_mul (je_nm 2) (je_nm 5)) (je_nm 1)) (ja_cons (je_nm 4) (ja_cons (je_sub (je_mul (je_nm 4) (je_nm 5)) (je_nm 3)) (ja_nil)))))) (jg_tup rfl (jgs_cons (jg_nm 1 sc_law_word_matrix.nd) (jgs_cons (jg_nm 2 sc_law_word_matrix.nd) (jgs_cons (jg_nm 3 sc_law_word_matrix.nd) (jgs_cons (jg_nm 4 sc_law_word_matrix.nd) (jgs_nil)))))))))
    (jss_one (js_ret (je_tup (ja_cons (je_nm 1) (ja_cons (je_nm 2) (ja_cons (je_nm 3) (ja_cons (je_nm 4) (ja_nil)))))))))
noncomputable def m_law_number : M Fl := dSeq (dIf (dBl (dOp2 (gEq false) (dCallIo 2 0 fn_law_take [dC (.int 6)]) (dC (.int 0))))
    (dRet (dOp2 fMul (dCallIo 2 0 fn_law_pick [dLst [dC (.int 1), dOp1 fNeg (dC (.int 1))]]) (dCallIo 2 0 fn_law_take [dOp2 fPow (dC (.int 10)) (dC (.int 6))])))
    (dSkip))
    (dRet (dOp2 fSub (dCallIo 2 0 fn_law_take [dC (.int 19)]) (dC (.int 9))))
noncomputable def fn_law_number : Fn := runI 0 m_law_number
theorem ok_law_number (Z : Zf R mg) : FnOk P w R.K mg base (L2.CX P w) 4 Z.a_law_number Z.d_law_number ["draw"] (spD R 1 fn_law_number) :=
  fn_okI (m := m_law_number) (k := 3) Z.F_law_number sc_law_number rfl rfl fun cdv A outer s H E v hr =>
    jss_cons (js_if (jt_eq hr.units (je_callIo (ok_law_take Z) tkF (hr.mono (by omega)) (by rfl) Z.g_law_take Z.F_law_take.kp Z.b_law_take (pv 0) (ja_cons (je_int) (ja_nil))) (je_int))
    (jss_one (js_ret (je_mul (je_callIo (ok_law_pick Z) tkF (hr.mono (by omega)) (by rfl) Z.g_law_pick Z.F_law_pick.kp Z.b_law_pick (pv 0) (ja_cons (je_lst (ja_cons (je_int) (ja_cons (je_neg (je_int)) (ja_nil)))) (ja_nil))) (je_callIo (ok_law_take Z) tkF (hr.mono (by omega)) (by rfl) Z.g_law_take Z.F_law_take.kp Z.b_law_take (pv 0) (ja_cons (je_pow (je_int) (je_int)) (ja_nil))))))
    (jss_nil))
    (jss_one (js_ret (je_sub (je_callIo (ok_law_take Z) tkF (hr.mono (by omega)) (by rfl) Z.g_law_take Z.F_law_take.kp Z.b_law_take (pv 0) (ja_cons (je_int) (ja_nil))) (je_int))))
noncomputable def m_law_word : M Fl := dRet (dOp1 gTuple (dLc (dRng gRng1 [dOp2 fAdd (dC (.int 1)) (dCallIo 2 0 fn_law_take [dNm 1])]) (fNm 2) (dYes) (dCallIo 1 0 fn_law_number []) [2]))
noncomputable def fn_law_word : Fn := runI 1 m_law_word
theorem ok_law_word (Z : Zf R mg) : FnOk P w R.K mg base (L2.CX P w) 5 Z.a_law_word Z.d_law_word ["draw", "most"] (spD R 2 fn_law_word) :=
  fn_okI (m := m_law_word) (k := 4) Z.F_law_word sc_law_word rfl rfl fun cdv A outer s H E v hr =>
    jss_one (js_ret (je_t1 call_tuple_of op1_tuple (by rfl) Z.n_tuple (by rfl) (je_lc rfl sc_law_word.nd (ji_rng1 (by rfl) Z.n_range (ja_cons (je_add (je_int) (je_callIo (ok_law_take Z) tkF (hr.mono (by omega)) (by rfl) Z.g_law_take Z.F_law_take.kp Z.b_law_take (pv 0) (ja_cons (je_nm 1) (ja_nil)))) (ja_nil))) (own := [("lap", 2)]) (blk_law_word_0) (gc_nm 2) (fun _ _ _ _ _ => pg_name (i := 2) sc_law_word.nd rfl (by first | exact .inl rfl | exact .inr rfl) (by first | exact .inr rfl | exact .inl rfl)) (fun _ _ _ _ _ => jts_nil) (fun _ _ _ _ _ => je_callIo (ok_law_number Z) L2.takes0 (hr.mono (by omega)) (by rfl) Z.g_law_number Z.F_law_number.kp Z.b_law_number (pv 0) (ja_nil)))))
noncomputable def m_law_some_matrix : M Fl := dSeq (dAsg 1 (dCall 1 fn_law_word_matrix [dCallIo 2 0 fn_law_word [dC (.int 5)]]))
    (dRet (dIf (dBl (dOp2 fGt (dCallIo 2 0 fn_law_take [dC (.int 3)]) (dC (.int 0)))) (dNm 1) (dOp1 gTuple (dLc (dIt (dNm 1)) (fNm 2) (dYes) (dOp2 fSub (dC (.int 0)) (dNm 2)) [2]))))
noncomputable def fn_law_some_matrix : Fn := runI 2 m_law_some_matrix
theorem ok_law_some_matrix (Z : Zf R mg) : FnOk P w R.K mg base (L2.CX P w) 6 Z.a_law_some_matrix Z.d_law_some_matrix ["draw"] (spD R 1 fn_law_some_matrix) :=
  fn_okI (m := m_law_some_matrix) (k := 5) Z.F_law_some_matrix sc_law_some_matrix rfl rfl fun cdv A outer s H E v hr =>
    jss_cons (js_asg 1 sc_law_some_matrix.nd (je_call (ok_law_word_matrix Z) tkF (hr.mono (by omega)) (by rfl) Z.g_law_word_matrix Z.F_law_word_matrix.kp Z.b_law_word_matrix (ja_cons (je_callIo (ok_law_word Z) tkF (hr.mono (by omega)) (by rfl) Z.g_law_word Z.F_law_word.kp Z.b_law_word (pv 0) (ja_cons (je_int) (ja_nil))) (ja_nil))))
    (jss_one (js_ret (je_if (jt_gt (je_callIo (ok_law_take Z) tkF (hr.mono (by omega)) (by rfl) Z.g_law_take Z.F_law_take.kp Z.b_law_take (pv 0) (ja_cons (je_int) (ja_nil))) (je_int)) (je_nm 1) (je_t1 call_tuple_of op1_tuple (by rfl) Z.n_tuple (by rfl) (je_lc rfl sc_law_some_matrix.nd (ji_seq (je_nm 1)) (own := [("item", 2)]) (blk_law_some_matrix_0) (gc_nm 2) (fun _ _ _ _ _ => pg_name (i := 2) sc_law_some_matrix.nd rfl (by first | exact .inl rfl | exact .inr rfl) (by first | exact .inr rfl | exact .inl rfl)) (fun _ _ _ _ _ => jts_nil) (fun _ _ _ _ _ => je_sub (je_int) (je_nm 2)))))))
noncomputable def m_law_over : M Fl := dSeq (dAsgG (gT 2 (gsC (gN 2) (gsC (gN 3) (gsN)))) (dCall 2 fn_law_euclid [dNm 0, dNm 1]))
    (dRet (dTup [dNm 3, dOp2 fSub (dC (.int 0)) (dNm 2), dNm 0, dNm 1]))
noncomputable def fn_law_over : Fn := runF 2 m_law_over
theorem ok_law_over (Z : Zf R mg) : FnOk P w R.K mg base (L2.CX P w) 2 Z.a_law_over Z.d_law_over ["c", "d"] (spD R 2 fn_law_over) :=
  fn_ok (m := m_law_over) (k := 1) Z.F_law_over sc_law_over rfl rfl fun cdv A outer s H E hr =>
    jss_cons (js_asgT (je_call (ok_law_euclid Z) tkF (hr.mono (by omega)) (by rfl) Z.g_law_euclid Z.F_law_euclid.kp Z.b_law_euclid (ja_cons (je_nm 0) (ja_cons (je_nm 1) (ja_nil)))) (jg_tup rfl (jgs_cons (jg_nm 2 sc_law_over.nd) (jgs_cons (jg_nm 3 sc_law_over.nd) (jgs_nil)))))
    (jss_one (js_ret (je_tup (ja_cons (je_nm 3) (ja_cons (je_sub (je_int) (je_nm 2)) (ja_cons (je_nm 0) (ja_cons (je_nm 1) (ja_nil))))))))
noncomputable def m_law_odd_matrix : M Fl := dSeq (dAsgG (gT 4 (gsC (gN 2) (gsC (gN 3) (gsC (gN 4) (gsC (gN 5) (gsN)))))) (dNm 1))
    (dSeq (dAsg 6 (dLst [dC .non, dC (.int 5), dTup [], dC (.str "abcd"), dDnil, dOp1 gList (dNm 1), dTup [dNm 2, dNm 3, dNm 4], dTup [dNm 2, dNm 3, dNm 4, dNm 5, dC (.int 1)], dTup [dNm 2, dNm 3, dNm 4, dIf (dBl (dOp2 (gEq true) (dNm 2) (dC (.int 0)))) (dOp2 fAdd (dNm 5) (dC (.int 1))) (dOp2 fSub (dNm 5) (dC (.int 1)))]]))
    (dSeq (dAsg 6 (dOp2 fAdd (dNm 6) (dLst [dTup [dC (.bl true), dC (.int 0), dC (.int 0), dC (.int 1)], dTup [dC (.int 1), dC (.bl false), dC (.int 0), dC (.int 1)], dTup [dC (.int 1), dC (.int 0), dC .non, dC (.int 1)], dTup [dC (.str "1"), dC (.int 0), dC (.int 0), dC (.int 1)], dTup [dC (.int 0), dC (.int 1), dC (.int 1), dC (.int 0)], dTup [dNm 2, dOp2 fSub (dC (.int 0)) (dNm 3), dNm 4, dNm 5]])))
    (dRet (dCallIo 2 0 fn_law_pick [dLc (dIt (dNm 6)) (fNm 7) (dNot (dTru (dCall 1 fn_law_is_matrix [dNm 7]))) (dNm 7) [7]]))))
noncomputable def fn_law_odd_matrix : Fn := runI 6 m_law_odd_matrix
theorem ok_law_odd_matrix (Z : Zf R mg) : FnOk P w R.K mg base (L2.CX P w) 4 Z.a_law_odd_matrix Z.d_law_odd_matrix ["draw", "matrix"] (spD R 2 fn_law_odd_matrix) :=
  fn_okI (m := m_law_odd_matrix) (k := 3) Z.F_law_odd_matrix sc_law_odd_matrix rfl rfl fun cdv A outer s H E v hr =>
    jss_cons (js_asgT (je_nm 1) (jg_tup rfl (jgs_cons (jg_nm 2 sc_law_odd_matrix.nd) (jgs_cons (jg_nm 3 sc_law_odd_matrix.nd) (jgs_cons (jg_nm 4 sc_law_odd_matrix.nd) (jgs_cons (jg_nm 5 sc_law_odd_matrix.nd) (jgs_nil)))))))
    (jss_cons (js_asg 6 sc_law_odd_matrix.nd (je_lst (ja_cons (je_non) (ja_cons (je_int) (ja_cons (je_tup (ja_nil)) (ja_cons (je_str) (ja_cons (je_dnil) (ja_cons (je_t1 call_list_of op1_list (by rfl) Z.n_list (by rfl) (je_nm 1)) (ja_cons (je_tup (ja_cons (je_nm 2) (ja_cons (je_nm 3) (ja_cons (je_nm 4) (ja_nil))))) (ja_cons (je_tup (ja_cons (je_nm 2) (ja_cons (je_nm 3) (ja_cons (je_nm 4) (ja_cons (je_nm 5) (ja_cons (je_int) (ja_nil))))))) (ja_cons (je_tup (ja_cons (je_nm 2) (ja_cons (je_nm 3) (ja_cons (je_nm 4) (ja_cons (je_if (jt_ne hr.units (je_nm 2) (je_int)) (je_add (je_nm 5) (je_int)) (je_sub (je_nm 5) (je_int))) (ja_nil)))))) (ja_nil))))))))))))
    (jss_cons (js_asg 6 sc_law_odd_matrix.nd (je_add (je_nm 6) (je_lst (ja_cons (je_tup (ja_cons (je_bl) (ja_cons (je_int) (ja_cons (je_int) (ja_cons (je_int) (ja_nil)))))) (ja_cons (je_tup (ja_cons (je_int) (ja_cons (je_bl) (ja_cons (je_int) (ja_cons (je_int) (ja_nil)))))) (ja_cons (je_tup (ja_cons (je_int) (ja_cons (je_int) (ja_cons (je_non) (ja_cons (je_int) (ja_nil)))))) (ja_cons (je_tup (ja_cons (je_str) (ja_cons (je_int) (ja_cons (je_int) (ja_cons (je_int) (ja_nil)))))) (ja_cons (je_tup (ja_cons (je_int) (ja_cons (je_int) (ja_cons (je_int) (ja_cons (je_int) (ja_nil)))))) (ja_cons (je_tup (ja_cons (je_nm 2) (ja_cons (je_sub (je_int) (je_nm 3)) (ja_cons (je_nm 4) (ja_cons (je_nm 5) (ja_nil)))))) (ja_nil))))))))))
    (jss_one (js_ret (je_callIo (ok_law_pick Z) tkF (hr.mono (by omega)) (by rfl) Z.g_law_pick Z.F_law_pick.kp Z.b_law_pick (pv 0) (ja_cons (je_lc rfl sc_law_odd_matrix.nd (ji_seq (je_nm 6)) (own := [("thing", 7)]) (blk_law_odd_matrix_0) (gc_nm 7) (fun _ _ _ _ _ => pg_name (i := 7) sc_law_odd_matrix.nd rfl (by first | exact .inl rfl | exact .inr rfl) (by first | exact .inr rfl | exact .inl rfl)) (fun _ _ _ _ _ => jts_one (jt_not (jt_tru (je_call (ok_law_is_matrix Z) L2.takes0 (hr.mono (by omega)) (by rfl) Z.g_law_is_matrix Z.F_law_is_matrix.kp Z.b_law_is_matrix (ja_cons (je_nm 7) (ja_nil)))))) (fun _ _ _ _ _ => je_nm 7)) (ja_nil)))))))
noncomputable def m_law_root : M Fl := dSeq (dAsgLN 1 2 0 (dLst []))
    (dSeq (dWh (dBl (dOp2 (gEq true) (dOp2 gSub2 (dNm 2) (dC (.int 2))) (dC (.int 0))))
    (dSeq (dAsg 3 (dOp2 fDiv (dOp2 fAdd (dOp2 fMul (dC (.int 2)) (dOp2 gSub2 (dNm 2) (dC (.int 0)))) (dOp2 gSub2 (dNm 2) (dC (.int 2)))) (dOp2 fMul (dC (.int 2)) (dOp2 gSub2 (dNm 2) (dC (.int 2))))))
    (dSeq (dApp 1 (dNm 3))
    (dAsg 2 (dCall 2 fn_law_times [dTup [dC (.int 0), dC (.int 1), dOp1 fNeg (dC (.int 1)), dC (.int 0)], dCall 2 fn_law_times [dTup [dC (.int 1), dOp2 fSub (dC (.int 0)) (dNm 3), dC (.int 0), dC (.int 1)], dNm 2]])))))
    (dSeq (dApp 1 (dOp2 fMul (dOp2 gSub2 (dNm 2) (dC (.int 1))) (dOp2 gSub2 (dNm 2) (dC (.int 3)))))
    (dSeq (dPar2 4 5 (dTup [dC (.int 1), dOp2 gSub2 (dNm 1) (dC (.int 0)), dC (.int 0), dC (.int 1)]) (dOp2 gSub2 (dNm 1) (dC (.int 0))))
    (dSeq (dFor (dIt (dSl (dNm 1) (dPart (dC (.int 1))) (dNoPart))) (gN 3)
    (dSeq (dAsg 4 (dCall 2 fn_law_times [dNm 4, dTup [dC (.int 0), dOp1 fNeg (dC (.int 1)), dC (.int 1), dC (.int 0)]]))
    (dSeq (dAsg 5 (dOp2 fAdd (dOp2 fAdd (dOp2 fAdd (dNm 5) (dC (.int 21))) (dNm 3)) (dIf (dTru (dCall 1 fn_law_is_up [dNm 4])) (dC (.int 0)) (dC (.int 6)))))
    (dAsg 4 (dCall 2 fn_law_times [dCall 1 fn_law_up [dNm 4], dTup [dC (.int 1), dNm 3, dC (.int 0), dC (.int 1)]])))))
    (dRet (dOp2 fMod (dOp1 gInt (dNm 5)) (dC (.int 24))))))))
noncomputable def fn_law_root : Fn := runF 5 m_law_root
theorem ok_law_root (Z : Zf R mg) : FnOk P w R.K mg base (L2.CX P w) 3 Z.a_law_root Z.d_law_root ["matrix"] (spD R 1 fn_law_root) :=
  fn_ok (m := m_law_root) (k := 2) Z.F_law_root sc_law_root rfl rfl fun cdv A outer s H E hr =>
    jss_cons (js_parLN rfl sc_law_root.nd rfl rfl (by decide) rfl rfl (je_lst (ja_nil)) (pv 0) (by first | exact .inl (by decide) | exact .inr rfl) (by first | exact .inl (by decide) | exact .inr rfl) (by rfl))
    (jss_cons (js_wh pwF (jt_ne hr.units (je_subA (rmu1 hr) (je_nm 2) (je_int) (fun _ _ => rfl)) (je_int))
    (jss_cons (js_asg 3 sc_law_root.nd (je_div (je_add (je_mul (je_int) (je_subA (rmu1 hr) (je_nm 2) (je_int) (fun _ _ => rfl))) (je_subA (rmu1 hr) (je_nm 2) (je_int) (fun _ _ => rfl))) (je_mul (je_int) (je_subA (rmu1 hr) (je_nm 2) (je_int) (fun _ _ => rfl)))))
    (jss_cons (js_app (pv 1) (je_nm 3) (hbm := fun t h => pe_bm PySem.F.plainAttrs_list PySem.F.slot_list_append PySem.F.type_list_append mt_append (pv 1) h))
    (jss_one (js_asg 2 sc_law_root.nd (je_call (ok_law_times Z) tkF (hr.mono (by omega)) (by rfl) Z.g_law_times Z.F_law_times.kp Z.b_law_times (ja_cons (je_tup (ja_cons (je_int) (ja_cons (je_int) (ja_cons (je_neg (je_int)) (ja_cons (je_int) (ja_nil)))))) (ja_cons (je_call (ok_law_times Z) tkF (hr.mono (by omega)) (by rfl) Z.g_law_times Z.F_law_times.kp Z.b_law_times (ja_cons (je_tup (ja_cons (je_int) (ja_cons (je_sub (je_int) (je_nm 3)) (ja_cons (je_int) (ja_cons (je_int) (ja_nil)))))) (ja_cons (je_nm 2) (ja_nil)))) (ja_nil)))))))))
    (jss_cons (js_app (pv 1) (je_mul (je_subA (rmu1 hr) (je_nm 2) (je_int) (fun _ _ => rfl)) (je_subA (rmu1 hr) (je_nm 2) (je_int) (fun _ _ => rfl))) (hbm := fun t h => pe_bm PySem.F.plainAttrs_list PySem.F.slot_list_append PySem.F.type_list_append mt_append (pv 1) h))
    (jss_cons (js_par2 rfl sc_law_root.nd rfl rfl (by decide) rfl rfl (ja_cons (je_tup (ja_cons (je_int) (ja_cons (je_subA (rmu1 hr) (je_nm 1) (je_int) (fun _ _ => rfl)) (ja_cons (je_int) (ja_cons (je_int) (ja_nil)))))) (ja_cons (je_subA (rmu1 hr) (je_nm 1) (je_int) (fun _ _ => rfl)) (ja_nil))) (by first | exact .inl (by decide) | exact .inr rfl) (by first | exact .inl (by decide) | exact .inr rfl) (by rfl))
    (jss_cons (js_for pwF rfl (ji_seq (je_slice (je_nm 1) (jo_some (je_int)) (jo_none))) (jg_nm 3 sc_law_root.nd)
    (jss_cons (js_asg 4 sc_law_root.nd (je_call (ok_law_times Z) tkF (hr.mono (by omega)) (by rfl) Z.g_law_times Z.F_law_times.kp Z.b_law_times (ja_cons (je_nm 4) (ja_cons (je_tup (ja_cons (je_int) (ja_cons (je_neg (je_int)) (ja_cons (je_int) (ja_cons (je_int) (ja_nil)))))) (ja_nil)))))
    (jss_cons (js_asg 5 sc_law_root.nd (je_add (je_add (je_add (je_nm 5) (je_int)) (je_nm 3)) (je_if (jt_tru (je_call (ok_law_is_up Z) tkF (hr.mono (by omega)) (by rfl) Z.g_law_is_up Z.F_law_is_up.kp Z.b_law_is_up (ja_cons (je_nm 4) (ja_nil)))) (je_int) (je_int))))
    (jss_one (js_asg 4 sc_law_root.nd (je_call (ok_law_times Z) tkF (hr.mono (by omega)) (by rfl) Z.g_law_times Z.F_law_times.kp Z.b_law_times (ja_cons (je_call (ok_law_up Z) tkF (hr.mono (by omega)) (by rfl) Z.g_law_up Z.F_law_up.kp Z.b_law_up (ja_cons (je_nm 4) (ja_nil))) (ja_cons (je_tup (ja_cons (je_int) (ja_cons (je_nm 3) (ja_cons (je_int) (ja_cons (je_int) (ja_nil)))))) (ja_nil)))))))))
    (jss_one (js_ret (je_mod (je_t1 call_int1 op1_int (by rfl) Z.n_int (by rfl) (je_nm 5)) (je_int))))))))
noncomputable def m_law_some_up : M Fl := dSeq (dAsg 1 (dCallIo 2 0 fn_law_take [dC (.int 8)]))
    (dSeq (dIf (dBl (dOp2 fLt (dNm 1) (dC (.int 2))))
    (dRet (dIf (dBl (dOp2 (gEq false) (dNm 1) (dC (.int 0)))) (dTup [dC (.int 0), dOp1 fNeg (dC (.int 1)), dC (.int 1), dC (.int 0)]) (dTup [dC (.int 1), dCallIo 1 0 fn_law_number [], dC (.int 0), dC (.int 1)])))
    (dSkip))
    (dSeq (dIf (dBl (dOp2 (gEq false) (dNm 1) (dC (.int 2))))
    (dSeq (dPar2 2 3 (dOp2 fAdd (dC (.int 1)) (dCallIo 2 0 fn_law_take [dOp2 fPow (dC (.int 10)) (dC (.int 9))])) (dOp2 fSub (dCallIo 2 0 fn_law_take [dOp2 fPow (dC (.int 10)) (dC (.int 9))]) (dOp2 fPow (dC (.int 10)) (dC (.int 8)))))
    (dSeq (dWh (dBl (dOp2 (gEq true) (dCall 2 fn_law_gcd [dNm 2, dNm 3]) (dC (.int 1))))
    (dAsg 3 (dOp2 fAdd (dNm 3) (dC (.int 1)))))
    (dRet (dCall 2 fn_law_over [dNm 2, dNm 3]))))
    (dSkip))
    (dRet (dCall 1 fn_law_up [dCallIo 1 0 fn_law_some_matrix []]))))
noncomputable def fn_law_some_up : Fn := runI 3 m_law_some_up
theorem ok_law_some_up (Z : Zf R mg) : FnOk P w R.K mg base (L2.CX P w) 7 Z.a_law_some_up Z.d_law_some_up ["draw"] (spD R 1 fn_law_some_up) :=
  fn_okI (m := m_law_some_up) (k := 6) Z.F_law_some_up sc_law_some_up rfl rfl fun cdv A outer s H E v hr =>
    jss_cons (js_asg 1 sc_law_some_up.nd (je_callIo (ok_law_take Z) tkF (hr.mono (by omega)) (by rfl) Z.g_law_take Z.F_law_take.kp Z.b_law_take (pv 0) (ja_cons (je_int) (ja_nil))))
    (jss_cons (js_if (jt_lt (je_nm 1) (je_int))
    (jss_one (js_ret (je_if (jt_eq hr.units (je_nm 1) (je_int)) (je_tup (ja_cons (je_int) (ja_cons (je_neg (je_int)) (ja_cons (je_int) (ja_cons (je_int) (ja_nil)))))) (je_tup (ja_cons (je_int) (ja_cons (je_callIo (ok_law_number Z) tkF (hr.mono (by omega)) (by rfl) Z.g_law_number Z.F_law_number.kp Z.b_law_number (pv 0) (ja_nil)) (ja_cons (je_int) (ja_cons (je_int) (ja_nil)))))))))
    (jss_nil))
    (jss_cons (js_if (jt_eq hr.units (je_nm 1) (je_int))
    (jss_cons (js_par2 rfl sc_law_some_up.nd rfl rfl (by decide) rfl rfl (ja_cons (je_add (je_int) (je_callIo (ok_law_take Z) tkF (hr.mono (by omega)) (by rfl) Z.g_law_take Z.F_law_take.kp Z.b_law_take (pv 0) (ja_cons (je_pow (je_int) (je_int)) (ja_nil)))) (ja_cons (je_sub (je_callIo (ok_law_take Z) tkF (hr.mono (by omega)) (by rfl) Z.g_law_take Z.F_law_take.kp Z.b_law_take (pv 0) (ja_cons (je_pow (je_int) (je_int)) (ja_nil))) (je_pow (je_int) (je_int))) (ja_nil))) (by first | exact .inl (by decide) | exact .inr rfl) (by first | exact .inl (by decide) | exact .inr rfl) (by rfl))
    (jss_cons (js_wh pwF (jt_ne hr.units (je_call (ok_law_gcd Z) tkF (hr.mono (by omega)) (by rfl) Z.g_law_gcd Z.F_law_gcd.kp Z.b_law_gcd (ja_cons (je_nm 2) (ja_cons (je_nm 3) (ja_nil)))) (je_int))
    (jss_one (js_asg 3 sc_law_some_up.nd (je_add (je_nm 3) (je_int)))))
    (jss_one (js_ret (je_call (ok_law_over Z) tkF (hr.mono (by omega)) (by rfl) Z.g_law_over Z.F_law_over.kp Z.b_law_over (ja_cons (je_nm 2) (ja_cons (je_nm 3) (ja_nil))))))))
    (jss_nil))
    (jss_one (js_ret (je_call (ok_law_up Z) tkF (hr.mono (by omega)) (by rfl) Z.g_law_up Z.F_law_up.kp Z.b_law_up (ja_cons (je_callIo (ok_law_some_matrix Z) tkF (hr.mono (by omega)) (by rfl) Z.g_law_some_matrix Z.F_law_some_matrix.kp Z.b_law_some_matrix (pv 0) (ja_nil)) (ja_nil)))))))
noncomputable def m_law_root_right : M Fl := dSeq (dAsg 1 (dCall 1 fn_root_of [dNm 0]))
    (dRet (dAndV (dCall 1 fn_law_is_number [dNm 1]) (dAndV (dOp2 (gEq false) (dNm 1) (dCall 1 fn_law_root [dNm 0])) (dOp2 (gEq false) (dCallK 1 [0] 1 fn_root_of [dNm 0]) (dNm 1)))))
noncomputable def fn_law_root_right : Fn := runF 1 m_law_root_right
theorem ok_law_root_right (Z : Zf R mg) : FnOk P w R.K mg base (L2.CX P w) 7 Z.a_law_root_right Z.d_law_root_right ["matrix"] (spD R 1 fn_law_root_right) :=
  fn_ok (m := m_law_root_right) (k := 6) Z.F_law_root_right sc_law_root_right rfl rfl fun cdv A outer s H E hr =>
    jss_cons (js_asg 1 sc_law_root_right.nd (je_call (ok_root_of Z) tkF (hr.mono (by omega)) (by rfl) Z.g_root_of Z.F_root_of.kp Z.b_root_of (ja_cons (je_nm 0) (ja_nil))))
    (jss_one (js_ret (je_and (je_call (ok_law_is_number Z) tkF (hr.mono (by omega)) (by rfl) Z.g_law_is_number Z.F_law_is_number.kp Z.b_law_is_number (ja_cons (je_nm 1) (ja_nil))) (je_and (je_eq hr.units (je_nm 1) (je_call (ok_law_root Z) tkF (hr.mono (by omega)) (by rfl) Z.g_law_root Z.F_law_root.kp Z.b_law_root (ja_cons (je_nm 0) (ja_nil)))) (je_one (je_eq hr.units (je_callK (ok_root_of Z) tkF (hr.mono (by omega)) (by rfl) Z.g_root_of Z.F_root_of.kp (kb_of (is := [0]) (n := 1) Z.F_root_of (by decide) (fun _ _ _ _ _ _ ws hl => match ws, hl with | [_], _ => rfl)) (jk_cons (je_nm 0) (jk_nil)) (E := E)) (je_nm 1)))))))
noncomputable def ms_law (k : Nat) : Option (M Opd) := match k with
  | 1 => some (dCall 1 fn_root_of [dCallIo 2 6 fn_law_odd_matrix [dNm 7]])
  | 3 => some (dCall 1 fn_root_of [dOp1 gTuple (dLc (dIt (dNm 8)) (fNm 10) (dYes) (dOp2 fSub (dC (.int 0)) (dNm 10)) [10])])
  | _ => none
def co_law (n : Nat) (a : Addr) (cdv : Value) (k : Nat) : Addr → Addr → HO := match k with
  | 1 => LamO "law.<locals>.<lambda>" (lamP (inE 0 (valS (inS 7 ((defBody s_law).getD 1 nilS))))) (lamB (inE 0 (valS (inS 7 ((defBody s_law).getD 1 nilS))))) bs_law_1 (cloFrom (envOfC "law" (defScope s_law) n a cdv).cells bs_law_1.names [])
  | 3 => LamO "law.<locals>.<lambda>" (lamP (inE 0 (valS (inS 8 ((defBody s_law).getD 1 nilS))))) (lamB (inE 0 (valS (inS 8 ((defBody s_law).getD 1 nilS))))) bs_law_3 (cloFrom (envOfC "law" (defScope s_law) n a cdv).cells bs_law_3.names [])
  | _ => fun a _ => .own a
noncomputable def m_law : M Fl := dSeq (dAsg 6 (dBegun mk_law_begun (dNm 0)))
    (dSeq (dFor (dRng gRng1 [dOp2 fAdd (dC (.int 4)) (dOp2 gMin2 (dOp1 gLen (dNm 0)) (dC (.int 6)))]) (gN 1)
    (dSeq (dAsgG (gT 2 (gsC (gN 7) (gsC (gN 8) (gsN)))) (dTup [dCallIo 1 6 fn_law_some_up [], dCallIo 1 6 fn_law_some_up []]))
    (dSeq (dAsg 2 (dCall 2 fn_law_times [dNm 7, dNm 8]))
    (dSeq (dAsg 3 (dOp2 fAdd (dOp2 fAdd (dCall 1 fn_root_of [dNm 7]) (dCall 1 fn_root_of [dNm 8])) (dIf (dTru (dCall 1 fn_law_is_up [dNm 2])) (dC (.int 0)) (dC (.int 6)))))
    (dSeq (dIf (dBl (dOp2 (gEq true) (dCall 1 fn_root_of [dCall 1 fn_law_up [dNm 2]]) (dOp2 fMod (dOp1 gInt (dNm 3)) (dC (.int 24)))))
    (dRet (dC (.bl false)))
    (dSkip))
    (dSeq (dIf (dBl (dOp2 (gEq true) (dLc (dIt (dLst [dNm 7, dNm 8, dCall 1 fn_law_up [dNm 2], dCall 1 fn_law_up [dCall 1 fn_law_undone [dNm 7]]])) (fNm 9) (dNot (dTru (dCall 1 fn_law_root_right [dNm 9]))) (dC (.int 1)) [9]) (dLst [])))
    (dRet (dC (.bl false)))
    (dSkip))
    (dSeq (dAsg 4 (dCallIo 1 6 fn_law_number []))
    (dSeq (dIf (dOr (dBl (dOp2 (gEq true) (dCall 1 fn_root_of [dTup [dC (.int 1), dNm 4, dC (.int 0), dC (.int 1)]]) (dOp2 fMod (dOp1 gInt (dNm 4)) (dC (.int 24))))) (dBl (dOp2 (gEq true) (dCall 1 fn_root_of [dTup [dC (.int 0), dOp1 fNeg (dC (.int 1)), dC (.int 1), dC (.int 0)]]) (dC (.int 21)))))
    (dRet (dC (.bl false)))
    (dSkip))
    (dSeq (dAsg 5 (dLst [dLam 1]))
    (dSeq (dApp 5 (dLam 3))
    (dIf (dBl (dOp2 (gEq true) (dLc (dIt (dNm 5)) (fNm 11) (dNot (dTru (dOp1 (gIsx sub_ 1) (dCaughtV 11 [11] ms_law)))) (dC (.int 1)) [11]) (dLst [])))
    (dRet (dC (.bl false)))
    (dSkip))))))))))))
    (dRet (dC (.bl true))))
noncomputable def fn_law : Fn := runF 11 m_law
theorem clos_law (Z : Zf R mg) {a c P_ : Addr} (A : Around) (outer : List Env) (s : Shared) (H : Hp) (E : XK) (hr : Room 9 (A.deeper (envOfC "law" (defScope s_law) s.heap.objs.size a (.ref c)))) (hG : A.guards = some []) (hU : A.units ≤ 4) (TB : TabB base mg c P_) (hT : TabC.T = [(P_, ("law.<locals>." : Str) ++ "<lambda>")]) (hcq : R.cq = ("law.<locals>." : Str) ++ "<lambda>") (hco : ∀ k, R.co k = co_law s.heap.objs.size a (.ref c) k) : ClosOk (cxOf (L2.CX P w) P w R.K mg base ["script", "lap", "product", "total", "many", "works", "draw", "one", "other", "matrix", "item", "work"] "law" (defScope s_law) a (.ref c) A outer s H E) R 7 ms_law := by
  refine ⟨hcq, fun j m hm => ?_⟩
  unfold ms_law at hm
  split at hm
  · cases hm
    exact ⟨_, _, _, hco 1, lams_law_1, fun _ _ _ _ _ => rfl, fun A outer s H E f c' hr => je_call (ok_root_of Z) tkL (hr.mono (by omega)) (by rfl) Z.g_root_of Z.F_root_of.kp Z.b_root_of (ja_cons (je_callIo (ok_law_odd_matrix Z) tkL (hr.mono (by omega)) (by rfl) Z.g_law_odd_matrix Z.F_law_odd_matrix.kp Z.b_law_odd_matrix (pv 6) (ja_cons (je_nm 7) (ja_nil))) (ja_nil))⟩
  · cases hm
    exact ⟨_, _, _, hco 3, lams_law_3, fun _ _ _ _ _ => rfl, fun A outer s H E f c' hr => je_call (ok_root_of Z) tkL (hr.mono (by omega)) (by rfl) Z.g_root_of Z.F_root_of.kp Z.b_root_of (ja_cons (je_t1 call_tuple_of op1_tuple (by rfl) Z.n_tuple (by rfl) (je_lc rfl sc_law.nd (ji_seq (je_nm 8)) (own := [("item", 10)]) (blk_law_2) (gc_nm 10) (fun _ _ _ _ _ => pg_name (i := 10) sc_law.nd rfl (by first | exact .inl rfl | exact .inr rfl) (by first | exact .inr rfl | exact .inl rfl)) (fun _ _ _ _ _ => jts_nil) (fun _ _ _ _ _ => je_sub (je_int) (je_nm 10)))) (ja_nil))⟩
  · cases hm
theorem ok_law (Z : Zf R mg) {a c P_ : Addr} (A : Around) (outer : List Env) (s : Shared) (H : Hp) (E : XK) (hr : Room 9 (A.deeper (envOfC "law" (defScope s_law) s.heap.objs.size a (.ref c)))) (hG : A.guards = some []) (hU : A.units ≤ 4) (TB : TabB base mg c P_) (hT : TabC.T = [(P_, ("law.<locals>." : Str) ++ "<lambda>")]) (hcq : R.cq = ("law.<locals>." : Str) ++ "<lambda>") (hco : ∀ k, R.co k = co_law s.heap.objs.size a (.ref c) k) :
    PSs (cxOf (L2.CX P w) P w R.K mg base ["script", "lap", "product", "total", "many", "works", "draw", "one", "other", "matrix", "item", "work"] "law" (defScope s_law) a (.ref c) A outer s H E) (defBody s_law) (LS R ⟨fun cls d _ H => E cls d H, none⟩ m_law) :=
    jss_cons (js_asg 6 sc_law.nd (je_begun (ok_law_begun Z) tkF (hr.mono (by omega)) (by rfl) Z.g_law_begun Z.F_law_begun.kp Z.b_law_begun (je_nm 0)))
    (jss_cons (js_for pwF rfl (ji_rng1 (by rfl) Z.n_range (ja_cons (je_add (je_int) (je_b2 (call_min2 rfl) op2_ii (by rfl) Z.n_min (by rfl) (je_b1 cr_lenD op1_len (by rfl) Z.n_len (by rfl) (je_nm 0)) (je_int))) (ja_nil))) (jg_nm 1 sc_law.nd)
    (jss_cons (js_asgT (je_tup (ja_cons (je_callIo (ok_law_some_up Z) tkF (hr.mono (by omega)) (by rfl) Z.g_law_some_up Z.F_law_some_up.kp Z.b_law_some_up (pv 6) (ja_nil)) (ja_cons (je_callIo (ok_law_some_up Z) tkF (hr.mono (by omega)) (by rfl) Z.g_law_some_up Z.F_law_some_up.kp Z.b_law_some_up (pv 6) (ja_nil)) (ja_nil)))) (jg_tup rfl (jgs_cons (jg_nm 7 sc_law.nd) (jgs_cons (jg_nm 8 sc_law.nd) (jgs_nil)))))
    (jss_cons (js_asg 2 sc_law.nd (je_call (ok_law_times Z) tkF (hr.mono (by omega)) (by rfl) Z.g_law_times Z.F_law_times.kp Z.b_law_times (ja_cons (je_nm 7) (ja_cons (je_nm 8) (ja_nil)))))
    (jss_cons (js_asg 3 sc_law.nd (je_add (je_add (je_call (ok_root_of Z) tkF (hr.mono (by omega)) (by rfl) Z.g_root_of Z.F_root_of.kp Z.b_root_of (ja_cons (je_nm 7) (ja_nil))) (je_call (ok_root_of Z) tkF (hr.mono (by omega)) (by rfl) Z.g_root_of Z.F_root_of.kp Z.b_root_of (ja_cons (je_nm 8) (ja_nil)))) (je_if (jt_tru (je_call (ok_law_is_up Z) tkF (hr.mono (by omega)) (by rfl) Z.g_law_is_up Z.F_law_is_up.kp Z.b_law_is_up (ja_cons (je_nm 2) (ja_nil)))) (je_int) (je_int))))
    (jss_cons (js_if (jt_ne hr.units (je_call (ok_root_of Z) tkF (hr.mono (by omega)) (by rfl) Z.g_root_of Z.F_root_of.kp Z.b_root_of (ja_cons (je_call (ok_law_up Z) tkF (hr.mono (by omega)) (by rfl) Z.g_law_up Z.F_law_up.kp Z.b_law_up (ja_cons (je_nm 2) (ja_nil))) (ja_nil))) (je_mod (je_t1 call_int1 op1_int (by rfl) Z.n_int (by rfl) (je_nm 3)) (je_int)))
    (jss_one (js_ret (je_bl)))
    (jss_nil))
    (jss_cons (js_if (jt_ne hr.units (je_lc rfl sc_law.nd (ji_seq (je_lst (ja_cons (je_nm 7) (ja_cons (je_nm 8) (ja_cons (je_call (ok_law_up Z) tkF (hr.mono (by omega)) (by rfl) Z.g_law_up Z.F_law_up.kp Z.b_law_up (ja_cons (je_nm 2) (ja_nil))) (ja_cons (je_call (ok_law_up Z) tkF (hr.mono (by omega)) (by rfl) Z.g_law_up Z.F_law_up.kp Z.b_law_up (ja_cons (je_call (ok_law_undone Z) tkF (hr.mono (by omega)) (by rfl) Z.g_law_undone Z.F_law_undone.kp Z.b_law_undone (ja_cons (je_nm 7) (ja_nil))) (ja_nil))) (ja_nil))))))) (own := [("matrix", 9)]) (blk_law_0) (gc_nm 9) (fun _ _ _ _ _ => pg_name (i := 9) sc_law.nd rfl (by first | exact .inl rfl | exact .inr rfl) (by first | exact .inr rfl | exact .inl rfl)) (fun _ _ _ _ _ => jts_one (jt_not (jt_tru (je_call (ok_law_root_right Z) L2.takes0 (hr.mono (by omega)) (by rfl) Z.g_law_root_right Z.F_law_root_right.kp Z.b_law_root_right (ja_cons (je_nm 9) (ja_nil)))))) (fun _ _ _ _ _ => je_int)) (je_lst (ja_nil)))
    (jss_one (js_ret (je_bl)))
    (jss_nil))
    (jss_cons (js_asg 4 sc_law.nd (je_callIo (ok_law_number Z) tkF (hr.mono (by omega)) (by rfl) Z.g_law_number Z.F_law_number.kp Z.b_law_number (pv 6) (ja_nil)))
    (jss_cons (js_if (PW.pt (jw_or (jt_ne hr.units (je_call (ok_root_of Z) tkF (hr.mono (by omega)) (by rfl) Z.g_root_of Z.F_root_of.kp Z.b_root_of (ja_cons (je_tup (ja_cons (je_int) (ja_cons (je_nm 4) (ja_cons (je_int) (ja_cons (je_int) (ja_nil)))))) (ja_nil))) (je_mod (je_t1 call_int1 op1_int (by rfl) Z.n_int (by rfl) (je_nm 4)) (je_int))) (jw_or1 (jt_ne hr.units (je_call (ok_root_of Z) tkF (hr.mono (by omega)) (by rfl) Z.g_root_of Z.F_root_of.kp Z.b_root_of (ja_cons (je_tup (ja_cons (je_int) (ja_cons (je_neg (je_int)) (ja_cons (je_int) (ja_cons (je_int) (ja_nil)))))) (ja_nil))) (je_int)))))
    (jss_one (js_ret (je_bl)))
    (jss_nil))
    (jss_cons (js_asg 5 sc_law.nd (je_lst (ja_cons (je_lam (k := 1) TB rfl (by rw [hT]; exact List.mem_singleton.mpr rfl) (fun p hp _ => by rw [hT] at hp; rw [List.mem_singleton.mp hp]; rfl) rfl lams_law_1 hcq (hco 1)) (ja_nil))))
    (jss_cons (js_app (pv 5) (je_lam (k := 3) TB rfl (by rw [hT]; exact List.mem_singleton.mpr rfl) (fun p hp _ => by rw [hT] at hp; rw [List.mem_singleton.mp hp]; rfl) rfl lams_law_3 hcq (hco 3)) (hbm := fun t h => pe_bm PySem.F.plainAttrs_list PySem.F.slot_list_append PySem.F.type_list_append mt_append (pv 5) h))
    (jss_one (js_if (jt_ne hr.units (je_lcV rfl sc_law.nd (ji_seq (je_nm 5)) (own := [("work", 11)]) (blk_law_4) (fun _ _ _ => pg_name (i := 11) sc_law.nd rfl (by first | exact .inl rfl | exact .inr rfl) (by first | exact .inr rfl | exact .inl rfl)) (fun _ _ _ _ _ se => jts_cj1 (jt_notV (jt_truV (je_isxV (k := 1) Z.isx_BadMatrix (by rfl) Z.n_isinstance (by rfl) (je_caughtV se (by rfl) Z.g_law_caught Z.F_law_caught Z.b_law_caught sc_law_caught (.inl rfl) (fun cdv => caught_gives rfl rfl rfl rfl Z.m_SeriesError) Z.hX (hr.mono (by omega)) (clos_law Z A outer s H E hr hG hU TB hT hcq hco) rfl (by first | exact .inl rfl | exact .inr (.inl rfl))) (by rfl) Z.m_BadMatrix)))) (fun _ _ _ _ _ se => je_cj (je_int))) (je_lst (ja_nil)))
    (jss_one (js_ret (je_bl)))
    (jss_nil)))))))))))))
    (jss_one (js_ret (je_bl))))
end
end Lk17
set_option Elab.async false
set_option linter.all false
set_option maxRecDepth 100000
set_option maxHeartbeats 4000000
/-! k17: what the defs answer. -/
namespace Lk17
open Dv PySem PyProof.Rows L2 Jac
section
variable [TabC]
def fs (a n f h t : Int) : En := [some (.d (.int a)), some (.d (.int n)), some (.d (.int f)), some (.d (.int h)), some (.d (.int t))]
noncomputable def inT : M Bool := dBl (dOp2 (gEq false) (dOp2 fMod (dNm 3) (dC (.int 2))) (dC (.int 0)))
noncomputable def inB : M Fl := dSeq (dAsg 3 (dOp2 fDiv (dNm 3) (dC (.int 2))))
    (dIf (dBl (dOp2 (gInA false) (dOp2 fMod (dNm 4) (dC (.int 8))) (dTup [dC (.int 3), dC (.int 5)])))
    (dAsg 2 (dOp2 fSub (dC (.int 0)) (dNm 2)))
    (dSkip))
theorem in35 (x : Int) : gInA false (.int x) (.tup [.int 3, .int 5]) = some (.d (.bl (3 == x || (5 == x || false)))) := rfl
theorem tw_i {t : Int} (h : 0 ≤ t) : two t.toNat = if (3 == t % 8 || (5 == t % 8 || false)) = true then -1 else 1 := by
  unfold two
  by_cases c : t % 8 = 3 ∨ t % 8 = 5
  · rw [if_pos (by omega), if_pos (by rcases c with c | c <;> rw [c] <;> rfl)]
  · rw [if_neg (by omega), if_neg (by simp; omega)]
theorem inT_e (a n f h t : Int) : inT (fs a n f h t) = .ok (h % 2 == 0) (fs a n f h t) :=
  dBl_e (dOp2_e (x := .int (h % 2)) (y := .int 0) (dOp2_e (x := .int h) (y := .int 2) rfl (.inl rfl) rfl (.inl rfl) (fMod_p (by decide))) (.inl rfl) rfl (.inl rfl) (gEq_i _ _))
theorem inB_e (a n f h t : Int) : inB (fs a n f h t) = .ok .nx (fs a n (if (3 == t % 8 || (5 == t % 8 || false)) = true then 0 - f else f) (h / 2) t) := by
  have e1 : dAsg 3 (dOp2 fDiv (dNm 3) (dC (.int 2))) (fs a n f h t) = .ok .nx (fs a n f (h / 2) t) :=
    (dAsg_d (dOp2_e (x := .int h) (y := .int 2) rfl (.inl rfl) rfl (.inl rfl) (fDiv_p (by decide) (by decide)))).trans rfl
  have e2 : dBl (dOp2 (gInA false) (dOp2 fMod (dNm 4) (dC (.int 8))) (dTup [dC (.int 3), dC (.int 5)])) (fs a n f (h / 2) t) = .ok (3 == t % 8 || (5 == t % 8 || false)) (fs a n f (h / 2) t) :=
    dBl_e (dOp2_e (x := .int (t % 8)) (y := .tup [.int 3, .int 5]) (dOp2_e (x := .int t) (y := .int 8) rfl (.inl rfl) rfl (.inl rfl) (fMod_p (by decide))) (.inl rfl) (show dTup [dC (.int 3), dC (.int 5)] (fs a n f (h / 2) t) = .ok (.d (.tup [.int 3, .int 5])) (fs a n f (h / 2) t) from rfl) (.inl rfl) (in35 _))
  unfold inB
  rw [dSeq_e e1, dIf_e e2]
  split <;> rfl
/-- the twos go out -/
theorem inner_ok (a n t : Int) (ht : t % 2 = 1) (h0 : 0 < t) (V : Int) : ∀ (k : Nat) (f h : Int), h.toNat = k → 0 < h → f * J h.toNat t.toNat = V → ∃ f' h' : Int, 0 < h' ∧ h' ≤ h ∧ h' % 2 = 1 ∧ f' * J h'.toNat t.toNat = V ∧ dWh inT inB (fs a n f h t) = .ok .nx (fs a n f' h' t) := by
  intro k f h hk hp hv
  obtain ⟨e', e1, f', h', q1, q2, q3, q4, rfl⟩ := dWh_ok (t := inT) (b := inB) (fun m e => ∃ f' h' : Int, m = h'.toNat ∧ 0 < h' ∧ h' ≤ h ∧ f' * J h'.toNat t.toNat = V ∧ e = fs a n f' h' t) (fun e => ∃ f' h' : Int, 0 < h' ∧ h' ≤ h ∧ h' % 2 = 1 ∧ f' * J h'.toNat t.toNat = V ∧ e = fs a n f' h' t) (by
    rintro m e ⟨f', h', rfl, p1, p2, p3, rfl⟩
    by_cases c : h' % 2 = 0
    · refine .inl ⟨_, (inT_e a n f' h' t).trans (by rw [c]; rfl), _, (h' / 2).toNat, by omega, inB_e a n f' h' t, _, h' / 2, rfl, by omega, by omega, ?_, rfl⟩
      have e2 : h'.toNat = 2 * (h' / 2).toNat := by omega
      rw [e2, J_two (by omega), tw_i (by omega)] at p3
      rw [← p3]
      split
      · rw [Int.zero_sub]; grind
      · rw [Int.one_mul]
    · refine .inr ⟨_, (inT_e a n f' h' t).trans (by rw [show (h' % 2 == 0) = false from beq_eq_false_iff_ne.mpr c]), f', h', p1, p2, by omega, p3, rfl⟩) h.toNat (fs a n f h t) ⟨f, h, rfl, hp, Int.le_refl _, hv, rfl⟩
  exact ⟨f', h', q1, q2, q3, q4, e1⟩
noncomputable def outT : M Bool := dBl (dOp2 (gEq true) (dNm 3) (dC (.int 0)))
noncomputable def outB : M Fl := dSeq (dWh inT inB)
    (dSeq (dPar2 3 4 (dNm 4) (dNm 3))
    (dSeq (dIf (dAnd (dBl (dOp2 (gEq false) (dOp2 fMod (dNm 3) (dC (.int 4))) (dC (.int 3)))) (dBl (dOp2 (gEq false) (dOp2 fMod (dNm 4) (dC (.int 4))) (dC (.int 3)))))
    (dAsg 2 (dOp2 fSub (dC (.int 0)) (dNm 2)))
    (dSkip))
    (dAsg 3 (dOp2 fMod (dNm 3) (dNm 4)))))
theorem m_symbol_eq : m_symbol = dSeq (dPar3 2 3 4 (dC (.int 1)) (dOp2 fMod (dNm 0) (dNm 1)) (dNm 1)) (dSeq (dWh outT outB) (dRet (dIf (dBl (dOp2 (gEq false) (dNm 4) (dC (.int 1)))) (dNm 2) (dC (.int 0))))) := rfl
theorem outT_e (a n f h t : Int) : outT (fs a n f h t) = .ok (!(h == 0)) (fs a n f h t) :=
  dBl_e (dOp2_e (x := .int h) (y := .int 0) rfl (.inl rfl) rfl (.inl rfl) (gNe_i _ _))
theorem m4_e (a n f h t : Int) (i : Nat) (x : Int) (hx : dNm i (fs a n f h t) = .ok (.d (.int x)) (fs a n f h t)) : dBl (dOp2 (gEq false) (dOp2 fMod (dNm i) (dC (.int 4))) (dC (.int 3))) (fs a n f h t) = .ok (x % 4 == 3) (fs a n f h t) :=
  dBl_e (dOp2_e (x := .int (x % 4)) (y := .int 3) (dOp2_e (x := .int x) (y := .int 4) hx (.inl rfl) rfl (.inl rfl) (fMod_p (by decide))) (.inl rfl) rfl (.inl rfl) (gEq_i _ _))
/-- the turn after the twos: swap, sign, rest -/
theorem turn_e (a n f h t : Int) (hp : 0 < h) : dSeq (dPar2 3 4 (dNm 4) (dNm 3))
    (dSeq (dIf (dAnd (dBl (dOp2 (gEq false) (dOp2 fMod (dNm 3) (dC (.int 4))) (dC (.int 3)))) (dBl (dOp2 (gEq false) (dOp2 fMod (dNm 4) (dC (.int 4))) (dC (.int 3)))))
    (dAsg 2 (dOp2 fSub (dC (.int 0)) (dNm 2)))
    (dSkip))
    (dAsg 3 (dOp2 fMod (dNm 3) (dNm 4)))) (fs a n f h t) = .ok .nx (fs a n (if (t % 4 == 3 && h % 4 == 3) = true then 0 - f else f) (t % h) h) := by
  have e1 : dPar2 3 4 (dNm 4) (dNm 3) (fs a n f h t) = .ok .nx (fs a n f t h) :=
    (dPar2_e (e1 := fs a n f h t) (x := .int t) (y := .int h) rfl).trans rfl
  have e2 := dAnd_b (m4_e a n f t h 3 t rfl) (m4_e a n f t h 4 h rfl)
  have e3 : ∀ g : Int, dAsg 3 (dOp2 fMod (dNm 3) (dNm 4)) (fs a n g t h) = .ok .nx (fs a n g (t % h) h) := fun g =>
    (dAsg_d (dOp2_e (x := .int t) (y := .int h) rfl (.inl rfl) rfl (.inl rfl) (fMod_p hp))).trans rfl
  rw [dSeq_e e1]
  have e4 : dIf (dAnd (dBl (dOp2 (gEq false) (dOp2 fMod (dNm 3) (dC (.int 4))) (dC (.int 3)))) (dBl (dOp2 (gEq false) (dOp2 fMod (dNm 4) (dC (.int 4))) (dC (.int 3)))))
    (dAsg 2 (dOp2 fSub (dC (.int 0)) (dNm 2))) (dSkip) (fs a n f t h) = .ok .nx (fs a n (if (t % 4 == 3 && h % 4 == 3) = true then 0 - f else f) t h) := by
    rw [dIf_e e2]
    split <;> rfl
  rw [dSeq_e e4]
  exact e3 _
theorem symbol_ok (a n : Int) (hn : 0 < n) (ho : n % 2 = 1) : fn_symbol none [.int a, .int n] = .ok (.int (JI a n.toNat)) none := by
  have r0 := Int.emod_nonneg a (show n ≠ 0 by omega)
  have r1 := Int.emod_lt_of_pos a hn
  have e0 : dPar3 2 3 4 (dC (.int 1)) (dOp2 fMod (dNm 0) (dNm 1)) (dNm 1) (dsl [.int a, .int n] 3) = .ok .nx (fs a n 1 (a % n) n) := by
    unfold dPar3
    rw [bnd_e (show dArgs [dC (.int 1), dOp2 fMod (dNm 0) (dNm 1), dNm 1] (dsl [.int a, .int n] 3) = .ok [.int 1, .int (a % n), .int n] (dsl [.int a, .int n] 3) from
      dArgs_c rfl (dArgs_c (dOp2_e (x := .int a) (y := .int n) rfl (.inl rfl) rfl (.inl rfl) (fMod_p hn)) (dArgs_c rfl (dArgs_z _))))]
    rfl
  obtain ⟨e', e1, f, t, q1, q2, rfl⟩ := dWh_ok (t := outT) (b := outB) (fun m e => ∃ f h t : Int, m = t.toNat ∧ 0 ≤ h ∧ h < t ∧ t % 2 = 1 ∧ f * J h.toNat t.toNat = JI a n.toNat ∧ e = fs a n f h t) (fun e => ∃ f t : Int, 0 < t ∧ f * J 0 t.toNat = JI a n.toNat ∧ e = fs a n f 0 t) (by
    rintro m e ⟨f, h, t, rfl, p0, p1, p2, p3, rfl⟩
    by_cases c : h = 0
    · subst c
      exact .inr ⟨_, outT_e a n f 0 t, f, t, by omega, p3, rfl⟩
    · obtain ⟨f', h', k1, k2, k3, k4, k5⟩ := inner_ok a n t p2 (by omega) _ _ f h rfl (by omega) p3
      refine .inl ⟨_, (outT_e a n f h t).trans (by rw [show (h == 0) = false from beq_eq_false_iff_ne.mpr c]; rfl), _, h'.toNat, by omega, by unfold outB; rw [dSeq_e k5]; exact turn_e a n f' h' t k1, _, t % h', h', rfl, Int.emod_nonneg _ (by omega), Int.emod_lt_of_pos _ k1, k3, ?_, rfl⟩
      rw [← k4, J_rec (a := h'.toNat) (n := t.toNat) (by omega) (by omega)]
      have e2 : J (t % h').toNat h'.toNat = J t.toNat h'.toNat := by
        rw [show (t % h').toNat = t.toNat % h'.toNat by
          have := Int.toNat_emod (show 0 ≤ t by omega) (show 0 ≤ h' by omega)
          exact this]
        exact J_mod (by omega)
      rw [e2, eps_i (by omega) (by omega)]
      by_cases s : h' % 4 = 3 ∧ t % 4 = 3
      · rw [if_pos s, if_pos (by rw [s.1, s.2]; rfl), Int.zero_sub]; grind
      · rw [if_neg s, if_neg (by simp only [Bool.and_eq_true, beq_iff_eq]; omega), Int.one_mul]) n.toNat (fs a n 1 (a % n) n) ⟨1, a % n, n, rfl, r0, r1, ho, by rw [Int.one_mul]; unfold JI; rw [Int.toNat_of_nonneg (by omega)], rfl⟩
  rw [J_zero] at q2
  refine runF_r (e := fs a n f 0 t) ?_
  rw [m_symbol_eq, dSeq_e e0, dSeq_e e1]
  refine dRet_e ?_
  have e3 : dBl (dOp2 (gEq false) (dNm 4) (dC (.int 1))) (fs a n f 0 t) = .ok (t == 1) (fs a n f 0 t) :=
    dBl_e (dOp2_e (x := .int t) (y := .int 1) rfl (.inl rfl) rfl (.inl rfl) (gEq_i _ _))
  rw [dIf_m e3, ← q2]
  by_cases c : t = 1
  · subst c
    rw [if_pos (show (1 : Int).toNat = 1 from rfl), Int.mul_one]
    rfl
  · rw [if_neg (show ¬ t.toNat = 1 by omega), Int.mul_zero, show (t == 1) = false from beq_eq_false_iff_ne.mpr c]
    rfl
end
end Lk17
set_option Elab.async false
set_option linter.all false
set_option maxRecDepth 100000
set_option maxHeartbeats 4000000
/-! k17: the root by its formula. -/
namespace Lk17
open Dv PySem PyProof.Rows L2 Jac
theorem _root_.Dv.Bd.add' {p : Nat} {i j : Int} (hi : Bd p i) (hj : Bd p j) : Bd (p + 1) (i + j) := by
  have := hi.add hj
  rw [Nat.max_self] at this
  exact this
theorem _root_.Dv.Bd.sub' {p : Nat} {i j : Int} (hi : Bd p i) (hj : Bd p j) : Bd (p + 1) (i - j) := by
  have := hi.sub hj
  rw [Nat.max_self] at this
  exact this
theorem fMul_w [TabC] {p q : Nat} {i j : Int} (hi : Bd p i) (hj : Bd q j) (h : p + q < 1000000) : fMul (.int i) (.int j) = some (.d (.int (i * j))) := fMul_b hi hj h
section
variable [TabC]
def fr (m a b c d f : Option Sl) : En := [m, a, b, c, d, f]
abbrev iS (x : Int) : Option Sl := some (.d (.int x))
def matD (A : Mat) : D := .tup [.int A.a, .int A.b, .int A.c, .int A.d]
def eb (A : Mat) (f : Option Sl) : En := fr (some (.d (matD A))) (iS A.a) (iS A.b) (iS A.c) (iS A.d) f
theorem mul_e {e : En} {ma mb : M Opd} {x y : Int} {p q : Nat} (h1 : ma e = .ok (.d (.int x)) e) (h2 : mb e = .ok (.d (.int y)) e) (hx : Bd p x) (hy : Bd q y) (h : p + q < 1000000) : dOp2 fMul ma mb e = .ok (.d (.int (x * y))) e :=
  dOp2_e (x := .int x) (y := .int y) h1 (.inl rfl) h2 (.inl rfl) (fMul_w hx hy h)
theorem add_e {e : En} {ma mb : M Opd} {x y : Int} (h1 : ma e = .ok (.d (.int x)) e) (h2 : mb e = .ok (.d (.int y)) e) : dOp2 fAdd ma mb e = .ok (.d (.int (x + y))) e :=
  dOp2_e (x := .int x) (y := .int y) h1 (.inl rfl) h2 (.inl rfl) (fAdd_i _ _)
theorem sub_e {e : En} {ma mb : M Opd} {x y : Int} (h1 : ma e = .ok (.d (.int x)) e) (h2 : mb e = .ok (.d (.int y)) e) : dOp2 fSub ma mb e = .ok (.d (.int (x - y))) e :=
  dOp2_e (x := .int x) (y := .int y) h1 (.inl rfl) h2 (.inl rfl) (fSub_i _ _)
theorem mod_e {e : En} {ma mb : M Opd} {x y : Int} (h1 : ma e = .ok (.d (.int x)) e) (h2 : mb e = .ok (.d (.int y)) e) (h : 0 < y) : dOp2 fMod ma mb e = .ok (.d (.int (x % y))) e :=
  dOp2_e (x := .int x) (y := .int y) h1 (.inl rfl) h2 (.inl rfl) (fMod_p h)
theorem eqb_e {e : En} {ma mb : M Opd} {x y : Int} (h1 : ma e = .ok (.d (.int x)) e) (h2 : mb e = .ok (.d (.int y)) e) : dOp2 (gEq false) ma mb e = .ok (.d (.bl (x == y))) e :=
  dOp2_e (x := .int x) (y := .int y) h1 (.inl rfl) h2 (.inl rfl) (gEq_i _ _)
theorem c_e (x : Int) (e : En) : dC (.int x) e = .ok (.d (.int x)) e := rfl
noncomputable def fndM : M Opd := dOp2 fSub (dOp2 fMul (dOp2 fAdd (dNm 1) (dNm 4)) (dNm 3)) (dOp2 fMul (dOp2 fMul (dNm 2) (dNm 4)) (dOp2 fSub (dOp2 fMul (dNm 3) (dNm 3)) (dC (.int 1))))
noncomputable def oddM : M Opd := dOp2 fMod (dOp2 fAdd (dOp2 fSub (dNm 5) (dOp2 fMul (dC (.int 3)) (dNm 3))) (dOp2 fMul (dC (.int 12)) (dOp1 gInt (dOp2 (gEq false) (dCall 2 fn_symbol [dNm 4, dNm 3]) (dOp1 fNeg (dC (.int 1))))))) (dC (.int 24))
noncomputable def evenM : M Opd := dOp2 fMod (dOp2 fAdd (dOp2 fSub (dOp2 fSub (dOp2 fAdd (dNm 5) (dOp2 fMul (dC (.int 3)) (dNm 4))) (dC (.int 3))) (dOp2 fMul (dOp2 fMul (dC (.int 3)) (dNm 3)) (dNm 4))) (dOp2 fMul (dC (.int 12)) (dOp1 gInt (dOp2 (gEq false) (dCall 2 fn_symbol [dNm 3, dOp1 gAbs (dNm 4)]) (dOp1 fNeg (dC (.int 1))))))) (dC (.int 24))
theorem m_root_by_eq : m_root_by = dSeq (dAsgG (gT 4 (gsC (gN 1) (gsC (gN 2) (gsC (gN 3) (gsC (gN 4) (gsN)))))) (dNm 0))
    (dSeq (dIf (dBl (dOp2 (gEq false) (dNm 3) (dC (.int 0)))) (dRet (dOp2 fMod (dNm 2) (dC (.int 24)))) (dSkip))
    (dSeq (dAsg 5 fndM)
    (dSeq (dIf (dBl (dOp2 (gEq false) (dOp2 fMod (dNm 3) (dC (.int 2))) (dC (.int 1)))) (dRet oddM) (dSkip))
    (dRet evenM)))) := rfl
theorem sg_e {e : En} {m : M Opd} {x : Int} (h : m e = .ok (.d (.int x)) e) : dOp2 fMul (dC (.int 12)) (dOp1 gInt (dOp2 (gEq false) m (dOp1 fNeg (dC (.int 1))))) e = .ok (.d (.int (ng x))) e := by
  have h1 : dOp1 gInt (dOp2 (gEq false) m (dOp1 fNeg (dC (.int 1)))) e = .ok (.d (.int (if x = -1 then 1 else 0))) e := by
    refine dOp1_d (x := .bl (x == -1)) (eqb_e h rfl) ?_
    by_cases c : x = -1
    · rw [if_pos c, c]; rfl
    · rw [if_neg c, show (x == -1) = false from beq_eq_false_iff_ne.mpr c]; rfl
  refine (dOp2_e (x := .int 12) (y := .int (if x = -1 then 1 else 0)) (c_e 12 e) (.inl rfl) h1 (.inl rfl) (fMul_l (by decide))).trans ?_
  unfold ng
  split <;> rfl
theorem root_by_ok {A : Mat} {p : Nat} (hd : A.det = 1) (u : Up A) (ba : Bd p A.a) (bb : Bd p A.b) (bc : Bd p A.c) (bd : Bd p A.d) (hp : 8 ≤ p) (hp2 : p < 10000) : fn_root_by none [matD A] = .ok (.int (nuM A % 24)) none := by
  obtain ⟨a, b, c, d⟩ := A
  have u : 0 < c ∨ (c = 0 ∧ d = 1) := u
  have hd : a * d - b * c = 1 := hd
  have ba : Bd p a := ba
  have bb : Bd p b := bb
  have bc : Bd p c := bc
  have bd : Bd p d := bd
  have e0 : dAsgG (gT 4 (gsC (gN 1) (gsC (gN 2) (gsC (gN 3) (gsC (gN 4) (gsN)))))) (dNm 0) (dsl [matD ⟨a, b, c, d⟩] 5) = .ok .nx (eb ⟨a, b, c, d⟩ none) := rfl
  show runF 5 m_root_by none [matD ⟨a, b, c, d⟩] = .ok (.int (nu a b c d % 24)) none
  have t1 : ∀ f, dBl (dOp2 (gEq false) (dNm 3) (dC (.int 0))) (eb ⟨a, b, c, d⟩ f) = .ok (c == 0) (eb ⟨a, b, c, d⟩ f) := fun f => dBl_e (eqb_e rfl rfl)
  by_cases hc : c = 0
  · subst hc
    refine runF_r (e := eb ⟨a, b, 0, d⟩ none) ?_
    rw [m_root_by_eq, dSeq_e e0]
    rw [nu_zero]
    exact dTake_if (t1 none) (dRet_e (mod_e (x := b) rfl rfl (by decide)))
  · have pc : 0 < c := by omega
    have q : ∀ f, dNm 1 (eb ⟨a, b, c, d⟩ f) = .ok (.d (.int a)) (eb ⟨a, b, c, d⟩ f) := fun f => rfl
    have q2 : ∀ f, dNm 2 (eb ⟨a, b, c, d⟩ f) = .ok (.d (.int b)) (eb ⟨a, b, c, d⟩ f) := fun f => rfl
    have q3 : ∀ f, dNm 3 (eb ⟨a, b, c, d⟩ f) = .ok (.d (.int c)) (eb ⟨a, b, c, d⟩ f) := fun f => rfl
    have q4 : ∀ f, dNm 4 (eb ⟨a, b, c, d⟩ f) = .ok (.d (.int d)) (eb ⟨a, b, c, d⟩ f) := fun f => rfl
    have cc := bc.mul bc
    have one : Bd (p + p) 1 := Nat.lt_of_lt_of_le (show 1 < 2 ^ 1 by decide) (Nat.pow_le_pow_right (by decide) (by omega))
    have thr : Bd 8 3 := by show 3 < 2 ^ 8; decide
    have e1 : dAsg 5 fndM (eb ⟨a, b, c, d⟩ none) = .ok .nx (eb ⟨a, b, c, d⟩ (iS ((a + d) * c - b * d * (c * c - 1)))) :=
      (dAsg_d (sub_e (mul_e (add_e (q none) (q4 none)) (q3 none) (ba.add' bd) bc (by omega)) (mul_e (mul_e (q2 none) (q4 none) bb bd (by omega)) (sub_e (mul_e (q3 none) (q3 none) bc bc (by omega)) (c_e 1 _)) (bb.mul bd) (cc.sub' one) (by omega)))).trans rfl
    have t2 : ∀ f, dBl (dOp2 (gEq false) (dOp2 fMod (dNm 3) (dC (.int 2))) (dC (.int 1))) (eb ⟨a, b, c, d⟩ f) = .ok (c % 2 == 1) (eb ⟨a, b, c, d⟩ f) := fun f => dBl_e (eqb_e (mod_e (q3 f) rfl (by decide)) rfl)
    have z1 : dSkip (eb ⟨a, b, c, d⟩ none) = .ok .nx (eb ⟨a, b, c, d⟩ none) := rfl
    refine runF_r (e := eb ⟨a, b, c, d⟩ (iS ((a + d) * c - b * d * (c * c - 1)))) ?_
    rw [m_root_by_eq, dSeq_e e0, dSkip_if ((t1 none).trans (by rw [show (c == 0) = false from beq_eq_false_iff_ne.mpr hc])), dSeq_e e1]
    generalize hf : (a + d) * c - b * d * (c * c - 1) = f
    have q5 : dNm 5 (eb ⟨a, b, c, d⟩ (iS f)) = .ok (.d (.int f)) (eb ⟨a, b, c, d⟩ (iS f)) := rfl
    by_cases ho : c % 2 = 1
    · rw [nu_odd ho, hf]
      refine dTake_if ((t2 _).trans (by rw [ho]; rfl)) (dRet_e ?_)
      exact mod_e (add_e (sub_e q5 (mul_e (c_e 3 _) (q3 _) thr bc (by omega))) (sg_e (dCall_e (n := 2) (xs := [.int d, .int c]) (dArgs_c (q4 _) (dArgs_c (q3 _) (dArgs_z _))) rfl (symbol_ok d c pc ho)))) (c_e 24 _) (by decide)
    · rw [nu_even (by omega) (by omega), hf]
      have od : d % 2 = 1 := by
        rcases Int.emod_two_eq d with z | z
        · exfalso
          have : (a * d - b * c) % 2 = 0 := by
            rw [Int.sub_emod, Int.mul_emod a d, Int.mul_emod b c, z, show c % 2 = 0 by omega]
            simp
          omega
        · exact z
      rw [dSkip_if ((t2 _).trans (by rw [show (c % 2 == 1) = false from beq_eq_false_iff_ne.mpr ho]))]
      refine dRet_e ?_
      have ab : dOp1 gAbs (dNm 4) (eb ⟨a, b, c, d⟩ (iS f)) = .ok (.d (.int (d.natAbs : Int))) (eb ⟨a, b, c, d⟩ (iS f)) := dOp1_d (x := .int d) (q4 _) (by
        show some (Opd.d (.int (absI d))) = _
        congr 3
        unfold absI
        split <;> omega)
      have sy := symbol_ok c (d.natAbs : Int) (by omega) (by omega)
      rw [Int.toNat_natCast] at sy
      have := mod_e (add_e (sub_e (sub_e (add_e q5 (mul_e (c_e 3 _) (q4 _) thr bd (by omega))) (c_e 3 _)) (mul_e (mul_e (c_e 3 _) (q3 _) thr bc (by omega)) (q4 _) (thr.mul bc) bd (by omega))) (sg_e (dCall_e (n := 2) (xs := [.int c, .int (d.natAbs : Int)]) (dArgs_c (q3 _) (dArgs_c ab (dArgs_z _))) rfl sy))) (c_e 24 _) (show (0 : Int) < 24 by decide)
      rw [Int.mul_assoc 3 c d] at this
      exact this
end
end Lk17
set_option Elab.async false
set_option linter.all false
set_option maxRecDepth 100000
set_option maxHeartbeats 4000000
/-! k17: matrices: what is upright, products, turned up. -/
namespace Lk17
open Dv PySem PyProof.Rows L2 Jac
section
variable [TabC]
def BdM (p : Nat) (A : Mat) : Prop := Bd p A.a ∧ Bd p A.b ∧ Bd p A.c ∧ Bd p A.d
theorem numbers_ok (A : Mat) : fn_are_numbers none [matD A, .int 4] = .ok (.bl true) none := rfl
theorem andV_t {ma mb : M Opd} {e e1 : En} (h : ma e = .ok (.d (.bl true)) e1) : dAndV ma mb e = mb e1 := by
  unfold dAndV; rw [bnd_e (dBl_e h), if_pos rfl]
theorem andV_f {ma mb : M Opd} {e e1 : En} (h : ma e = .ok (.d (.bl false)) e1) : dAndV ma mb e = .ok (.d (.bl false)) e1 := by
  unfold dAndV; rw [bnd_e (dBl_e h), if_neg (by decide)]; rfl
theorem orV_t {ma mb : M Opd} {e e1 : En} (h : ma e = .ok (.d (.bl true)) e1) : dOrV ma mb e = .ok (.d (.bl true)) e1 := by
  unfold dOrV; rw [bnd_e (dBl_e h), if_pos rfl]; rfl
theorem orV_f {ma mb : M Opd} {e e1 : En} (h : ma e = .ok (.d (.bl false)) e1) : dOrV ma mb e = mb e1 := by
  unfold dOrV; rw [bnd_e (dBl_e h), if_neg (by decide)]
theorem s0 (A : Mat) (r : En) : dOp2 gSub2 (dNm 0) (dC (.int 0)) (some (.d (matD A)) :: r) = .ok (.d (.int A.a)) (some (.d (matD A)) :: r) := rfl
theorem s1 (A : Mat) (r : En) : dOp2 gSub2 (dNm 0) (dC (.int 1)) (some (.d (matD A)) :: r) = .ok (.d (.int A.b)) (some (.d (matD A)) :: r) := rfl
theorem s2 (A : Mat) (r : En) : dOp2 gSub2 (dNm 0) (dC (.int 2)) (some (.d (matD A)) :: r) = .ok (.d (.int A.c)) (some (.d (matD A)) :: r) := rfl
theorem s3 (A : Mat) (r : En) : dOp2 gSub2 (dNm 0) (dC (.int 3)) (some (.d (matD A)) :: r) = .ok (.d (.int A.d)) (some (.d (matD A)) :: r) := rfl
theorem is_matrix_ok {p : Nat} {A : Mat} (h : BdM p A) (hp : p < 10000) : fn_is_matrix none [matD A] = .ok (.bl (A.det == 1)) none := by
  refine runF_r (e := [some (.d (matD A))]) (dRet_e ?_)
  show dAndV (dCall 2 fn_are_numbers [dNm 0, dC (.int 4)]) _ [some (.d (matD A))] = _
  rw [andV_t (dCall_e (n := 2) (xs := [matD A, .int 4]) rfl rfl (numbers_ok A))]
  exact eqb_e (sub_e (mul_e (s0 A _) (s3 A _) h.1 h.2.2.2 (by omega)) (mul_e (s1 A _) (s2 A _) h.2.1 h.2.2.1 (by omega))) rfl
noncomputable def upT : M Opd := dOrV (dOp2 fGt (dOp2 gSub2 (dNm 0) (dC (.int 2))) (dC (.int 0))) (dAndV (dOp2 (gEq false) (dOp2 gSub2 (dNm 0) (dC (.int 2))) (dC (.int 0))) (dOp2 (gEq false) (dOp2 gSub2 (dNm 0) (dC (.int 3))) (dC (.int 1))))
theorem gt_e {e : En} {ma mb : M Opd} {x y : Int} (h1 : ma e = .ok (.d (.int x)) e) (h2 : mb e = .ok (.d (.int y)) e) : dOp2 fGt ma mb e = .ok (.d (.bl (decide (y < x)))) e :=
  dOp2_e (x := .int x) (y := .int y) h1 (.inl rfl) h2 (.inl rfl) rfl
theorem upT_e (A : Mat) (r : En) : upT (some (.d (matD A)) :: r) = .ok (.d (.bl (decide (Up A)))) (some (.d (matD A)) :: r) := by
  have g : dOp2 fGt (dOp2 gSub2 (dNm 0) (dC (.int 2))) (dC (.int 0)) (some (.d (matD A)) :: r) = .ok (.d (.bl (decide (0 < A.c)))) (some (.d (matD A)) :: r) := gt_e (s2 A r) rfl
  unfold upT
  by_cases h : 0 < A.c
  · rw [orV_t (g.trans (by rw [decide_eq_true h])), decide_eq_true (show Up A from .inl h)]
  · rw [orV_f (g.trans (by rw [decide_eq_false h]))]
    have g2 : dOp2 (gEq false) (dOp2 gSub2 (dNm 0) (dC (.int 2))) (dC (.int 0)) (some (.d (matD A)) :: r) = .ok (.d (.bl (A.c == 0))) (some (.d (matD A)) :: r) := eqb_e (s2 A r) rfl
    by_cases h2 : A.c = 0
    · rw [andV_t (g2.trans (by rw [h2]; rfl))]
      refine (eqb_e (s3 A r) (c_e 1 _)).trans ?_
      by_cases h3 : A.d = 1
      · rw [decide_eq_true (show Up A from .inr ⟨h2, h3⟩), h3]; rfl
      · rw [decide_eq_false (show ¬ Up A from fun z => z.elim h fun z => h3 z.2), beq_eq_false_iff_ne.mpr h3]
    · rw [andV_f (g2.trans (by rw [beq_eq_false_iff_ne.mpr h2])), decide_eq_false (show ¬ Up A from fun z => z.elim h fun z => h2 z.1)]
theorem is_upright_ok {p : Nat} {A : Mat} (h : BdM p A) (hp : p < 10000) (hd : A.det = 1) : fn_is_upright none [matD A] = .ok (.bl (decide (Up A))) none := by
  refine runF_r (e := [some (.d (matD A))]) (dRet_e ?_)
  show dAndV (dCall 1 fn_is_matrix [dNm 0]) upT [some (.d (matD A))] = _
  rw [andV_t ((dCall_e (n := 1) (xs := [matD A]) (e1 := [some (.d (matD A))]) rfl rfl (is_matrix_ok h hp)).trans (by rw [hd]; rfl))]
  exact upT_e A []
theorem need_ok {p : Nat} {A : Mat} (h : BdM p A) (hp : p < 10000) (hd : A.det = 1) (u : Up A) : fn_need_upright none [matD A] = .ok .non none := by
  refine runF_n (e := [some (.d (matD A))]) ?_
  show dIf (dNot (dTru (dCall 1 fn_is_upright [dNm 0]))) (dRaise 1) (dSkip) [some (.d (matD A))] = _
  rw [dIf_e (dNot_e (dTru_e (b := true) ((dCall_e (n := 1) (xs := [matD A]) (e1 := [some (.d (matD A))]) rfl rfl (is_upright_ok h hp hd)).trans (by rw [decide_eq_true u]))))]
  rfl
theorem need_no {p : Nat} {A : Mat} (h : BdM p A) (hp : p < 10000) (hd : A.det = 1) (u : ¬ Up A) : fn_need_upright none [matD A] = .ex 1 [] none := by
  refine runF_x (e := [some (.d (matD A))]) ?_
  show dIf (dNot (dTru (dCall 1 fn_is_upright [dNm 0]))) (dRaise 1) (dSkip) [some (.d (matD A))] = _
  rw [dIf_e (dNot_e (dTru_e (b := false) ((dCall_e (n := 1) (xs := [matD A]) (e1 := [some (.d (matD A))]) rfl rfl (is_upright_ok h hp hd)).trans (by rw [decide_eq_false u]))))]
  rfl
theorem root_of_ok {p : Nat} {A : Mat} (h : BdM p A) (h8 : 8 ≤ p) (hp : p < 10000) (hd : A.det = 1) (u : Up A) : fn_root_of none [matD A] = .ok (.int (nuM A % 24)) none := by
  refine runF_r (e := [some (.d (matD A))]) ?_
  have e1 : dDrop (dCall 1 fn_need_upright [dNm 0]) [some (.d (matD A))] = .ok .nx [some (.d (matD A))] :=
    dDrop_e (x := .non) (dCall_e (n := 1) (xs := [matD A]) rfl rfl (need_ok h hp hd u))
  show m_root_of [some (.d (matD A))] = _
  unfold m_root_of
  rw [dSeq_e e1]
  exact dRet_e (dCall_e (n := 1) (xs := [matD A]) rfl rfl (root_by_ok hd u h.1 h.2.1 h.2.2.1 h.2.2.2 h8 hp))
theorem root_of_no {p : Nat} {A : Mat} (h : BdM p A) (hp : p < 10000) (hd : A.det = 1) (u : ¬ Up A) : fn_root_of none [matD A] = .ex 1 [] none := by
  refine runF_x (e := [some (.d (matD A))]) ?_
  have e1 : dDrop (dCall 1 fn_need_upright [dNm 0]) [some (.d (matD A))] = .ex 1 [] [some (.d (matD A))] := by
    unfold dDrop bnd
    rw [dCall_x (n := 1) (xs := [matD A]) (e1 := [some (.d (matD A))]) rfl rfl (need_no h hp hd u)]
  show m_root_of [some (.d (matD A))] = _
  unfold m_root_of
  rw [dSeq_x e1]
theorem is_up_ok (A : Mat) : fn_law_is_up none [matD A] = .ok (.bl (decide (Up A))) none := by
  refine runF_r (e := [some (.d (matD A))]) (dRet_e ?_)
  exact upT_e A []
theorem undone_ok (A : Mat) : fn_law_undone none [matD A] = .ok (matD ⟨A.d, 0 - A.b, 0 - A.c, A.a⟩) none := rfl
theorem law_up_ok (A : Mat) : fn_law_up none [matD A] = .ok (matD (upm A)) none := by
  refine runF_r (e := [some (.d (matD A)), none]) (dRet_e ?_)
  show dIf (dTru (dCall 1 fn_law_is_up [dNm 0])) (dNm 0) _ [some (.d (matD A)), none] = _
  rw [dIf_m (dTru_e (dCall_e (n := 1) (xs := [matD A]) (e1 := [some (.d (matD A)), none]) rfl rfl (is_up_ok A)))]
  unfold upm
  by_cases u : Up A
  · rw [decide_eq_true u, if_pos u]; rfl
  · rw [decide_eq_false u, if_neg u]; rfl
theorem times_ok {p q : Nat} {A B : Mat} (hA : BdM p A) (hB : BdM q B) (h : p + q < 100000) : fn_law_times none [matD A, matD B] = .ok (matD (A.mul B)) none := by
  obtain ⟨a1, a2, a3, a4⟩ := hA
  obtain ⟨b1, b2, b3, b4⟩ := hB
  let E : En := [some (.d (matD A)), some (.d (matD B)), iS A.a, iS A.b, iS A.c, iS A.d, iS B.a, iS B.b, iS B.c, iS B.d]
  have e0 : dAsgG (gT 4 (gsC (gN 2) (gsC (gN 3) (gsC (gN 4) (gsC (gN 5) (gsN)))))) (dNm 0) (dsl [matD A, matD B] 8) = .ok .nx [some (.d (matD A)), some (.d (matD B)), iS A.a, iS A.b, iS A.c, iS A.d, none, none, none, none] := rfl
  have e1 : dAsgG (gT 4 (gsC (gN 6) (gsC (gN 7) (gsC (gN 8) (gsC (gN 9) (gsN)))))) (dNm 1) [some (.d (matD A)), some (.d (matD B)), iS A.a, iS A.b, iS A.c, iS A.d, none, none, none, none] = .ok .nx E := rfl
  refine runF_r (e := E) ?_
  show m_law_times (dsl [matD A, matD B] 8) = _
  unfold m_law_times
  rw [dSeq_e e0, dSeq_e e1]
  refine dRet_e ?_
  have n2 : dNm 2 E = .ok (.d (.int A.a)) E := rfl
  have n3 : dNm 3 E = .ok (.d (.int A.b)) E := rfl
  have n4 : dNm 4 E = .ok (.d (.int A.c)) E := rfl
  have n5 : dNm 5 E = .ok (.d (.int A.d)) E := rfl
  have n6 : dNm 6 E = .ok (.d (.int B.a)) E := rfl
  have n7 : dNm 7 E = .ok (.d (.int B.b)) E := rfl
  have n8 : dNm 8 E = .ok (.d (.int B.c)) E := rfl
  have n9 : dNm 9 E = .ok (.d (.int B.d)) E := rfl
  unfold dTup
  rw [bnd_e (dArgs_c (add_e (mul_e n2 n6 a1 b1 (by omega)) (mul_e n3 n8 a2 b3 (by omega))) (dArgs_c (add_e (mul_e n2 n7 a1 b2 (by omega)) (mul_e n3 n9 a2 b4 (by omega))) (dArgs_c (add_e (mul_e n4 n6 a3 b1 (by omega)) (mul_e n5 n8 a4 b3 (by omega))) (dArgs_c (add_e (mul_e n4 n7 a3 b2 (by omega)) (mul_e n5 n9 a4 b4 (by omega))) (dArgs_z _)))))]
  rfl
theorem BdM.mul {p q : Nat} {A B : Mat} (hA : BdM p A) (hB : BdM q B) : BdM (p + q + 1) (A.mul B) :=
  ⟨(hA.1.mul hB.1).add' (hA.2.1.mul hB.2.2.1), (hA.1.mul hB.2.1).add' (hA.2.1.mul hB.2.2.2), (hA.2.2.1.mul hB.1).add' (hA.2.2.2.mul hB.2.2.1), (hA.2.2.1.mul hB.2.1).add' (hA.2.2.2.mul hB.2.2.2)⟩
theorem _root_.Dv.Bd.neg' {p : Nat} {i : Int} (h : Bd p i) : Bd p (0 - i) := by unfold Bd at *; omega
theorem BdM.upm {p : Nat} {A : Mat} (h : BdM p A) : BdM p (upm A) := by
  unfold Jac.upm
  split
  · exact h
  · exact ⟨h.1.neg', h.2.1.neg', h.2.2.1.neg', h.2.2.2.neg'⟩
end
end Lk17
set_option Elab.async false
set_option linter.all false
set_option maxRecDepth 100000
set_option maxHeartbeats 4000000
/-! k17: the common divisor, the numbers that show it. -/
namespace Lk17
open Dv PySem PyProof.Rows L2 Jac
section
variable [TabC]
local macro_rules | `(tactic| array_mem_dec) => `(tactic| first
  | (with_reducible assumption)
  | ((with_reducible apply Bd.mul) <;> array_mem_dec)
  | ((with_reducible apply Bd.add) <;> array_mem_dec)
  | ((with_reducible apply Bd.sub) <;> array_mem_dec)
  | ((with_reducible apply Bd.neg); array_mem_dec)
  | exact (show Bd 64 _ from (by unfold Bd; decide)))
local macro_rules | `(tactic| get_elem_tactic_trivial) => `(tactic| first
  | (with_reducible assumption)
  | (with_reducible apply fAdd_i)
  | (with_reducible apply fSub_i)
  | (with_reducible apply gEq_i)
  | (with_reducible apply gNe_i)
  | (with_reducible apply gInt_i)
  | (with_reducible refine fMul_l (by decide))
  | (with_reducible refine fMul_r (by decide))
  | (with_reducible refine fMod_p (by first | decide | omega))
  | (with_reducible refine fPow_p (by decide) (by decide) (by decide))
  | (with_reducible refine fDiv_p (by first | decide | omega) (by first | decide | exact log2_small (by omega) (by omega)))
  | ((with_reducible apply fMul_b); (array_mem_dec); (array_mem_dec); (first | decide | omega))
  | exact rfl)
local macro_rules | `(tactic| array_get_dec) => `(tactic| (with_reducible assumption))
local macro_rules | `(tactic| decreasing_trivial) => `(tactic| first
  | (with_reducible assumption)
  | (with_reducible apply dC_e)
  | ((with_reducible apply dNm_d); (exact rfl))
  | ((with_reducible apply dNm_s); (exact rfl))
  | ((with_reducible apply dRet_e); decreasing_trivial)
  | ((with_reducible apply dOp2_e); (decreasing_trivial); (first | (with_reducible exact ov_d _) | (with_reducible exact ov_n _)); (decreasing_trivial); (first | (with_reducible exact ov_d _) | (with_reducible exact ov_n _)); (get_elem_tactic_trivial))
  | ((with_reducible apply dOp1_d); (decreasing_trivial); (get_elem_tactic_trivial))
  | ((with_reducible apply dOp1_n); (decreasing_trivial); (get_elem_tactic_trivial))
  | ((with_reducible apply dAsg_d); decreasing_trivial)
  | ((with_reducible apply dAsg_n); decreasing_trivial)
  | ((with_reducible apply dAsgG_d); (decreasing_trivial); (exact rfl))
  | ((with_reducible apply dAsgG_n); (decreasing_trivial); (exact rfl))
  | ((with_reducible apply dTup_e); (decreasing_trivial); (exact Nat.le_of_ble_eq_true rfl))
  | ((with_reducible apply dLst_e); (decreasing_trivial); (exact Nat.le_of_ble_eq_true rfl))
  | (with_reducible apply dArgs_z)
  | ((with_reducible apply dArgs_c); (decreasing_trivial); (decreasing_trivial))
  | ((with_reducible apply dArgs_n); (decreasing_trivial); (decreasing_trivial))
  | ((with_reducible apply dArgs_o); (decreasing_trivial); (exact rfl); (decreasing_trivial))
  | (with_reducible apply dDnil_e)
  | ((with_reducible apply dPar2_r); (decreasing_trivial); (decreasing_trivial))
  | ((with_reducible apply dPar3_r); (decreasing_trivial); (decreasing_trivial); (decreasing_trivial))
  | ((with_reducible apply dBl_e); decreasing_trivial)
  | ((with_reducible apply dTru_e); decreasing_trivial)
  | ((with_reducible apply dNot_e); decreasing_trivial)
  | ((with_reducible apply dNotV_e); decreasing_trivial)
  | ((with_reducible apply dCall_e); (decreasing_trivial); (exact rfl); (array_get_dec))
  | ((with_reducible apply dCallK_e); (decreasing_trivial); (exact rfl); (exact rfl); (array_get_dec))
  | ((with_reducible apply dSl_d); (decreasing_trivial); (decreasing_trivial); (decreasing_trivial); (exact rfl))
  | ((with_reducible apply dPart_e); decreasing_trivial)
  | ((with_reducible apply dDrop_e); decreasing_trivial)
  | ((with_reducible apply dIt_d); (decreasing_trivial); (exact rfl))
  | ((with_reducible apply dIt_n); decreasing_trivial)
  | ((with_reducible apply dRng_e); (decreasing_trivial); (get_elem_tactic_trivial)))
abbrev eg (a b h t : Int) : En := [iS a, iS b, iS h, iS t]
theorem gcd_ok (a b : Int) : fn_law_gcd none [.int a, .int b] = .ok (.int (Int.gcd a b)) none := by
  have e0 : dPar2 2 3 (dOp1 gAbs (dNm 0)) (dOp1 gAbs (dNm 1)) (dsl [.int a, .int b] 2) = .ok .nx (eg a b (absI a) (absI b)) := by
    (apply Eq.trans; (decreasing_trivial); (rfl))
  have ha : absI a = (a.natAbs : Int) := by unfold absI; split <;> omega
  have hb : absI b = (b.natAbs : Int) := by unfold absI; split <;> omega
  rw [ha, hb] at e0
  obtain ⟨e', e1, rfl⟩ := dWh_ok (t := dBl (dOp2 (gEq true) (dNm 3) (dC (.int 0)))) (b := dPar2 2 3 (dNm 3) (dOp2 fMod (dOp1 gInt (dNm 2)) (dNm 3)))
    (fun m e => ∃ h t : Nat, m = t ∧ Nat.gcd h t = Nat.gcd a.natAbs b.natAbs ∧ e = eg a b h t) (fun e => e = eg a b (Nat.gcd a.natAbs b.natAbs : Nat) 0) (by
    rintro m e ⟨h, t, rfl, hg, rfl⟩
    have t1 : dBl (dOp2 (gEq true) (dNm 3) (dC (.int 0))) (eg a b h m) = .ok (!((m : Int) == 0)) (eg a b h m) := by decreasing_trivial
    by_cases c : m = 0
    · subst c
      refine .inr ⟨_, t1, ?_⟩
      rw [Nat.gcd_zero_right] at hg
      rw [hg]; rfl
    · refine .inl ⟨_, t1.trans (by rw [beq_eq_false_iff_ne.mpr (show ((m : Nat) : Int) ≠ 0 by omega)]; rfl), eg a b m ((h % m : Nat) : Int), h % m, Nat.mod_lt _ (by omega), ?_, m, h % m, rfl, ?_, rfl⟩
      · have hm : (0 : Int) < m := by omega
        rw [Int.natCast_emod]
        (apply Eq.trans; (decreasing_trivial); (rfl))
      · rw [← hg, Nat.gcd_comm h m, Nat.gcd_rec m h, Nat.gcd_comm (h % m) m]) b.natAbs (eg a b a.natAbs b.natAbs) ⟨_, _, rfl, rfl, rfl⟩
  refine runF_r (e := eg a b (Nat.gcd a.natAbs b.natAbs : Nat) 0) ?_
  unfold m_law_gcd
  rw [dSeq_e e0, dSeq_e e1]
  decreasing_trivial
abbrev eu (c d h t f s g q : Int) (m : Option Sl) : En := [iS c, iS d, iS h, iS t, iS f, iS s, iS g, iS q, m]
theorem fdiv_s (s : Int) (hs : s = 1 ∨ s = -1) (H T : Nat) : (s * H).fdiv (s * T) = ((H / T : Nat) : Int) := by
  rcases hs with rfl | rfl
  · rw [Int.one_mul, Int.one_mul]; exact (Int.ofNat_fdiv H T).symm
  · rw [Int.neg_mul, Int.neg_mul, Int.one_mul, Int.one_mul, Int.neg_fdiv_neg]; exact (Int.ofNat_fdiv H T).symm
/-- one turn -/
def euB : M Fl := dSeq (dAsg 8 (dOp2 fDiv (dNm 2) (dNm 3)))
    (dSeq (dPar2 2 3 (dNm 3) (dOp2 fSub (dNm 2) (dOp2 fMul (dNm 8) (dNm 3))))
    (dSeq (dPar2 4 5 (dNm 5) (dOp2 fSub (dNm 4) (dOp2 fMul (dNm 8) (dNm 5))))
    (dPar2 6 7 (dNm 7) (dOp2 fSub (dNm 6) (dOp2 fMul (dNm 8) (dNm 7))))))
theorem euB_e {p r : Nat} {c d h t f s g q : Int} {m : Option Sl} (ht : t ≠ 0) (bt : Bd r t) (bm : Bd r (h.fdiv t)) (bs : Bd p s) (bq : Bd p q) (hr : r < 9000) (hp : p < 500000) :
    euB (eu c d h t f s g q m) = .ok .nx (eu c d t (h - h.fdiv t * t) s (f - h.fdiv t * s) q (g - h.fdiv t * q) (iS (h.fdiv t))) := by
  have d1 : fDiv (.int h) (.int t) = some (.d (.int (h.fdiv t))) := fDiv_n ht bt hr
  have e1 : dAsg 8 (dOp2 fDiv (dNm 2) (dNm 3)) (eu c d h t f s g q m) = .ok .nx (eu c d h t f s g q (iS (h.fdiv t))) := by (apply Eq.trans; (decreasing_trivial); (rfl))
  generalize h.fdiv t = v at *
  have e2 : dPar2 2 3 (dNm 3) (dOp2 fSub (dNm 2) (dOp2 fMul (dNm 8) (dNm 3))) (eu c d h t f s g q (iS v)) = .ok .nx (eu c d t (h - v * t) f s g q (iS v)) := by (apply Eq.trans; (decreasing_trivial); (rfl))
  have e3 : dPar2 4 5 (dNm 5) (dOp2 fSub (dNm 4) (dOp2 fMul (dNm 8) (dNm 5))) (eu c d t (h - v * t) f s g q (iS v)) = .ok .nx (eu c d t (h - v * t) s (f - v * s) g q (iS v)) := by (apply Eq.trans; (decreasing_trivial); (rfl))
  have e4 : dPar2 6 7 (dNm 7) (dOp2 fSub (dNm 6) (dOp2 fMul (dNm 8) (dNm 7))) (eu c d t (h - v * t) s (f - v * s) g q (iS v)) = .ok .nx (eu c d t (h - v * t) s (f - v * s) q (g - v * q) (iS v)) := by (apply Eq.trans; (decreasing_trivial); (rfl))
  unfold euB
  rw [dSeq_e e1, dSeq_e e2, dSeq_e e3, e4]
/-- what stands at a turn, once both are of one sign -/
structure EuI (c d : Int) (m : Nat) (e : En) : Prop where
  ex : ∃ (k H T : Nat) (s f g2 g q : Int) (mm : Option Sl), m = T ∧ e = eu c d (s * H) (s * T) f g2 g q mm ∧ (s = 1 ∨ s = -1) ∧ Nat.gcd H T = 1 ∧ 0 < H ∧ H < 2 ^ 31 ∧ T < 2 ^ 31 ∧
    (k = 0 ∨ T ≤ H) ∧ H * T * 2 ^ k ≤ 2 ^ 63 ∧ (k = 0 → H * T ≤ 2 ^ 62) ∧ k ≤ 64 ∧ f * c + g * d = s * H ∧ g2 * c + q * d = s * T ∧ Bd (33 * k + 64) f ∧ Bd (33 * k + 64) g2 ∧ Bd (33 * k + 64) g ∧ Bd (33 * k + 64) q
theorem eu_turn {c d : Int} {m : Nat} {e : En} (I : EuI c d m e) : (∃ e1, dBl (dOp2 (gEq true) (dNm 3) (dC (.int 0))) e = .ok true e1 ∧ ∃ e2 m', m' < m ∧ euB e1 = .ok .nx e2 ∧ EuI c d m' e2) ∨
    (∃ e1, dBl (dOp2 (gEq true) (dNm 3) (dC (.int 0))) e = .ok false e1 ∧ EuI c d 0 e1) := by
  obtain ⟨k, H, T, s, f, g2, g, q, mm, rfl, rfl, hs, hg, h0, hH, hT, hk, hp, hk0, hk64, r1, r2, b1, b2, b3, b4⟩ := I
  have t1 : dBl (dOp2 (gEq true) (dNm 3) (dC (.int 0))) (eu c d (s * H) (s * m) f g2 g q mm) = .ok (!(s * m == 0)) (eu c d (s * H) (s * m) f g2 g q mm) := by decreasing_trivial
  by_cases z : m = 0
  · subst z
    right
    refine ⟨_, t1.trans (by rw [show s * ((0 : Nat) : Int) = 0 by simp]; rfl), k, H, 0, s, f, g2, g, q, mm, rfl, rfl, hs, hg, h0, hH, hT, hk, hp, hk0, hk64, r1, r2, b1, b2, b3, b4⟩
  · left
    have nz : s * (m : Int) ≠ 0 := by rcases hs with rfl | rfl <;> omega
    have fd := fdiv_s s hs H m
    have dm := Nat.div_add_mod H m
    have ml := Nat.mod_lt H (show 0 < m by omega)
    have qle : H / m ≤ H := Nat.div_le_self _ _
    have e2 := euB_e (p := 33 * k + 64) (r := 32) (c := c) (d := d) (h := s * H) (t := s * m) (f := f) (s := g2) (g := g) (q := q) (m := mm) nz (by unfold Bd; rw [Int.natAbs_mul]; rcases hs with rfl | rfl <;> simp <;> omega) (by rw [fd]; unfold Bd; rw [Int.natAbs_natCast]; omega) b2 b4 (by decide) (by omega)
    have rem : s * H - (s * (H : Int)).fdiv (s * m) * (s * m) = s * ((H % m : Nat) : Int) := by
      rw [fd]
      have : (H : Int) = (m : Int) * ((H / m : Nat) : Int) + ((H % m : Nat) : Int) := by exact_mod_cast dm.symm
      generalize ((H / m : Nat) : Int) = a at *
      generalize ((H % m : Nat) : Int) = b at *
      rw [this]
      grind
    have bv : Bd 32 ((s * (H : Int)).fdiv (s * m)) := by rw [fd]; unfold Bd; rw [Int.natAbs_natCast]; omega
    have k64 : k + 1 ≤ 64 := by
      rcases hk with z1 | z1
      · omega
      · have h1 : 1 * 2 ^ k ≤ H * m * 2 ^ k := Nat.mul_le_mul_right _ (Nat.mul_pos h0 (by omega))
        have h2 : 2 ^ k ≤ 2 ^ 63 := by omega
        have := (Nat.pow_le_pow_iff_right (show 1 < 2 by decide)).mp h2
        omega
    have prod : m * (H % m) * 2 ^ (k + 1) ≤ 2 ^ 63 := by
      rw [Nat.pow_succ]
      rcases hk with z1 | z1
      · subst z1
        have h1 : m * (H % m) ≤ m * H := Nat.mul_le_mul_left _ (Nat.mod_le _ _)
        have h2 := hk0 rfl
        rw [Nat.mul_comm H m] at h2
        omega
      · have h1 : 1 ≤ H / m := Nat.div_pos z1 (by omega)
        have h2 : m * 1 ≤ m * (H / m) := Nat.mul_le_mul_left _ h1
        have h3 : 2 * (H % m) ≤ H := by omega
        have h4 : m * (H % m) * (2 ^ k * 2) = (2 * (H % m)) * m * 2 ^ k := by
          generalize 2 ^ k = w
          grind
        rw [h4]
        exact Nat.le_trans (Nat.mul_le_mul_right _ (Nat.mul_le_mul_right _ h3)) hp
    generalize hv : (s * (H : Int)).fdiv (s * m) = v at *
    refine ⟨_, t1.trans (by rw [beq_eq_false_iff_ne.mpr nz]; rfl), _, H % m, ml, e2, k + 1, m, H % m, s, g2, f - v * g2, q, g - v * q, iS v, rfl, ?_, hs, ?_, by omega, hT, by omega, .inr (by omega), prod, fun z => by omega, k64, r2, ?_, b2.mono (by omega), ?_, b4.mono (by omega), ?_⟩
    · rw [rem]
    · rw [Nat.gcd_comm, ← Nat.gcd_rec, Nat.gcd_comm]; exact hg
    · rw [← rem, ← r1, ← r2]; grind
    · exact (b1.sub (bv.mul b2)).mono (by omega)
    · exact (b3.sub (bv.mul b4)).mono (by omega)
theorem m_euclid_eq : m_law_euclid = dSeq (dAsgG (gT 6 (gsC (gN 2) (gsC (gN 3) (gsC (gN 4) (gsC (gN 5) (gsC (gN 6) (gsC (gN 7) (gsN)))))))) (dTup [dNm 0, dNm 1, dC (.int 1), dC (.int 0), dC (.int 0), dC (.int 1)]))
    (dSeq (dWh (dBl (dOp2 (gEq true) (dNm 3) (dC (.int 0)))) euB)
    (dRet (dIf (dBl (dOp2 fGt (dNm 2) (dC (.int 0)))) (dTup [dNm 4, dNm 6]) (dTup [dOp2 fSub (dC (.int 0)) (dNm 4), dOp2 fSub (dC (.int 0)) (dNm 6)])))) := rfl
theorem euclid_ok {c d : Int} (hc : 0 < c) (bc : c < 2 ^ 31) (bd : d.natAbs < 2 ^ 31) (hg : Int.gcd c d = 1) : ∃ x y : Int, fn_law_euclid none [.int c, .int d] = .ok (.tup [.int x, .int y]) none ∧ x * c + y * d = 1 ∧ Bd 2500 x ∧ Bd 2500 y := by
  have e0 : dAsgG (gT 6 (gsC (gN 2) (gsC (gN 3) (gsC (gN 4) (gsC (gN 5) (gsC (gN 6) (gsC (gN 7) (gsN)))))))) (dTup [dNm 0, dNm 1, dC (.int 1), dC (.int 0), dC (.int 0), dC (.int 1)]) (dsl [.int c, .int d] 7) = .ok .nx (eu c d c d 1 0 0 1 none) := rfl
  have one : Bd 64 1 := by unfold Bd; decide
  have nul : Bd 64 0 := by unfold Bd; decide
  have small : ∀ {a b : Nat}, a < 2 ^ 31 → b < 2 ^ 31 → a * b ≤ 2 ^ 62 := fun {a b} h1 h2 => by
    have := Nat.mul_le_mul (Nat.le_of_lt h1) (Nat.le_of_lt h2)
    exact Nat.le_trans this (by decide)
  obtain ⟨C, rfl⟩ : ∃ C : Nat, c = C := ⟨c.toNat, by omega⟩
  -- the first turn, where the signs differ
  obtain ⟨e', w1, I⟩ := dWh_ok (t := dBl (dOp2 (gEq true) (dNm 3) (dC (.int 0)))) (b := euB) (fun m e => (d < 0 ∧ m = 2 ^ 40 ∧ e = eu C d C d 1 0 0 1 none) ∨ (m < 2 ^ 40 ∧ EuI C d m e)) (fun e => EuI C d 0 e) (by
    rintro m e (⟨h1, rfl, rfl⟩ | ⟨lt, I⟩)
    · left
      have t1 : dBl (dOp2 (gEq true) (dNm 3) (dC (.int 0))) (eu C d C d 1 0 0 1 none) = .ok (!(d == 0)) (eu C d C d 1 0 0 1 none) := by decreasing_trivial
      have fm := Int.mul_fdiv_add_fmod (C : Int) d
      have r1 : -d.natAbs < (C : Int).fmod d := by
        have q : (C : Int).fmod d = -((-(C : Int)).fmod (-d)) := by rw [Int.neg_fmod_neg]; omega
        have := Int.fmod_lt_of_pos (-(C : Int)) (show 0 < -d by omega)
        omega
      have r0 : (C : Int).fmod d ≤ 0 := by
        have q : (C : Int).fmod d = -((-(C : Int)).fmod (-d)) := by rw [Int.neg_fmod_neg]; omega
        have := Int.fmod_nonneg_of_pos (-(C : Int)) (show 0 < -d by omega)
        omega
      generalize hv : (C : Int).fdiv d = v at *
      generalize hr : (C : Int).fmod d = r at *
      have bv : Bd 32 v := by
        unfold Bd
        have e1 : (d * v).natAbs = d.natAbs * v.natAbs := Int.natAbs_mul _ _
        have e2 : (d * v).natAbs ≤ C + d.natAbs := by omega
        rw [e1] at e2
        by_cases big : v.natAbs < 2 ^ 32
        · exact big
        · exfalso
          have h3 : d.natAbs * 2 ^ 32 ≤ d.natAbs * v.natAbs := Nat.mul_le_mul_left _ (by omega)
          omega
      have e2 := euB_e (p := 64) (r := 32) (c := (C : Int)) (d := d) (h := (C : Int)) (t := d) (f := 1) (s := 0) (g := 0) (q := 1) (m := none) (by omega) (by unfold Bd; omega) (by rw [hv]; exact bv) nul one (by decide) (by omega)
      rw [hv] at e2
      refine ⟨_, t1.trans (by rw [beq_eq_false_iff_ne.mpr (show d ≠ 0 by omega)]; rfl), _, r.natAbs, by omega, e2, .inr ⟨by omega, 1, d.natAbs, r.natAbs, -1, 0, 1 - v * 0, 1, 0 - v * 1, iS v, rfl, ?_, .inr rfl, ?_, by omega, by omega, by omega, .inr (by omega), ?_, (fun z => by cases z), by decide, by omega, ?_, nul.mono (by decide), (one.sub (bv.mul nul)).mono (by decide), one.mono (by decide), (nul.sub (bv.mul one)).mono (by decide)⟩⟩
      · rw [show (C : Int) - v * d = -1 * (r.natAbs : Int) by rw [Int.mul_comm]; omega, show (-1 * (d.natAbs : Int)) = d by omega]
      · have e3 : Int.gcd d r = 1 := by
          rw [← hg, Int.gcd_comm (C : Int) d]
          have : (C : Int) = r + d * v := by omega
          rw [this, Int.gcd_add_mul_left_right]
        exact e3
      · have := small bd (show r.natAbs < 2 ^ 31 by omega)
        omega
      · grind
    · rcases eu_turn I with ⟨e1, h1, e2, m', h2, h3, h4⟩ | ⟨e1, h1, h2⟩
      · exact .inl ⟨e1, h1, e2, m', h2, h3, .inr ⟨by omega, h4⟩⟩
      · exact .inr ⟨e1, h1, h2⟩) (if d < 0 then 2 ^ 40 else d.natAbs) (eu C d C d 1 0 0 1 none) (by
    split
    · rename_i n
      exact .inl ⟨n, rfl, rfl⟩
    · rename_i n
      refine .inr ⟨by omega, 0, C, d.natAbs, 1, 1, 0, 0, 1, none, rfl, ?_, .inl rfl, hg, by omega, by omega, bd, .inl rfl, ?_, fun _ => small (by omega) bd, by decide, by omega, by omega, one, nul, nul, one⟩
      · rw [Int.one_mul, Int.one_mul, show (d.natAbs : Int) = d by omega]
      · have := small (show C < 2 ^ 31 by omega) bd
        omega)
  obtain ⟨k, H, T, s, f, g2, g, q, mm, hz, rfl, hs, hgc, h0, _, _, _, _, _, hk, r1, _, b1, _, b3, _⟩ := I
  subst hz
  rw [Nat.gcd_zero_right] at hgc
  subst hgc
  have rt : dBl (dOp2 fGt (dNm 2) (dC (.int 0))) (eu C d (s * ((1 : Nat) : Int)) (s * ((0 : Nat) : Int)) f g2 g q mm) = .ok (decide (0 < s * ((1 : Nat) : Int))) (eu C d (s * ((1 : Nat) : Int)) (s * ((0 : Nat) : Int)) f g2 g q mm) := by decreasing_trivial
  rcases hs with rfl | rfl
  · refine ⟨f, g, runF_r (e := eu C d (1 * ((1 : Nat) : Int)) (1 * ((0 : Nat) : Int)) f g2 g q mm) ?_, by rw [r1]; rfl, b1.mono (by omega), b3.mono (by omega)⟩
    rw [m_euclid_eq, dSeq_e e0, dSeq_e w1]
    refine dRet_e ?_
    rw [dIf_t rt]
    decreasing_trivial
  · refine ⟨0 - f, 0 - g, runF_r (e := eu C d (-1 * ((1 : Nat) : Int)) (-1 * ((0 : Nat) : Int)) f g2 g q mm) ?_, by grind, b1.neg'.mono (by omega), b3.neg'.mono (by omega)⟩
    rw [m_euclid_eq, dSeq_e e0, dSeq_e w1]
    refine dRet_e ?_
    rw [dIf_f rt]
    decreasing_trivial
end
end Lk17
set_option Elab.async false
set_option linter.all false
set_option maxRecDepth 100000
set_option maxHeartbeats 4000000
/-! k17: the word by nearest integers: plain mathematics. -/
namespace Jac
theorem near {a c : Int} (hc : c ≠ 0) : (a - (2 * a + c).fdiv (2 * c) * c).natAbs < c.natAbs := by
  have h := Int.fmod_add_mul_fdiv (2 * a + c) (2 * c)
  generalize hm : (2 * a + c).fdiv (2 * c) = m at *
  have e : 2 * (a - m * c) = (2 * a + c).fmod (2 * c) - c := by
    have : 2 * c * m = 2 * (m * c) := by grind
    rw [this] at h
    omega
  rcases Int.lt_or_gt_of_ne hc with n | n
  · have r0 : (2 * a + c).fmod (2 * c) ≤ 0 := by
      have q : (2 * a + c).fmod (2 * c) = -((-(2 * a + c)).fmod (-(2 * c))) := by rw [Int.neg_fmod_neg]; omega
      have := Int.fmod_nonneg_of_pos (-(2 * a + c)) (show 0 < -(2 * c) by omega)
      omega
    have r1 : 2 * c < (2 * a + c).fmod (2 * c) := by
      have q : (2 * a + c).fmod (2 * c) = -((-(2 * a + c)).fmod (-(2 * c))) := by rw [Int.neg_fmod_neg]; omega
      have := Int.fmod_lt_of_pos (-(2 * a + c)) (show 0 < -(2 * c) by omega)
      omega
    omega
  · have r0 := Int.fmod_nonneg_of_pos (2 * a + c) (show 0 < 2 * c by omega)
    have r1 := Int.fmod_lt_of_pos (2 * a + c) (show 0 < 2 * c by omega)
    omega
/-- S's inverse, and what is left when S and a power of T are taken off -/
def si : Mat := ⟨0, 1, -1, 0⟩
def lft (A : Mat) (m : Int) : Mat := si.mul ((tm (0 - m)).mul A)
theorem lft_eq (A : Mat) (m : Int) : lft A m = ⟨A.c, A.d, -(A.a - m * A.c), -(A.b - m * A.d)⟩ := by
  apply Mat.ext <;> simp only [lft, Mat.mul, si, tm] <;> grind
theorem lft_back (A : Mat) (m : Int) : (tm m).mul (sm.mul (lft A m)) = A := by
  rw [lft_eq]
  apply Mat.ext <;> simp only [Mat.mul, sm, tm] <;> grind
theorem lft_det {A : Mat} (h : A.det = 1) (m : Int) : (lft A m).det = 1 := by
  rw [lft_eq]
  simp only [Mat.det] at *
  grind
theorem lft_less {A : Mat} (hc : A.c ≠ 0) : (lft A ((2 * A.a + A.c).fdiv (2 * A.c))).c.natAbs < A.c.natAbs := by
  rw [lft_eq]
  show (-(A.a - _)).natAbs < _
  rw [Int.natAbs_neg]
  exact near hc
/-- the word's matrices, turned up along the way -/
def along (H : Mat) : List Int → Mat
  | [] => H
  | m :: r => along ((upm (H.mul sm)).mul (tm m)) r
def rootAlong (H : Mat) (f : Int) : List Int → Int
  | [] => f
  | m :: r => rootAlong ((upm (H.mul sm)).mul (tm m)) (f + 21 + m + wt (H.mul sm)) r
theorem along_ok : ∀ (w : List Int) (H : Mat) (f : Int), H.det = 1 → Up H → (nuM H - f) % 24 = 0 → (along H w).det = 1 ∧ Up (along H w) ∧ (nuM (along H w) - rootAlong H f w) % 24 = 0
  | [], H, f, h, u, e => ⟨h, u, e⟩
  | m :: r, H, f, h, u, e => by
    have d1 := det_mul h sm_det
    have d2 := det_mul (det_upm d1) (tm_det m)
    have u2 := up_T (det_upm d1) (up_upm d1) m
    have s := S_all h u
    have t := T_all (det_upm d1) (up_upm d1) m
    exact along_ok r _ _ d2 u2 (by omega)
def idm : Mat := ⟨1, 0, 0, 1⟩
def pr : List Int → Mat
  | [] => idm
  | m :: r => sm.mul ((tm m).mul (pr r))
theorem pr_det : ∀ w, (pr w).det = 1
  | [] => rfl
  | m :: r => det_mul sm_det (det_mul (tm_det m) (pr_det r))
theorem mul_id (A : Mat) : A.mul idm = A := by
  apply Mat.ext <;> simp [Mat.mul, idm]
theorem along_eq : ∀ (w : List Int) (H : Mat), H.det = 1 → Up H → along H w = upm (H.mul (pr w))
  | [], H, _, u => by
    show H = upm (H.mul idm)
    rw [mul_id, upm_up u]
  | m :: r, H, h, u => by
    have d1 := det_mul h sm_det
    have d2 := det_mul (det_upm d1) (tm_det m)
    show along ((upm (H.mul sm)).mul (tm m)) r = _
    rw [along_eq r _ d2 (up_T (det_upm d1) (up_upm d1) m), mul_assoc, upm_mul_l d1 (det_mul (tm_det m) (pr_det r)), mul_assoc]
    rfl
/-- the word that the law finds -/
inductive Wd : Mat → List Int → Prop
  | nil {A : Mat} (h : A.c = 0) : Wd A [A.b * A.d]
  | cons {A : Mat} {w : List Int} (h : A.c ≠ 0) (t : Wd (lft A ((2 * A.a + A.c).fdiv (2 * A.c))) w) : Wd A ((2 * A.a + A.c).fdiv (2 * A.c) :: w)
theorem Wd.some {A : Mat} {w : List Int} (t : Wd A w) : A.det = 1 → ∃ m r, w = m :: r ∧ upm ((tm m).mul (pr r)) = upm A := by
  induction t with
  | @nil A h =>
    intro hd
    refine ⟨_, [], rfl, ?_⟩
    show upm ((tm (A.b * A.d)).mul idm) = _
    rw [mul_id, upm_up (tm_up _)]
    obtain ⟨a, b, c, d⟩ := A
    have h : c = 0 := h
    subst h
    rcases c_zero hd rfl with ⟨h1, h2⟩ | ⟨h1, h2⟩
    · have h1 : a = 1 := h1
      have h2 : d = 1 := h2
      subst h1 h2
      rw [upm_up (show Up ⟨1, b, 0, 1⟩ from .inr ⟨rfl, rfl⟩)]
      apply Mat.ext <;> simp [tm]
    · have h1 : a = -1 := h1
      have h2 : d = -1 := h2
      subst h1 h2
      have k : ¬ Up ⟨-1, b, 0, -1⟩ := fun z => by
        have z : (0 : Int) < 0 ∨ ((0 : Int) = 0 ∧ (-1 : Int) = 1) := z
        omega
      unfold upm
      rw [if_neg k]
      apply Mat.ext <;> simp [tm, Mat.neg] <;> omega
  | @cons A w h t ih =>
    intro hd
    have dl := lft_det hd ((2 * A.a + A.c).fdiv (2 * A.c))
    obtain ⟨m, r, rfl, e⟩ := ih dl
    refine ⟨_, m :: r, rfl, ?_⟩
    have dX := det_mul (tm_det m) (pr_det r)
    have back := lft_back A ((2 * A.a + A.c).fdiv (2 * A.c))
    show upm ((tm _).mul (sm.mul ((tm m).mul (pr r)))) = _
    rw [← mul_assoc, ← upm_mul_r (det_mul (tm_det _) sm_det) dX, e, upm_mul_r (det_mul (tm_det _) sm_det) dl, mul_assoc, back]
/-- along the word of an upright matrix: its root -/
theorem Wd.root {A : Mat} {m : Int} {r : List Int} (t : Wd A (m :: r)) (hd : A.det = 1) (u : Up A) : (nuM A - rootAlong (tm m) m r) % 24 = 0 := by
  obtain ⟨m', r', e, k⟩ := t.some hd
  cases e
  have z := along_ok r (tm m) m (tm_det m) (tm_up m) (by rw [show nuM (tm m) = m from nu_zero _ _ _]; omega)
  rw [along_eq r (tm m) (tm_det m) (tm_up m), k, upm_up u] at z
  exact z.2.2
end Jac
set_option Elab.async false
set_option linter.all false
set_option maxRecDepth 100000
set_option maxHeartbeats 4000000
/-! k17: what is drawn. -/
namespace Lk17
open Dv PySem PyProof.Rows L2 Jac
section
variable [TabC]
local macro_rules | `(tactic| array_mem_dec) => `(tactic| first
  | (with_reducible assumption)
  | ((with_reducible apply Bd.mul) <;> array_mem_dec)
  | ((with_reducible apply Bd.add) <;> array_mem_dec)
  | ((with_reducible apply Bd.sub) <;> array_mem_dec)
  | ((with_reducible apply Bd.neg); array_mem_dec)
  | exact (show Bd 64 _ from (by unfold Bd; decide)))
local macro_rules | `(tactic| get_elem_tactic_trivial) => `(tactic| first
  | (with_reducible assumption)
  | (with_reducible apply fAdd_i)
  | (with_reducible apply fSub_i)
  | (with_reducible apply gEq_i)
  | (with_reducible apply gNe_i)
  | (with_reducible apply gInt_i)
  | (with_reducible refine fMul_l (by decide))
  | (with_reducible refine fMul_r (by decide))
  | (with_reducible refine fMod_p (by first | decide | omega))
  | (with_reducible refine fPow_p (by decide) (by decide) (by decide))
  | (with_reducible refine fDiv_p (by first | decide | omega) (by first | decide | exact log2_small (by omega) (by omega)))
  | ((with_reducible apply fMul_b); (array_mem_dec); (array_mem_dec); (first | decide | omega))
  | exact rfl)
local macro_rules | `(tactic| array_get_dec) => `(tactic| (with_reducible assumption))
local macro_rules | `(tactic| decreasing_trivial) => `(tactic| first
  | (with_reducible assumption)
  | (with_reducible apply dC_e)
  | ((with_reducible apply dNm_d); (exact rfl))
  | ((with_reducible apply dNm_s); (exact rfl))
  | ((with_reducible apply dRet_e); decreasing_trivial)
  | ((with_reducible apply dOp2_e); (decreasing_trivial); (first | (with_reducible exact ov_d _) | (with_reducible exact ov_n _)); (decreasing_trivial); (first | (with_reducible exact ov_d _) | (with_reducible exact ov_n _)); (get_elem_tactic_trivial))
  | ((with_reducible apply dOp1_d); (decreasing_trivial); (get_elem_tactic_trivial))
  | ((with_reducible apply dOp1_n); (decreasing_trivial); (get_elem_tactic_trivial))
  | ((with_reducible apply dAsg_d); decreasing_trivial)
  | ((with_reducible apply dAsg_n); decreasing_trivial)
  | ((with_reducible apply dAsgG_d); (decreasing_trivial); (exact rfl))
  | ((with_reducible apply dAsgG_n); (decreasing_trivial); (exact rfl))
  | ((with_reducible apply dTup_e); (decreasing_trivial); (exact Nat.le_of_ble_eq_true rfl))
  | ((with_reducible apply dLst_e); (decreasing_trivial); (exact Nat.le_of_ble_eq_true rfl))
  | (with_reducible apply dArgs_z)
  | ((with_reducible apply dArgs_c); (decreasing_trivial); (decreasing_trivial))
  | ((with_reducible apply dArgs_n); (decreasing_trivial); (decreasing_trivial))
  | ((with_reducible apply dArgs_o); (decreasing_trivial); (exact rfl); (decreasing_trivial))
  | (with_reducible apply dDnil_e)
  | ((with_reducible apply dPar2_r); (decreasing_trivial); (decreasing_trivial))
  | ((with_reducible apply dPar3_r); (decreasing_trivial); (decreasing_trivial); (decreasing_trivial))
  | ((with_reducible apply dBl_e); decreasing_trivial)
  | ((with_reducible apply dTru_e); decreasing_trivial)
  | ((with_reducible apply dNot_e); decreasing_trivial)
  | ((with_reducible apply dNotV_e); decreasing_trivial)
  | ((with_reducible apply dCall_e); (decreasing_trivial); (exact rfl); (array_get_dec))
  | ((with_reducible apply dCallK_e); (decreasing_trivial); (exact rfl); (exact rfl); (array_get_dec))
  | ((with_reducible apply dSl_d); (decreasing_trivial); (decreasing_trivial); (decreasing_trivial); (exact rfl))
  | ((with_reducible apply dPart_e); decreasing_trivial)
  | ((with_reducible apply dDrop_e); decreasing_trivial)
  | ((with_reducible apply dIt_d); (decreasing_trivial); (exact rfl))
  | ((with_reducible apply dIt_n); decreasing_trivial)
  | ((with_reducible apply dRng_e); (decreasing_trivial); (get_elem_tactic_trivial)))
abbrev dw (s : Drw) : Option Sl := some (.o (.drw s))
theorem take_e {e e1 : En} {i : Nat} {s s0 : Drw} {n : Int} {m : M Opd} (hg : gt e i = some (.o (.drw s0))) (hm : dArgs [m] e = .ok [.int n] e1) (hg1 : gt e1 i = some (.o (.drw s))) (h0 : 0 < n) (h1 : n < 18446744073709551616) :
    ∃ k s', 0 ≤ k ∧ k < n ∧ dCallIo 2 i fn_law_take [m] e = .ok (.d (.int k)) (st e1 i (some (.o (.drw s')))) := dTake_e2 hg hm hg1 h0 h1
theorem pick_e {e e1 : En} {i : Nat} {s : Drw} {xs : List D} {m : M Opd} (hg : gt e i = some (.o (.drw s))) (hm : dArgs [m] e = .ok [.lst xs] e1) (hg1 : gt e1 i = some (.o (.drw s))) (h0 : xs ≠ []) (h1 : xs.length ≤ 100000) :
    ∃ x ∈ xs, ∃ s', dCallIo 2 i fn_law_pick [m] e = .ok (.d x) (st e1 i (some (.o (.drw s')))) := dPick_e hg hm hg1 h0 h1
theorem number_ok (s : Drw) : ∃ v s', Bd 21 v ∧ fn_law_number (some (.drw s)) [] = .ok (.int v) (some (.drw s')) := by
  obtain ⟨k, s1, k0, k1, t1⟩ := take_e (e := [dw s]) (e1 := [dw s]) (i := 0) (s := s) (n := 6) (m := dC (.int 6)) rfl rfl rfl (by decide) (by decide)
  have t1 : _ = Res.ok (Opd.d (.int k)) [dw s1] := t1
  have c1 : dBl (dOp2 (gEq false) (dCallIo 2 0 fn_law_take [dC (.int 6)]) (dC (.int 0))) [dw s] = .ok (k == 0) [dw s1] := by decreasing_trivial
  by_cases z : k = 0
  · subst z
    obtain ⟨x, hx, s2, t2⟩ := pick_e (e := [dw s1]) (e1 := [dw s1]) (i := 0) (s := s1) (xs := [.int 1, .int (-1)]) (m := dLst [dC (.int 1), dOp1 fNeg (dC (.int 1))]) rfl rfl rfl (by simp) (by decide)
    have t2 : _ = Res.ok (Opd.d x) [dw s2] := t2
    obtain ⟨j, s3, j0, j1, t3⟩ := take_e (e := [dw s2]) (e1 := [dw s2]) (i := 0) (s := s2) (n := 10 ^ 6) (m := dOp2 fPow (dC (.int 10)) (dC (.int 6))) rfl rfl rfl (by decide) (by decide)
    have t3 : _ = Res.ok (Opd.d (.int j)) [dw s3] := t3
    have : ∃ y : Int, x = .int y ∧ (y = 1 ∨ y = -1) := by
      simp only [List.mem_cons, List.not_mem_nil, or_false] at hx
      rcases hx with rfl | rfl
      · exact ⟨_, rfl, .inl rfl⟩
      · exact ⟨_, rfl, .inr rfl⟩
    obtain ⟨y, rfl, hy⟩ := this
    have by1 : Bd 21 y := by unfold Bd; omega
    have bj : Bd 21 j := by unfold Bd; omega
    refine ⟨y * j, s3, ?_, runI_r (e := [dw s3]) ?_ rfl⟩
    · unfold Bd
      rcases hy with rfl | rfl <;> omega
    · show m_law_number [dw s] = _
      unfold m_law_number
      rw [dTake_if c1 (d := .int (y * j)) (e2 := [dw s3]) (by decreasing_trivial)]
  · obtain ⟨j, s3, j0, j1, t3⟩ := take_e (e := [dw s1]) (e1 := [dw s1]) (i := 0) (s := s1) (n := 19) (m := dC (.int 19)) rfl rfl rfl (by decide) (by decide)
    have t3 : _ = Res.ok (Opd.d (.int j)) [dw s3] := t3
    refine ⟨j - 9, s3, by unfold Bd; omega, runI_r (e := [dw s3]) ?_ rfl⟩
    show m_law_number [dw s] = _
    unfold m_law_number
    rw [dSkip_if (c1.trans (by rw [beq_eq_false_iff_ne.mpr z]))]
    decreasing_trivial
theorem cut_tail (x : D) (r : List D) : Dv.cutD (x :: r) (some 1) none = r := by
  unfold Dv.cutD HT.sIx
  simp
theorem intsBd {p : Nat} : ∀ (ys : List D), (∀ y ∈ ys, ∃ v : Int, y = .int v ∧ Bd p v) → ∃ l : List Int, ys = l.map .int ∧ ∀ v ∈ l, Bd p v
  | [], _ => ⟨[], rfl, fun _ z => by cases z⟩
  | y :: r, h => by
    obtain ⟨v, rfl, hv⟩ := h y List.mem_cons_self
    obtain ⟨l, rfl, hl⟩ := intsBd r fun z hz => h z (List.mem_cons_of_mem _ hz)
    exact ⟨v :: l, rfl, fun w hw => (List.mem_cons.mp hw).elim (fun e => e ▸ hv) (hl w)⟩
theorem word_ok (s : Drw) : ∃ (l : List Int) (s' : Drw), l ≠ [] ∧ l.length ≤ 5 ∧ (∀ v ∈ l, Bd 21 v) ∧ fn_law_word (some (.drw s)) [.int 5] = .ok (tupI l) (some (.drw s')) := by
  obtain ⟨k, s1, k0, k1, t1⟩ := take_e (e := [dw s, iS 5, none]) (e1 := [dw s, iS 5, none]) (i := 0) (s := s) (n := 5) (m := dNm 1) rfl rfl rfl (by decide) (by decide)
  have t1 : _ = Res.ok (Opd.d (.int k)) [dw s1, iS 5, none] := t1
  have hr : gRng1 [.int (1 + k)] = some (rngL 0 1 (1 + k).toNat) := rng1_e (by omega) (by omega)
  have it : dRng gRng1 [dOp2 fAdd (dC (.int 1)) (dCallIo 2 0 fn_law_take [dNm 1])] [dw s, iS 5, none] = .ok (rngL 0 1 (1 + k).toNat) [dw s1, iS 5, none] := by decreasing_trivial
  obtain ⟨ys, e', h1, h2, ⟨s2, rfl⟩, h4⟩ := dLc_inv (f := fNm 2) (c := dYes) (m := dCallIo 1 0 fn_law_number []) (vs := [2]) (fun e => ∃ s, e = [dw s, iS 5, none]) (fun y => ∃ v : Int, y = .int v ∧ Bd 21 v) it rfl ⟨s1, rfl⟩ (by rw [rngL_len]; unfold SZ; omega) (by
    rintro x hx e ⟨s2, rfl⟩
    obtain ⟨v, s3, bv, hv⟩ := number_ok s2
    refine ⟨.int v, [dw s3, iS 5, none], ⟨v, rfl, bv⟩, ⟨s3, rfl⟩, fun acc ha => ?_⟩
    exact turn_y (l := [(2, x)]) (e2 := [dw s3, iS 5, some (.d x)]) rfl rfl (dCallIo_e (o0 := .drw s2) (o := .drw s2) (o' := .drw s3) (e := [dw s2, iS 5, some (.d x)]) (e1 := [dw s2, iS 5, some (.d x)]) rfl rfl rfl rfl hv) ha)
  have h4 : _ = Res.ok (Opd.n (.lst ys)) [dw s2, iS 5, none] := h4
  obtain ⟨l, rfl, hl⟩ := intsBd ys h1
  rw [rngL_len, List.length_map] at h2
  refine ⟨l, s2, fun z => by subst z; simp at h2; omega, by omega, hl, runI_r (e := [dw s2, iS 5, none]) ?_ rfl⟩
  show m_law_word [dw s, iS 5, none] = _
  unfold m_law_word
  decreasing_trivial
def em (w : List Int) (A : Mat) (m : Option Sl) : En := [some (.d (tupI w)), iS A.a, iS A.b, iS A.c, iS A.d, m]
theorem word_matrix_ok (l : List Int) (hne : l ≠ []) (hl : l.length ≤ 5) (hb : ∀ v ∈ l, Bd 21 v) : ∃ A, A.det = 1 ∧ BdM 400 A ∧ fn_law_word_matrix none [tupI l] = .ok (matD A) none := by
  obtain ⟨w0, r, rfl⟩ : ∃ w0 r, l = w0 :: r := by
    cases l with
    | nil => exact absurd rfl hne
    | cons a b => exact ⟨a, b, rfl⟩
  have e0 : dAsgG (gT 4 (gsC (gN 1) (gsC (gN 2) (gsC (gN 3) (gsC (gN 4) (gsN)))))) (dTup [dC (.int 1), dOp2 gSub2 (dNm 0) (dC (.int 0)), dC (.int 0), dC (.int 1)]) (dsl [tupI (w0 :: r)] 5) = .ok .nx (em (w0 :: r) ⟨1, w0, 0, 1⟩ none) := by
    have hg : gSub2 (tupI (w0 :: r)) (.int 0) = some (.d (.int w0)) := sub_tup (w0 :: r) 0 (by simp)
    have n0 : dNm 0 (dsl [tupI (w0 :: r)] 5) = .ok (.d (tupI (w0 :: r))) (dsl [tupI (w0 :: r)] 5) := rfl
    (apply Eq.trans; (decreasing_trivial); (rfl))
  have e1 : dIt (dSl (dNm 0) (dPart (dC (.int 1))) (dNoPart)) (em (w0 :: r) ⟨1, w0, 0, 1⟩ none) = .ok (r.map .int) (em (w0 :: r) ⟨1, w0, 0, 1⟩ none) := by
    have hs : gSl (some 1) none (tupI (w0 :: r)) = some (.d (.tup (r.map .int))) := by
      show some (Opd.d (.tup (Dv.cutD ((w0 :: r).map D.int) (some 1) none))) = _
      have : Dv.cutD ((w0 :: r).map D.int) (some 1) none = r.map .int := cut_tail (.int w0) (r.map .int)
      rw [this]
    exact dIt_d (dSl_d (x := tupI (w0 :: r)) rfl rfl rfl hs) rfl
  obtain ⟨e', h1, h2⟩ := dForL_ok (t := gN 5) (b := dAsgG (gT 4 (gsC (gN 1) (gsC (gN 2) (gsC (gN 3) (gsC (gN 4) (gsN)))))) (dTup [dNm 2, dOp2 fSub (dOp2 fMul (dNm 2) (dNm 5)) (dNm 1), dNm 4, dOp2 fSub (dOp2 fMul (dNm 4) (dNm 5)) (dNm 3)]))
    (fun xs e => (∀ x ∈ xs, ∃ v : Int, x = .int v ∧ Bd 21 v) ∧ ∃ A p m, e = em (w0 :: r) A m ∧ A.det = 1 ∧ BdM p A ∧ p + 30 * xs.length ≤ 300) (by
    rintro x xs e ⟨hx, A, p, m, rfl, hd, ⟨ba, bb, bc, bd⟩, hp⟩
    obtain ⟨v, rfl, bv⟩ := hx x List.mem_cons_self
    rw [List.length_cons] at hp
    refine ⟨em (w0 :: r) ⟨A.b, A.b * v - A.a, A.d, A.d * v - A.c⟩ (iS v), ?_, fun y hy => hx y (List.mem_cons_of_mem _ hy), _, p + 30, iS v, rfl, ?_, ⟨bb.mono (by omega), ((bb.mul bv).sub ba).mono (by omega), bd.mono (by omega), ((bd.mul bv).sub bc).mono (by omega)⟩, by omega⟩
    · rw [gN_e]
      have p1 : p + 21 < 1000000 := by omega
      have n2 : dNm 2 (em (w0 :: r) A (iS v)) = .ok (.d (.int A.b)) (em (w0 :: r) A (iS v)) := rfl
      show dAsgG _ _ (em (w0 :: r) A (iS v)) = _
      (apply Eq.trans; (decreasing_trivial); (rfl))
    · unfold Mat.det at *
      dsimp only
      grind) (r.map .int) (em (w0 :: r) ⟨1, w0, 0, 1⟩ none) ⟨fun x hx => by
      obtain ⟨v, hv, rfl⟩ := List.mem_map.mp hx
      exact ⟨v, rfl, hb v (List.mem_cons_of_mem _ hv)⟩, ⟨1, w0, 0, 1⟩, 64, none, rfl, by unfold Mat.det; dsimp only; omega, ⟨(show Bd 64 1 by unfold Bd; decide), (hb w0 List.mem_cons_self).mono (by decide), (show Bd 64 0 by unfold Bd; decide), (show Bd 64 1 by unfold Bd; decide)⟩, by
      rw [List.length_map]
      rw [List.length_cons] at hl
      omega⟩
  obtain ⟨_, A, p, m, rfl, hd, hbd, hp⟩ := h2
  have hp : p + 30 * 0 ≤ 300 := hp
  refine ⟨A, hd, ⟨hbd.1.mono (by omega), hbd.2.1.mono (by omega), hbd.2.2.1.mono (by omega), hbd.2.2.2.mono (by omega)⟩, runF_r (e := em (w0 :: r) A m) ?_⟩
  unfold m_law_word_matrix
  rw [dSeq_e e0, dSeq_e ((dFor_e e1).trans h1)]
  rfl
end
end Lk17
set_option Elab.async false
set_option linter.all false
set_option maxRecDepth 100000
set_option maxHeartbeats 4000000
/-! k17: matrices drawn. -/
namespace Lk17
open Dv PySem PyProof.Rows L2 Jac
section
variable [TabC]
local macro_rules | `(tactic| array_mem_dec) => `(tactic| first
  | (with_reducible assumption)
  | ((with_reducible apply Bd.mul) <;> array_mem_dec)
  | ((with_reducible apply Bd.add) <;> array_mem_dec)
  | ((with_reducible apply Bd.sub) <;> array_mem_dec)
  | ((with_reducible apply Bd.neg); array_mem_dec)
  | exact (show Bd 64 _ from (by unfold Bd; decide)))
local macro_rules | `(tactic| get_elem_tactic_trivial) => `(tactic| first
  | (with_reducible assumption)
  | (with_reducible apply fAdd_i)
  | (with_reducible apply fSub_i)
  | (with_reducible apply gEq_i)
  | (with_reducible apply gNe_i)
  | (with_reducible apply gInt_i)
  | (with_reducible refine fMul_l (by decide))
  | (with_reducible refine fMul_r (by decide))
  | (with_reducible refine fMod_p (by first | decide | omega))
  | (with_reducible refine fPow_p (by decide) (by decide) (by decide))
  | (with_reducible refine fDiv_p (by first | decide | omega) (by first | decide | exact log2_small (by omega) (by omega)))
  | ((with_reducible apply fMul_b); (array_mem_dec); (array_mem_dec); (first | decide | omega))
  | exact rfl)
local macro_rules | `(tactic| array_get_dec) => `(tactic| (with_reducible assumption))
local macro_rules | `(tactic| decreasing_trivial) => `(tactic| first
  | (with_reducible assumption)
  | (with_reducible apply dC_e)
  | ((with_reducible apply dNm_d); (exact rfl))
  | ((with_reducible apply dNm_s); (exact rfl))
  | ((with_reducible apply dRet_e); decreasing_trivial)
  | ((with_reducible apply dOp2_e); (decreasing_trivial); (first | (with_reducible exact ov_d _) | (with_reducible exact ov_n _)); (decreasing_trivial); (first | (with_reducible exact ov_d _) | (with_reducible exact ov_n _)); (get_elem_tactic_trivial))
  | ((with_reducible apply dOp1_d); (decreasing_trivial); (get_elem_tactic_trivial))
  | ((with_reducible apply dOp1_n); (decreasing_trivial); (get_elem_tactic_trivial))
  | ((with_reducible apply dAsg_d); decreasing_trivial)
  | ((with_reducible apply dAsg_n); decreasing_trivial)
  | ((with_reducible apply dAsgG_d); (decreasing_trivial); (exact rfl))
  | ((with_reducible apply dAsgG_n); (decreasing_trivial); (exact rfl))
  | ((with_reducible apply dTup_e); (decreasing_trivial); (exact Nat.le_of_ble_eq_true rfl))
  | ((with_reducible apply dLst_e); (decreasing_trivial); (exact Nat.le_of_ble_eq_true rfl))
  | (with_reducible apply dArgs_z)
  | ((with_reducible apply dArgs_c); (decreasing_trivial); (decreasing_trivial))
  | ((with_reducible apply dArgs_n); (decreasing_trivial); (decreasing_trivial))
  | ((with_reducible apply dArgs_o); (decreasing_trivial); (exact rfl); (decreasing_trivial))
  | (with_reducible apply dDnil_e)
  | ((with_reducible apply dPar2_r); (decreasing_trivial); (decreasing_trivial))
  | ((with_reducible apply dPar3_r); (decreasing_trivial); (decreasing_trivial); (decreasing_trivial))
  | ((with_reducible apply dBl_e); decreasing_trivial)
  | ((with_reducible apply dTru_e); decreasing_trivial)
  | ((with_reducible apply dNot_e); decreasing_trivial)
  | ((with_reducible apply dNotV_e); decreasing_trivial)
  | ((with_reducible apply dCall_e); (decreasing_trivial); (exact rfl); (array_get_dec))
  | ((with_reducible apply dCallK_e); (decreasing_trivial); (exact rfl); (exact rfl); (array_get_dec))
  | ((with_reducible apply dSl_d); (decreasing_trivial); (decreasing_trivial); (decreasing_trivial); (exact rfl))
  | ((with_reducible apply dPart_e); decreasing_trivial)
  | ((with_reducible apply dDrop_e); decreasing_trivial)
  | ((with_reducible apply dIt_d); (decreasing_trivial); (exact rfl))
  | ((with_reducible apply dIt_n); decreasing_trivial)
  | ((with_reducible apply dRng_e); (decreasing_trivial); (get_elem_tactic_trivial)))
theorem BdM.mono {p q : Nat} {A : Mat} (h : BdM p A) (l : p ≤ q) : BdM q A := ⟨h.1.mono l, h.2.1.mono l, h.2.2.1.mono l, h.2.2.2.mono l⟩
def ngm (A : Mat) : Mat := ⟨0 - A.a, 0 - A.b, 0 - A.c, 0 - A.d⟩
theorem ngm_det (A : Mat) : (ngm A).det = A.det := by
  unfold Mat.det ngm
  dsimp only
  grind
theorem ngm_bd {p : Nat} {A : Mat} (h : BdM p A) : BdM p (ngm A) := ⟨h.1.neg', h.2.1.neg', h.2.2.1.neg', h.2.2.2.neg'⟩
theorem some_matrix_ok (s : Drw) : ∃ (A : Mat) (s' : Drw), A.det = 1 ∧ BdM 400 A ∧ fn_law_some_matrix (some (.drw s)) [] = .ok (matD A) (some (.drw s')) := by
  obtain ⟨l, s1, hne, hl, hb, hw⟩ := word_ok s
  obtain ⟨A, hd, hA, hm⟩ := word_matrix_ok l hne hl hb
  have t0 : dCallIo 2 0 fn_law_word [dC (.int 5)] [dw s, none, none] = .ok (.d (tupI l)) [dw s1, none, none] := dCallIo_e (o0 := .drw s) (o := .drw s) (e1 := [dw s, none, none]) rfl rfl rfl rfl hw
  have e0 : dAsg 1 (dCall 1 fn_law_word_matrix [dCallIo 2 0 fn_law_word [dC (.int 5)]]) [dw s, none, none] = .ok .nx [dw s1, some (.d (matD A)), none] := by (apply Eq.trans; (decreasing_trivial); (rfl))
  obtain ⟨k, s2, k0, k1, t1⟩ := take_e (e := [dw s1, some (.d (matD A)), none]) (e1 := [dw s1, some (.d (matD A)), none]) (i := 0) (s := s1) (n := 3) (m := dC (.int 3)) rfl rfl rfl (by decide) (by decide)
  have t1 : _ = Res.ok (Opd.d (.int k)) [dw s2, some (.d (matD A)), none] := t1
  have c1 : dBl (dOp2 fGt (dCallIo 2 0 fn_law_take [dC (.int 3)]) (dC (.int 0))) [dw s1, some (.d (matD A)), none] = .ok (decide (0 < k)) [dw s2, some (.d (matD A)), none] := by decreasing_trivial
  by_cases z : 0 < k
  · refine ⟨A, s2, hd, hA, runI_r (e := [dw s2, some (.d (matD A)), none]) ?_ rfl⟩
    show m_law_some_matrix [dw s, none, none] = _
    unfold m_law_some_matrix
    rw [dSeq_e e0]
    refine dRet_e ?_
    rw [dIf_t (c1.trans (by rw [decide_eq_true z]))]
    rfl
  · refine ⟨ngm A, s2, (ngm_det A).trans hd, ngm_bd hA, runI_r (e := [dw s2, some (.d (matD A)), none]) ?_ rfl⟩
    show m_law_some_matrix [dw s, none, none] = _
    unfold m_law_some_matrix
    rw [dSeq_e e0]
    refine dRet_e ?_
    rw [dIf_f (c1.trans (by rw [decide_eq_false z]))]
    rfl
theorem over_ok {c d : Int} (hc : 0 < c) (bc : c < 2 ^ 31) (bd : d.natAbs < 2 ^ 31) (hg : Int.gcd c d = 1) : ∃ A : Mat, A.det = 1 ∧ Up A ∧ BdM 2600 A ∧ fn_law_over none [.int c, .int d] = .ok (matD A) none := by
  obtain ⟨x, y, hf, hxy, bx, by1⟩ := euclid_ok hc bc bd hg
  have bc' : Bd 2600 c := Bd.mono (p := 31) (by unfold Bd; omega) (by decide)
  have bd' : Bd 2600 d := Bd.mono (p := 31) bd (by decide)
  refine ⟨⟨y, 0 - x, c, d⟩, ?_, .inl hc, ⟨by1.mono (by decide), bx.neg'.mono (by decide), bc', bd'⟩, runF_r (e := [iS c, iS d, iS x, iS y]) ?_⟩
  · unfold Mat.det
    dsimp only
    grind
  · have e0 : dAsgG (gT 2 (gsC (gN 2) (gsC (gN 3) (gsN)))) (dCall 2 fn_law_euclid [dNm 0, dNm 1]) [iS c, iS d, none, none] = .ok .nx [iS c, iS d, iS x, iS y] := by (apply Eq.trans; (decreasing_trivial); (rfl))
    show m_law_over [iS c, iS d, none, none] = _
    unfold m_law_over
    rw [dSeq_e e0]
    (apply Eq.trans; (decreasing_trivial); (rfl))
def Smat : Mat := ⟨0, -1, 1, 0⟩
theorem some_up_ok (s : Drw) : ∃ (A : Mat) (s' : Drw), A.det = 1 ∧ Up A ∧ BdM 2600 A ∧ fn_law_some_up (some (.drw s)) [] = .ok (matD A) (some (.drw s')) := by
  obtain ⟨k, s1, k0, k1, t1⟩ := take_e (e := [dw s, none, none, none]) (e1 := [dw s, none, none, none]) (i := 0) (s := s) (n := 8) (m := dC (.int 8)) rfl rfl rfl (by decide) (by decide)
  have t1 : _ = Res.ok (Opd.d (.int k)) [dw s1, none, none, none] := t1
  have e0 : dAsg 1 (dCallIo 2 0 fn_law_take [dC (.int 8)]) [dw s, none, none, none] = .ok .nx [dw s1, iS k, none, none] := by (apply Eq.trans; (decreasing_trivial); (rfl))
  have c1 : dBl (dOp2 fLt (dNm 1) (dC (.int 2))) [dw s1, iS k, none, none] = .ok (decide (k < 2)) [dw s1, iS k, none, none] := by decreasing_trivial
  by_cases z1 : k < 2
  · have c2 : dBl (dOp2 (gEq false) (dNm 1) (dC (.int 0))) [dw s1, iS k, none, none] = .ok (k == 0) [dw s1, iS k, none, none] := by decreasing_trivial
    by_cases z2 : k = 0
    · subst z2
      refine ⟨Smat, s1, rfl, .inl (by decide), ⟨(show Bd 64 0 by unfold Bd; decide).mono (by decide), (show Bd 64 (-1) by unfold Bd; decide).mono (by decide), (show Bd 64 1 by unfold Bd; decide).mono (by decide), (show Bd 64 0 by unfold Bd; decide).mono (by decide)⟩, runI_r (e := [dw s1, iS 0, none, none]) ?_ rfl⟩
      show m_law_some_up [dw s, none, none, none] = _
      unfold m_law_some_up
      rw [dSeq_e e0]
      refine dTake_if (c1.trans (by rw [decide_eq_true z1])) (dRet_e ?_)
      rw [dIf_t (c2.trans rfl)]
      rfl
    · obtain ⟨v, s2, bv, hv⟩ := number_ok s1
      have t2 : dCallIo 1 0 fn_law_number [] [dw s1, iS k, none, none] = .ok (.d (.int v)) [dw s2, iS k, none, none] := dCallIo_e (o0 := .drw s1) (o := .drw s1) (e1 := [dw s1, iS k, none, none]) rfl rfl rfl rfl hv
      refine ⟨tm v, s2, tm_det v, tm_up v, ⟨(show Bd 64 1 by unfold Bd; decide).mono (by decide), bv.mono (by decide), (show Bd 64 0 by unfold Bd; decide).mono (by decide), (show Bd 64 1 by unfold Bd; decide).mono (by decide)⟩, runI_r (e := [dw s2, iS k, none, none]) ?_ rfl⟩
      show m_law_some_up [dw s, none, none, none] = _
      unfold m_law_some_up
      rw [dSeq_e e0]
      refine dTake_if (c1.trans (by rw [decide_eq_true z1])) (dRet_e ?_)
      rw [dIf_f (c2.trans (by rw [beq_eq_false_iff_ne.mpr z2]))]
      have : dTup [dC (.int 1), dCallIo 1 0 fn_law_number [], dC (.int 0), dC (.int 1)] [dw s1, iS k, none, none] = .ok (.d (matD (tm v))) [dw s2, iS k, none, none] := by (apply Eq.trans; (decreasing_trivial); (rfl))
      exact this
  · have c3 : dBl (dOp2 (gEq false) (dNm 1) (dC (.int 2))) [dw s1, iS k, none, none] = .ok (k == 2) [dw s1, iS k, none, none] := by decreasing_trivial
    by_cases z3 : k = 2
    · subst z3
      obtain ⟨u, s2, u0, u1, t2⟩ := take_e (e := [dw s1, iS 2, none, none]) (e1 := [dw s1, iS 2, none, none]) (i := 0) (s := s1) (n := 10 ^ 9) (m := dOp2 fPow (dC (.int 10)) (dC (.int 9))) rfl rfl rfl (by decide) (by decide)
      have t2 : _ = Res.ok (Opd.d (.int u)) [dw s2, iS 2, none, none] := t2
      obtain ⟨v, s3, v0, v1, t3⟩ := take_e (e := [dw s2, iS 2, none, none]) (e1 := [dw s2, iS 2, none, none]) (i := 0) (s := s2) (n := 10 ^ 9) (m := dOp2 fPow (dC (.int 10)) (dC (.int 9))) rfl rfl rfl (by decide) (by decide)
      have t3 : _ = Res.ok (Opd.d (.int v)) [dw s3, iS 2, none, none] := t3
      have e1 : dPar2 2 3 (dOp2 fAdd (dC (.int 1)) (dCallIo 2 0 fn_law_take [dOp2 fPow (dC (.int 10)) (dC (.int 9))])) (dOp2 fSub (dCallIo 2 0 fn_law_take [dOp2 fPow (dC (.int 10)) (dC (.int 9))]) (dOp2 fPow (dC (.int 10)) (dC (.int 8)))) [dw s1, iS 2, none, none] = .ok .nx [dw s3, iS 2, iS (1 + u), iS (v - 100000000)] := by (apply Eq.trans; (decreasing_trivial); (rfl))
      generalize hc : 1 + u = c at e1
      generalize hd : v - 100000000 = d0 at e1
      have c0 : 0 < c := by omega
      obtain ⟨e', w1, d, hd1, hd2, hg, rfl⟩ := dWh_ok (t := dBl (dOp2 (gEq true) (dCall 2 fn_law_gcd [dNm 2, dNm 3]) (dC (.int 1)))) (b := dAsg 3 (dOp2 fAdd (dNm 3) (dC (.int 1))))
        (fun m e => ∃ d : Int, d0 ≤ d ∧ d ≤ d0 + (1 - d0) % c ∧ m = (d0 + (1 - d0) % c - d).toNat ∧ e = [dw s3, iS 2, iS c, iS d]) (fun e => ∃ d : Int, d0 ≤ d ∧ d ≤ d0 + (1 - d0) % c ∧ Int.gcd c d = 1 ∧ e = [dw s3, iS 2, iS c, iS d]) (by
        rintro m e ⟨d, h1, h2, rfl, rfl⟩
        have g1 := gcd_ok c d
        have c4 : dBl (dOp2 (gEq true) (dCall 2 fn_law_gcd [dNm 2, dNm 3]) (dC (.int 1))) [dw s3, iS 2, iS c, iS d] = .ok (!((Int.gcd c d : Int) == 1)) [dw s3, iS 2, iS c, iS d] := by decreasing_trivial
        by_cases g : Int.gcd c d = 1
        · exact .inr ⟨_, c4.trans (by rw [g]; rfl), d, h1, h2, g, rfl⟩
        · have ne : d ≠ d0 + (1 - d0) % c := fun e => g (by
            have e2 : d = 1 + c * (-((1 - d0) / c)) := by
              have := Int.emod_add_mul_ediv (1 - d0) c
              rw [e, Int.mul_neg]
              omega
            rw [e2, Int.gcd_add_mul_left_right]
            exact Int.gcd_one_right c)
          refine .inl ⟨_, c4.trans (by rw [beq_eq_false_iff_ne.mpr (show ((Int.gcd c d : Nat) : Int) ≠ 1 by omega)]; rfl), [dw s3, iS 2, iS c, iS (d + 1)], (d0 + (1 - d0) % c - (d + 1)).toNat, by omega, by (apply Eq.trans; (decreasing_trivial); (rfl)), d + 1, by omega, by omega, rfl, rfl⟩) ((d0 + (1 - d0) % c - d0).toNat) [dw s3, iS 2, iS c, iS d0] ⟨d0, by omega, by have := Int.emod_nonneg (1 - d0) (show c ≠ 0 by omega); omega, rfl, rfl⟩
      have lt := Int.emod_lt_of_pos (1 - d0) c0
      obtain ⟨A, hA1, hA2, hA3, hA4⟩ := over_ok c0 (by omega) (show d.natAbs < 2 ^ 31 by omega) hg
      refine ⟨A, s3, hA1, hA2, hA3, runI_r (e := [dw s3, iS 2, iS c, iS d]) ?_ rfl⟩
      show m_law_some_up [dw s, none, none, none] = _
      unfold m_law_some_up
      rw [dSeq_e e0, dSkip_if (c1.trans (by rw [decide_eq_false z1]))]
      refine dTake_if (c3.trans rfl) ?_
      rw [dSeq_e e1, dSeq_e w1]
      decreasing_trivial
    · obtain ⟨A, s2, hd, hA, hm⟩ := some_matrix_ok s1
      have t2 : dCallIo 1 0 fn_law_some_matrix [] [dw s1, iS k, none, none] = .ok (.d (matD A)) [dw s2, iS k, none, none] := dCallIo_e (o0 := .drw s1) (o := .drw s1) (e1 := [dw s1, iS k, none, none]) rfl rfl rfl rfl hm
      have hu := law_up_ok A
      refine ⟨upm A, s2, det_upm hd, up_upm hd, (hA.upm).mono (by decide), runI_r (e := [dw s2, iS k, none, none]) ?_ rfl⟩
      show m_law_some_up [dw s, none, none, none] = _
      unfold m_law_some_up
      rw [dSeq_e e0, dSkip_if (c1.trans (by rw [decide_eq_false z1])), dSkip_if (c3.trans (by rw [beq_eq_false_iff_ne.mpr z3]))]
      decreasing_trivial
end
end Lk17
set_option Elab.async false
set_option linter.all false
set_option maxRecDepth 100000
set_option maxHeartbeats 4000000
/-! k17: the root along the word, as the law finds it. -/
namespace Lk17
open Dv PySem PyProof.Rows L2 Jac
theorem near2 {a c : Int} (hc : c ≠ 0) : 2 * (a - (2 * a + c).fdiv (2 * c) * c).natAbs ≤ c.natAbs := by
  have h := Int.fmod_add_mul_fdiv (2 * a + c) (2 * c)
  generalize hm : (2 * a + c).fdiv (2 * c) = m at *
  have e : 2 * (a - m * c) = (2 * a + c).fmod (2 * c) - c := by
    have : 2 * c * m = 2 * (m * c) := by grind
    rw [this] at h
    omega
  rcases Int.lt_or_gt_of_ne hc with n | n
  · have q : (2 * a + c).fmod (2 * c) = -((-(2 * a + c)).fmod (-(2 * c))) := by rw [Int.neg_fmod_neg]; omega
    have r0 := Int.fmod_nonneg_of_pos (-(2 * a + c)) (show 0 < -(2 * c) by omega)
    have r1 := Int.fmod_lt_of_pos (-(2 * a + c)) (show 0 < -(2 * c) by omega)
    omega
  · have r0 := Int.fmod_nonneg_of_pos (2 * a + c) (show 0 < 2 * c by omega)
    have r1 := Int.fmod_lt_of_pos (2 * a + c) (show 0 < 2 * c by omega)
    omega
abbrev nr (A : Mat) : Int := (2 * A.a + A.c).fdiv (2 * A.c)
theorem lft_half {A : Mat} (hc : A.c ≠ 0) : 2 * (lft A (nr A)).c.natAbs ≤ A.c.natAbs := by
  rw [lft_eq]
  show 2 * (-(A.a - _)).natAbs ≤ _
  rw [Int.natAbs_neg]
  exact near2 hc
theorem lft_d {A : Mat} (hd : A.det = 1) (hc : A.c ≠ 0) : (lft A (nr A)).d.natAbs ≤ max A.d.natAbs 1 := by
  have less := lft_less hc
  have e : A.c * (lft A (nr A)).d = (lft A (nr A)).c * A.d + 1 := by
    rw [lft_eq]
    unfold Mat.det at hd
    dsimp only
    generalize nr A = m
    grind
  generalize hx : (lft A (nr A)).d = x at *
  have less : (lft A (nr A)).c.natAbs < A.c.natAbs := less
  generalize hy : (lft A (nr A)).c = y at *
  have e2 : A.c.natAbs * x.natAbs = (y * A.d + 1).natAbs := by rw [← e, Int.natAbs_mul]
  have e3 : (y * A.d + 1).natAbs ≤ y.natAbs * A.d.natAbs + 1 := by
    have := Int.natAbs_add_le (y * A.d) 1
    rw [Int.natAbs_mul] at this
    exact this
  rw [← e2] at e3
  have e4 : (y.natAbs + 1) * x.natAbs ≤ A.c.natAbs * x.natAbs := Nat.mul_le_mul_right _ less
  rw [Nat.add_mul, Nat.one_mul] at e4
  by_cases g : x.natAbs ≤ max A.d.natAbs 1
  · exact g
  · exfalso
    have g1 : A.d.natAbs + 1 ≤ x.natAbs := by omega
    have g2 : 2 ≤ x.natAbs := by omega
    have e5 : y.natAbs * A.d.natAbs ≤ y.natAbs * x.natAbs := Nat.mul_le_mul_left _ (by omega)
    omega
section
variable [TabC]
theorem lft_bd {p : Nat} {A : Mat} (hd : A.det = 1) (hc : A.c ≠ 0) (h : BdM p A) (hp : 1 ≤ p) : BdM p (lft A (nr A)) := by
  have l1 := lft_half hc
  have l2 := lft_d hd hc
  have one : 1 < 2 ^ p := Nat.lt_of_lt_of_le (show 1 < 2 ^ 1 by decide) (Nat.pow_le_pow_right (by decide) hp)
  have ea : (lft A (nr A)).a = A.c := by rw [lft_eq]
  have eb : (lft A (nr A)).b = A.d := by rw [lft_eq]
  refine ⟨by rw [ea]; exact h.2.2.1, by rw [eb]; exact h.2.2.2, ?_, ?_⟩
  · have := h.2.2.1
    unfold Bd at *
    omega
  · have := h.2.2.2
    unfold Bd at *
    omega
theorem nr_bd {p : Nat} {A : Mat} (hc : A.c ≠ 0) (h : BdM p A) : Bd (p + 2) (nr A) := by
  have n := near2 (a := A.a) hc
  have e : nr A * A.c = A.a - (A.a - nr A * A.c) := by omega
  have h1 : (nr A * A.c).natAbs ≤ A.a.natAbs + A.c.natAbs := by
    rw [e]
    have : 2 * (A.a - nr A * A.c).natAbs ≤ A.c.natAbs := n
    omega
  rw [Int.natAbs_mul] at h1
  have h2 : (nr A).natAbs * 1 ≤ (nr A).natAbs * A.c.natAbs := Nat.mul_le_mul_left _ (by omega)
  have b1 := h.1
  have b2 := h.2.2.1
  unfold Bd at *
  rw [Nat.pow_add]
  omega
theorem wd_head {p : Nat} {L : Mat} {m : Int} {r : List Int} (t : Wd L (m :: r)) (h : BdM p L) (hp : 2 ≤ p) : Bd (p + p) m := by
  cases t with
  | nil hc => exact h.2.1.mul h.2.2.2
  | cons hc t => exact (nr_bd hc h).mono (by omega)
/-- what is made so far, and what is left, make A up to a sign -/
def Rel (A H L : Mat) : Prop := H.mul (sm.mul L) = A ∨ H.mul (sm.mul L) = A.neg
theorem rel_bd {p : Nat} {A H L : Mat} (hr : Rel A H L) (hd : L.det = 1) (hA : BdM p A) (hL : BdM p L) : BdM (p + p + 1) H := by
  have key : ∀ B : Mat, H.mul (sm.mul L) = B → BdM p B → BdM (p + p + 1) H := fun B e hB => by
    obtain ⟨b1, b2, b3, b4⟩ := hB
    obtain ⟨l1, l2, l3, l4⟩ := hL
    have ea : H.a = B.a * L.b - B.b * L.a := by
      rw [← e]; unfold Mat.det at hd; simp only [Mat.mul, sm]; grind
    have eb : H.b = B.a * L.d - B.b * L.c := by
      rw [← e]; unfold Mat.det at hd; simp only [Mat.mul, sm]; grind
    have ec : H.c = B.c * L.b - B.d * L.a := by
      rw [← e]; unfold Mat.det at hd; simp only [Mat.mul, sm]; grind
    have ed : H.d = B.c * L.d - B.d * L.c := by
      rw [← e]; unfold Mat.det at hd; simp only [Mat.mul, sm]; grind
    refine ⟨?_, ?_, ?_, ?_⟩
    · rw [ea]; exact (b1.mul l2).sub' (b2.mul l1)
    · rw [eb]; exact (b1.mul l4).sub' (b2.mul l3)
    · rw [ec]; exact (b3.mul l2).sub' (b4.mul l1)
    · rw [ed]; exact (b3.mul l4).sub' (b4.mul l3)
  rcases hr with e | e
  · exact key A e hA
  · exact key A.neg e ⟨hA.1.neg', hA.2.1.neg', hA.2.2.1.neg', hA.2.2.2.neg'⟩
theorem rel_step {A H L : Mat} (hr : Rel A H L) (m : Int) : Rel A ((upm (H.mul sm)).mul (tm m)) (lft L m) := by
  have e1 : (H.mul sm).mul L = H.mul (sm.mul L) := mul_assoc _ _ _
  have e2 : ((H.mul sm).mul (tm m)).mul (sm.mul (lft L m)) = H.mul (sm.mul L) := by rw [mul_assoc, lft_back, e1]
  unfold upm Rel
  by_cases u : Up (H.mul sm)
  · rw [if_pos u, e2]; exact hr
  · rw [if_neg u, neg_mul, neg_mul, e2]
    rcases hr with e | e
    · exact .inr (by rw [e])
    · exact .inl (by rw [e, neg_neg])
end
end Lk17
set_option Elab.async false
set_option linter.all false
set_option maxRecDepth 100000
set_option maxHeartbeats 400000
/-! k17: the root along the word, as the law finds it: the walk. -/
namespace Lk17
open Dv PySem PyProof.Rows L2 Jac
section
variable [TabC]
local macro_rules | `(tactic| array_mem_dec) => `(tactic| first
  | (with_reducible assumption)
  | ((with_reducible apply Bd.mul) <;> array_mem_dec)
  | ((with_reducible apply Bd.add) <;> array_mem_dec)
  | ((with_reducible apply Bd.sub) <;> array_mem_dec)
  | ((with_reducible apply Bd.neg); array_mem_dec)
  | exact (show Bd 64 _ from (by unfold Bd; decide)))
local macro_rules | `(tactic| get_elem_tactic_trivial) => `(tactic| first
  | (with_reducible assumption)
  | (with_reducible apply fAdd_i)
  | (with_reducible apply fSub_i)
  | (with_reducible apply gEq_i)
  | (with_reducible apply gNe_i)
  | (with_reducible apply gInt_i)
  | (with_reducible refine fMul_l (by decide))
  | (with_reducible refine fMul_r (by decide))
  | (with_reducible refine fMod_p (by first | decide | omega))
  | (with_reducible refine fPow_p (by decide) (by decide) (by decide))
  | (with_reducible refine fDiv_p (by first | decide | omega) (by first | decide | exact log2_small (by omega) (by omega)))
  | ((with_reducible apply fMul_b); (array_mem_dec); (array_mem_dec); (first | decide | omega))
  | exact rfl)
local macro_rules | `(tactic| array_get_dec) => `(tactic| (with_reducible assumption))
local macro_rules | `(tactic| decreasing_trivial) => `(tactic| first
  | (with_reducible assumption)
  | (with_reducible apply dC_e)
  | ((with_reducible apply dNm_d); (exact rfl))
  | ((with_reducible apply dNm_s); (exact rfl))
  | ((with_reducible apply dRet_e); decreasing_trivial)
  | ((with_reducible apply dOp2_e); (decreasing_trivial); (first | (with_reducible exact ov_d _) | (with_reducible exact ov_n _)); (decreasing_trivial); (first | (with_reducible exact ov_d _) | (with_reducible exact ov_n _)); (get_elem_tactic_trivial))
  | ((with_reducible apply dOp1_d); (decreasing_trivial); (get_elem_tactic_trivial))
  | ((with_reducible apply dOp1_n); (decreasing_trivial); (get_elem_tactic_trivial))
  | ((with_reducible apply dAsg_d); decreasing_trivial)
  | ((with_reducible apply dAsg_n); decreasing_trivial)
  | ((with_reducible apply dAsgG_d); (decreasing_trivial); (exact rfl))
  | ((with_reducible apply dAsgG_n); (decreasing_trivial); (exact rfl))
  | ((with_reducible apply dTup_e); (decreasing_trivial); (exact Nat.le_of_ble_eq_true rfl))
  | ((with_reducible apply dLst_e); (decreasing_trivial); (exact Nat.le_of_ble_eq_true rfl))
  | (with_reducible apply dArgs_z)
  | ((with_reducible apply dArgs_c); (decreasing_trivial); (decreasing_trivial))
  | ((with_reducible apply dArgs_n); (decreasing_trivial); (decreasing_trivial))
  | ((with_reducible apply dArgs_o); (decreasing_trivial); (exact rfl); (decreasing_trivial))
  | (with_reducible apply dDnil_e)
  | ((with_reducible apply dPar2_r); (decreasing_trivial); (decreasing_trivial))
  | ((with_reducible apply dPar3_r); (decreasing_trivial); (decreasing_trivial); (decreasing_trivial))
  | ((with_reducible apply dBl_e); decreasing_trivial)
  | ((with_reducible apply dTru_e); decreasing_trivial)
  | ((with_reducible apply dNot_e); decreasing_trivial)
  | ((with_reducible apply dNotV_e); decreasing_trivial)
  | ((with_reducible apply dCall_e); (decreasing_trivial); (exact rfl); (array_get_dec))
  | ((with_reducible apply dCallK_e); (decreasing_trivial); (exact rfl); (exact rfl); (array_get_dec))
  | ((with_reducible apply dSl_d); (decreasing_trivial); (decreasing_trivial); (decreasing_trivial); (exact rfl))
  | ((with_reducible apply dPart_e); decreasing_trivial)
  | ((with_reducible apply dDrop_e); decreasing_trivial)
  | ((with_reducible apply dIt_d); (decreasing_trivial); (exact rfl))
  | ((with_reducible apply dIt_n); decreasing_trivial)
  | ((with_reducible apply dRng_e); (decreasing_trivial); (get_elem_tactic_trivial)))
def er (A : Mat) (ws : List Int) (L : Mat) (m h f : Option Sl) : En := [some (.d (matD A)), some (.o (.lst (ws.map .int))), some (.d (matD L)), m, h, f]
def wT : M Bool := dBl (dOp2 (gEq true) (dOp2 gSub2 (dNm 2) (dC (.int 2))) (dC (.int 0)))
noncomputable def wB : M Fl := dSeq (dAsg 3 (dOp2 fDiv (dOp2 fAdd (dOp2 fMul (dC (.int 2)) (dOp2 gSub2 (dNm 2) (dC (.int 0)))) (dOp2 gSub2 (dNm 2) (dC (.int 2)))) (dOp2 fMul (dC (.int 2)) (dOp2 gSub2 (dNm 2) (dC (.int 2))))))
    (dSeq (dApp 1 (dNm 3))
    (dAsg 2 (dCall 2 fn_law_times [dTup [dC (.int 0), dC (.int 1), dOp1 fNeg (dC (.int 1)), dC (.int 0)], dCall 2 fn_law_times [dTup [dC (.int 1), dOp2 fSub (dC (.int 0)) (dNm 3), dC (.int 0), dC (.int 1)], dNm 2]])))
theorem sub2 (L : Mat) (i : Nat) (x : Int) (hx : gSub2 (matD L) (.int i) = some (.d (.int x))) (A ws m h f) : dOp2 gSub2 (dNm 2) (dC (.int i)) (er A ws L m h f) = .ok (.d (.int x)) (er A ws L m h f) :=
  dOp2_e (x := matD L) (y := .int i) rfl (.inl rfl) rfl (.inl rfl) hx
theorem BdM.tm {p : Nat} {m : Int} (h : Bd p m) (hp : 1 ≤ p) : BdM p (Jac.tm m) := by
  have one : Bd p 1 := Nat.lt_of_lt_of_le (show 1 < 2 ^ 1 by decide) (Nat.pow_le_pow_right (by decide) hp)
  have nul : Bd p 0 := Nat.lt_of_lt_of_le (show 0 < 1 by decide) (Nat.one_le_two_pow)
  exact ⟨one, h, nul, one⟩
theorem wB_e {p : Nat} {A L : Mat} {ws : List Int} {m : Option Sl} (hc : L.c ≠ 0) (hL : BdM p L) (hp : 64 ≤ p) (hp2 : p < 8000) (hw : ws.length < SZ) : wB (er A ws L m none none) = .ok .nx (er A (ws ++ [nr L]) (lft L (nr L)) (iS (nr L)) none none) := by
  have q0 := sub2 L 0 L.a rfl A ws m none none
  have q2 := sub2 L 2 L.c rfl A ws m none none
  have two : Bd 64 2 := by unfold Bd; decide
  have dv : fDiv (.int (2 * L.a + L.c)) (.int (2 * L.c)) = some (.d (.int (nr L))) := fDiv_n (p := 64 + p) (by omega) (two.mul hL.2.2.1) (by omega)
  have e1 : dAsg 3 (dOp2 fDiv (dOp2 fAdd (dOp2 fMul (dC (.int 2)) (dOp2 gSub2 (dNm 2) (dC (.int 0)))) (dOp2 gSub2 (dNm 2) (dC (.int 2)))) (dOp2 fMul (dC (.int 2)) (dOp2 gSub2 (dNm 2) (dC (.int 2))))) (er A ws L m none none) = .ok .nx (er A ws L (iS (nr L)) none none) := by (apply Eq.trans; (decreasing_trivial); (rfl))
  have bn := nr_bd hc hL
  generalize hn : nr L = n at *
  have e2 : dApp 1 (dNm 3) (er A ws L (iS n) none none) = .ok .nx (er A (ws ++ [n]) L (iS n) none none) := by
    rw [dApp_e (i := 1) (e := er A ws L (iS n) none none) (m := dNm 3) (x := .int n) (xs := ws.map .int) (ys := ws.map .int) (e1 := er A ws L (iS n) none none) rfl rfl rfl (by rw [List.length_map]; exact hw)]
    unfold er
    rw [List.map_append]
    rfl
  have bt : BdM (p + 2) (Jac.tm (0 - n)) := BdM.tm bn.neg' (by omega)
  have t1 : fn_law_times none [matD (Jac.tm (0 - n)), matD L] = .ok (matD ((Jac.tm (0 - n)).mul L)) none := times_ok bt hL (by omega)
  have bs : BdM 64 si := ⟨by unfold Bd; decide, by unfold Bd; decide, by unfold Bd; decide, by unfold Bd; decide⟩
  have t2 : fn_law_times none [matD si, matD ((Jac.tm (0 - n)).mul L)] = .ok (matD (lft L n)) none := times_ok bs (BdM.mul bt hL) (by omega)
  have n2 : dNm 2 (er A (ws ++ [n]) L (iS n) none none) = .ok (.d (matD L)) (er A (ws ++ [n]) L (iS n) none none) := rfl
  have a1 : dTup [dC (.int 1), dOp2 fSub (dC (.int 0)) (dNm 3), dC (.int 0), dC (.int 1)] (er A (ws ++ [n]) L (iS n) none none) = .ok (.d (matD (Jac.tm (0 - n)))) (er A (ws ++ [n]) L (iS n) none none) := by (apply Eq.trans; (decreasing_trivial); (rfl))
  have a2 : dTup [dC (.int 0), dC (.int 1), dOp1 fNeg (dC (.int 1)), dC (.int 0)] (er A (ws ++ [n]) L (iS n) none none) = .ok (.d (matD si)) (er A (ws ++ [n]) L (iS n) none none) := by (apply Eq.trans; (decreasing_trivial); (rfl))
  have e3 : dAsg 2 (dCall 2 fn_law_times [dTup [dC (.int 0), dC (.int 1), dOp1 fNeg (dC (.int 1)), dC (.int 0)], dCall 2 fn_law_times [dTup [dC (.int 1), dOp2 fSub (dC (.int 0)) (dNm 3), dC (.int 0), dC (.int 1)], dNm 2]]) (er A (ws ++ [n]) L (iS n) none none) = .ok .nx (er A (ws ++ [n]) (lft L n) (iS n) none none) := by (apply Eq.trans; (decreasing_trivial); (rfl))
  unfold wB
  rw [dSeq_e e1, dSeq_e e2, e3]
noncomputable def aB : M Fl := dSeq (dAsg 4 (dCall 2 fn_law_times [dNm 4, dTup [dC (.int 0), dOp1 fNeg (dC (.int 1)), dC (.int 1), dC (.int 0)]]))
    (dSeq (dAsg 5 (dOp2 fAdd (dOp2 fAdd (dOp2 fAdd (dNm 5) (dC (.int 21))) (dNm 3)) (dIf (dTru (dCall 1 fn_law_is_up [dNm 4])) (dC (.int 0)) (dC (.int 6)))))
    (dAsg 4 (dCall 2 fn_law_times [dCall 1 fn_law_up [dNm 4], dTup [dC (.int 1), dNm 3, dC (.int 0), dC (.int 1)]])))
theorem aB_e {p q : Nat} {A L H : Mat} {ws : List Int} {m f : Int} (hH : BdM p H) (hm : Bd q m) (hp : p + q < 90000) (hq : 1 ≤ q) :
    aB (er A ws L (iS m) (some (.d (matD H))) (iS f)) = .ok .nx (er A ws L (iS m) (some (.d (matD ((upm (H.mul sm)).mul (tm m))))) (iS (f + 21 + m + wt (H.mul sm)))) := by
  have bs : BdM 64 sm := ⟨by unfold Bd; decide, by unfold Bd; decide, by unfold Bd; decide, by unfold Bd; decide⟩
  have t1 : fn_law_times none [matD H, matD sm] = .ok (matD (H.mul sm)) none := times_ok hH bs (by omega)
  have a1 : dTup [dC (.int 0), dOp1 fNeg (dC (.int 1)), dC (.int 1), dC (.int 0)] (er A ws L (iS m) (some (.d (matD H))) (iS f)) = .ok (.d (matD sm)) (er A ws L (iS m) (some (.d (matD H))) (iS f)) := by (apply Eq.trans; (decreasing_trivial); (rfl))
  have e1 : dAsg 4 (dCall 2 fn_law_times [dNm 4, dTup [dC (.int 0), dOp1 fNeg (dC (.int 1)), dC (.int 1), dC (.int 0)]]) (er A ws L (iS m) (some (.d (matD H))) (iS f)) = .ok .nx (er A ws L (iS m) (some (.d (matD (H.mul sm)))) (iS f)) := by (apply Eq.trans; (decreasing_trivial); (rfl))
  have bX := BdM.mul hH bs
  generalize H.mul sm = X at *
  have u1 := is_up_ok X
  have i1 : dIf (dTru (dCall 1 fn_law_is_up [dNm 4])) (dC (.int 0)) (dC (.int 6)) (er A ws L (iS m) (some (.d (matD X))) (iS f)) = .ok (.d (.int (wt X))) (er A ws L (iS m) (some (.d (matD X))) (iS f)) := by
    have c1 : dTru (dCall 1 fn_law_is_up [dNm 4]) (er A ws L (iS m) (some (.d (matD X))) (iS f)) = .ok (decide (Up X)) (er A ws L (iS m) (some (.d (matD X))) (iS f)) := by decreasing_trivial
    rw [dIf_e c1]
    unfold wt
    by_cases u : Up X
    · rw [if_pos (decide_eq_true u), if_pos u]; rfl
    · rw [if_neg (by rw [decide_eq_false u]; decide), if_neg u]; rfl
  have e2 : dAsg 5 (dOp2 fAdd (dOp2 fAdd (dOp2 fAdd (dNm 5) (dC (.int 21))) (dNm 3)) (dIf (dTru (dCall 1 fn_law_is_up [dNm 4])) (dC (.int 0)) (dC (.int 6)))) (er A ws L (iS m) (some (.d (matD X))) (iS f)) = .ok .nx (er A ws L (iS m) (some (.d (matD X))) (iS (f + 21 + m + wt X))) := by (apply Eq.trans; (decreasing_trivial); (rfl))
  generalize f + 21 + m + wt X = g at *
  have u2 := law_up_ok X
  have a2 : dTup [dC (.int 1), dNm 3, dC (.int 0), dC (.int 1)] (er A ws L (iS m) (some (.d (matD X))) (iS g)) = .ok (.d (matD (tm m))) (er A ws L (iS m) (some (.d (matD X))) (iS g)) := by (apply Eq.trans; (decreasing_trivial); (rfl))
  have t2 : fn_law_times none [matD (upm X), matD (tm m)] = .ok (matD ((upm X).mul (tm m))) none := times_ok bX.upm (BdM.tm hm hq) (by omega)
  have e3 : dAsg 4 (dCall 2 fn_law_times [dCall 1 fn_law_up [dNm 4], dTup [dC (.int 1), dNm 3, dC (.int 0), dC (.int 1)]]) (er A ws L (iS m) (some (.d (matD X))) (iS g)) = .ok .nx (er A ws L (iS m) (some (.d (matD ((upm X).mul (tm m))))) (iS g)) := by (apply Eq.trans; (decreasing_trivial); (rfl))
  unfold aB
  rw [dSeq_e e1, dSeq_e e2, e3]
theorem m_root_eq : m_law_root = dSeq (dAsgLN 1 2 0 (dLst []))
    (dSeq (dWh wT wB)
    (dSeq (dApp 1 (dOp2 fMul (dOp2 gSub2 (dNm 2) (dC (.int 1))) (dOp2 gSub2 (dNm 2) (dC (.int 3)))))
    (dSeq (dPar2 4 5 (dTup [dC (.int 1), dOp2 gSub2 (dNm 1) (dC (.int 0)), dC (.int 0), dC (.int 1)]) (dOp2 gSub2 (dNm 1) (dC (.int 0))))
    (dSeq (dFor (dIt (dSl (dNm 1) (dPart (dC (.int 1))) (dNoPart))) (gN 3) aB)
    (dRet (dOp2 fMod (dOp1 gInt (dNm 5)) (dC (.int 24)))))))) := rfl
theorem root_ok {p : Nat} {A : Mat} (hd : A.det = 1) (hA : BdM p A) (hp : 64 ≤ p) (hp2 : p < 8000) : ∃ m r, Wd A (m :: r) ∧ fn_law_root none [matD A] = .ok (.int (rootAlong (tm m) m r % 24)) none := by
  have e0 : dAsgLN 1 2 0 (dLst []) [some (.d (matD A)), none, none, none, none, none] = .ok .nx (er A [] A none none none) := rfl
  obtain ⟨e', w1, L, ws, mm, hc, rfl, dL, bL, lw, cl⟩ := dWh_ok (t := wT) (b := wB)
    (fun k e => ∃ (L : Mat) (ws : List Int) (mm : Option Sl), k = L.c.natAbs ∧ e = er A ws L mm none none ∧ L.det = 1 ∧ BdM p L ∧ ws.length ≤ p + 1 ∧ L.c.natAbs * 2 ^ ws.length ≤ 2 ^ p ∧ ∀ w2, Wd L w2 → Wd A (ws ++ w2))
    (fun e => ∃ (L : Mat) (ws : List Int) (mm : Option Sl), L.c = 0 ∧ e = er A ws L mm none none ∧ L.det = 1 ∧ BdM p L ∧ ws.length ≤ p + 1 ∧ ∀ w2, Wd L w2 → Wd A (ws ++ w2)) (by
    rintro k e ⟨L, ws, mm, rfl, rfl, dL, bL, lw, pw, cl⟩
    have q2 := sub2 L 2 L.c rfl A ws mm none none
    have t1 : wT (er A ws L mm none none) = .ok (!(L.c == 0)) (er A ws L mm none none) := by unfold wT; decreasing_trivial
    by_cases c : L.c = 0
    · exact .inr ⟨_, t1.trans (by rw [c]; rfl), L, ws, mm, c, rfl, dL, bL, lw, cl⟩
    · have hb := wB_e (A := A) (ws := ws) (m := mm) c bL hp hp2 (by unfold SZ; omega)
      have half := lft_half c
      have lp : ws.length ≤ p := by
        have h1 : 1 * 2 ^ ws.length ≤ L.c.natAbs * 2 ^ ws.length := Nat.mul_le_mul_right _ (by omega)
        exact (Nat.pow_le_pow_iff_right (show 1 < 2 by decide)).mp (by omega)
      refine .inl ⟨_, t1.trans (by rw [beq_eq_false_iff_ne.mpr c]; rfl), _, (lft L (nr L)).c.natAbs, lft_less c, hb, lft L (nr L), ws ++ [nr L], iS (nr L), rfl, rfl, lft_det dL _, lft_bd dL c bL (by omega), by rw [List.length_append, List.length_singleton]; omega, ?_, fun w2 h2 => ?_⟩
      · rw [List.length_append, List.length_singleton, Nat.pow_succ]
        have : (lft L (nr L)).c.natAbs * (2 ^ ws.length * 2) = (2 * (lft L (nr L)).c.natAbs) * 2 ^ ws.length := by
          generalize 2 ^ ws.length = z
          grind
        rw [this]
        exact Nat.le_trans (Nat.mul_le_mul_right _ half) pw
      · rw [List.append_assoc]
        exact cl _ (Wd.cons c h2)) A.c.natAbs (er A [] A none none none) ⟨A, [], none, rfl, rfl, hd, hA, by simp, by have h3 : A.c.natAbs < 2 ^ p := hA.2.2.1; simp only [List.length_nil]; omega, fun w2 h => h⟩
  have wd : Wd A (ws ++ [L.b * L.d]) := cl _ (Wd.nil hc)
  have q1 := sub2 L 1 L.b rfl A ws mm none none
  have q3 := sub2 L 3 L.d rfl A ws mm none none
  have mu : fMul (.int L.b) (.int L.d) = some (.d (.int (L.b * L.d))) := fMul_b bL.2.1 bL.2.2.2 (by omega)
  have me : dOp2 fMul (dOp2 gSub2 (dNm 2) (dC (.int 1))) (dOp2 gSub2 (dNm 2) (dC (.int 3))) (er A ws L mm none none) = .ok (.d (.int (L.b * L.d))) (er A ws L mm none none) := by decreasing_trivial
  have e1 : dApp 1 (dOp2 fMul (dOp2 gSub2 (dNm 2) (dC (.int 1))) (dOp2 gSub2 (dNm 2) (dC (.int 3)))) (er A ws L mm none none) = .ok .nx (er A (ws ++ [L.b * L.d]) L mm none none) := by
    rw [dApp_e (i := 1) (e := er A ws L mm none none) (x := .int (L.b * L.d)) (xs := ws.map .int) (ys := ws.map .int) (e1 := er A ws L mm none none) rfl me rfl (by rw [List.length_map]; unfold SZ; omega)]
    unfold er
    rw [List.map_append]
    rfl
  obtain ⟨m, r, hmr⟩ : ∃ m r, ws ++ [L.b * L.d] = m :: r := by
    cases ws with
    | nil => exact ⟨_, _, rfl⟩
    | cons a b => exact ⟨_, _, rfl⟩
  rw [hmr] at wd e1
  have e2 : dPar2 4 5 (dTup [dC (.int 1), dOp2 gSub2 (dNm 1) (dC (.int 0)), dC (.int 0), dC (.int 1)]) (dOp2 gSub2 (dNm 1) (dC (.int 0))) (er A (m :: r) L mm none none) = .ok .nx (er A (m :: r) L mm (some (.d (matD (tm m)))) (iS m)) := by
    have hg : gSub2 (lstI (m :: r)) (.int 0) = some (.d (.int m)) := sub_lst (m :: r) 0 (by simp)
    have w0 : dOp2 gSub2 (dNm 1) (dC (.int 0)) (er A (m :: r) L mm none none) = .ok (.d (.int m)) (er A (m :: r) L mm none none) := dOp2_s (i := 1) (o := .lst ((m :: r).map .int)) (x := lstI (m :: r)) (y := .int 0) rfl rfl rfl rfl hg
    (apply Eq.trans; (decreasing_trivial); (rfl))
  have e3 : dIt (dSl (dNm 1) (dPart (dC (.int 1))) (dNoPart)) (er A (m :: r) L mm (some (.d (matD (tm m)))) (iS m)) = .ok (r.map .int) (er A (m :: r) L mm (some (.d (matD (tm m)))) (iS m)) := by
    have : dIt (dSl (dNm 1) (dPart (dC (.int 1))) (dNoPart)) (er A (m :: r) L mm (some (.d (matD (tm m)))) (iS m)) = .ok (Dv.cutD ((m :: r).map .int) (some 1) none) (er A (m :: r) L mm (some (.d (matD (tm m)))) (iS m)) := rfl
    rw [this]
    exact congrArg (fun z => Res.ok z _) (cut_tail (.int m) (r.map .int))
  obtain ⟨e4, f1, f2⟩ := dForL_ok (t := gN 3) (b := aB)
    (fun xs e => ∃ (r2 : List Int) (H : Mat) (f : Int) (m3 : Option Sl), xs = r2.map .int ∧ e = er A (m :: r) L m3 (some (.d (matD H))) (iS f) ∧ rootAlong H f r2 = rootAlong (tm m) m r ∧ (r2 ≠ [] → ∃ L2, Wd L2 r2 ∧ L2.det = 1 ∧ BdM p L2 ∧ Rel A H L2)) (by
    rintro x xs e ⟨r2, H, f, m3, hx, rfl, ra, hl⟩
    cases r2 with
    | nil => cases hx
    | cons m2 r3 =>
      cases hx
      obtain ⟨L2, t2, d2, b2, rl⟩ := hl (by simp)
      have bH := rel_bd rl d2 hA b2
      have bm := wd_head t2 b2 (by omega)
      have st := aB_e (A := A) (L := L) (ws := m :: r) (f := f) bH bm (by omega) (by omega)
      refine ⟨_, ?_, r3, _, _, iS m2, rfl, rfl, ra, fun ne => ?_⟩
      · rw [gN_e]
        exact st
      · cases t2 with
        | nil hc2 => exact absurd rfl ne
        | cons hc2 t3 => exact ⟨_, t3, lft_det d2 _, lft_bd d2 hc2 b2 (by omega), rel_step rl _⟩) (r.map .int) (er A (m :: r) L mm (some (.d (matD (tm m)))) (iS m)) ⟨r, tm m, m, mm, rfl, rfl, rfl, fun ne => by
      cases wd with
      | nil hc2 => exact absurd rfl ne
      | cons hc2 t3 => exact ⟨_, t3, lft_det hd _, lft_bd hd hc2 hA (by omega), .inl (lft_back A _)⟩⟩
  obtain ⟨r2, H, f, m3, hx, rfl, ra, _⟩ := f2
  have : r2 = [] := by
    cases r2 with
    | nil => rfl
    | cons a b => cases hx
  subst this
  have ra : f = rootAlong (tm m) m r := ra
  subst ra
  refine ⟨m, r, wd, runF_r (e := er A (m :: r) L m3 (some (.d (matD H))) (iS (rootAlong (tm m) m r))) ?_⟩
  rw [m_root_eq]
  show dSeq _ _ [some (.d (matD A)), none, none, none, none, none] = _
  rw [dSeq_e e0, dSeq_e w1, dSeq_e e1, dSeq_e e2, dSeq_e ((dFor_e e3).trans f1)]
  decreasing_trivial
theorem root_up {p : Nat} {A : Mat} (hd : A.det = 1) (u : Up A) (hA : BdM p A) (hp : 64 ≤ p) (hp2 : p < 8000) : fn_law_root none [matD A] = .ok (.int (nuM A % 24)) none := by
  obtain ⟨m, r, wd, h⟩ := root_ok hd hA hp hp2
  have k := wd.root hd u
  rw [h]
  have : rootAlong (tm m) m r % 24 = nuM A % 24 := by omega
  rw [this]
end
end Lk17
set_option Elab.async false
set_option linter.all false
set_option maxRecDepth 100000
set_option maxHeartbeats 1000000
/-! k17: what is no upright matrix. -/
namespace Lk17
open Dv PySem PyProof.Rows L2 Jac
section
variable [TabC]
local macro_rules | `(tactic| array_mem_dec) => `(tactic| first
  | (with_reducible assumption)
  | ((with_reducible apply Bd.mul) <;> array_mem_dec)
  | ((with_reducible apply Bd.add) <;> array_mem_dec)
  | ((with_reducible apply Bd.sub) <;> array_mem_dec)
  | ((with_reducible apply Bd.neg); array_mem_dec)
  | exact (show Bd 64 _ from (by unfold Bd; decide)))
local macro_rules | `(tactic| get_elem_tactic_trivial) => `(tactic| first
  | (with_reducible assumption)
  | (with_reducible apply fAdd_i)
  | (with_reducible apply fSub_i)
  | (with_reducible apply gEq_i)
  | (with_reducible apply gNe_i)
  | (with_reducible apply gInt_i)
  | (with_reducible refine fMul_l (by decide))
  | (with_reducible refine fMul_r (by decide))
  | (with_reducible refine fMod_p (by first | decide | omega))
  | (with_reducible refine fPow_p (by decide) (by decide) (by decide))
  | (with_reducible refine fDiv_p (by first | decide | omega) (by first | decide | exact log2_small (by omega) (by omega)))
  | ((with_reducible apply fMul_b); (array_mem_dec); (array_mem_dec); (first | decide | omega))
  | exact rfl)
local macro_rules | `(tactic| array_get_dec) => `(tactic| (with_reducible assumption))
local macro_rules | `(tactic| decreasing_trivial) => `(tactic| first
  | (with_reducible assumption)
  | (with_reducible apply dC_e)
  | ((with_reducible apply dNm_d); (exact rfl))
  | ((with_reducible apply dNm_s); (exact rfl))
  | ((with_reducible apply dRet_e); decreasing_trivial)
  | ((with_reducible apply dOp2_e); (decreasing_trivial); (first | (with_reducible exact ov_d _) | (with_reducible exact ov_n _)); (decreasing_trivial); (first | (with_reducible exact ov_d _) | (with_reducible exact ov_n _)); (get_elem_tactic_trivial))
  | ((with_reducible apply dOp1_d); (decreasing_trivial); (get_elem_tactic_trivial))
  | ((with_reducible apply dOp1_n); (decreasing_trivial); (get_elem_tactic_trivial))
  | ((with_reducible apply dAsg_d); decreasing_trivial)
  | ((with_reducible apply dAsg_n); decreasing_trivial)
  | ((with_reducible apply dAsgG_d); (decreasing_trivial); (exact rfl))
  | ((with_reducible apply dAsgG_n); (decreasing_trivial); (exact rfl))
  | ((with_reducible apply dTup_e); (decreasing_trivial); (exact Nat.le_of_ble_eq_true rfl))
  | ((with_reducible apply dLst_e); (decreasing_trivial); (exact Nat.le_of_ble_eq_true rfl))
  | (with_reducible apply dArgs_z)
  | ((with_reducible apply dArgs_c); (decreasing_trivial); (decreasing_trivial))
  | ((with_reducible apply dArgs_n); (decreasing_trivial); (decreasing_trivial))
  | ((with_reducible apply dArgs_o); (decreasing_trivial); (exact rfl); (decreasing_trivial))
  | (with_reducible apply dDnil_e)
  | ((with_reducible apply dPar2_r); (decreasing_trivial); (decreasing_trivial))
  | ((with_reducible apply dPar3_r); (decreasing_trivial); (decreasing_trivial); (decreasing_trivial))
  | ((with_reducible apply dBl_e); decreasing_trivial)
  | ((with_reducible apply dTru_e); decreasing_trivial)
  | ((with_reducible apply dNot_e); decreasing_trivial)
  | ((with_reducible apply dNotV_e); decreasing_trivial)
  | ((with_reducible apply dCall_e); (decreasing_trivial); (exact rfl); (array_get_dec))
  | ((with_reducible apply dCallK_e); (decreasing_trivial); (exact rfl); (exact rfl); (array_get_dec))
  | ((with_reducible apply dSl_d); (decreasing_trivial); (decreasing_trivial); (decreasing_trivial); (exact rfl))
  | ((with_reducible apply dPart_e); decreasing_trivial)
  | ((with_reducible apply dDrop_e); decreasing_trivial)
  | ((with_reducible apply dIt_d); (decreasing_trivial); (exact rfl))
  | ((with_reducible apply dIt_n); decreasing_trivial)
  | ((with_reducible apply dRng_e); (decreasing_trivial); (get_elem_tactic_trivial)))
theorem law_is_matrix_ok {p : Nat} {B : Mat} (h : BdM p B) (hp : p < 10000) : fn_law_is_matrix none [matD B] = .ok (.bl (B.det == 1)) none := by
  obtain ⟨ba, bb, bc, bd⟩ := h
  have c1 : dOr (dNot (dTru (dOp1 (gIsi "tuple") (dNm 0)))) (dBl (dOp2 (gEq true) (dOp1 gLen (dNm 0)) (dC (.int 4)))) [some (.d (matD B)), none] = .ok false [some (.d (matD B)), none] := rfl
  have c2 : dBl (dOp2 (gEq true) (dLc (dIt (dNm 0)) (fNm 1) (dNot (dTru (dCall 1 fn_law_is_number [dNm 1]))) (dC (.int 1)) [1]) (dLst [])) [some (.d (matD B)), none] = .ok false [some (.d (matD B)), none] := rfl
  have m1 : fMul (.int B.a) (.int B.d) = some (.d (.int (B.a * B.d))) := fMul_b ba bd (by omega)
  have m2 : fMul (.int B.b) (.int B.c) = some (.d (.int (B.b * B.c))) := fMul_b bb bc (by omega)
  have q0 : gSub2 (matD B) (.int 0) = some (.d (.int B.a)) := rfl
  have q1 : gSub2 (matD B) (.int 1) = some (.d (.int B.b)) := rfl
  have q2 : gSub2 (matD B) (.int 2) = some (.d (.int B.c)) := rfl
  have q3 : gSub2 (matD B) (.int 3) = some (.d (.int B.d)) := rfl
  refine runF_r (e := [some (.d (matD B)), none]) ?_
  show m_law_is_matrix [some (.d (matD B)), none] = _
  unfold m_law_is_matrix
  rw [dSkip_if c1, dSkip_if c2]
  (apply Eq.trans; (decreasing_trivial); (rfl))
theorem root_of_not {p : Nat} {B : Mat} (h : BdM p B) (hp : p < 10000) (hd : B.det ≠ 1) : fn_root_of none [matD B] = .ex 1 [] none := by
  have i1 := is_matrix_ok h hp
  rw [beq_eq_false_iff_ne.mpr hd] at i1
  have i2 : fn_is_upright none [matD B] = .ok (.bl false) none := by
    refine runF_r (e := [some (.d (matD B))]) (dRet_e ?_)
    show dAndV (dCall 1 fn_is_matrix [dNm 0]) upT [some (.d (matD B))] = _
    exact andV_f (dCall_e (n := 1) (xs := [matD B]) (e1 := [some (.d (matD B))]) rfl rfl i1)
  have i3 : fn_need_upright none [matD B] = .ex 1 [] none := by
    refine runF_x (e := [some (.d (matD B))]) ?_
    show dIf (dNot (dTru (dCall 1 fn_is_upright [dNm 0]))) (dRaise 1) (dSkip) [some (.d (matD B))] = _
    rw [dIf_e (dNot_e (dTru_e (b := false) (dCall_e (n := 1) (xs := [matD B]) (e1 := [some (.d (matD B))]) rfl rfl i2)))]
    rfl
  refine runF_x (e := [some (.d (matD B))]) ?_
  show m_root_of [some (.d (matD B))] = _
  unfold m_root_of
  exact dSeq_x (by unfold dDrop; exact bnd_x (dCall_x (n := 1) (xs := [matD B]) rfl rfl i3))
/-- what is looked at -/
def OddT (x : D) : Prop := ∃ b : Bool, fn_law_is_matrix none [x] = .ok (.bl b) none ∧ (b = false → fn_root_of none [x] = .ex 1 [] none)
theorem odd_mat {p : Nat} {B : Mat} (h : BdM p B) (hp : p < 10000) : OddT (matD B) := ⟨_, law_is_matrix_ok h hp, fun z => root_of_not h hp (beq_eq_false_iff_ne.mp z)⟩
theorem odd_no {x : D} (h1 : fn_law_is_matrix none [x] = .ok (.bl false) none) (h2 : fn_root_of none [x] = .ex 1 [] none) : OddT x := ⟨false, h1, fun _ => h2⟩
def thA (A : Mat) (d : Int) : List D := [.non, .int 5, .tup [], .str "abcd", .dic [], .lst [.int A.a, .int A.b, .int A.c, .int A.d], .tup [.int A.a, .int A.b, .int A.c], .tup [.int A.a, .int A.b, .int A.c, .int A.d, .int 1], .tup [.int A.a, .int A.b, .int A.c, .int d]]
def thB (A : Mat) : List D := [.tup [.bl true, .int 0, .int 0, .int 1], .tup [.int 1, .bl false, .int 0, .int 1], .tup [.int 1, .int 0, .non, .int 1], .tup [.str "1", .int 0, .int 0, .int 1], .tup [.int 0, .int 1, .int 1, .int 0], .tup [.int A.a, .int (0 - A.b), .int A.c, .int A.d]]
theorem odd_all {p : Nat} {A : Mat} {d : Int} (h : BdM p A) (hd : Bd p d) (hp : p < 10000) : ∀ x ∈ thA A d ++ thB A, OddT x := by
  intro x hx
  unfold thA thB at hx
  simp only [List.cons_append, List.nil_append, List.mem_cons, List.not_mem_nil, or_false] at hx
  rcases hx with rfl | rfl | rfl | rfl | rfl | rfl | rfl | rfl | rfl | rfl | rfl | rfl | rfl | rfl | rfl
  · exact odd_no rfl rfl
  · exact odd_no rfl rfl
  · exact odd_no rfl rfl
  · exact odd_no rfl rfl
  · exact odd_no rfl rfl
  · exact odd_no rfl rfl
  · exact odd_no rfl rfl
  · exact odd_no rfl rfl
  · exact odd_mat (B := ⟨A.a, A.b, A.c, d⟩) ⟨h.1, h.2.1, h.2.2.1, hd⟩ hp
  · exact odd_no rfl rfl
  · exact odd_no rfl rfl
  · exact odd_no rfl rfl
  · exact odd_no rfl rfl
  · exact odd_mat (p := 64) (B := ⟨0, 1, 1, 0⟩) ⟨by unfold Bd; decide, by unfold Bd; decide, by unfold Bd; decide, by unfold Bd; decide⟩ (by decide)
  · exact odd_mat (B := ⟨A.a, 0 - A.b, A.c, A.d⟩) ⟨h.1, h.2.1.neg', h.2.2.1, h.2.2.2⟩ hp
open Classical in
noncomputable def keepD (x : D) : List D := if fn_law_is_matrix none [x] = .ok (.bl false) none then [x] else []
theorem odd_ok {p : Nat} {A : Mat} (s : Drw) (h : BdM p A) (hp : p < 9000) : ∃ x s', fn_law_odd_matrix (some (.drw s)) [matD A] = .ok x (some (.drw s')) ∧ fn_root_of none [x] = .ex 1 [] none := by
  let E (o t : Option Sl) : En := [dw s, some (.d (matD A)), iS A.a, iS A.b, iS A.c, iS A.d, o, t]
  have e0 : dAsgG (gT 4 (gsC (gN 2) (gsC (gN 3) (gsC (gN 4) (gsC (gN 5) (gsN)))))) (dNm 1) [dw s, some (.d (matD A)), none, none, none, none, none, none] = .ok .nx (E none none) := rfl
  obtain ⟨d, hd, t1⟩ : ∃ d, Bd (p + 2) d ∧ dIf (dBl (dOp2 (gEq true) (dNm 2) (dC (.int 0)))) (dOp2 fAdd (dNm 5) (dC (.int 1))) (dOp2 fSub (dNm 5) (dC (.int 1))) (E none none) = .ok (.d (.int d)) (E none none) := by
    have c : dBl (dOp2 (gEq true) (dNm 2) (dC (.int 0))) (E none none) = .ok (!(A.a == 0)) (E none none) := rfl
    have h4 := h.2.2.2
    have one : 1 < 2 ^ (p + 1) := Nat.one_lt_two_pow (by omega)
    by_cases z : (A.a == 0) = true
    · refine ⟨A.d - 1, ?_, ?_⟩
      · unfold Bd at *
        rw [Nat.pow_succ, Nat.pow_succ]
        rw [Nat.pow_succ] at one
        omega
      · rw [dIf_f (c.trans (by rw [z]; rfl))]; rfl
    · refine ⟨A.d + 1, ?_, ?_⟩
      · unfold Bd at *
        rw [Nat.pow_succ, Nat.pow_succ]
        rw [Nat.pow_succ] at one
        omega
      · rw [dIf_t (c.trans (by rw [Bool.eq_false_iff.mpr z]; rfl))]; rfl
  have all := odd_all (A := A) (d := d) (p := p + 2) ⟨h.1.mono (by omega), h.2.1.mono (by omega), h.2.2.1.mono (by omega), h.2.2.2.mono (by omega)⟩ hd (by omega)
  have l6 : dOp1 gList (dNm 1) (E none none) = .ok (.n (.lst [.int A.a, .int A.b, .int A.c, .int A.d])) (E none none) := rfl
  have e1 : dAsg 6 (dLst [dC .non, dC (.int 5), dTup [], dC (.str "abcd"), dDnil, dOp1 gList (dNm 1), dTup [dNm 2, dNm 3, dNm 4], dTup [dNm 2, dNm 3, dNm 4, dNm 5, dC (.int 1)], dTup [dNm 2, dNm 3, dNm 4, dIf (dBl (dOp2 (gEq true) (dNm 2) (dC (.int 0)))) (dOp2 fAdd (dNm 5) (dC (.int 1))) (dOp2 fSub (dNm 5) (dC (.int 1)))]]) (E none none) = .ok .nx (E (some (.o (.lst (thA A d)))) none) := by (apply Eq.trans; (decreasing_trivial); (rfl))
  have e2 : dAsg 6 (dOp2 fAdd (dNm 6) (dLst [dTup [dC (.bl true), dC (.int 0), dC (.int 0), dC (.int 1)], dTup [dC (.int 1), dC (.bl false), dC (.int 0), dC (.int 1)], dTup [dC (.int 1), dC (.int 0), dC .non, dC (.int 1)], dTup [dC (.str "1"), dC (.int 0), dC (.int 0), dC (.int 1)], dTup [dC (.int 0), dC (.int 1), dC (.int 1), dC (.int 0)], dTup [dNm 2, dOp2 fSub (dC (.int 0)) (dNm 3), dNm 4, dNm 5]])) (E (some (.o (.lst (thA A d)))) none) = .ok .nx (E (some (.o (.lst (thA A d ++ thB A)))) none) := rfl
  have it : dIt (dNm 6) (E (some (.o (.lst (thA A d ++ thB A)))) none) = .ok (thA A d ++ thB A) (E (some (.d (.lst (thA A d ++ thB A)))) none) := rfl
  have lc := dLc_e (f := fNm 7) (c := dNot (dTru (dCall 1 fn_law_is_matrix [dNm 7]))) (m := dNm 7) (vs := [7]) (g := keepD) it rfl (fun x hx => by
    obtain ⟨b, h1, h2⟩ := all x hx
    refine ⟨by unfold keepD; split <;> simp, fun acc ha => ?_⟩
    have tt := turn_if (f := fNm 7) (c := dNot (dTru (dCall 1 fn_law_is_matrix [dNm 7]))) (m := dNm 7) (vs := [7]) (x := x) (y := x) (l := [(7, x)]) (w := E (some (.d (.lst (thA A d ++ thB A)))) none) (e1 := E (some (.d (.lst (thA A d ++ thB A)))) (some (.d x))) (e2 := E (some (.d (.lst (thA A d ++ thB A)))) (some (.d x))) (acc := acc) (b := !b) rfl rfl
      (dNot_e (dTru_e (dCall_e (n := 1) (xs := [x]) rfl rfl h1))) (fun _ => rfl) (fun _ => rfl) rfl ha
    have k : keepD x = if (!b) = true then [x] else [] := by
      unfold keepD
      cases b with
      | false => rw [if_pos h1]; rfl
      | true => rw [if_neg (by rw [h1]; intro z; cases z)]; rfl
    rw [k]
    exact tt) (show (thA A d ++ thB A).length ≤ SZ from Nat.le_of_ble_eq_true rfl)
  have lc : _ = Res.ok (Opd.n (.lst ((thA A d ++ thB A).flatMap keepD))) (E (some (.d (.lst (thA A d ++ thB A)))) none) := lc
  have mem : ∀ y, y ∈ (thA A d ++ thB A).flatMap keepD → fn_root_of none [y] = .ex 1 [] none := fun y hy => by
    obtain ⟨x, hx, hk⟩ := List.mem_flatMap.mp hy
    obtain ⟨b, h1, h2⟩ := all x hx
    unfold keepD at hk
    split at hk
    · rename_i z
      rw [List.mem_singleton] at hk
      subst hk
      rw [h1] at z
      cases b with
      | false => exact h2 rfl
      | true => cases z
    · cases hk
  have ne : (thA A d ++ thB A).flatMap keepD ≠ [] := by
    have : D.non ∈ (thA A d ++ thB A).flatMap keepD := List.mem_flatMap.mpr ⟨.non, by unfold thA; simp, by unfold keepD; rw [if_pos (show fn_law_is_matrix none [.non] = .ok (.bl false) none from rfl)]; simp⟩
    intro z
    rw [z] at this
    cases this
  have len : ((thA A d ++ thB A).flatMap keepD).length ≤ 100000 := by
    have : ∀ l : List D, (l.flatMap keepD).length ≤ l.length := fun l => by
      induction l with
      | nil => simp
      | cons a r ih =>
        rw [List.flatMap_cons, List.length_append, List.length_cons]
        have : (keepD a).length ≤ 1 := by unfold keepD; split <;> simp
        omega
    exact Nat.le_trans (this _) (show (thA A d ++ thB A).length ≤ 100000 from Nat.le_of_ble_eq_true rfl)
  generalize (thA A d ++ thB A).flatMap keepD = ys at *
  obtain ⟨x, hx, s', hp⟩ := pick_e (e := E (some (.o (.lst (thA A d ++ thB A)))) none) (i := 0) (s := s) (xs := ys) (e1 := E (some (.d (.lst (thA A d ++ thB A)))) none) (m := dLc (dIt (dNm 6)) (fNm 7) (dNot (dTru (dCall 1 fn_law_is_matrix [dNm 7]))) (dNm 7) [7]) rfl (dArgs_n lc (dArgs_z _)) rfl ne len
  refine ⟨x, s', runI_r (e := st (E (some (.d (.lst (thA A d ++ thB A)))) none) 0 (some (.o (.drw s')))) ?_ rfl, mem x hx⟩
  show m_law_odd_matrix [dw s, some (.d (matD A)), none, none, none, none, none, none] = _
  unfold m_law_odd_matrix
  rw [dSeq_e e0, dSeq_e e1, dSeq_e e2]
  exact dRet_e hp
end
end Lk17
set_option Elab.async false
set_option linter.all false
set_option maxRecDepth 100000
set_option maxHeartbeats 1000000
/-! k17: the law answers True. -/
namespace Lk17
open Dv PySem PyProof.Rows L2 Jac
section
variable [TabC]
local macro_rules | `(tactic| array_mem_dec) => `(tactic| first
  | (with_reducible assumption)
  | ((with_reducible apply Bd.mul) <;> array_mem_dec)
  | ((with_reducible apply Bd.add) <;> array_mem_dec)
  | ((with_reducible apply Bd.sub) <;> array_mem_dec)
  | ((with_reducible apply Bd.neg); array_mem_dec)
  | exact (show Bd 64 _ from (by unfold Bd; decide)))
local macro_rules | `(tactic| get_elem_tactic_trivial) => `(tactic| first
  | (with_reducible assumption)
  | (with_reducible apply fAdd_i)
  | (with_reducible apply fSub_i)
  | (with_reducible apply gEq_i)
  | (with_reducible apply gNe_i)
  | (with_reducible apply gInt_i)
  | (with_reducible refine fMul_l (by decide))
  | (with_reducible refine fMul_r (by decide))
  | (with_reducible refine fMod_p (by first | decide | omega))
  | (with_reducible refine fPow_p (by decide) (by decide) (by decide))
  | (with_reducible refine fDiv_p (by first | decide | omega) (by first | decide | exact log2_small (by omega) (by omega)))
  | ((with_reducible apply fMul_b); (array_mem_dec); (array_mem_dec); (first | decide | omega))
  | exact rfl)
local macro_rules | `(tactic| array_get_dec) => `(tactic| (with_reducible assumption))
local macro_rules | `(tactic| decreasing_trivial) => `(tactic| first
  | (with_reducible assumption)
  | (with_reducible apply dC_e)
  | ((with_reducible apply dNm_d); (exact rfl))
  | ((with_reducible apply dNm_s); (exact rfl))
  | ((with_reducible apply dRet_e); decreasing_trivial)
  | ((with_reducible apply dOp2_e); (decreasing_trivial); (first | (with_reducible exact ov_d _) | (with_reducible exact ov_n _)); (decreasing_trivial); (first | (with_reducible exact ov_d _) | (with_reducible exact ov_n _)); (get_elem_tactic_trivial))
  | ((with_reducible apply dOp1_d); (decreasing_trivial); (get_elem_tactic_trivial))
  | ((with_reducible apply dOp1_n); (decreasing_trivial); (get_elem_tactic_trivial))
  | ((with_reducible apply dAsg_d); decreasing_trivial)
  | ((with_reducible apply dAsg_n); decreasing_trivial)
  | ((with_reducible apply dAsgG_d); (decreasing_trivial); (exact rfl))
  | ((with_reducible apply dAsgG_n); (decreasing_trivial); (exact rfl))
  | ((with_reducible apply dTup_e); (decreasing_trivial); (exact Nat.le_of_ble_eq_true rfl))
  | ((with_reducible apply dLst_e); (decreasing_trivial); (exact Nat.le_of_ble_eq_true rfl))
  | (with_reducible apply dArgs_z)
  | ((with_reducible apply dArgs_c); (decreasing_trivial); (decreasing_trivial))
  | ((with_reducible apply dArgs_n); (decreasing_trivial); (decreasing_trivial))
  | ((with_reducible apply dArgs_o); (decreasing_trivial); (exact rfl); (decreasing_trivial))
  | (with_reducible apply dDnil_e)
  | ((with_reducible apply dPar2_r); (decreasing_trivial); (decreasing_trivial))
  | ((with_reducible apply dPar3_r); (decreasing_trivial); (decreasing_trivial); (decreasing_trivial))
  | ((with_reducible apply dBl_e); decreasing_trivial)
  | ((with_reducible apply dTru_e); decreasing_trivial)
  | ((with_reducible apply dNot_e); decreasing_trivial)
  | ((with_reducible apply dNotV_e); decreasing_trivial)
  | ((with_reducible apply dCall_e); (decreasing_trivial); (exact rfl); (array_get_dec))
  | ((with_reducible apply dCallK_e); (decreasing_trivial); (exact rfl); (exact rfl); (array_get_dec))
  | ((with_reducible apply dSl_d); (decreasing_trivial); (decreasing_trivial); (decreasing_trivial); (exact rfl))
  | ((with_reducible apply dPart_e); decreasing_trivial)
  | ((with_reducible apply dDrop_e); decreasing_trivial)
  | ((with_reducible apply dIt_d); (decreasing_trivial); (exact rfl))
  | ((with_reducible apply dIt_n); decreasing_trivial)
  | ((with_reducible apply dRng_e); (decreasing_trivial); (get_elem_tactic_trivial)))
theorem root_right_ok {p : Nat} {A : Mat} (hd : A.det = 1) (u : Up A) (hA : BdM p A) (hp : 64 ≤ p) (hp2 : p < 8000) : fn_law_root_right none [matD A] = .ok (.bl true) none := by
  have r1 := root_of_ok hA (by omega) (by omega) hd u
  have r2 := root_up hd u hA hp hp2
  have e0 : dAsg 1 (dCall 1 fn_root_of [dNm 0]) [some (.d (matD A)), none] = .ok .nx [some (.d (matD A)), iS (nuM A % 24)] := by (apply Eq.trans; (decreasing_trivial); (rfl))
  generalize nuM A % 24 = v at *
  have n1 : fn_law_is_number none [.int v] = .ok (.bl true) none := rfl
  have c1 : dCall 1 fn_law_is_number [dNm 1] [some (.d (matD A)), iS v] = .ok (.d (.bl true)) [some (.d (matD A)), iS v] := by decreasing_trivial
  have c2 : dOp2 (gEq false) (dNm 1) (dCall 1 fn_law_root [dNm 0]) [some (.d (matD A)), iS v] = .ok (.d (.bl (v == v))) [some (.d (matD A)), iS v] := by decreasing_trivial
  have kp : prm [0] [matD A] = [matD A] := rfl
  have c3 : dOp2 (gEq false) (dCallK 1 [0] 1 fn_root_of [dNm 0]) (dNm 1) [some (.d (matD A)), iS v] = .ok (.d (.bl (v == v))) [some (.d (matD A)), iS v] := by
    have k1 : dCallK 1 [0] 1 fn_root_of [dNm 0] [some (.d (matD A)), iS v] = .ok (.d (.int v)) [some (.d (matD A)), iS v] := dCallK_e (xs := [matD A]) (o := none) rfl rfl rfl r1
    decreasing_trivial
  rw [beq_self_eq_true] at c2 c3
  refine runF_r (e := [some (.d (matD A)), iS v]) ?_
  show m_law_root_right [some (.d (matD A)), none] = _
  unfold m_law_root_right
  rw [dSeq_e e0]
  refine dRet_e ?_
  rw [andV_t c1, andV_t c2, c3]
theorem turn_no {f : D → Option (List (Nat × D))} {c : M Bool} {m : M Opd} {vs : List Nat} {x : D} {l : List (Nat × D)} {e e1 : En} {acc : List D} (hf : f x = some l) (ha : l.all (fun p => vs.contains p.1) = true) (hc : c (setAllE e l) = .ok false e1) :
    turnL f c m vs x acc e = .ok acc (wipeE e1 vs) := by
  unfold turnL
  simp only [hf, ha, if_true, bnd, nX, hc, Bool.false_eq_true, if_false]
theorem caughtV_x {j k : Nat} {vs : List Nat} {ms : Nat → Option (M Opd)} {m : M Opd} {e e' : En} {c fs} (hg : gt e j = some (.d (.clo k))) (hm : ms k = some m) (hw : okW e vs = true) (h : m (wipeE e vs) = .ex c fs e') : dCaughtV j vs ms e = .ok (.d (.exc c fs)) (restE e vs e') := by
  unfold dCaughtV
  rw [hg]
  dsimp only
  rw [hm]
  dsimp only
  rw [if_pos hw, h]
def F (S : D) (s : Drw) (l p t m w o1 o2 k : Option Sl) : En := [some (.d S), l, p, t, m, w, dw s, o1, o2, none, none, k]
noncomputable def testA : M Bool := dBl (dOp2 (gEq true) (dLc (dIt (dLst [dNm 7, dNm 8, dCall 1 fn_law_up [dNm 2], dCall 1 fn_law_up [dCall 1 fn_law_undone [dNm 7]]])) (fNm 9) (dNot (dTru (dCall 1 fn_law_root_right [dNm 9]))) (dC (.int 1)) [9]) (dLst []))
noncomputable def testB : M Bool := dOr (dBl (dOp2 (gEq true) (dCall 1 fn_root_of [dTup [dC (.int 1), dNm 4, dC (.int 0), dC (.int 1)]]) (dOp2 fMod (dOp1 gInt (dNm 4)) (dC (.int 24))))) (dBl (dOp2 (gEq true) (dCall 1 fn_root_of [dTup [dC (.int 0), dOp1 fNeg (dC (.int 1)), dC (.int 1), dC (.int 0)]]) (dC (.int 21))))
noncomputable def testC : M Bool := dBl (dOp2 (gEq true) (dLc (dIt (dNm 5)) (fNm 11) (dNot (dTru (dOp1 (gIsx sub_ 1) (dCaughtV 11 [11] ms_law)))) (dC (.int 1)) [11]) (dLst []))
noncomputable def turnM : M Fl := dSeq (dAsgG (gT 2 (gsC (gN 7) (gsC (gN 8) (gsN)))) (dTup [dCallIo 1 6 fn_law_some_up [], dCallIo 1 6 fn_law_some_up []]))
    (dSeq (dAsg 2 (dCall 2 fn_law_times [dNm 7, dNm 8]))
    (dSeq (dAsg 3 (dOp2 fAdd (dOp2 fAdd (dCall 1 fn_root_of [dNm 7]) (dCall 1 fn_root_of [dNm 8])) (dIf (dTru (dCall 1 fn_law_is_up [dNm 2])) (dC (.int 0)) (dC (.int 6)))))
    (dSeq (dIf (dBl (dOp2 (gEq true) (dCall 1 fn_root_of [dCall 1 fn_law_up [dNm 2]]) (dOp2 fMod (dOp1 gInt (dNm 3)) (dC (.int 24))))) (dRet (dC (.bl false))) (dSkip))
    (dSeq (dIf testA (dRet (dC (.bl false))) (dSkip))
    (dSeq (dAsg 4 (dCallIo 1 6 fn_law_number []))
    (dSeq (dIf testB (dRet (dC (.bl false))) (dSkip))
    (dSeq (dAsg 5 (dLst [dLam 1]))
    (dSeq (dApp 5 (dLam 3))
    (dIf testC (dRet (dC (.bl false))) (dSkip))))))))))
theorem m_law_eq : m_law = dSeq (dAsg 6 (dBegun mk_law_begun (dNm 0)))
    (dSeq (dFor (dRng gRng1 [dOp2 fAdd (dC (.int 4)) (dOp2 gMin2 (dOp1 gLen (dNm 0)) (dC (.int 6)))]) (gN 1) turnM)
    (dRet (dC (.bl true)))) := rfl
theorem neg_no {B : Mat} (hd : B.det = 1) (u : Up B) : ¬ Up B.neg := fun z => (up_neg hd).mp z u
theorem testA_ok {p : Nat} {S : D} {s : Drw} {l t m w : Option Sl} {A B P : Mat} (hd : ∀ X ∈ [A, B, Jac.upm P, Jac.upm ⟨A.d, 0 - A.b, 0 - A.c, A.a⟩], X.det = 1 ∧ Up X ∧ BdM p X) (hp : 64 ≤ p) (hp2 : p < 8000) :
    testA (F S s l (some (.d (matD P))) t m w (some (.d (matD A))) (some (.d (matD B))) none) = .ok false (F S s l (some (.d (matD P))) t m w (some (.d (matD A))) (some (.d (matD B))) none) := by
  have u1 := law_up_ok P
  have u2 := undone_ok A
  have u3 := law_up_ok ⟨A.d, 0 - A.b, 0 - A.c, A.a⟩
  generalize hE : F S s l (some (.d (matD P))) t m w (some (.d (matD A))) (some (.d (matD B))) none = E
  have n7 : dNm 7 E = .ok (.d (matD A)) E := by subst hE; rfl
  have n8 : dNm 8 E = .ok (.d (matD B)) E := by subst hE; rfl
  have n2 : dNm 2 E = .ok (.d (matD P)) E := by subst hE; rfl
  have it : dIt (dLst [dNm 7, dNm 8, dCall 1 fn_law_up [dNm 2], dCall 1 fn_law_up [dCall 1 fn_law_undone [dNm 7]]]) E = .ok [matD A, matD B, matD (Jac.upm P), matD (Jac.upm ⟨A.d, 0 - A.b, 0 - A.c, A.a⟩)] E := by decreasing_trivial
  have lc := dLc_e (f := fNm 9) (c := dNot (dTru (dCall 1 fn_law_root_right [dNm 9]))) (m := dC (.int 1)) (vs := [9]) (g := fun _ => []) it (by subst hE; rfl) (fun x hx => by
    refine ⟨Nat.zero_le _, fun acc ha => ?_⟩
    obtain ⟨X, hX, rfl⟩ : ∃ X ∈ [A, B, Jac.upm P, Jac.upm ⟨A.d, 0 - A.b, 0 - A.c, A.a⟩], x = matD X := by
      simp only [List.mem_cons, List.not_mem_nil, or_false] at hx
      rcases hx with rfl | rfl | rfl | rfl
      · exact ⟨_, by simp, rfl⟩
      · exact ⟨_, by simp, rfl⟩
      · exact ⟨_, by simp, rfl⟩
      · exact ⟨_, by simp, rfl⟩
    obtain ⟨h1, h2, h3⟩ := hd X hX
    have rr := root_right_ok h1 h2 h3 hp hp2
    have tt := turn_no (f := fNm 9) (c := dNot (dTru (dCall 1 fn_law_root_right [dNm 9]))) (m := dC (.int 1)) (vs := [9]) (x := matD X) (l := [(9, matD X)]) (e := wipeE E [9]) (e1 := setAllE (wipeE E [9]) [(9, matD X)]) (acc := acc) rfl rfl (by
      subst hE
      exact dNot_e (dTru_e (b := true) (dCall_e (n := 1) (xs := [matD X]) rfl rfl rr)))
    rw [tt, List.append_nil]
    subst hE
    rfl) (by show 4 ≤ SZ; decide)
  have lc2 : dLc (dIt (dLst [dNm 7, dNm 8, dCall 1 fn_law_up [dNm 2], dCall 1 fn_law_up [dCall 1 fn_law_undone [dNm 7]]])) (fNm 9) (dNot (dTru (dCall 1 fn_law_root_right [dNm 9]))) (dC (.int 1)) [9] E = .ok (.n (.lst [])) E := by
    rw [lc]
    subst hE
    rfl
  unfold testA
  have l0 : dLst [] E = .ok (.n (.lst [])) E := rfl
  refine dBl_e (dOp2_e (x := .lst []) (y := .lst []) lc2 (ov_n _) l0 (ov_n _) rfl)
theorem testC_ok {p : Nat} {S : D} {s : Drw} {l q t m : Option Sl} {A B : Mat} (hA : BdM p A) (dB : B.det = 1) (uB : Up B) (hB : BdM p B) (hp2 : p < 8000) :
    ∃ s', testC (F S s l q t m (some (.o (.lst [.clo 1, .clo 3]))) (some (.d (matD A))) (some (.d (matD B))) none) = .ok false (F S s' l q t m (some (.d (.lst [.clo 1, .clo 3]))) (some (.d (matD A))) (some (.d (matD B))) none) := by
  obtain ⟨x, s', ho, hx⟩ := odd_ok s hA (by omega)
  refine ⟨s', ?_⟩
  let E (s : Drw) (k : Option Sl) : En := F S s l q t m (some (.d (.lst [.clo 1, .clo 3]))) (some (.d (matD A))) (some (.d (matD B))) k
  have it : dIt (dNm 5) (F S s l q t m (some (.o (.lst [.clo 1, .clo 3]))) (some (.d (matD A))) (some (.d (matD B))) none) = .ok [.clo 1, .clo 3] (E s none) := rfl
  have b1 : dCall 1 fn_root_of [dCallIo 2 6 fn_law_odd_matrix [dNm 7]] (E s none) = .ex 1 [] (E s' none) :=
    dCall_x (n := 1) (xs := [x]) (dArgs_c (dCallIo_e (o0 := .drw s) (o := .drw s) (o' := .drw s') (xs := [matD A]) (e1 := E s none) rfl rfl rfl rfl ho) (dArgs_z _)) rfl hx
  have nb := root_of_no (p := p) (A := B.neg) ⟨hB.1.neg', hB.2.1.neg', hB.2.2.1.neg', hB.2.2.2.neg'⟩ (by omega) ((det_neg B).trans dB) (neg_no dB uB)
  have b3 : dCall 1 fn_root_of [dOp1 gTuple (dLc (dIt (dNm 8)) (fNm 10) (dYes) (dOp2 fSub (dC (.int 0)) (dNm 10)) [10])] (E s' none) = .ex 1 [] (E s' none) :=
    dCall_x (n := 1) (xs := [matD B.neg]) rfl rfl nb
  have c1 : dCaughtV 11 [11] ms_law (E s (some (.d (.clo 1)))) = .ok (.d (.exc 1 [])) (E s' (some (.d (.clo 1)))) := (caughtV_x (k := 1) (e' := E s' none) rfl rfl rfl b1).trans rfl
  have c3 : dCaughtV 11 [11] ms_law (E s' (some (.d (.clo 3)))) = .ok (.d (.exc 1 [])) (E s' (some (.d (.clo 3)))) := (caughtV_x (k := 3) (e' := E s' none) rfl rfl rfl b3).trans rfl
  have g1 : gIsx sub_ 1 (.exc 1 []) = some (.d (.bl true)) := rfl
  have t1 : turnL (fNm 11) (dNot (dTru (dOp1 (gIsx sub_ 1) (dCaughtV 11 [11] ms_law)))) (dC (.int 1)) [11] (.clo 1) [] (E s none) = .ok [] (E s' none) :=
    turn_no (l := [(11, .clo 1)]) (e1 := E s' (some (.d (.clo 1)))) rfl rfl (dNot_e (dTru_e (b := true) (dOp1_d (e := E s (some (.d (.clo 1)))) c1 g1)))
  have t3 : turnL (fNm 11) (dNot (dTru (dOp1 (gIsx sub_ 1) (dCaughtV 11 [11] ms_law)))) (dC (.int 1)) [11] (.clo 3) [] (E s' none) = .ok [] (E s' none) :=
    turn_no (l := [(11, .clo 3)]) (e1 := E s' (some (.d (.clo 3)))) rfl rfl (dNot_e (dTru_e (b := true) (dOp1_d (e := E s' (some (.d (.clo 3)))) c3 g1)))
  have lc : dLc (dIt (dNm 5)) (fNm 11) (dNot (dTru (dOp1 (gIsx sub_ 1) (dCaughtV 11 [11] ms_law)))) (dC (.int 1)) [11] (F S s l q t m (some (.o (.lst [.clo 1, .clo 3]))) (some (.d (matD A))) (some (.d (matD B))) none) = .ok (.n (.lst [])) (E s' none) := by
    unfold dLc
    rw [bnd_e it]
    rw [if_pos (show okW (E s none) [11] = true from rfl)]
    have : loopL (fNm 11) (dNot (dTru (dOp1 (gIsx sub_ 1) (dCaughtV 11 [11] ms_law)))) (dC (.int 1)) [11] [.clo 1, .clo 3] [] (wipeE (E s none) [11]) = .ok [] (E s' none) := by
      show bnd (turnL _ _ _ _ _ _) _ (E s none) = _
      rw [bnd_e t1]
      show bnd (turnL _ _ _ _ _ _) _ (E s' none) = _
      rw [bnd_e t3]
      rfl
    rw [this]
    rfl
  unfold testC
  exact dBl_e (dOp2_e (x := .lst []) (y := .lst []) lc (ov_n _) (show dLst [] (E s' none) = .ok (.n (.lst [])) (E s' none) from rfl) (ov_n _) rfl)
theorem turn_ok {S : D} {s : Drw} {l q t m w o1 o2 : Option Sl} : ∃ s' q' t' m' w' o1' o2', turnM (F S s l q t m w o1 o2 none) = .ok .nx (F S s' l q' t' m' w' o1' o2' none) := by
  obtain ⟨A, s1, dA, uA, bA, hA⟩ := some_up_ok s
  obtain ⟨B, s2, dB, uB, bB, hB⟩ := some_up_ok s1
  have i1 : dCallIo 1 6 fn_law_some_up [] (F S s l q t m w o1 o2 none) = .ok (.d (matD A)) (F S s1 l q t m w o1 o2 none) := dCallIo_e (o0 := .drw s) (o := .drw s) (e1 := F S s l q t m w o1 o2 none) rfl rfl rfl rfl hA
  have i2 : dCallIo 1 6 fn_law_some_up [] (F S s1 l q t m w o1 o2 none) = .ok (.d (matD B)) (F S s2 l q t m w o1 o2 none) := dCallIo_e (o0 := .drw s1) (o := .drw s1) (e1 := F S s1 l q t m w o1 o2 none) rfl rfl rfl rfl hB
  have e1 : dAsgG (gT 2 (gsC (gN 7) (gsC (gN 8) (gsN)))) (dTup [dCallIo 1 6 fn_law_some_up [], dCallIo 1 6 fn_law_some_up []]) (F S s l q t m w o1 o2 none) = .ok .nx (F S s2 l q t m w (some (.d (matD A))) (some (.d (matD B))) none) := by (apply Eq.trans; (decreasing_trivial); (rfl))
  have tm1 := times_ok bA bB (by decide)
  have dP := det_mul dA dB
  have bP := BdM.mul bA bB
  have nm := nu_mul dA dB uA uB
  have e2 : dAsg 2 (dCall 2 fn_law_times [dNm 7, dNm 8]) (F S s2 l q t m w (some (.d (matD A))) (some (.d (matD B))) none) = .ok .nx (F S s2 l (some (.d (matD (A.mul B)))) t m w (some (.d (matD A))) (some (.d (matD B))) none) := by (apply Eq.trans; (decreasing_trivial); (rfl))
  generalize hP : A.mul B = P at *
  have ra := root_of_ok bA (by decide) (by decide) dA uA
  have rb := root_of_ok bB (by decide) (by decide) dB uB
  have rp := root_of_ok (A := Jac.upm P) bP.upm (by decide) (by decide) (det_upm dP) (up_upm dP)
  have up1 := is_up_ok P
  have up2 := law_up_ok P
  let E2 : En := F S s2 l (some (.d (matD P))) t m w (some (.d (matD A))) (some (.d (matD B))) none
  have c0 : dTru (dCall 1 fn_law_is_up [dNm 2]) E2 = .ok (decide (Up P)) E2 := by decreasing_trivial
  have iw : dIf (dTru (dCall 1 fn_law_is_up [dNm 2])) (dC (.int 0)) (dC (.int 6)) E2 = .ok (.d (.int (wt P))) E2 := by
    unfold wt
    by_cases u : Up P
    · rw [dIf_t (c0.trans (by rw [decide_eq_true u])), if_pos u]; rfl
    · rw [dIf_f (c0.trans (by rw [decide_eq_false u])), if_neg u]; rfl
  have e3 : dAsg 3 (dOp2 fAdd (dOp2 fAdd (dCall 1 fn_root_of [dNm 7]) (dCall 1 fn_root_of [dNm 8])) (dIf (dTru (dCall 1 fn_law_is_up [dNm 2])) (dC (.int 0)) (dC (.int 6)))) E2 = .ok .nx (F S s2 l (some (.d (matD P))) (iS (nuM A % 24 + nuM B % 24 + wt P)) m w (some (.d (matD A))) (some (.d (matD B))) none) := by (apply Eq.trans; (decreasing_trivial); (rfl))
  have k4 : nuM (Jac.upm P) % 24 = (nuM A % 24 + nuM B % 24 + wt P) % 24 := by omega
  generalize nuM A % 24 + nuM B % 24 + wt P = tot at *
  let E3 : En := F S s2 l (some (.d (matD P))) (iS tot) m w (some (.d (matD A))) (some (.d (matD B))) none
  have e4 : dBl (dOp2 (gEq true) (dCall 1 fn_root_of [dCall 1 fn_law_up [dNm 2]]) (dOp2 fMod (dOp1 gInt (dNm 3)) (dC (.int 24)))) E3 = .ok (!(nuM (Jac.upm P) % 24 == tot % 24)) E3 := by decreasing_trivial
  rw [k4, beq_self_eq_true] at e4
  have dU : (⟨A.d, 0 - A.b, 0 - A.c, A.a⟩ : Mat).det = 1 := by
    unfold Mat.det at *
    dsimp only
    grind
  have bU : BdM 2600 ⟨A.d, 0 - A.b, 0 - A.c, A.a⟩ := ⟨bA.2.2.2, bA.2.1.neg', bA.2.2.1.neg', bA.1⟩
  have e5 := testA_ok (p := 5201) (S := S) (s := s2) (l := l) (t := iS tot) (m := m) (w := w) (A := A) (B := B) (P := P) (fun X hX => by
    simp only [List.mem_cons, List.not_mem_nil, or_false] at hX
    rcases hX with rfl | rfl | rfl | rfl
    · exact ⟨dA, uA, bA.mono (by decide)⟩
    · exact ⟨dB, uB, bB.mono (by decide)⟩
    · exact ⟨det_upm dP, up_upm dP, bP.upm⟩
    · exact ⟨det_upm dU, up_upm dU, bU.upm.mono (by decide)⟩) (by decide) (by decide)
  obtain ⟨v, s3, bv, hv⟩ := number_ok s2
  have i3 : dCallIo 1 6 fn_law_number [] E3 = .ok (.d (.int v)) (F S s3 l (some (.d (matD P))) (iS tot) m w (some (.d (matD A))) (some (.d (matD B))) none) := dCallIo_e (o0 := .drw s2) (o := .drw s2) (e1 := E3) rfl rfl rfl rfl hv
  let E6 : En := F S s3 l (some (.d (matD P))) (iS tot) (iS v) w (some (.d (matD A))) (some (.d (matD B))) none
  have e6 : dAsg 4 (dCallIo 1 6 fn_law_number []) E3 = .ok .nx E6 := by (apply Eq.trans; (decreasing_trivial); (rfl))
  have e7 : testB E6 = .ok false E6 := by
    have bT : BdM 64 (tm v) := BdM.tm (bv.mono (by decide)) (by decide)
    have rT := root_of_ok bT (by decide) (by decide) (tm_det v) (tm_up v)
    rw [show nuM (tm v) = v from nu_zero _ _ _] at rT
    have bS : BdM 64 sm := ⟨by unfold Bd; decide, by unfold Bd; decide, by unfold Bd; decide, by unfold Bd; decide⟩
    have rS := root_of_ok bS (by decide) (by decide) sm_det sm_up
    have a1 : dTup [dC (.int 1), dNm 4, dC (.int 0), dC (.int 1)] E6 = .ok (.d (matD (tm v))) E6 := rfl
    have a2 : dTup [dC (.int 0), dOp1 fNeg (dC (.int 1)), dC (.int 1), dC (.int 0)] E6 = .ok (.d (matD sm)) E6 := rfl
    have c1 : dBl (dOp2 (gEq true) (dCall 1 fn_root_of [dTup [dC (.int 1), dNm 4, dC (.int 0), dC (.int 1)]]) (dOp2 fMod (dOp1 gInt (dNm 4)) (dC (.int 24)))) E6 = .ok (!(v % 24 == v % 24)) E6 := by decreasing_trivial
    have c2 : dBl (dOp2 (gEq true) (dCall 1 fn_root_of [dTup [dC (.int 0), dOp1 fNeg (dC (.int 1)), dC (.int 1), dC (.int 0)]]) (dC (.int 21))) E6 = .ok (!(nuM sm % 24 == 21)) E6 := by decreasing_trivial
    have s21 : nuM sm % 24 = 21 := by
      have z := S_all (A := tm 0) (tm_det 0) (tm_up 0)
      have z1 : (tm 0).mul sm = sm := by apply Mat.ext <;> rfl
      rw [z1, upm_up sm_up, show nuM (tm 0) = 0 from nu_zero _ _ _] at z
      have z2 : wt sm = 0 := if_pos sm_up
      omega
    rw [beq_self_eq_true] at c1
    rw [s21] at c2
    unfold testB
    rw [dOr_f c1]
    exact c2
  have e8 : dAsg 5 (dLst [dLam 1]) E6 = .ok .nx (F S s3 l (some (.d (matD P))) (iS tot) (iS v) (some (.o (.lst [.clo 1]))) (some (.d (matD A))) (some (.d (matD B))) none) := rfl
  have e9 : dApp 5 (dLam 3) (F S s3 l (some (.d (matD P))) (iS tot) (iS v) (some (.o (.lst [.clo 1]))) (some (.d (matD A))) (some (.d (matD B))) none) = .ok .nx (F S s3 l (some (.d (matD P))) (iS tot) (iS v) (some (.o (.lst [.clo 1, .clo 3]))) (some (.d (matD A))) (some (.d (matD B))) none) := rfl
  obtain ⟨s4, e10⟩ := testC_ok (S := S) (s := s3) (l := l) (q := some (.d (matD P))) (t := iS tot) (m := iS v) bA dB uB bB (by decide)
  refine ⟨s4, some (.d (matD P)), iS tot, iS v, some (.d (.lst [.clo 1, .clo 3])), some (.d (matD A)), some (.d (matD B)), ?_⟩
  unfold turnM
  rw [dSeq_e e1, dSeq_e e2, dSeq_e e3, dSkip_if e4, dSkip_if e5, dSeq_e e6, dSkip_if e7, dSeq_e e8, dSeq_e e9, dIf_f e10]
  rfl
theorem bg : mk_law_begun = mkBg 2 1 hBegunM hBegunC := rfl
theorem law_true' (ns : List Int) (h : ns.length ≤ 63) : fn_law none [.rol (ns.map .int)] = .ok (.bl true) none := by
  obtain ⟨s, hs⟩ := begun_ok ns h
  have hb : mk_law_begun ns = some s := (congrFun bg ns).trans hs
  have e1 : dAsg 6 (dBegun mk_law_begun (dNm 0)) (dsl [.rol (ns.map .int)] 11) = .ok .nx (F (.rol (ns.map .int)) s none none none none none none none none) := by
    refine (dAsg_n (o := .drw s) (e1 := dsl [.rol (ns.map .int)] 11) ?_).trans rfl
    unfold dBegun
    rw [bnd_e (show dArgs [dNm 0] (dsl [.rol (ns.map .int)] 11) = .ok [.rol (ns.map .int)] (dsl [.rol (ns.map .int)] 11) from rfl)]
    show bnd (opt ((toInts (ns.map .int)).bind mk_law_begun)) _ _ = _
    rw [toInts_map, Option.bind_some, hb]
    rfl
  let E0 : En := F (.rol (ns.map .int)) s none none none none none none none none
  have ln : dOp1 gLen (dNm 0) E0 = .ok (.d (.int ns.length)) E0 := dOp1_d (x := .rol (ns.map .int)) rfl (by
    show some (Opd.d (.int ((ns.map D.int).length : Nat))) = _
    rw [List.length_map])
  obtain ⟨k, k0, k1, mn⟩ : ∃ k : Int, 0 ≤ k ∧ k ≤ 1000 ∧ dOp2 gMin2 (dOp1 gLen (dNm 0)) (dC (.int 6)) E0 = .ok (.d (.int k)) E0 := by
    by_cases z : (ns.length : Int) ≤ 6
    · exact ⟨(ns.length : Int), by omega, by omega, dOp2_e (x := .int ns.length) (y := .int 6) ln (ov_d _) rfl (ov_d _) (show some (Opd.d (.int (if (6 : Int) < (ns.length : Int) then 6 else (ns.length : Int)))) = some (Opd.d (.int (ns.length : Int))) by rw [if_neg (by omega)])⟩
    · exact ⟨6, by omega, by omega, dOp2_e (x := .int ns.length) (y := .int 6) ln (ov_d _) rfl (ov_d _) (show some (Opd.d (.int (if (6 : Int) < (ns.length : Int) then 6 else (ns.length : Int)))) = some (Opd.d (.int 6)) by rw [if_pos (by omega)])⟩
  have rg := rng1_e (j := 4 + k) (by omega) (by omega)
  have it : dRng gRng1 [dOp2 fAdd (dC (.int 4)) (dOp2 gMin2 (dOp1 gLen (dNm 0)) (dC (.int 6)))] E0 = .ok (rngL 0 1 (4 + k).toNat) E0 := by decreasing_trivial
  obtain ⟨e', e2, s', l, q, t, m, w, o1, o2, rfl⟩ := dForL_ok (t := gN 1) (b := turnM) (fun _ e => ∃ s l q t m w o1 o2, e = F (.rol (ns.map .int)) s l q t m w o1 o2 none) (by
    rintro x xs e ⟨s, l, q, t, m, w, o1, o2, rfl⟩
    obtain ⟨s', q', t', m', w', o1', o2', h⟩ := turn_ok (S := .rol (ns.map .int)) (s := s) (l := some (.d x)) (q := q) (t := t) (m := m) (w := w) (o1 := o1) (o2 := o2)
    exact ⟨_, by rw [gN_e]; exact h, s', _, q', t', m', w', o1', o2', rfl⟩) (rngL 0 1 (4 + k).toNat) E0 ⟨s, none, none, none, none, none, none, none, rfl⟩
  refine runF_r (e := F (.rol (ns.map .int)) s' l q t m w o1 o2 none) ?_
  rw [m_law_eq, dSeq_e e1, dSeq_e ((dFor_e it).trans e2)]
  decreasing_trivial
end
theorem law_true (ns : List Int) (h : ns.length ≤ 63) : fn_law none [.rol (ns.map .int)] = .ok (.bl true) none := @law_true' ⟨[]⟩ ns h
end Lk17
set_option Elab.async false
set_option linter.all false
set_option maxRecDepth 100000
set_option maxHeartbeats 4000000

/-! the end of law_k17_whole_roots_along_words: printed by gen.py -/
namespace Lk17
open PySem PySem.Spec PyProof.Rows L2 Dv LamX
theorem isx_big (n k : Nat) : sub_ (n + 2) k = sub_ 0 k := by
  unfold sub_
  rw [if_neg (by omega)]
  rfl
def rcOf (K : PySem.W.Frag) (C_0 C_1 : Addr) (co : Nat → Addr → Addr → HO) (cq : Str) : RC := ⟨K, fun c => match c with | 0 => C_0 | 1 => C_1 | _ => C_0, co, cq⟩
theorem all_mk {l : PySem.W.OpenLaw} {w : World} {K : PySem.W.Frag} {h : Heap} {mg : Str → Option Value} {fa : Addr} (X : K.In h) (G : h.Ns mainGlobals mg) (hfa : mg "law" = some (.ref fa)) (own : OwnTab K fa h)
    {f_is_number f_are_numbers f_is_matrix f_is_upright f_need_upright f_symbol f_root_by f_root_of f_law_begun f_law_blend f_law_take f_law_pick f_law_caught f_law_is_number f_law_gcd f_law_euclid f_law_times f_law_undone f_law_is_up f_law_up f_law_is_matrix f_law_word_matrix f_law_number f_law_word f_law_some_matrix f_law_over f_law_odd_matrix f_law_root f_law_some_up f_law_root_right f_law C_0 C_1 c_ P_ : Addr}
    {oc_is_number kV_is_number dc_is_number pm_is_number ct_is_number : Value} {od_is_number an_is_number : Option Addr} {sl_is_number : Array (Option Value)} {cd_is_number : Value}
    {oc_are_numbers kV_are_numbers dc_are_numbers pm_are_numbers ct_are_numbers : Value} {od_are_numbers an_are_numbers : Option Addr} {sl_are_numbers : Array (Option Value)} {cd_are_numbers : Value}
    {oc_is_matrix kV_is_matrix dc_is_matrix pm_is_matrix ct_is_matrix : Value} {od_is_matrix an_is_matrix : Option Addr} {sl_is_matrix : Array (Option Value)} {cd_is_matrix : Value}
    {oc_is_upright kV_is_upright dc_is_upright pm_is_upright ct_is_upright : Value} {od_is_upright an_is_upright : Option Addr} {sl_is_upright : Array (Option Value)} {cd_is_upright : Value}
    {oc_need_upright kV_need_upright dc_need_upright pm_need_upright ct_need_upright : Value} {od_need_upright an_need_upright : Option Addr} {sl_need_upright : Array (Option Value)} {cd_need_upright : Value}
    {oc_symbol kV_symbol dc_symbol pm_symbol ct_symbol : Value} {od_symbol an_symbol : Option Addr} {sl_symbol : Array (Option Value)} {cd_symbol : Value}
    {oc_root_by kV_root_by dc_root_by pm_root_by ct_root_by : Value} {od_root_by an_root_by : Option Addr} {sl_root_by : Array (Option Value)} {cd_root_by : Value}
    {oc_root_of kV_root_of dc_root_of pm_root_of ct_root_of : Value} {od_root_of an_root_of : Option Addr} {sl_root_of : Array (Option Value)} {cd_root_of : Value}
    {oc_law_begun kV_law_begun dc_law_begun pm_law_begun ct_law_begun : Value} {od_law_begun an_law_begun : Option Addr} {sl_law_begun : Array (Option Value)} {cd_law_begun : Value}
    {oc_law_blend kV_law_blend dc_law_blend pm_law_blend ct_law_blend : Value} {od_law_blend an_law_blend : Option Addr} {sl_law_blend : Array (Option Value)} {cd_law_blend : Value}
    {oc_law_take kV_law_take dc_law_take pm_law_take ct_law_take : Value} {od_law_take an_law_take : Option Addr} {sl_law_take : Array (Option Value)} {cd_law_take : Value}
    {oc_law_pick kV_law_pick dc_law_pick pm_law_pick ct_law_pick : Value} {od_law_pick an_law_pick : Option Addr} {sl_law_pick : Array (Option Value)} {cd_law_pick : Value}
    {oc_law_caught kV_law_caught dc_law_caught pm_law_caught ct_law_caught : Value} {od_law_caught an_law_caught : Option Addr} {sl_law_caught : Array (Option Value)} {cd_law_caught : Value}
    {oc_law_is_number kV_law_is_number dc_law_is_number pm_law_is_number ct_law_is_number : Value} {od_law_is_number an_law_is_number : Option Addr} {sl_law_is_number : Array (Option Value)} {cd_law_is_number : Value}
    {oc_law_gcd kV_law_gcd dc_law_gcd pm_law_gcd ct_law_gcd : Value} {od_law_gcd an_law_gcd : Option Addr} {sl_law_gcd : Array (Option Value)} {cd_law_gcd : Value}
    {oc_law_euclid kV_law_euclid dc_law_euclid pm_law_euclid ct_law_euclid : Value} {od_law_euclid an_law_euclid : Option Addr} {sl_law_euclid : Array (Option Value)} {cd_law_euclid : Value}
    {oc_law_times kV_law_times dc_law_times pm_law_times ct_law_times : Value} {od_law_times an_law_times : Option Addr} {sl_law_times : Array (Option Value)} {cd_law_times : Value}
    {oc_law_undone kV_law_undone dc_law_undone pm_law_undone ct_law_undone : Value} {od_law_undone an_law_undone : Option Addr} {sl_law_undone : Array (Option Value)} {cd_law_undone : Value}
    {oc_law_is_up kV_law_is_up dc_law_is_up pm_law_is_up ct_law_is_up : Value} {od_law_is_up an_law_is_up : Option Addr} {sl_law_is_up : Array (Option Value)} {cd_law_is_up : Value}
    {oc_law_up kV_law_up dc_law_up pm_law_up ct_law_up : Value} {od_law_up an_law_up : Option Addr} {sl_law_up : Array (Option Value)} {cd_law_up : Value}
    {oc_law_is_matrix kV_law_is_matrix dc_law_is_matrix pm_law_is_matrix ct_law_is_matrix : Value} {od_law_is_matrix an_law_is_matrix : Option Addr} {sl_law_is_matrix : Array (Option Value)} {cd_law_is_matrix : Value}
    {oc_law_word_matrix kV_law_word_matrix dc_law_word_matrix pm_law_word_matrix ct_law_word_matrix : Value} {od_law_word_matrix an_law_word_matrix : Option Addr} {sl_law_word_matrix : Array (Option Value)} {cd_law_word_matrix : Value}
    {oc_law_number kV_law_number dc_law_number pm_law_number ct_law_number : Value} {od_law_number an_law_number : Option Addr} {sl_law_number : Array (Option Value)} {cd_law_number : Value}
    {oc_law_word kV_law_word dc_law_word pm_law_word ct_law_word : Value} {od_law_word an_law_word : Option Addr} {sl_law_word : Array (Option Value)} {cd_law_word : Value}
    {oc_law_some_matrix kV_law_some_matrix dc_law_some_matrix pm_law_some_matrix ct_law_some_matrix : Value} {od_law_some_matrix an_law_some_matrix : Option Addr} {sl_law_some_matrix : Array (Option Value)} {cd_law_some_matrix : Value}
    {oc_law_over kV_law_over dc_law_over pm_law_over ct_law_over : Value} {od_law_over an_law_over : Option Addr} {sl_law_over : Array (Option Value)} {cd_law_over : Value}
    {oc_law_odd_matrix kV_law_odd_matrix dc_law_odd_matrix pm_law_odd_matrix ct_law_odd_matrix : Value} {od_law_odd_matrix an_law_odd_matrix : Option Addr} {sl_law_odd_matrix : Array (Option Value)} {cd_law_odd_matrix : Value}
    {oc_law_root kV_law_root dc_law_root pm_law_root ct_law_root : Value} {od_law_root an_law_root : Option Addr} {sl_law_root : Array (Option Value)} {cd_law_root : Value}
    {oc_law_some_up kV_law_some_up dc_law_some_up pm_law_some_up ct_law_some_up : Value} {od_law_some_up an_law_some_up : Option Addr} {sl_law_some_up : Array (Option Value)} {cd_law_some_up : Value}
    {oc_law_root_right kV_law_root_right dc_law_root_right pm_law_root_right ct_law_root_right : Value} {od_law_root_right an_law_root_right : Option Addr} {sl_law_root_right : Array (Option Value)} {cd_law_root_right : Value}
    {oc_law kV_law dc_law pm_law ct_law : Value} {od_law an_law : Option Addr} {sl_law : Array (Option Value)}
    {ccl : Value} {cdd : Option Addr} {cvs : Array Value} {csl : Array (Option Value)}
    (a_is_number : PySem.W.nsIn K mainGlobals "is_number" = some (some (.ref f_is_number)))
    (l_is_number : K.lookup f_is_number = some ⟨oc_is_number, od_is_number, .func (PySem.W.fnOf "is_number" "is_number" (defArgs s_is_number) (defBody s_is_number) (defScope s_is_number) .none kV_is_number dc_is_number pm_is_number an_is_number cd_is_number ct_is_number), sl_is_number⟩)
    (c_is_number : PySem.W.codeIn K cd_is_number "is_number" = true)
    (k_is_number : PySem.W.keepIn K (.ref f_is_number) = true)
    (a_are_numbers : PySem.W.nsIn K mainGlobals "are_numbers" = some (some (.ref f_are_numbers)))
    (l_are_numbers : K.lookup f_are_numbers = some ⟨oc_are_numbers, od_are_numbers, .func (PySem.W.fnOf "are_numbers" "are_numbers" (defArgs s_are_numbers) (defBody s_are_numbers) (defScope s_are_numbers) .none kV_are_numbers dc_are_numbers pm_are_numbers an_are_numbers cd_are_numbers ct_are_numbers), sl_are_numbers⟩)
    (c_are_numbers : PySem.W.codeIn K cd_are_numbers "are_numbers" = true)
    (k_are_numbers : PySem.W.keepIn K (.ref f_are_numbers) = true)
    (a_is_matrix : PySem.W.nsIn K mainGlobals "is_matrix" = some (some (.ref f_is_matrix)))
    (l_is_matrix : K.lookup f_is_matrix = some ⟨oc_is_matrix, od_is_matrix, .func (PySem.W.fnOf "is_matrix" "is_matrix" (defArgs s_is_matrix) (defBody s_is_matrix) (defScope s_is_matrix) .none kV_is_matrix dc_is_matrix pm_is_matrix an_is_matrix cd_is_matrix ct_is_matrix), sl_is_matrix⟩)
    (c_is_matrix : PySem.W.codeIn K cd_is_matrix "is_matrix" = true)
    (k_is_matrix : PySem.W.keepIn K (.ref f_is_matrix) = true)
    (a_is_upright : PySem.W.nsIn K mainGlobals "is_upright" = some (some (.ref f_is_upright)))
    (l_is_upright : K.lookup f_is_upright = some ⟨oc_is_upright, od_is_upright, .func (PySem.W.fnOf "is_upright" "is_upright" (defArgs s_is_upright) (defBody s_is_upright) (defScope s_is_upright) .none kV_is_upright dc_is_upright pm_is_upright an_is_upright cd_is_upright ct_is_upright), sl_is_upright⟩)
    (c_is_upright : PySem.W.codeIn K cd_is_upright "is_upright" = true)
    (k_is_upright : PySem.W.keepIn K (.ref f_is_upright) = true)
    (a_need_upright : PySem.W.nsIn K mainGlobals "need_upright" = some (some (.ref f_need_upright)))
    (l_need_upright : K.lookup f_need_upright = some ⟨oc_need_upright, od_need_upright, .func (PySem.W.fnOf "need_upright" "need_upright" (defArgs s_need_upright) (defBody s_need_upright) (defScope s_need_upright) .none kV_need_upright dc_need_upright pm_need_upright an_need_upright cd_need_upright ct_need_upright), sl_need_upright⟩)
    (c_need_upright : PySem.W.codeIn K cd_need_upright "need_upright" = true)
    (k_need_upright : PySem.W.keepIn K (.ref f_need_upright) = true)
    (a_symbol : PySem.W.nsIn K mainGlobals "symbol" = some (some (.ref f_symbol)))
    (l_symbol : K.lookup f_symbol = some ⟨oc_symbol, od_symbol, .func (PySem.W.fnOf "symbol" "symbol" (defArgs s_symbol) (defBody s_symbol) (defScope s_symbol) .none kV_symbol dc_symbol pm_symbol an_symbol cd_symbol ct_symbol), sl_symbol⟩)
    (c_symbol : PySem.W.codeIn K cd_symbol "symbol" = true)
    (k_symbol : PySem.W.keepIn K (.ref f_symbol) = true)
    (a_root_by : PySem.W.nsIn K mainGlobals "root_by" = some (some (.ref f_root_by)))
    (l_root_by : K.lookup f_root_by = some ⟨oc_root_by, od_root_by, .func (PySem.W.fnOf "root_by" "root_by" (defArgs s_root_by) (defBody s_root_by) (defScope s_root_by) .none kV_root_by dc_root_by pm_root_by an_root_by cd_root_by ct_root_by), sl_root_by⟩)
    (c_root_by : PySem.W.codeIn K cd_root_by "root_by" = true)
    (k_root_by : PySem.W.keepIn K (.ref f_root_by) = true)
    (a_root_of : PySem.W.nsIn K mainGlobals "root_of" = some (some (.ref f_root_of)))
    (l_root_of : K.lookup f_root_of = some ⟨oc_root_of, od_root_of, .func (PySem.W.fnOf "root_of" "root_of" (defArgs s_root_of) (defBody s_root_of) (defScope s_root_of) .none kV_root_of dc_root_of pm_root_of an_root_of cd_root_of ct_root_of), sl_root_of⟩)
    (c_root_of : PySem.W.codeIn K cd_root_of "root_of" = true)
    (k_root_of : PySem.W.keepIn K (.ref f_root_of) = true)
    (a_law_begun : PySem.W.nsIn K mainGlobals "_law_begun" = some (some (.ref f_law_begun)))
    (l_law_begun : K.lookup f_law_begun = some ⟨oc_law_begun, od_law_begun, .func (PySem.W.fnOf "_law_begun" "_law_begun" (defArgs s_law_begun) (defBody s_law_begun) (defScope s_law_begun) .none kV_law_begun dc_law_begun pm_law_begun an_law_begun cd_law_begun ct_law_begun), sl_law_begun⟩)
    (c_law_begun : PySem.W.codeIn K cd_law_begun "_law_begun" = true)
    (k_law_begun : PySem.W.keepIn K (.ref f_law_begun) = true)
    (a_law_blend : PySem.W.nsIn K mainGlobals "_law_blend" = some (some (.ref f_law_blend)))
    (l_law_blend : K.lookup f_law_blend = some ⟨oc_law_blend, od_law_blend, .func (PySem.W.fnOf "_law_blend" "_law_blend" (defArgs s_law_blend) (defBody s_law_blend) (defScope s_law_blend) .none kV_law_blend dc_law_blend pm_law_blend an_law_blend cd_law_blend ct_law_blend), sl_law_blend⟩)
    (c_law_blend : PySem.W.codeIn K cd_law_blend "_law_blend" = true)
    (k_law_blend : PySem.W.keepIn K (.ref f_law_blend) = true)
    (a_law_take : PySem.W.nsIn K mainGlobals "_law_take" = some (some (.ref f_law_take)))
    (l_law_take : K.lookup f_law_take = some ⟨oc_law_take, od_law_take, .func (PySem.W.fnOf "_law_take" "_law_take" (defArgs s_law_take) (defBody s_law_take) (defScope s_law_take) .none kV_law_take dc_law_take pm_law_take an_law_take cd_law_take ct_law_take), sl_law_take⟩)
    (c_law_take : PySem.W.codeIn K cd_law_take "_law_take" = true)
    (k_law_take : PySem.W.keepIn K (.ref f_law_take) = true)
    (a_law_pick : PySem.W.nsIn K mainGlobals "_law_pick" = some (some (.ref f_law_pick)))
    (l_law_pick : K.lookup f_law_pick = some ⟨oc_law_pick, od_law_pick, .func (PySem.W.fnOf "_law_pick" "_law_pick" (defArgs s_law_pick) (defBody s_law_pick) (defScope s_law_pick) .none kV_law_pick dc_law_pick pm_law_pick an_law_pick cd_law_pick ct_law_pick), sl_law_pick⟩)
    (c_law_pick : PySem.W.codeIn K cd_law_pick "_law_pick" = true)
    (k_law_pick : PySem.W.keepIn K (.ref f_law_pick) = true)
    (a_law_caught : PySem.W.nsIn K mainGlobals "_law_caught" = some (some (.ref f_law_caught)))
    (l_law_caught : K.lookup f_law_caught = some ⟨oc_law_caught, od_law_caught, .func (PySem.W.fnOf "_law_caught" "_law_caught" (defArgs s_law_caught) (defBody s_law_caught) (defScope s_law_caught) .none kV_law_caught dc_law_caught pm_law_caught an_law_caught cd_law_caught ct_law_caught), sl_law_caught⟩)
    (c_law_caught : PySem.W.codeIn K cd_law_caught "_law_caught" = true)
    (k_law_caught : PySem.W.keepIn K (.ref f_law_caught) = true)
    (a_law_is_number : PySem.W.nsIn K mainGlobals "_law_is_number" = some (some (.ref f_law_is_number)))
    (l_law_is_number : K.lookup f_law_is_number = some ⟨oc_law_is_number, od_law_is_number, .func (PySem.W.fnOf "_law_is_number" "_law_is_number" (defArgs s_law_is_number) (defBody s_law_is_number) (defScope s_law_is_number) .none kV_law_is_number dc_law_is_number pm_law_is_number an_law_is_number cd_law_is_number ct_law_is_number), sl_law_is_number⟩)
    (c_law_is_number : PySem.W.codeIn K cd_law_is_number "_law_is_number" = true)
    (k_law_is_number : PySem.W.keepIn K (.ref f_law_is_number) = true)
    (a_law_gcd : PySem.W.nsIn K mainGlobals "_law_gcd" = some (some (.ref f_law_gcd)))
    (l_law_gcd : K.lookup f_law_gcd = some ⟨oc_law_gcd, od_law_gcd, .func (PySem.W.fnOf "_law_gcd" "_law_gcd" (defArgs s_law_gcd) (defBody s_law_gcd) (defScope s_law_gcd) .none kV_law_gcd dc_law_gcd pm_law_gcd an_law_gcd cd_law_gcd ct_law_gcd), sl_law_gcd⟩)
    (c_law_gcd : PySem.W.codeIn K cd_law_gcd "_law_gcd" = true)
    (k_law_gcd : PySem.W.keepIn K (.ref f_law_gcd) = true)
    (a_law_euclid : PySem.W.nsIn K mainGlobals "_law_euclid" = some (some (.ref f_law_euclid)))
    (l_law_euclid : K.lookup f_law_euclid = some ⟨oc_law_euclid, od_law_euclid, .func (PySem.W.fnOf "_law_euclid" "_law_euclid" (defArgs s_law_euclid) (defBody s_law_euclid) (defScope s_law_euclid) .none kV_law_euclid dc_law_euclid pm_law_euclid an_law_euclid cd_law_euclid ct_law_euclid), sl_law_euclid⟩)
    (c_law_euclid : PySem.W.codeIn K cd_law_euclid "_law_euclid" = true)
    (k_law_euclid : PySem.W.keepIn K (.ref f_law_euclid) = true)
    (a_law_times : PySem.W.nsIn K mainGlobals "_law_times" = some (some (.ref f_law_times)))
    (l_law_times : K.lookup f_law_times = some ⟨oc_law_times, od_law_times, .func (PySem.W.fnOf "_law_times" "_law_times" (defArgs s_law_times) (defBody s_law_times) (defScope s_law_times) .none kV_law_times dc_law_times pm_law_times an_law_times cd_law_times ct_law_times), sl_law_times⟩)
    (c_law_times : PySem.W.codeIn K cd_law_times "_law_times" = true)
    (k_law_times : PySem.W.keepIn K (.ref f_law_times) = true)
    (a_law_undone : PySem.W.nsIn K mainGlobals "_law_undone" = some (some (.ref f_law_undone)))
    (l_law_undone : K.lookup f_law_undone = some ⟨oc_law_undone, od_law_undone, .func (PySem.W.fnOf "_law_undone" "_law_undone" (defArgs s_law_undone) (defBody s_law_undone) (defScope s_law_undone) .none kV_law_undone dc_law_undone pm_law_undone an_law_undone cd_law_undone ct_law_undone), sl_law_undone⟩)
    (c_law_undone : PySem.W.codeIn K cd_law_undone "_law_undone" = true)
    (k_law_undone : PySem.W.keepIn K (.ref f_law_undone) = true)
    (a_law_is_up : PySem.W.nsIn K mainGlobals "_law_is_up" = some (some (.ref f_law_is_up)))
    (l_law_is_up : K.lookup f_law_is_up = some ⟨oc_law_is_up, od_law_is_up, .func (PySem.W.fnOf "_law_is_up" "_law_is_up" (defArgs s_law_is_up) (defBody s_law_is_up) (defScope s_law_is_up) .none kV_law_is_up dc_law_is_up pm_law_is_up an_law_is_up cd_law_is_up ct_law_is_up), sl_law_is_up⟩)
    (c_law_is_up : PySem.W.codeIn K cd_law_is_up "_law_is_up" = true)
    (k_law_is_up : PySem.W.keepIn K (.ref f_law_is_up) = true)
    (a_law_up : PySem.W.nsIn K mainGlobals "_law_up" = some (some (.ref f_law_up)))
    (l_law_up : K.lookup f_law_up = some ⟨oc_law_up, od_law_up, .func (PySem.W.fnOf "_law_up" "_law_up" (defArgs s_law_up) (defBody s_law_up) (defScope s_law_up) .none kV_law_up dc_law_up pm_law_up an_law_up cd_law_up ct_law_up), sl_law_up⟩)
    (c_law_up : PySem.W.codeIn K cd_law_up "_law_up" = true)
    (k_law_up : PySem.W.keepIn K (.ref f_law_up) = true)
    (a_law_is_matrix : PySem.W.nsIn K mainGlobals "_law_is_matrix" = some (some (.ref f_law_is_matrix)))
    (l_law_is_matrix : K.lookup f_law_is_matrix = some ⟨oc_law_is_matrix, od_law_is_matrix, .func (PySem.W.fnOf "_law_is_matrix" "_law_is_matrix" (defArgs s_law_is_matrix) (defBody s_law_is_matrix) (defScope s_law_is_matrix) .none kV_law_is_matrix dc_law_is_matrix pm_law_is_matrix an_law_is_matrix cd_law_is_matrix ct_law_is_matrix), sl_law_is_matrix⟩)
    (c_law_is_matrix : PySem.W.codeIn K cd_law_is_matrix "_law_is_matrix" = true)
    (k_law_is_matrix : PySem.W.keepIn K (.ref f_law_is_matrix) = true)
    (a_law_word_matrix : PySem.W.nsIn K mainGlobals "_law_word_matrix" = some (some (.ref f_law_word_matrix)))
    (l_law_word_matrix : K.lookup f_law_word_matrix = some ⟨oc_law_word_matrix, od_law_word_matrix, .func (PySem.W.fnOf "_law_word_matrix" "_law_word_matrix" (defArgs s_law_word_matrix) (defBody s_law_word_matrix) (defScope s_law_word_matrix) .none kV_law_word_matrix dc_law_word_matrix pm_law_word_matrix an_law_word_matrix cd_law_word_matrix ct_law_word_matrix), sl_law_word_matrix⟩)
    (c_law_word_matrix : PySem.W.codeIn K cd_law_word_matrix "_law_word_matrix" = true)
    (k_law_word_matrix : PySem.W.keepIn K (.ref f_law_word_matrix) = true)
    (a_law_number : PySem.W.nsIn K mainGlobals "_law_number" = some (some (.ref f_law_number)))
    (l_law_number : K.lookup f_law_number = some ⟨oc_law_number, od_law_number, .func (PySem.W.fnOf "_law_number" "_law_number" (defArgs s_law_number) (defBody s_law_number) (defScope s_law_number) .none kV_law_number dc_law_number pm_law_number an_law_number cd_law_number ct_law_number), sl_law_number⟩)
    (c_law_number : PySem.W.codeIn K cd_law_number "_law_number" = true)
    (k_law_number : PySem.W.keepIn K (.ref f_law_number) = true)
    (a_law_word : PySem.W.nsIn K mainGlobals "_law_word" = some (some (.ref f_law_word)))
    (l_law_word : K.lookup f_law_word = some ⟨oc_law_word, od_law_word, .func (PySem.W.fnOf "_law_word" "_law_word" (defArgs s_law_word) (defBody s_law_word) (defScope s_law_word) .none kV_law_word dc_law_word pm_law_word an_law_word cd_law_word ct_law_word), sl_law_word⟩)
    (c_law_word : PySem.W.codeIn K cd_law_word "_law_word" = true)
    (k_law_word : PySem.W.keepIn K (.ref f_law_word) = true)
    (a_law_some_matrix : PySem.W.nsIn K mainGlobals "_law_some_matrix" = some (some (.ref f_law_some_matrix)))
    (l_law_some_matrix : K.lookup f_law_some_matrix = some ⟨oc_law_some_matrix, od_law_some_matrix, .func (PySem.W.fnOf "_law_some_matrix" "_law_some_matrix" (defArgs s_law_some_matrix) (defBody s_law_some_matrix) (defScope s_law_some_matrix) .none kV_law_some_matrix dc_law_some_matrix pm_law_some_matrix an_law_some_matrix cd_law_some_matrix ct_law_some_matrix), sl_law_some_matrix⟩)
    (c_law_some_matrix : PySem.W.codeIn K cd_law_some_matrix "_law_some_matrix" = true)
    (k_law_some_matrix : PySem.W.keepIn K (.ref f_law_some_matrix) = true)
    (a_law_over : PySem.W.nsIn K mainGlobals "_law_over" = some (some (.ref f_law_over)))
    (l_law_over : K.lookup f_law_over = some ⟨oc_law_over, od_law_over, .func (PySem.W.fnOf "_law_over" "_law_over" (defArgs s_law_over) (defBody s_law_over) (defScope s_law_over) .none kV_law_over dc_law_over pm_law_over an_law_over cd_law_over ct_law_over), sl_law_over⟩)
    (c_law_over : PySem.W.codeIn K cd_law_over "_law_over" = true)
    (k_law_over : PySem.W.keepIn K (.ref f_law_over) = true)
    (a_law_odd_matrix : PySem.W.nsIn K mainGlobals "_law_odd_matrix" = some (some (.ref f_law_odd_matrix)))
    (l_law_odd_matrix : K.lookup f_law_odd_matrix = some ⟨oc_law_odd_matrix, od_law_odd_matrix, .func (PySem.W.fnOf "_law_odd_matrix" "_law_odd_matrix" (defArgs s_law_odd_matrix) (defBody s_law_odd_matrix) (defScope s_law_odd_matrix) .none kV_law_odd_matrix dc_law_odd_matrix pm_law_odd_matrix an_law_odd_matrix cd_law_odd_matrix ct_law_odd_matrix), sl_law_odd_matrix⟩)
    (c_law_odd_matrix : PySem.W.codeIn K cd_law_odd_matrix "_law_odd_matrix" = true)
    (k_law_odd_matrix : PySem.W.keepIn K (.ref f_law_odd_matrix) = true)
    (a_law_root : PySem.W.nsIn K mainGlobals "_law_root" = some (some (.ref f_law_root)))
    (l_law_root : K.lookup f_law_root = some ⟨oc_law_root, od_law_root, .func (PySem.W.fnOf "_law_root" "_law_root" (defArgs s_law_root) (defBody s_law_root) (defScope s_law_root) .none kV_law_root dc_law_root pm_law_root an_law_root cd_law_root ct_law_root), sl_law_root⟩)
    (c_law_root : PySem.W.codeIn K cd_law_root "_law_root" = true)
    (k_law_root : PySem.W.keepIn K (.ref f_law_root) = true)
    (a_law_some_up : PySem.W.nsIn K mainGlobals "_law_some_up" = some (some (.ref f_law_some_up)))
    (l_law_some_up : K.lookup f_law_some_up = some ⟨oc_law_some_up, od_law_some_up, .func (PySem.W.fnOf "_law_some_up" "_law_some_up" (defArgs s_law_some_up) (defBody s_law_some_up) (defScope s_law_some_up) .none kV_law_some_up dc_law_some_up pm_law_some_up an_law_some_up cd_law_some_up ct_law_some_up), sl_law_some_up⟩)
    (c_law_some_up : PySem.W.codeIn K cd_law_some_up "_law_some_up" = true)
    (k_law_some_up : PySem.W.keepIn K (.ref f_law_some_up) = true)
    (a_law_root_right : PySem.W.nsIn K mainGlobals "_law_root_right" = some (some (.ref f_law_root_right)))
    (l_law_root_right : K.lookup f_law_root_right = some ⟨oc_law_root_right, od_law_root_right, .func (PySem.W.fnOf "_law_root_right" "_law_root_right" (defArgs s_law_root_right) (defBody s_law_root_right) (defScope s_law_root_right) .none kV_law_root_right dc_law_root_right pm_law_root_right an_law_root_right cd_law_root_right ct_law_root_right), sl_law_root_right⟩)
    (c_law_root_right : PySem.W.codeIn K cd_law_root_right "_law_root_right" = true)
    (k_law_root_right : PySem.W.keepIn K (.ref f_law_root_right) = true)
    (a_law : PySem.W.nsIn K mainGlobals "law" = some (some (.ref f_law)))
    (l_law : K.lookup f_law = some ⟨oc_law, od_law, .func (PySem.W.fnOf "law" "law" (defArgs s_law) (defBody s_law) (defScope s_law) .none kV_law dc_law pm_law an_law (.ref c_) ct_law), sl_law⟩)
    (c_law : PySem.W.codeIn K (.ref c_) "law" = true)
    (k_law : PySem.W.keepIn K (.ref f_law) = true)
    (z_abs : PySem.W.nsIn K mainGlobals "abs" = some none)
    (z_all : PySem.W.nsIn K mainGlobals "all" = some none)
    (z_bool : PySem.W.nsIn K mainGlobals "bool" = some none)
    (z_int : PySem.W.nsIn K mainGlobals "int" = some none)
    (z_isinstance : PySem.W.nsIn K mainGlobals "isinstance" = some none)
    (z_len : PySem.W.nsIn K mainGlobals "len" = some none)
    (z_list : PySem.W.nsIn K mainGlobals "list" = some none)
    (z_min : PySem.W.nsIn K mainGlobals "min" = some none)
    (z_range : PySem.W.nsIn K mainGlobals "range" = some none)
    (z_tuple : PySem.W.nsIn K mainGlobals "tuple" = some none)
    (m_SeriesError : PySem.W.nsIn K mainGlobals "SeriesError" = some (some (.ref C_0)))
    (m_BadMatrix : PySem.W.nsIn K mainGlobals "BadMatrix" = some (some (.ref C_1)))
    (kk_BadMatrix : PySem.W.keepIn K (.ref C_1) = true)
    (q_BadMatrix : PySem.W.excIn K C_1 exBm exNew = true)
    (s_BadMatrix : PySem.W.subIn K (.ref C_1) (.type "BaseException") = some true)
    (y_BadMatrix : PySem.W.typeIn K (.ref C_1) = some (.type "type"))
    (kk_SeriesError : PySem.W.keepIn K (.ref C_0) = true)
    (q_SeriesError : PySem.W.excIn K C_0 exBm exNew = true)
    (s_SeriesError : PySem.W.subIn K (.ref C_0) (.type "BaseException") = some true)
    (y_SeriesError : PySem.W.typeIn K (.ref C_0) = some (.type "type"))
    (x_0 : PySem.W.exmOne K (.ref C_0) (.ref C_0) = some true)
    (x_1 : PySem.W.exmOne K (.ref C_1) (.ref C_0) = some true)
    (g1_0 : PySem.W.findIn K (.ref C_0) "__getattribute__" = some (some (.builtin "BaseException.__getattribute__")))
    (g2_0 : PySem.W.findIn K (.ref C_0) "__getattr__" = some none)
    (g3_0 : PySem.W.subIn K (.ref C_0) (.type "BaseException") = some true)
    (g4_0 : PySem.W.hasDictIn K C_0 = true)
    (g5_0 : PySem.W.findIn K (.ref C_0) "__class__" = some (some (.builtin "object.__class__")))
    (g8_0 : PySem.W.mroIn K C_0 (.type "object") = some true)
    (g1_1 : PySem.W.findIn K (.ref C_1) "__getattribute__" = some (some (.builtin "BaseException.__getattribute__")))
    (g2_1 : PySem.W.findIn K (.ref C_1) "__getattr__" = some none)
    (g3_1 : PySem.W.subIn K (.ref C_1) (.type "BaseException") = some true)
    (g4_1 : PySem.W.hasDictIn K C_1 = true)
    (g5_1 : PySem.W.findIn K (.ref C_1) "__class__" = some (some (.builtin "object.__class__")))
    (g8_1 : PySem.W.mroIn K C_1 (.type "object") = some true)
    (g6 : PySem.W.specialIn K (.builtin "object.__class__") "__get__" = some (some (.builtin "getset_descriptor.__get__")))
    (g7 : PySem.W.takesIn K (.builtin "object.__class__") = some true)
    (n_BadMatrix : PySem.W.kitOne K (.type "NoneType") (.ref C_1) = some false)
    (i_0_1 : PySem.W.kitOne K (.ref C_0) (.ref C_1) = some false)
    (i_1_1 : PySem.W.kitOne K (.ref C_1) (.ref C_1) = some true)
    (d1 : K.lookup c_ = some ⟨ccl, cdd, .fields cvs, csl⟩)
    (d2 : cvs[11]? = some (.ref P_))
    (d3 : PySem.W.codeHdIn K c_ P_ = true)
    (d4 : K.lookup P_ = none)
    : LawAtG l w K (L2.CX l.prog w) 63 mg fa h := by
  have e := hfa.symm.trans (PySem.W.mg_of X G a_law)
  cases e
  letI : TabC := ⟨[(P_, ("law.<locals>." : Str) ++ "<lambda>")]⟩
  have mk : ∀ (co : Nat → Addr → Addr → HO) (cq : Str), (Zf (rcOf K C_0 C_1 co cq) mg) := fun co cq => by
    let R : RC := rcOf K C_0 C_1 co cq
    have hE : ∀ c, ExcC K (R.cl c) := fun c => match c with | 0 => ⟨g1_0, g2_0, g3_0, g4_0, g5_0, g6, g7, g8_0⟩ | 1 => ⟨g1_1, g2_1, g3_1, g4_1, g5_1, g6, g7, g8_1⟩ | n + 2 => ⟨g1_0, g2_0, g3_0, g4_0, g5_0, g6, g7, g8_0⟩
    have F_is_number := fun_mk (st := s_is_number) l_is_number c_is_number k_is_number
    have F_are_numbers := fun_mk (st := s_are_numbers) l_are_numbers c_are_numbers k_are_numbers
    have F_is_matrix := fun_mk (st := s_is_matrix) l_is_matrix c_is_matrix k_is_matrix
    have F_is_upright := fun_mk (st := s_is_upright) l_is_upright c_is_upright k_is_upright
    have F_need_upright := fun_mk (st := s_need_upright) l_need_upright c_need_upright k_need_upright
    have F_symbol := fun_mk (st := s_symbol) l_symbol c_symbol k_symbol
    have F_root_by := fun_mk (st := s_root_by) l_root_by c_root_by k_root_by
    have F_root_of := fun_mk (st := s_root_of) l_root_of c_root_of k_root_of
    have F_law_begun := fun_mk (st := s_law_begun) l_law_begun c_law_begun k_law_begun
    have F_law_blend := fun_mk (st := s_law_blend) l_law_blend c_law_blend k_law_blend
    have F_law_take := fun_mk (st := s_law_take) l_law_take c_law_take k_law_take
    have F_law_pick := fun_mk (st := s_law_pick) l_law_pick c_law_pick k_law_pick
    have F_law_caught := fun_mk (st := s_law_caught) l_law_caught c_law_caught k_law_caught
    have F_law_is_number := fun_mk (st := s_law_is_number) l_law_is_number c_law_is_number k_law_is_number
    have F_law_gcd := fun_mk (st := s_law_gcd) l_law_gcd c_law_gcd k_law_gcd
    have F_law_euclid := fun_mk (st := s_law_euclid) l_law_euclid c_law_euclid k_law_euclid
    have F_law_times := fun_mk (st := s_law_times) l_law_times c_law_times k_law_times
    have F_law_undone := fun_mk (st := s_law_undone) l_law_undone c_law_undone k_law_undone
    have F_law_is_up := fun_mk (st := s_law_is_up) l_law_is_up c_law_is_up k_law_is_up
    have F_law_up := fun_mk (st := s_law_up) l_law_up c_law_up k_law_up
    have F_law_is_matrix := fun_mk (st := s_law_is_matrix) l_law_is_matrix c_law_is_matrix k_law_is_matrix
    have F_law_word_matrix := fun_mk (st := s_law_word_matrix) l_law_word_matrix c_law_word_matrix k_law_word_matrix
    have F_law_number := fun_mk (st := s_law_number) l_law_number c_law_number k_law_number
    have F_law_word := fun_mk (st := s_law_word) l_law_word c_law_word k_law_word
    have F_law_some_matrix := fun_mk (st := s_law_some_matrix) l_law_some_matrix c_law_some_matrix k_law_some_matrix
    have F_law_over := fun_mk (st := s_law_over) l_law_over c_law_over k_law_over
    have F_law_odd_matrix := fun_mk (st := s_law_odd_matrix) l_law_odd_matrix c_law_odd_matrix k_law_odd_matrix
    have F_law_root := fun_mk (st := s_law_root) l_law_root c_law_root k_law_root
    have F_law_some_up := fun_mk (st := s_law_some_up) l_law_some_up c_law_some_up k_law_some_up
    have F_law_root_right := fun_mk (st := s_law_root_right) l_law_root_right c_law_root_right k_law_root_right
    have Z : Zf R mg := {
      a_is_number := f_is_number,
      d_is_number := _,
      F_is_number := F_is_number,
      b_is_number := F_is_number.binds (ps := ["thing"]) fun _ _ _ _ _ _ us hl => match us, hl with | [_], _ => rfl,
      g_is_number := PySem.W.mg_of X G a_is_number,
      a_are_numbers := f_are_numbers,
      d_are_numbers := _,
      F_are_numbers := F_are_numbers,
      b_are_numbers := F_are_numbers.binds (ps := ["thing", "many"]) fun _ _ _ _ _ _ us hl => match us, hl with | [_, _], _ => rfl,
      g_are_numbers := PySem.W.mg_of X G a_are_numbers,
      a_is_matrix := f_is_matrix,
      d_is_matrix := _,
      F_is_matrix := F_is_matrix,
      b_is_matrix := F_is_matrix.binds (ps := ["thing"]) fun _ _ _ _ _ _ us hl => match us, hl with | [_], _ => rfl,
      g_is_matrix := PySem.W.mg_of X G a_is_matrix,
      a_is_upright := f_is_upright,
      d_is_upright := _,
      F_is_upright := F_is_upright,
      b_is_upright := F_is_upright.binds (ps := ["thing"]) fun _ _ _ _ _ _ us hl => match us, hl with | [_], _ => rfl,
      g_is_upright := PySem.W.mg_of X G a_is_upright,
      a_need_upright := f_need_upright,
      d_need_upright := _,
      F_need_upright := F_need_upright,
      b_need_upright := F_need_upright.binds (ps := ["thing"]) fun _ _ _ _ _ _ us hl => match us, hl with | [_], _ => rfl,
      g_need_upright := PySem.W.mg_of X G a_need_upright,
      a_symbol := f_symbol,
      d_symbol := _,
      F_symbol := F_symbol,
      b_symbol := F_symbol.binds (ps := ["a", "n"]) fun _ _ _ _ _ _ us hl => match us, hl with | [_, _], _ => rfl,
      g_symbol := PySem.W.mg_of X G a_symbol,
      a_root_by := f_root_by,
      d_root_by := _,
      F_root_by := F_root_by,
      b_root_by := F_root_by.binds (ps := ["matrix"]) fun _ _ _ _ _ _ us hl => match us, hl with | [_], _ => rfl,
      g_root_by := PySem.W.mg_of X G a_root_by,
      a_root_of := f_root_of,
      d_root_of := _,
      F_root_of := F_root_of,
      b_root_of := F_root_of.binds (ps := ["matrix"]) fun _ _ _ _ _ _ us hl => match us, hl with | [_], _ => rfl,
      g_root_of := PySem.W.mg_of X G a_root_of,
      a_law_begun := f_law_begun,
      d_law_begun := _,
      F_law_begun := F_law_begun,
      b_law_begun := F_law_begun.binds (ps := ["script"]) fun _ _ _ _ _ _ us hl => match us, hl with | [_], _ => rfl,
      g_law_begun := PySem.W.mg_of X G a_law_begun,
      a_law_blend := f_law_blend,
      d_law_blend := _,
      F_law_blend := F_law_blend,
      b_law_blend := F_law_blend.binds (ps := ["draw"]) fun _ _ _ _ _ _ us hl => match us, hl with | [_], _ => rfl,
      g_law_blend := PySem.W.mg_of X G a_law_blend,
      a_law_take := f_law_take,
      d_law_take := _,
      F_law_take := F_law_take,
      b_law_take := F_law_take.binds (ps := ["draw", "size"]) fun _ _ _ _ _ _ us hl => match us, hl with | [_, _], _ => rfl,
      g_law_take := PySem.W.mg_of X G a_law_take,
      a_law_pick := f_law_pick,
      d_law_pick := _,
      F_law_pick := F_law_pick,
      b_law_pick := F_law_pick.binds (ps := ["draw", "some"]) fun _ _ _ _ _ _ us hl => match us, hl with | [_, _], _ => rfl,
      g_law_pick := PySem.W.mg_of X G a_law_pick,
      a_law_caught := f_law_caught,
      d_law_caught := _,
      F_law_caught := F_law_caught,
      b_law_caught := F_law_caught.binds (ps := ["work"]) fun _ _ _ _ _ _ us hl => match us, hl with | [_], _ => rfl,
      g_law_caught := PySem.W.mg_of X G a_law_caught,
      a_law_is_number := f_law_is_number,
      d_law_is_number := _,
      F_law_is_number := F_law_is_number,
      b_law_is_number := F_law_is_number.binds (ps := ["thing"]) fun _ _ _ _ _ _ us hl => match us, hl with | [_], _ => rfl,
      g_law_is_number := PySem.W.mg_of X G a_law_is_number,
      a_law_gcd := f_law_gcd,
      d_law_gcd := _,
      F_law_gcd := F_law_gcd,
      b_law_gcd := F_law_gcd.binds (ps := ["one", "other"]) fun _ _ _ _ _ _ us hl => match us, hl with | [_, _], _ => rfl,
      g_law_gcd := PySem.W.mg_of X G a_law_gcd,
      a_law_euclid := f_law_euclid,
      d_law_euclid := _,
      F_law_euclid := F_law_euclid,
      b_law_euclid := F_law_euclid.binds (ps := ["one", "other"]) fun _ _ _ _ _ _ us hl => match us, hl with | [_, _], _ => rfl,
      g_law_euclid := PySem.W.mg_of X G a_law_euclid,
      a_law_times := f_law_times,
      d_law_times := _,
      F_law_times := F_law_times,
      b_law_times := F_law_times.binds (ps := ["one", "other"]) fun _ _ _ _ _ _ us hl => match us, hl with | [_, _], _ => rfl,
      g_law_times := PySem.W.mg_of X G a_law_times,
      a_law_undone := f_law_undone,
      d_law_undone := _,
      F_law_undone := F_law_undone,
      b_law_undone := F_law_undone.binds (ps := ["matrix"]) fun _ _ _ _ _ _ us hl => match us, hl with | [_], _ => rfl,
      g_law_undone := PySem.W.mg_of X G a_law_undone,
      a_law_is_up := f_law_is_up,
      d_law_is_up := _,
      F_law_is_up := F_law_is_up,
      b_law_is_up := F_law_is_up.binds (ps := ["matrix"]) fun _ _ _ _ _ _ us hl => match us, hl with | [_], _ => rfl,
      g_law_is_up := PySem.W.mg_of X G a_law_is_up,
      a_law_up := f_law_up,
      d_law_up := _,
      F_law_up := F_law_up,
      b_law_up := F_law_up.binds (ps := ["matrix"]) fun _ _ _ _ _ _ us hl => match us, hl with | [_], _ => rfl,
      g_law_up := PySem.W.mg_of X G a_law_up,
      a_law_is_matrix := f_law_is_matrix,
      d_law_is_matrix := _,
      F_law_is_matrix := F_law_is_matrix,
      b_law_is_matrix := F_law_is_matrix.binds (ps := ["thing"]) fun _ _ _ _ _ _ us hl => match us, hl with | [_], _ => rfl,
      g_law_is_matrix := PySem.W.mg_of X G a_law_is_matrix,
      a_law_word_matrix := f_law_word_matrix,
      d_law_word_matrix := _,
      F_law_word_matrix := F_law_word_matrix,
      b_law_word_matrix := F_law_word_matrix.binds (ps := ["word"]) fun _ _ _ _ _ _ us hl => match us, hl with | [_], _ => rfl,
      g_law_word_matrix := PySem.W.mg_of X G a_law_word_matrix,
      a_law_number := f_law_number,
      d_law_number := _,
      F_law_number := F_law_number,
      b_law_number := F_law_number.binds (ps := ["draw"]) fun _ _ _ _ _ _ us hl => match us, hl with | [_], _ => rfl,
      g_law_number := PySem.W.mg_of X G a_law_number,
      a_law_word := f_law_word,
      d_law_word := _,
      F_law_word := F_law_word,
      b_law_word := F_law_word.binds (ps := ["draw", "most"]) fun _ _ _ _ _ _ us hl => match us, hl with | [_, _], _ => rfl,
      g_law_word := PySem.W.mg_of X G a_law_word,
      a_law_some_matrix := f_law_some_matrix,
      d_law_some_matrix := _,
      F_law_some_matrix := F_law_some_matrix,
      b_law_some_matrix := F_law_some_matrix.binds (ps := ["draw"]) fun _ _ _ _ _ _ us hl => match us, hl with | [_], _ => rfl,
      g_law_some_matrix := PySem.W.mg_of X G a_law_some_matrix,
      a_law_over := f_law_over,
      d_law_over := _,
      F_law_over := F_law_over,
      b_law_over := F_law_over.binds (ps := ["c", "d"]) fun _ _ _ _ _ _ us hl => match us, hl with | [_, _], _ => rfl,
      g_law_over := PySem.W.mg_of X G a_law_over,
      a_law_odd_matrix := f_law_odd_matrix,
      d_law_odd_matrix := _,
      F_law_odd_matrix := F_law_odd_matrix,
      b_law_odd_matrix := F_law_odd_matrix.binds (ps := ["draw", "matrix"]) fun _ _ _ _ _ _ us hl => match us, hl with | [_, _], _ => rfl,
      g_law_odd_matrix := PySem.W.mg_of X G a_law_odd_matrix,
      a_law_root := f_law_root,
      d_law_root := _,
      F_law_root := F_law_root,
      b_law_root := F_law_root.binds (ps := ["matrix"]) fun _ _ _ _ _ _ us hl => match us, hl with | [_], _ => rfl,
      g_law_root := PySem.W.mg_of X G a_law_root,
      a_law_some_up := f_law_some_up,
      d_law_some_up := _,
      F_law_some_up := F_law_some_up,
      b_law_some_up := F_law_some_up.binds (ps := ["draw"]) fun _ _ _ _ _ _ us hl => match us, hl with | [_], _ => rfl,
      g_law_some_up := PySem.W.mg_of X G a_law_some_up,
      a_law_root_right := f_law_root_right,
      d_law_root_right := _,
      F_law_root_right := F_law_root_right,
      b_law_root_right := F_law_root_right.binds (ps := ["matrix"]) fun _ _ _ _ _ _ us hl => match us, hl with | [_], _ => rfl,
      g_law_root_right := PySem.W.mg_of X G a_law_root_right,
      n_abs := PySem.W.mg_none_of X G z_abs,
      n_all := PySem.W.mg_none_of X G z_all,
      n_bool := PySem.W.mg_none_of X G z_bool,
      n_int := PySem.W.mg_none_of X G z_int,
      n_isinstance := PySem.W.mg_none_of X G z_isinstance,
      n_len := PySem.W.mg_none_of X G z_len,
      n_list := PySem.W.mg_none_of X G z_list,
      n_min := PySem.W.mg_none_of X G z_min,
      n_range := PySem.W.mg_none_of X G z_range,
      n_tuple := PySem.W.mg_none_of X G z_tuple,
      m_BadMatrix := PySem.W.mg_of X G m_BadMatrix,
      k_BadMatrix := kk_BadMatrix,
      q_BadMatrix := q_BadMatrix,
      s_BadMatrix := s_BadMatrix,
      t_BadMatrix := y_BadMatrix,
      m_SeriesError := PySem.W.mg_of X G m_SeriesError,
      k_SeriesError := kk_SeriesError,
      q_SeriesError := q_SeriesError,
      s_SeriesError := s_SeriesError,
      t_SeriesError := y_SeriesError,
      hX := fun c => match c with | 0 => x_0 | 1 => x_1 | n + 2 => x_0,
      isx_BadMatrix := ⟨n_BadMatrix, fun c => match c with | 0 => i_0_1 | 1 => i_1_1 | n + 2 => (by rw [isx_big]; exact i_0_1), hE⟩ }
    exact Z
  exact ⟨c_, P_, own c_ P_ _ _ _ _ _ _ l_law rfl rfl d1 d2, d4, PySem.W.codeHd_of_K X d3, fun base H s1 a ns hn KB TB e0 hT hS => law_callV (c := c_) (rcOf K C_0 C_1 (co_law s1.heap.objs.size fa (.ref c_)) (("law.<locals>." : Str) ++ "<lambda>")) rfl l_law c_law sc_law rfl ⟨rfl, by decide, by decide⟩ e0 hT hS (.of_eq rfl) m_law (fun E hr => ok_law (mk _ _) callerA [] s1 H E hr rfl (Nat.le_refl _) TB rfl rfl fun _ => rfl) (law_true ns hn)⟩
end Lk17
open PySem PySem.W PyProof.Rows
set_option maxHeartbeats 0 in
theorem PySem.Challenge.cw_etasure_k17_whole_roots_along_words_holds : PySem.Challenge.rw_etasure_k17_whole_roots_along_words.Holds := by
  w_on; o_law; k_head; (case hw => w_witness2)
  k_fill
  refine Dv.walk_ofG (l := PySem.Challenge.rw_etasure_k17_whole_roots_along_words) (n := 63) (CX := fun w => L2.CX PySem.Challenge.rw_etasure_k17_whole_roots_along_words.prog w) rfl (by decide) rfl (by decide +kernel) (fun w h Y => by first | exact PySem.W.km_in_of Y | exact PySem.W.kIn_of Y) ?F (fun _ _ _ _ _ h => by obtain ⟨_, _, _, _, _, _, _, _, _, _, _, _, z⟩ := h; exact z)
  case F =>
    intro w mg fa h Y KX G hmg own
    refine' Lk17.all_mk KX G hmg own ?a_is_number ?l_is_number ?c_is_number ?k_is_number ?a_are_numbers ?l_are_numbers ?c_are_numbers ?k_are_numbers ?a_is_matrix ?l_is_matrix ?c_is_matrix ?k_is_matrix ?a_is_upright ?l_is_upright ?c_is_upright ?k_is_upright ?a_need_upright ?l_need_upright ?c_need_upright ?k_need_upright ?a_symbol ?l_symbol ?c_symbol ?k_symbol ?a_root_by ?l_root_by ?c_root_by ?k_root_by ?a_root_of ?l_root_of ?c_root_of ?k_root_of ?a_law_begun ?l_law_begun ?c_law_begun ?k_law_begun ?a_law_blend ?l_law_blend ?c_law_blend ?k_law_blend ?a_law_take ?l_law_take ?c_law_take ?k_law_take ?a_law_pick ?l_law_pick ?c_law_pick ?k_law_pick ?a_law_caught ?l_law_caught ?c_law_caught ?k_law_caught ?a_law_is_number ?l_law_is_number ?c_law_is_number ?k_law_is_number ?a_law_gcd ?l_law_gcd ?c_law_gcd ?k_law_gcd ?a_law_euclid ?l_law_euclid ?c_law_euclid ?k_law_euclid ?a_law_times ?l_law_times ?c_law_times ?k_law_times ?a_law_undone ?l_law_undone ?c_law_undone ?k_law_undone ?a_law_is_up ?l_law_is_up ?c_law_is_up ?k_law_is_up ?a_law_up ?l_law_up ?c_law_up ?k_law_up ?a_law_is_matrix ?l_law_is_matrix ?c_law_is_matrix ?k_law_is_matrix ?a_law_word_matrix ?l_law_word_matrix ?c_law_word_matrix ?k_law_word_matrix ?a_law_number ?l_law_number ?c_law_number ?k_law_number ?a_law_word ?l_law_word ?c_law_word ?k_law_word ?a_law_some_matrix ?l_law_some_matrix ?c_law_some_matrix ?k_law_some_matrix ?a_law_over ?l_law_over ?c_law_over ?k_law_over ?a_law_odd_matrix ?l_law_odd_matrix ?c_law_odd_matrix ?k_law_odd_matrix ?a_law_root ?l_law_root ?c_law_root ?k_law_root ?a_law_some_up ?l_law_some_up ?c_law_some_up ?k_law_some_up ?a_law_root_right ?l_law_root_right ?c_law_root_right ?k_law_root_right ?a_law ?l_law ?c_law ?k_law ?z_abs ?z_all ?z_bool ?z_int ?z_isinstance ?z_len ?z_list ?z_min ?z_range ?z_tuple ?m_SeriesError ?m_BadMatrix ?kk_BadMatrix ?q_BadMatrix ?s_BadMatrix ?y_BadMatrix ?kk_SeriesError ?q_SeriesError ?s_SeriesError ?y_SeriesError ?x_0 ?x_1 ?g1_0 ?g2_0 ?g3_0 ?g4_0 ?g5_0 ?g8_0 ?g1_1 ?g2_1 ?g3_1 ?g4_1 ?g5_1 ?g8_1 ?g6 ?g7 ?n_BadMatrix ?i_0_1 ?i_1_1 ?d1 ?d2 ?d3 ?d4
    (case a_is_number => k_is)
    (case l_is_number => k_is)
    (case c_is_number => k_is)
    (case k_is_number => k_is)
    (case a_are_numbers => k_is)
    (case l_are_numbers => k_is)
    (case c_are_numbers => k_is)
    (case k_are_numbers => k_is)
    (case a_is_matrix => k_is)
    (case l_is_matrix => k_is)
    (case c_is_matrix => k_is)
    (case k_is_matrix => k_is)
    (case a_is_upright => k_is)
    (case l_is_upright => k_is)
    (case c_is_upright => k_is)
    (case k_is_upright => k_is)
    (case a_need_upright => k_is)
    (case l_need_upright => k_is)
    (case c_need_upright => k_is)
    (case k_need_upright => k_is)
    (case a_symbol => k_is)
    (case l_symbol => k_is)
    (case c_symbol => k_is)
    (case k_symbol => k_is)
    (case a_root_by => k_is)
    (case l_root_by => k_is)
    (case c_root_by => k_is)
    (case k_root_by => k_is)
    (case a_root_of => k_is)
    (case l_root_of => k_is)
    (case c_root_of => k_is)
    (case k_root_of => k_is)
    (case a_law_begun => k_is)
    (case l_law_begun => k_is)
    (case c_law_begun => k_is)
    (case k_law_begun => k_is)
    (case a_law_blend => k_is)
    (case l_law_blend => k_is)
    (case c_law_blend => k_is)
    (case k_law_blend => k_is)
    (case a_law_take => k_is)
    (case l_law_take => k_is)
    (case c_law_take => k_is)
    (case k_law_take => k_is)
    (case a_law_pick => k_is)
    (case l_law_pick => k_is)
    (case c_law_pick => k_is)
    (case k_law_pick => k_is)
    (case a_law_caught => k_is)
    (case l_law_caught => k_is)
    (case c_law_caught => k_is)
    (case k_law_caught => k_is)
    (case a_law_is_number => k_is)
    (case l_law_is_number => k_is)
    (case c_law_is_number => k_is)
    (case k_law_is_number => k_is)
    (case a_law_gcd => k_is)
    (case l_law_gcd => k_is)
    (case c_law_gcd => k_is)
    (case k_law_gcd => k_is)
    (case a_law_euclid => k_is)
    (case l_law_euclid => k_is)
    (case c_law_euclid => k_is)
    (case k_law_euclid => k_is)
    (case a_law_times => k_is)
    (case l_law_times => k_is)
    (case c_law_times => k_is)
    (case k_law_times => k_is)
    (case a_law_undone => k_is)
    (case l_law_undone => k_is)
    (case c_law_undone => k_is)
    (case k_law_undone => k_is)
    (case a_law_is_up => k_is)
    (case l_law_is_up => k_is)
    (case c_law_is_up => k_is)
    (case k_law_is_up => k_is)
    (case a_law_up => k_is)
    (case l_law_up => k_is)
    (case c_law_up => k_is)
    (case k_law_up => k_is)
    (case a_law_is_matrix => k_is)
    (case l_law_is_matrix => k_is)
    (case c_law_is_matrix => k_is)
    (case k_law_is_matrix => k_is)
    (case a_law_word_matrix => k_is)
    (case l_law_word_matrix => k_is)
    (case c_law_word_matrix => k_is)
    (case k_law_word_matrix => k_is)
    (case a_law_number => k_is)
    (case l_law_number => k_is)
    (case c_law_number => k_is)
    (case k_law_number => k_is)
    (case a_law_word => k_is)
    (case l_law_word => k_is)
    (case c_law_word => k_is)
    (case k_law_word => k_is)
    (case a_law_some_matrix => k_is)
    (case l_law_some_matrix => k_is)
    (case c_law_some_matrix => k_is)
    (case k_law_some_matrix => k_is)
    (case a_law_over => k_is)
    (case l_law_over => k_is)
    (case c_law_over => k_is)
    (case k_law_over => k_is)
    (case a_law_odd_matrix => k_is)
    (case l_law_odd_matrix => k_is)
    (case c_law_odd_matrix => k_is)
    (case k_law_odd_matrix => k_is)
    (case a_law_root => k_is)
    (case l_law_root => k_is)
    (case c_law_root => k_is)
    (case k_law_root => k_is)
    (case a_law_some_up => k_is)
    (case l_law_some_up => k_is)
    (case c_law_some_up => k_is)
    (case k_law_some_up => k_is)
    (case a_law_root_right => k_is)
    (case l_law_root_right => k_is)
    (case c_law_root_right => k_is)
    (case k_law_root_right => k_is)
    (case a_law => k_is)
    (case l_law => k_is)
    (case c_law => k_is)
    (case k_law => k_is)
    (case z_abs => k_is)
    (case z_all => k_is)
    (case z_bool => k_is)
    (case z_int => k_is)
    (case z_isinstance => k_is)
    (case z_len => k_is)
    (case z_list => k_is)
    (case z_min => k_is)
    (case z_range => k_is)
    (case z_tuple => k_is)
    (case m_SeriesError => k_is)
    (case m_BadMatrix => k_is)
    (case kk_BadMatrix => k_is)
    (case q_BadMatrix => k_exc)
    (case s_BadMatrix => k_is)
    (case y_BadMatrix => k_is)
    (case kk_SeriesError => k_is)
    (case q_SeriesError => k_exc)
    (case s_SeriesError => k_is)
    (case y_SeriesError => k_is)
    (case x_0 => first | k_is | rfl | kernel_rfl)
    (case x_1 => first | k_is | rfl | kernel_rfl)
    (case g1_0 => k_is)
    (case g2_0 => k_is)
    (case g3_0 => k_is)
    (case g4_0 => k_is)
    (case g5_0 => k_is)
    (case g8_0 => k_is)
    (case g1_1 => k_is)
    (case g2_1 => k_is)
    (case g3_1 => k_is)
    (case g4_1 => k_is)
    (case g5_1 => k_is)
    (case g8_1 => k_is)
    (case g6 => k_is)
    (case g7 => k_is)
    (case n_BadMatrix => first | kit_is | rfl | kernel_rfl)
    (case i_0_1 => first | kit_is | rfl | kernel_rfl)
    (case i_1_1 => first | kit_is | rfl | kernel_rfl)
    (case d1 => k_is)
    (case d2 => rfl)
    (case d3 => first | rfl | kernel_rfl)
    (case d4 => first | rfl | kernel_rfl)
