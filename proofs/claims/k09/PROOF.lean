import PyProof.Rows.All
import Wide.All
import OpenK.AllK
import Wide.FinOn
import HandS.ForMost
import HandS.Evl
import HandS.IsInst
import HandS.Wide
import HandS.WideBits
import HandS.Flow
import HandS.EndBits
import HandS.Defaults
import HandS.Walk
import PySem.Challenge.RW_monochord_k09_bytes_of_samples
set_option Elab.async false
set_option linter.all false
set_option maxRecDepth 100000
set_option maxHeartbeats 4000000
/-! Mn: mirrors in the option monad, and how a reading of a def meets its mirror -/
namespace Mn
open PySem L2
open Evl (Ex)
/-! ### mirrors -/
theorem of_bind {A B : Type} {m : Option A} {f : A → Option B} {r : B} (h : m.bind f = some r) : ∃ x, m = some x ∧ f x = some r := by
  cases m with
  | none => cases h
  | some x => exact ⟨x, rfl, h⟩
def mapS {A C S : Type} (f : A → S → Option (C × S)) : List A → S → Option (List C × S)
  | [], s => some ([], s)
  | x :: l, s => (f x s).bind fun p => (mapS f l p.2).bind fun q => some (p.1 :: q.1, q.2)
def bnd {A B : Type} (e : A) (f : A → B) : B := f e
theorem of_bnd {A B : Type} {e : A} {f : A → B} {r : B} (h : bnd e f = r) : ∃ x, e = x ∧ f x = r := ⟨e, rfl, h⟩
@[simp] theorem bnd_eq {A B : Type} (e : A) (f : A → B) : bnd e f = f e := by exact (fun (h : bnd e f = f e) => h) rfl
@[simp] theorem some_bind' {A B : Type} (e : A) (f : A → Option B) : (some e).bind f = f e := by exact (fun (h : (some e).bind f = f e) => h) rfl
inductive Fl (S R : Type) where
  | nx (s : S) | bk (s : S) | rt (r : R)
def itM {A S : Type} (f : A → S → Option S) : List A → S → Option S
  | [], s => some s
  | x :: l, s => (f x s).bind fun s' => itM f l s'
def itF {A S R : Type} (f : A → S → Option (Fl S R)) : List A → S → Option (Fl S R)
  | [], s => some (.nx s)
  | x :: l, s => (f x s).bind fun r => match r with
    | .nx s' => itF f l s'
    | .bk s' => some (.nx s')
    | .rt q => some (.rt q)
/-- while, in at most so many turns -/
def whF {S R : Type} (c : S → Option Bool) (f : S → Option (Fl S R)) : Nat → S → Option (Fl S R)
  | 0, _ => none
  | n + 1, s => (c s).bind fun b => if b = true then (f s).bind fun r => match r with
      | .nx s' => whF c f n s'
      | .bk s' => some (.nx s')
      | .rt q => some (.rt q)
    else some (.nx s)
def mapO {A B : Type} (f : A → Option B) : List A → Option (List B)
  | [] => some []
  | x :: l => (f x).bind fun y => (mapO f l).bind fun r => some (y :: r)
/-- [e for x in xs if c] -/
def fmO {A B : Type} (c : A → Option Bool) (f : A → Option B) : List A → Option (List B)
  | [] => some []
  | x :: l => (c x).bind fun b => if b = true then (f x).bind fun y => (fmO c f l).bind fun r => some (y :: r) else fmO c f l
def rngI (lo hi : Int) : List Int := (List.range (hi - lo).toNat).map fun (i : Nat) => lo + (i : Int)
instance {i j : Int} : Decidable (IntMulOk i j) := by unfold IntMulOk; infer_instance
instance {i j : Int} : Decidable (CShl i j) := by unfold CShl; infer_instance
instance {i j : Int} : Decidable (CPow i j) := by unfold CPow; infer_instance
def grd {A : Type} (p : Prop) [Decidable p] (e : A) : Option A := if p then some e else none
theorem of_grd {A : Type} {p : Prop} [Decidable p] {e r : A} (h : grd p e = some r) : p ∧ e = r := by
  unfold grd at h
  split at h
  · next hp => exact ⟨hp, Option.some.inj h⟩
  · cases h
theorem grd_ok {A : Type} {p : Prop} [Decidable p] {e : A} (h : p) : grd p e = some e := if_pos h
def modC (i j : Int) : Option Int := grd (0 < j) (i % j)
def divC (i j : Int) : Option Int := grd (0 < j ∧ j.natAbs.log2 < 9000) (i / j)
def mulC (i j : Int) : Option Int := grd (IntMulOk i j) (i * j)
def shlC (i j : Int) : Option Int := grd (CShl i j) (i * 2 ^ j.toNat)
def shrC (i j : Int) : Option Int := grd (0 ≤ j) (i / 2 ^ j.toNat)
def powC (i j : Int) : Option Int := grd (CPow i j) (i ^ j.toNat)
def sizeC : Nat := 16777216
theorem sizeC_eq : sizeC = sizeLine := by rw [sizeLine_eq]; rfl
def appC {A : Type} (xs : List A) (x : A) : Option (List A) := grd (xs.length < 16777216) (xs ++ [x])
def catC {A : Type} (xs ys : List A) : Option (List A) := grd (xs.length + ys.length ≤ 16777216) (xs ++ ys)
def repC {A : Type} (xs : List A) (k : Int) : Option (List A) := grd (-(2 ^ 63) ≤ k ∧ k < 2 ^ 63 ∧ xs.length * k.toNat ≤ 16777216) (List.replicate k.toNat xs).flatten
def setC {A : Type} (xs : List A) (i : Int) (x : A) : Option (List A) := (ixN xs.length i).map fun j => xs.set j x
def cut {A : Type} (xs : List A) (lo hi : Option Int) : List A := (xs.drop (HT.sIx xs.length 0 lo)).take (HT.sIx xs.length xs.length hi - HT.sIx xs.length 0 lo)
/-- a range's ends -/
def rngC (lo hi : Int) : Option (List Int) := grd (-(2 ^ 62) ≤ lo ∧ lo < 2 ^ 62 ∧ -(2 ^ 62) ≤ hi ∧ hi < 2 ^ 62) (rngI lo hi)
def andC (a : Bool) (b : Option Bool) : Option Bool := if a = true then b else some false
def orC (a : Bool) (b : Option Bool) : Option Bool := if a = true then some true else b
def maxI (i j : Int) : Int := if j > i then j else i
def minI (i j : Int) : Int := if j < i then j else i
def absI (i : Int) : Int := if i < 0 then -i else i
def b2 (b : Bool) : Int := if b then 1 else 0
def bitsI (i : Int) : Int := (Builtin.Int.intBits i : Nat)
/-- max and min of a list -/
def maxL (xs : List Int) : Option Int := match xs with
  | [] => none
  | x :: r => some (r.foldl (fun a b => if b > a then b else a) x)
def minL (xs : List Int) : Option Int := match xs with
  | [] => none
  | x :: r => some (r.foldl (fun a b => if b < a then b else a) x)

theorem of_ifT {A : Type} {b : Bool} {x y r : A} (hb : b = true) (h : (if b = true then x else y) = r) : x = r := by
  rw [if_pos hb] at h
  exact h
theorem of_ifF {A : Type} {b : Bool} {x y r : A} (hb : b = false) (h : (if b = true then x else y) = r) : y = r := by
  rw [if_neg (by rw [hb]; exact Bool.false_ne_true)] at h
  exact h
def optG {A B : Type} (o : Option A) (f : A → Option B) : Option B := o.bind f
theorem of_opt {A B : Type} {o : Option A} {y : A} {f : A → Option B} {r : B} (h : o = some y) (hm : optG o f = some r) : f y = some r := by
  subst h
  exact hm
def fuel : Nat := 1000000

structure Fr (B : Hp) (cs : List (Addr × HO)) (H : Hp) : Prop where
  base : Ex B H
  own : ∀ c ∈ cs, H c.1 = some c.2
  new : ∀ c ∈ cs, B c.1 = none
  nd : (cs.map (·.1)).Nodup
section
variable {B H H' : Hp} {cs ds : List (Addr × HO)} {p : Addr} {o : HO} {K : PySem.W.Frag}
theorem Fr.refl (H : Hp) : Fr H [] H := ⟨Ex.refl H, fun _ h => (nomatch h), fun _ h => (nomatch h), List.nodup_nil⟩
theorem Fr.of (e : Ex H H') : Fr H [] H' := ⟨e, fun _ h => (nomatch h), fun _ h => (nomatch h), List.nodup_nil⟩
theorem Fr.ex (F : Fr B cs H) (e : Ex H H') : Fr B cs H' := ⟨F.base.trans e, fun c h => e _ _ (F.own c h), F.new, F.nd⟩
theorem Fr.get (F : Fr B cs H) (i : Nat) {c : Addr × HO} (h : cs[i]? = some c) : H c.1 = some c.2 := F.own c (List.mem_of_getElem? h)
theorem Fr.fresh (F : Fr B cs H) (i : Nat) {c : Addr × HO} (h : cs[i]? = some c) : B c.1 = none := F.new c (List.mem_of_getElem? h)
theorem Fr.app (F : Fr B cs H) (G : Fr H ds H') : Fr B (cs ++ ds) H' where
  base := F.base.trans G.base
  own := fun c hc => by
    rcases List.mem_append.mp hc with q | q
    · exact G.base _ _ (F.own c q)
    · exact G.own c q
  new := fun c hc => by
    rcases List.mem_append.mp hc with q | q
    · exact F.new c q
    · exact Evl.fresh_back F.base (G.new c q)
  nd := by
    rw [List.map_append, List.nodup_append]
    refine ⟨F.nd, G.nd, fun a ha b hb => ?_⟩
    rcases List.mem_map.mp ha with ⟨c, hc, rfl⟩
    rcases List.mem_map.mp hb with ⟨d, hd, rfl⟩
    intro e2
    have h1 := F.own c hc
    have h2 := G.new d hd
    rw [← e2, h1] at h2
    cases h2
theorem Fr.upd (F : Fr B cs H) (i : Nat) {o' : HO} (h : cs[i]? = some (p, o)) : Fr B (cs.set i (p, o')) (upd H p o') where
  base := fun a u ha => by
    have hb := F.fresh i h
    have : a ≠ p := by
      intro e
      subst e
      rw [ha] at hb
      cases hb
    rw [upd_ne this]
    exact F.base a u ha
  own := fun c hc => by
    obtain ⟨j, hj⟩ := List.mem_iff_getElem?.mp hc
    rw [List.getElem?_set] at hj
    by_cases e : i = j
    · subst e
      rw [if_pos rfl] at hj
      split at hj
      · cases hj
        exact upd_same
      · cases hj
    · rw [if_neg e] at hj
      have hne : c.1 ≠ p := by
        intro e2
        have e3 : (cs.map (·.1))[i]? = some p := by rw [List.getElem?_map, h]; rfl
        have e4 : (cs.map (·.1))[j]? = some p := by rw [List.getElem?_map, hj]; exact congrArg some e2
        exact e (nd_ix F.nd e3 e4)
      rw [upd_ne hne]
      exact F.own c (List.mem_of_getElem? hj)
  new := fun c hc => by
    rcases List.mem_or_eq_of_mem_set hc with q | q
    · exact F.new c q
    · subst q
      exact F.new (p, o) (List.mem_of_getElem? h)
  nd := by
    have : (cs.set i (p, o')).map (·.1) = cs.map (·.1) := by
      rw [List.map_set]
      apply List.ext_getElem?
      intro j
      rw [List.getElem?_set]
      split
      · next e =>
        subst e
        split
        · rw [List.getElem?_map, h]; rfl
        · next hl =>
          rw [List.getElem?_eq_none (by omega)]
      · rfl
    rw [this]
    exact F.nd
theorem Fr.sub (F : Fr B cs H) (h : List.Sublist ds cs) : Fr B ds H := ⟨F.base, fun c hc => F.own c (h.subset hc), fun c hc => F.new c (h.subset hc), (h.map _).nodup F.nd⟩
/-- an order of the cells -/
theorem Fr.perm (F : Fr B cs H) (h : ds.Perm cs) : Fr B ds H := ⟨F.base, fun c hc => F.own c (h.mem_iff.mp hc), fun c hc => F.new c (h.mem_iff.mp hc), ((h.map (·.1)).nodup_iff).mpr F.nd⟩
theorem Fr.add (F : Fr B cs H) (hp : H p = none) (e : Ex H H') (h : H' p = some o) : Fr B ((p, o) :: cs) H' where
  base := F.base.trans e
  own := fun c hc => by
    rcases List.mem_cons.mp hc with rfl | q
    · exact h
    · exact e _ _ (F.own c q)
  new := fun c hc => by
    rcases List.mem_cons.mp hc with rfl | q
    · exact Evl.fresh_back F.base hp
    · exact F.new c q
  nd := by
    rw [List.map_cons, List.nodup_cons]
    refine ⟨fun hm => ?_, F.nd⟩
    rcases List.mem_map.mp hm with ⟨c, hc, e2⟩
    have := F.own c hc
    rw [e2, hp] at this
    cases this
/-- a new object -/
theorem Fr.new1 (F : Fr B cs H) (hp : H p = none) : Fr B ((p, o) :: cs) (L2.upd H p o) := F.add hp (Evl.Ex.new hp) upd_same
theorem Fr.weak {B0 : Hp} (F : Fr B cs H) (e : Ex B0 B) : Fr B0 cs H := ⟨e.trans F.base, F.own, fun c hc => Evl.fresh_back e (F.new c hc), F.nd⟩
theorem Fr.drop1 (F : Fr B ((p, o) :: cs) H) : Fr B cs H := F.sub (List.sublist_cons_self _ _)
theorem erase_perm {A : Type} : ∀ {l : List A} {i : Nat} {a : A}, l[i]? = some a → List.Perm (a :: l.eraseIdx i) l
  | [], _, _, h => by simp at h
  | b :: l, 0, _, h => by cases h; exact .refl _
  | b :: l, i + 1, a, h => (List.Perm.swap b a _).trans (.cons b (erase_perm (l := l) (i := i) h))
theorem Fr.out {xs : List (Addr × HO)} (i : Nat) (F : Fr B (xs ++ cs) H) (h : cs[i]? = some (p, o)) : Fr B ((p, o) :: (xs ++ cs.eraseIdx i)) H := by
  refine F.perm ?_
  have h1 : List.Perm ((p, o) :: cs.eraseIdx i) cs := by
    exact erase_perm h
  refine List.perm_middle.symm.trans ?_
  exact List.Perm.append_left xs h1
theorem Fr.back {xs : List (Addr × HO)} {o' : HO} (i : Nat) (h : cs[i]? = some (p, o)) (F : Fr B ((p, o') :: (xs ++ cs.eraseIdx i)) H) : Fr B (xs ++ cs.set i (p, o')) H := by
  refine F.perm ?_
  have h1 : List.Perm (cs.set i (p, o')) ((p, o') :: cs.eraseIdx i) := by
    obtain ⟨hl, he⟩ := List.getElem?_eq_some_iff.mp h
    have h2 := erase_perm (l := cs.set i (p, o')) (i := i) (a := (p, o')) (by rw [List.getElem?_set]; simp; exact hl)
    rw [List.eraseIdx_set_eq] at h2
    exact h2.symm
  exact (List.Perm.append_left xs h1).trans List.perm_middle
theorem Fr.pick (F : Fr B cs H) (ix : List Nat) (hn : ix.Nodup) (h : (ix.map fun i => cs[i]?) = ds.map some) : Fr B ds H := by
  have mem : ∀ (k : Nat) (d : Addr × HO), ds[k]? = some d → ∃ i, ix[k]? = some i ∧ cs[i]? = some d := by
    intro k d hd
    have e : (ds.map some)[k]? = some (some d) := by rw [List.getElem?_map, hd]; rfl
    rw [← h, List.getElem?_map] at e
    cases hi : ix[k]? with
    | none => rw [hi] at e; cases e
    | some i =>
      rw [hi] at e
      exact ⟨i, rfl, Option.some.inj e⟩
  refine ⟨F.base, fun c hc => ?_, fun c hc => ?_, ?_⟩
  · obtain ⟨k, hk⟩ := List.mem_iff_getElem?.mp hc
    obtain ⟨i, _, hi⟩ := mem k c hk
    exact F.get i hi
  · obtain ⟨k, hk⟩ := List.mem_iff_getElem?.mp hc
    obtain ⟨i, _, hi⟩ := mem k c hk
    exact F.fresh i hi
  · rw [List.nodup_iff_pairwise_ne, List.pairwise_iff_getElem]
    intro k1 k2 h1 h2 hlt e
    rw [List.length_map] at h1 h2
    rw [List.getElem_map, List.getElem_map] at e
    obtain ⟨i1, hi1, hc1⟩ := mem k1 _ (List.getElem?_eq_getElem h1)
    obtain ⟨i2, hi2, hc2⟩ := mem k2 _ (List.getElem?_eq_getElem h2)
    have e1 : (cs.map (·.1))[i1]? = some (ds[k1]).1 := by rw [List.getElem?_map, hc1]; rfl
    have e2 : (cs.map (·.1))[i2]? = some (ds[k1]).1 := by rw [List.getElem?_map, hc2, e]; rfl
    have := nd_ix F.nd e1 e2
    subst this
    have := nd_ix hn hi1 hi2
    omega
theorem Fr.pickT (n : Nat) (F : Fr B cs H) (ix : List Nat) (hn : ix.Nodup) (hl : ∀ i ∈ ix, i < n) (h : (ix.map fun i => cs[i]?) = ds.map some) : Fr B (ds ++ cs.drop n) H := by
  have F1 : Fr B ds H := F.pick ix hn h
  have F2 : Fr B (cs.drop n) H := F.sub (List.drop_sublist n cs)
  refine ⟨F.base, fun c hc => ?_, fun c hc => ?_, ?_⟩
  · rcases List.mem_append.mp hc with q | q
    · exact F1.own c q
    · exact F2.own c q
  · rcases List.mem_append.mp hc with q | q
    · exact F1.new c q
    · exact F2.new c q
  · rw [List.map_append, List.nodup_append]
    refine ⟨F1.nd, F2.nd, fun a ha b hb e => ?_⟩
    obtain ⟨c, hc, rfl⟩ := List.mem_map.mp ha
    obtain ⟨d, hd, rfl⟩ := List.mem_map.mp hb
    obtain ⟨k, hk⟩ := List.mem_iff_getElem?.mp hc
    obtain ⟨j, hj⟩ := List.mem_iff_getElem?.mp hd
    rw [List.getElem?_drop] at hj
    have e0 : (ds.map some)[k]? = some (some c) := by rw [List.getElem?_map, hk]; rfl
    rw [← h, List.getElem?_map] at e0
    cases hi : ix[k]? with
    | none => rw [hi] at e0; cases e0
    | some i =>
      rw [hi] at e0
      have e1 : cs[i]? = some c := Option.some.inj e0
      have l1 := hl i (List.mem_of_getElem? hi)
      have g1 : (cs.map (·.1))[i]? = some c.1 := by rw [List.getElem?_map, e1]; rfl
      have g2 : (cs.map (·.1))[n + j]? = some c.1 := by rw [List.getElem?_map, hj, e]; rfl
      have := nd_ix F.nd g1 g2
      omega
/-- an own cell is laid to what stands -/
theorem Fr.rest (F : Fr B ((p, o) :: cs) H) : Fr (L2.upd B p o) cs H where
  base := fun a u ha => by
    by_cases e : a = p
    · subst e
      rw [upd_same] at ha
      cases ha
      exact F.own _ List.mem_cons_self
    · rw [upd_ne e] at ha
      exact F.base a u ha
  own := fun c hc => F.own c (List.mem_cons_of_mem _ hc)
  new := fun c hc => by
    have hn := F.nd
    rw [List.map_cons, List.nodup_cons] at hn
    have : c.1 ≠ p := fun e => hn.1 (List.mem_map.mpr ⟨c, hc, e⟩)
    rw [upd_ne this]
    exact F.new c (List.mem_cons_of_mem _ hc)
  nd := by
    have hn := F.nd
    rw [List.map_cons, List.nodup_cons] at hn
    exact hn.2
theorem Ex.upd_new (h : B p = none) : Ex B (L2.upd B p o) := Evl.Ex.new h
end
/-! ### values -/
abbrev LI (xs : List Int) : HO := .lst (xs.map V.int)
abbrev LB (xs : List Bool) : HO := .lst (xs.map V.bl)
theorem atI_map {A C : Type} (f : A → C) (xs : List A) (i : Int) : atI (xs.map f) i = (atI xs i).map f := by
  unfold atI
  rw [List.length_map]
  cases ixN xs.length i with
  | none => rfl
  | some j =>
    show (xs.map f)[j]? = (xs[j]?).map f
    rw [List.getElem?_map]
theorem cut_map {A : Type} (f : A → V) (xs : List A) (lo hi : Option Int) : cutV (xs.map f) lo hi = (cut xs lo hi).map f := by
  unfold cutV cut
  rw [List.length_map, List.drop_map_comm, List.take_map_comm]
where
  List.drop_map_comm : ∀ {n : Nat} {l : List A}, (l.map f).drop n = (l.drop n).map f := by intros; rw [List.map_drop]
  List.take_map_comm : ∀ {n : Nat} {l : List A}, (l.map f).take n = (l.take n).map f := by intros; rw [List.map_take]
/-! ### what evaluates to what: from any heap in the state (B, cs), beside any other own cells xs -/
abbrev Cs := List (Addr × HO)
def EvF (B : Hp) (cs cs' : Cs) (te : TE) (σ : L2.St) (v : V) : Prop := ∀ (xs : Cs) (H : Hp), Fr B (xs ++ cs) H → ∀ Q : VK, (∀ H', Fr B (xs ++ cs') H' → Q v H') → te σ H Q
def EtF (B : Hp) (cs cs' : Cs) (t : TT) (σ : L2.St) (b : Bool) : Prop := ∀ (xs : Cs) (H : Hp), Fr B (xs ++ cs) H → ∀ Q : Bool → Hp → Prop, (∀ H', Fr B (xs ++ cs') H' → Q b H') → t σ H Q
def EaF (B : Hp) (cs cs' : Cs) (ta : TA) (σ : L2.St) (vs : List V) : Prop := ∀ (xs : Cs) (H : Hp), Fr B (xs ++ cs) H → ∀ Q : List V → Hp → Prop, (∀ H', Fr B (xs ++ cs') H' → Q vs H') → ta σ H Q
def EoF (B : Hp) (cs cs' : Cs) (to : TO) (σ : L2.St) (o : Option Int) : Prop := ∀ (xs : Cs) (H : Hp), Fr B (xs ++ cs) H → ∀ Q : Option Int → Hp → Prop, (∀ H', Fr B (xs ++ cs') H' → Q o H') → to σ H Q
/-- a new object at p -/
def EvN (B : Hp) (cs cs' : Cs) (te : TE) (σ : L2.St) (o : HO) : Prop := ∀ (xs : Cs) (H : Hp), Fr B (xs ++ cs) H → ∀ Q : VK, (∀ p H', Fr B ((p, o) :: (xs ++ cs')) H' → Q (.ref p) H') → te σ H Q
def RvF (B : Hp) (cs : Cs) (r : R2) (x y z : V) : Prop := ∀ H, Fr B cs H → ∀ Q : VK, Q z H → r x y H Q
def RnF (B : Hp) (cs : Cs) (r : R2) (x y : V) (o : HO) : Prop := ∀ H, Fr B cs H → ∀ Q : VK, (∀ p, H p = none → Q (.ref p) (L2.upd H p o)) → r x y H Q
def RcF (B : Hp) (cs : Cs) (r : List V → Hp → VK → Prop) (vs : List V) (z : V) : Prop := ∀ H, Fr B cs H → ∀ Q : VK, Q z H → r vs H Q
def RcN (B : Hp) (cs : Cs) (r : List V → Hp → VK → Prop) (vs : List V) (o : HO) : Prop := ∀ H, Fr B cs H → ∀ Q : VK, (∀ p, H p = none → Q (.ref p) (L2.upd H p o)) → r vs H Q
/-- what stands, or is own -/
def Rd (B : Hp) (cs : Cs) (a : Addr) (o : HO) : Prop := B a = some o ∨ (a, o) ∈ cs
def RdS (K : PySem.W.Frag) (B : Hp) (cs : Cs) (a : Addr) (vs : List V) : Prop := Rd B cs a (.lst vs) ∨ SqL K B a vs
theorem Rd.own {B : Hp} {cs : Cs} (i : Nat) {a : Addr} {o : HO} (h : cs[i]? = some (a, o)) : Rd B cs a o := .inr (List.mem_of_getElem? h)
theorem Rd.at {B H : Hp} {cs : Cs} {a : Addr} {o : HO} (r : Rd B cs a o) (F : Fr B cs H) : H a = some o := by
  rcases r with h | h
  · exact F.base _ _ h
  · exact F.own _ h
theorem RdS.at {K : PySem.W.Frag} {B H : Hp} {cs : Cs} {a : Addr} {vs : List V} (r : RdS K B cs a vs) (F : Fr B cs H) : SqL K H a vs := by
  rcases r with h | h
  · exact Evl.sq_of (h.at F)
  · exact Evl.ex_l F.base h
theorem Rd.more {B : Hp} {cs : Cs} {a : Addr} {o : HO} {c : Addr × HO} (r : Rd B cs a o) : Rd B (c :: cs) a o := by
  rcases r with h | h
  · exact .inl h
  · exact .inr (List.mem_cons_of_mem _ h)
theorem RdS.more {K : PySem.W.Frag} {B : Hp} {cs : Cs} {a : Addr} {vs : List V} {c : Addr × HO} (r : RdS K B cs a vs) : RdS K B (c :: cs) a vs := by
  rcases r with h | h
  · exact .inl h.more
  · exact .inr h
theorem Fr.xs {B H : Hp} {xs cs : Cs} (F : Fr B (xs ++ cs) H) : Fr B cs H := F.sub (List.sublist_append_right xs cs)
theorem Fr.cxs {B H : Hp} {xs cs : Cs} {c : Addr × HO} (F : Fr B (c :: (xs ++ cs)) H) : Fr B (c :: cs) H := F.sub (.cons₂ _ (List.sublist_append_right xs cs))
section
variable {K : PySem.W.Frag} {σ σ' : L2.St} {H H' B : Hp} {cs cs1 cs2 cs3 cs4 : Cs} {ta tb te tx : TE} {t u : TT} {x y z v : V} {r : R2} {i j m : Int} {a p q : Addr} {A : Type} {f : A → V} {xs ys : List A} {b c : Bool} {o o1 o2 : HO}
theorem ev_cg {e e' : A} (h : EvF B cs cs1 te σ (f e)) (hx : e = e') : EvF B cs cs1 te σ (f e') := hx ▸ h
theorem en_cg {e e' : List A} (h : EvN B cs cs1 te σ (.lst (e.map f))) (hx : e = e') : EvN B cs cs1 te σ (.lst (e'.map f)) := hx ▸ h
theorem et_cg (h : EtF B cs cs1 t σ b) (hx : b = c) : EtF B cs cs1 t σ c := hx ▸ h
theorem ev_var {n : Nat} (h : σ[n]? = some (some v)) : EvF B cs cs (tVar n) σ v := fun _ H F _ q => ⟨v, h, q H F⟩
theorem ev_c : EvF B cs cs (tC v) σ v := fun _ H F _ q => q H F
theorem ev_op (ha : EvF B cs cs1 ta σ x) (hb : EvF B cs1 cs2 tb σ y) (hr : RvF B cs2 r x y z) : EvF B cs cs2 (tOp r ta tb) σ z := fun ys H F Q q =>
  ha ys H F _ fun H1 F1 => hb ys H1 F1 _ fun H2 F2 => hr H2 F2.xs Q (q H2 F2)
theorem ev_opN1 (ha : EvN B cs cs1 ta σ o) (hb : EvF B cs1 cs2 tb σ y) (hr : ∀ p, RvF B ((p, o) :: cs2) r (.ref p) y z) : EvF B cs cs2 (tOp r ta tb) σ z := fun ys H F Q q =>
  ha ys H F _ fun p H1 F1 => hb ((p, o) :: ys) H1 F1 _ fun H2 F2 => hr p H2 F2.cxs Q (q H2 F2.drop1)
theorem ev_opN2 (ha : EvF B cs cs1 ta σ x) (hb : EvN B cs1 cs2 tb σ o) (hr : ∀ p, RvF B ((p, o) :: cs2) r x (.ref p) z) : EvF B cs cs2 (tOp r ta tb) σ z := fun ys H F Q q =>
  ha ys H F _ fun H1 F1 => hb ys H1 F1 _ fun p H2 F2 => hr p H2 F2.cxs Q (q H2 F2.drop1)
theorem ev_opNN (ha : EvN B cs cs1 ta σ o1) (hb : EvN B cs1 cs2 tb σ o2) (hr : ∀ p q, RvF B ((q, o2) :: (p, o1) :: cs2) r (.ref p) (.ref q) z) : EvF B cs cs2 (tOp r ta tb) σ z := fun ys H F Q q =>
  ha ys H F _ fun p H1 F1 => hb ((p, o1) :: ys) H1 F1 _ fun p2 H2 F2 => hr p p2 H2 (F2.sub (.cons₂ _ (.cons₂ _ (List.sublist_append_right ys cs2)))) Q (q H2 F2.drop1.drop1)
theorem en_op (ha : EvF B cs cs1 ta σ x) (hb : EvF B cs1 cs2 tb σ y) (hr : RnF B cs2 r x y o) : EvN B cs cs2 (tOp r ta tb) σ o := fun ys H F Q q =>
  ha ys H F _ fun H1 F1 => hb ys H1 F1 _ fun H2 F2 => hr H2 F2.xs Q fun p hp => q p _ (F2.new1 hp)
theorem en_opN1 (ha : EvN B cs cs1 ta σ o1) (hb : EvF B cs1 cs2 tb σ y) (hr : ∀ p, RnF B ((p, o1) :: cs2) r (.ref p) y o) : EvN B cs cs2 (tOp r ta tb) σ o := fun ys H F Q q =>
  ha ys H F _ fun p H1 F1 => hb ((p, o1) :: ys) H1 F1 _ fun H2 F2 => hr p H2 F2.cxs Q fun p2 hp => q p2 _ (F2.drop1.new1 hp)
theorem en_opN2 (ha : EvF B cs cs1 ta σ x) (hb : EvN B cs1 cs2 tb σ o2) (hr : ∀ p, RnF B ((p, o2) :: cs2) r x (.ref p) o) : EvN B cs cs2 (tOp r ta tb) σ o := fun ys H F Q q =>
  ha ys H F _ fun H1 F1 => hb ys H1 F1 _ fun p H2 F2 => hr p H2 F2.cxs Q fun p2 hp => q p2 _ (F2.drop1.new1 hp)
theorem en_opNN (ha : EvN B cs cs1 ta σ o1) (hb : EvN B cs1 cs2 tb σ o2) (hr : ∀ p q, RnF B ((q, o2) :: (p, o1) :: cs2) r (.ref p) (.ref q) o) : EvN B cs cs2 (tOp r ta tb) σ o := fun ys H F Q q =>
  ha ys H F _ fun p H1 F1 => hb ((p, o1) :: ys) H1 F1 _ fun p2 H2 F2 => hr p p2 H2 (F2.sub (.cons₂ _ (.cons₂ _ (List.sublist_append_right ys cs2)))) Q fun p3 hp => q p3 _ (F2.drop1.drop1.new1 hp)
/-- arguments -/
theorem ea_nil : EaF B cs cs tNil σ [] := fun _ H F _ q => q H F
theorem ea_cons {tr : TA} {vs : List V} (h : EvF B cs cs1 te σ v) (hr : EaF B cs1 cs2 tr σ vs) : EaF B cs cs2 (tCons te tr) σ (v :: vs) := fun ys H F _ q =>
  h ys H F _ fun H1 F1 => hr ys H1 F1 _ fun H2 F2 => q H2 F2
/-- a new list among the arguments: what follows is told at (p, o) :: cs -/
def EaN (B : Hp) (cs : Cs) (ta : TA) (σ : L2.St) (P : List V → Cs → Prop) : Prop := ∀ (xs : Cs) (H : Hp), Fr B (xs ++ cs) H → ∀ Q : List V → Hp → Prop, (∀ vs cs' H', P vs cs' → Fr B (xs ++ cs') H' → Q vs H') → ta σ H Q
/-- displays -/
theorem en_lst {tA : TA} {vs : List V} (h : EaF B cs cs1 tA σ vs) (hl : Nat.ble vs.length 100000 = true := by rfl) : EvN B cs cs1 (tLst tA) σ (.lst vs) := fun ys H F _ q =>
  h ys H F _ fun H1 F1 => ⟨Evl.sz_of (Nat.le_of_ble_eq_true hl), fun p hp => q p _ (F1.new1 hp)⟩
theorem en_tup {tA : TA} {vs : List V} (h : EaF B cs cs1 tA σ vs) (hl : Nat.ble vs.length 100000 = true := by rfl) : EvN B cs cs1 (tTup tA) σ (.tup vs) := fun ys H F _ q =>
  h ys H F _ fun H1 F1 => ⟨Evl.sz_of (Nat.le_of_ble_eq_true hl), fun p hp => q p _ (F1.new1 hp)⟩
/-- built-ins called -/
theorem ev_cb {rc : List V → Hp → VK → Prop} {tA : TA} {vs : List V} (h : EaF B cs cs1 tA σ vs) (hr : RcF B cs1 rc vs z) : EvF B cs cs1 (tCB rc tA) σ z := fun ys H F Q q => h ys H F _ fun H1 F1 => hr H1 F1.xs Q (q H1 F1)
theorem ev_cbN {rc : List V → Hp → VK → Prop} (h : EvN B cs cs1 te σ o) (hr : ∀ p, RcF B ((p, o) :: cs1) rc [.ref p] z) : EvF B cs cs1 (tCB rc (tCons te tNil)) σ z := fun ys H F Q q => h ys H F _ fun p H1 F1 => hr p H1 F1.cxs Q (q H1 F1.drop1)
theorem en_cb {rc : List V → Hp → VK → Prop} {tA : TA} {vs : List V} (h : EaF B cs cs1 tA σ vs) (hr : RcN B cs1 rc vs o) : EvN B cs cs1 (tCB rc tA) σ o := fun ys H F Q q => h ys H F _ fun H1 F1 => hr H1 F1.xs Q fun p hp => q p _ (F1.new1 hp)
theorem en_cbN {rc : List V → Hp → VK → Prop} (h : EvN B cs cs1 te σ o1) (hr : ∀ p, RcN B ((p, o1) :: cs1) rc [.ref p] o) : EvN B cs cs1 (tCB rc (tCons te tNil)) σ o := fun ys H F Q q => h ys H F _ fun p H1 F1 => hr p H1 F1.cxs Q fun p2 hp => q p2 _ (F1.drop1.new1 hp)
theorem ev_cb1 {rc : List V → Hp → VK → Prop} (h : EvF B cs cs1 te σ v) (hr : RcF B cs1 rc [v] z) : EvF B cs cs1 (tCB rc (tCons te tNil)) σ z := ev_cb (ea_cons h ea_nil) hr
theorem ev_un {ru : V → Hp → VK → Prop} (h : EvF B cs cs1 ta σ x) (hr : ∀ H (Q : VK), Q z H → ru x H Q) : EvF B cs cs1 (tUn ru ta) σ z := fun ys H F Q q => h ys H F _ fun H1 F1 => hr H1 Q (q H1 F1)
/-- numbers -/
def rMulA : R2 := rI IntMulOk fun i j => .int (i * j)
theorem op_mulA {X : Cx} : OpR X (binaryOp .Mult) rMulA := opI fun _ _ _ _ _ _ _ hc q => PyProof.Rows.mul_int q hc
theorem iop_mulA {X : Cx} : OpR X (inplaceOp .Mult) (rI CMul fun i j => .int (i * j)) := iop_mul
theorem rv_I0 {g : Int → Int → V} : RvF B cs (rI0 g) (.int i) (.int j) (g i j) := fun _ _ _ q => ⟨i, j, rfl, rfl, q⟩
theorem rv_I {C : Int → Int → Prop} {g : Int → Int → V} (hc : C i j) : RvF B cs (rI C g) (.int i) (.int j) (g i j) := fun _ _ _ q => ⟨i, j, rfl, rfl, hc, q⟩
theorem rv_mod (h : modC i j = some m) : RvF B cs (rI (fun _ j => 0 < j) fun i j => .int (i % j)) (.int i) (.int j) (.int m) := by
  obtain ⟨hc, rfl⟩ := of_grd h
  exact rv_I hc
theorem rv_div (h : divC i j = some m) : RvF B cs (rI CDivW fun i j => .int (i / j)) (.int i) (.int j) (.int m) := by
  obtain ⟨hc, rfl⟩ := of_grd h
  exact rv_I hc
theorem rv_mul (h : mulC i j = some m) : RvF B cs rMulA (.int i) (.int j) (.int m) := by
  obtain ⟨hc, rfl⟩ := of_grd h
  exact rv_I hc
theorem rv_shl (h : shlC i j = some m) : RvF B cs (rI CShl fun i j => .int (i * 2 ^ j.toNat)) (.int i) (.int j) (.int m) := by
  obtain ⟨hc, rfl⟩ := of_grd h
  exact rv_I hc
theorem rv_shr (h : shrC i j = some m) : RvF B cs (rI (fun _ j => 0 ≤ j) fun i j => .int (i / 2 ^ j.toNat)) (.int i) (.int j) (.int m) := by
  obtain ⟨hc, rfl⟩ := of_grd h
  exact rv_I hc
theorem rv_pow (h : powC i j = some m) : RvF B cs (rI CPow fun i j => .int (i ^ j.toNat)) (.int i) (.int j) (.int m) := by
  obtain ⟨hc, rfl⟩ := of_grd h
  exact rv_I hc
theorem rv_mulL (k : Int) (hk : -(2 ^ 64) < k ∧ k < 2 ^ 64 := by decide) : RvF B cs (rI CMul fun i j => .int (i * j)) (.int k) (.int j) (.int (k * j)) := rv_I (Or.inl hk)
theorem rv_mulR (k : Int) (hk : -(2 ^ 64) < k ∧ k < 2 ^ 64 := by decide) : RvF B cs (rI CMul fun i j => .int (i * j)) (.int i) (.int k) (.int (i * k)) := rv_I (Or.inr hk)
theorem rv_modK (k : Int) (hk : 0 < k := by decide) : RvF B cs (rI (fun _ j => 0 < j) fun i j => .int (i % j)) (.int i) (.int k) (.int (i % k)) := rv_I hk
theorem rv_divK (k : Int) (hk : 0 < k ∧ k < 1073741824 := by decide) : RvF B cs (rI CDiv fun i j => .int (i / j)) (.int i) (.int k) (.int (i / k)) := rv_I hk
theorem rv_shrK (k : Int) (n : Nat) (hk : 0 ≤ k := by decide) (hn : k.toNat = n := by rfl) : RvF B cs (rI (fun _ j => 0 ≤ j) fun i j => .int (i / 2 ^ j.toNat)) (.int i) (.int k) (.int (i / 2 ^ n)) := by
  subst hn
  exact rv_I hk
theorem rv_shlK (k : Int) (n : Int) {d : Nat} (hk : CPow k n := by decide) (hd : n.toNat = d := by rfl) : RvF B cs (rI CPow fun i j => .int (i * 2 ^ j.toNat)) (.int k) (.int n) (.int (k * 2 ^ d)) := by
  subst hd
  exact rv_I hk
theorem rv_powK (k : Int) (n : Int) {d : Nat} (hk : CPow k n := by decide) (hd : n.toNat = d := by rfl) : RvF B cs (rI CPow fun i j => .int (i ^ j.toNat)) (.int k) (.int n) (.int (k ^ d)) := by
  subst hd
  exact rv_I hk
theorem rv_cg {e e' : Int} (hx : e = e') (h : RvF B cs r x y (.int e)) : RvF B cs r x y (.int e') := hx ▸ h
theorem rv_cgB {e e' : Bool} (hx : e = e') (h : RvF B cs r x y (.bl e)) : RvF B cs r x y (.bl e') := hx ▸ h
theorem rv_isN (h : decide (x = .non) = b) : RvF B cs (fun x y H Q => y = .non ∧ Q (.bl (decide (x = .non))) H) x .non (.bl b) := fun _ _ _ q => ⟨rfl, by rw [h]; exact q⟩
theorem rv_notN (h : (!decide (x = .non)) = b) : RvF B cs (fun x y H Q => y = .non ∧ Q (.bl (!decide (x = .non))) H) x .non (.bl b) := fun _ _ _ q => ⟨rfl, by rw [h]; exact q⟩
/-- tests -/
theorem rv_eqI : RvF B cs rEq (.int i) (.int j) (.bl (decide (i = j))) := fun _ _ Q q => ⟨rfl, by
  have h : (.bl (decide (V.int i = V.int j)) : V) = .bl (decide (i = j)) := by congr 1; simp
  rw [h]; exact q⟩
theorem rv_neI : RvF B cs rNe (.int i) (.int j) (.bl (!decide (i = j))) := fun _ _ Q q => ⟨rfl, by
  have h : (.bl (!decide (V.int i = V.int j)) : V) = .bl (!decide (i = j)) := by congr 2; simp
  rw [h]; exact q⟩
theorem rv_eqB : RvF B cs rEq (.bl b) (.bl c) (.bl (decide (b = c))) := fun _ _ Q q => ⟨rfl, by
  have h : (.bl (decide (V.bl b = V.bl c)) : V) = .bl (decide (b = c)) := by congr 1; simp
  rw [h]; exact q⟩
theorem rv_neB : RvF B cs rNe (.bl b) (.bl c) (.bl (!decide (b = c))) := fun _ _ Q q => ⟨rfl, by
  have h : (.bl (!decide (V.bl b = V.bl c)) : V) = .bl (!decide (b = c)) := by congr 2; simp
  rw [h]; exact q⟩
theorem rv_eqS {s1 s2 : Str} : RvF B cs rEq (.str s1) (.str s2) (.bl (decide (s1 = s2))) := fun _ _ Q q => ⟨rfl, by
  have h : (.bl (decide (V.str s1 = V.str s2)) : V) = .bl (decide (s1 = s2)) := by congr 1; simp
  rw [h]; exact q⟩
theorem rv_neS {s1 s2 : Str} : RvF B cs rNe (.str s1) (.str s2) (.bl (!decide (s1 = s2))) := fun _ _ Q q => ⟨rfl, by
  have h : (.bl (!decide (V.str s1 = V.str s2)) : V) = .bl (!decide (s1 = s2)) := by congr 2; simp
  rw [h]; exact q⟩
theorem et_test (h : EvF B cs cs1 te σ (.bl b)) : EtF B cs cs1 (tTest te) σ b := fun ys H F _ q => h ys H F _ fun H1 F1 => ⟨b, rfl, q H1 F1⟩
theorem et_B (h : EvF B cs cs1 te σ (.bl b)) : EtF B cs cs1 (tB te) σ b := fun ys H F _ q => h ys H F _ fun H1 F1 => ⟨b, rfl, q H1 F1⟩
theorem et_not (h : EtF B cs cs1 t σ b) : EtF B cs cs1 (tNot t) σ (!b) := fun ys H F _ q => h ys H F _ fun H1 F1 => q H1 F1
theorem et_and (h1 : EtF B cs cs1 t σ b) (h2 : b = true → EtF B cs1 cs1 u σ c) : EtF B cs cs1 (tAnd t u) σ (b && c) := fun ys H F Q q => h1 ys H F _ fun H1 F1 => by
  cases b with
  | true => exact h2 rfl ys H1 F1 Q q
  | false => exact q H1 F1
theorem et_or (h1 : EtF B cs cs1 t σ b) (h2 : b = false → EtF B cs1 cs1 u σ c) : EtF B cs cs1 (tOr t u) σ (b || c) := fun ys H F Q q => h1 ys H F _ fun H1 F1 => by
  cases b with
  | true => exact q H1 F1
  | false => exact h2 rfl ys H1 F1 Q q
theorem et_andO {m : Option Bool} (hm : andC b m = some c) (h1 : EtF B cs cs1 t σ b) (h2 : ∀ y, m = some y → EtF B cs1 cs1 u σ y) : EtF B cs cs1 (tAnd t u) σ c := by
  unfold andC at hm
  cases b with
  | true =>
    have := et_and h1 (fun _ => h2 c hm)
    exact this
  | false =>
    cases hm
    exact et_and (b := false) (c := false) h1 (fun q => (nomatch q))
theorem et_orO {m : Option Bool} (hm : orC b m = some c) (h1 : EtF B cs cs1 t σ b) (h2 : ∀ y, m = some y → EtF B cs1 cs1 u σ y) : EtF B cs cs1 (tOr t u) σ c := by
  unfold orC at hm
  cases b with
  | true =>
    cases hm
    exact et_or (b := true) (c := true) h1 (fun q => (nomatch q))
  | false =>
    have := et_or h1 (fun _ => h2 c hm)
    exact this
theorem ev_andV (h1 : EvF B cs cs1 ta σ (.bl b)) (h2 : b = true → EvF B cs1 cs1 tb σ (.bl c)) : EvF B cs cs1 (tAndV ta tb) σ (.bl (b && c)) := fun ys H F Q q => h1 ys H F _ fun H1 F1 => ⟨b, rfl, by
  cases b with
  | true => exact h2 rfl ys H1 F1 Q q
  | false => exact q H1 F1⟩
theorem ev_orV (h1 : EvF B cs cs1 ta σ (.bl b)) (h2 : b = false → EvF B cs1 cs1 tb σ (.bl c)) : EvF B cs cs1 (tOrV ta tb) σ (.bl (b || c)) := fun ys H F Q q => h1 ys H F _ fun H1 F1 => ⟨b, rfl, by
  cases b with
  | true => exact q H1 F1
  | false => exact h2 rfl ys H1 F1 Q q⟩
theorem ev_notV (h1 : EvF B cs cs1 ta σ (.bl b)) : EvF B cs cs1 (tNotV ta) σ (.bl (!b)) := fun ys H F _ q => h1 ys H F _ fun H1 F1 => ⟨b, rfl, q H1 F1⟩
theorem ev_andVO {m : Option Bool} (hm : andC b m = some c) (h1 : EvF B cs cs1 ta σ (.bl b)) (h2 : ∀ y, m = some y → EvF B cs1 cs1 tb σ (.bl y)) : EvF B cs cs1 (tAndV ta tb) σ (.bl c) := by
  unfold andC at hm
  cases b with
  | true =>
    have := ev_andV h1 (fun _ => h2 c hm)
    exact this
  | false =>
    cases hm
    exact ev_andV (b := false) (c := false) h1 (fun q => (nomatch q))
theorem ev_orVO {m : Option Bool} (hm : orC b m = some c) (h1 : EvF B cs cs1 ta σ (.bl b)) (h2 : ∀ y, m = some y → EvF B cs1 cs1 tb σ (.bl y)) : EvF B cs cs1 (tOrV ta tb) σ (.bl c) := by
  unfold orC at hm
  cases b with
  | true =>
    cases hm
    exact ev_orV (b := true) (c := true) h1 (fun q => (nomatch q))
  | false =>
    have := ev_orV h1 (fun _ => h2 c hm)
    exact this
theorem ev_chain {r r' : R2} {tc : TE} {w : V} (ha : EvF B cs cs1 ta σ x) (hb : EvF B cs1 cs2 tb σ y) (hc : EvF B cs2 cs2 tc σ w) (h1 : RvF B cs2 r x y (.bl b)) (h2 : RvF B cs2 r' y w (.bl c)) : EvF B cs cs2 (tChain r r' ta tb tc) σ (.bl (b && c)) := fun ys H F Q q =>
  ha ys H F _ fun H1 F1 => hb ys H1 F1 _ fun H2 F2 => h1 H2 F2.xs _ ⟨b, rfl, by
    cases b with
    | true =>
      show tc σ H2 _
      exact hc ys H2 F2 _ fun H3 F3 => h2 H3 F3.xs _ (q H3 F3)
    | false =>
      show Q (.bl false) H2
      exact q H2 F2⟩
/-- a if c else b -/
theorem ev_ifV {w : A} {m1 m2 : Option A} (hm : (if b = true then m1 else m2) = some w) (h : EtF B cs cs1 t σ b) (h1 : ∀ y, m1 = some y → EvF B cs1 cs1 ta σ (f y)) (h2 : ∀ y, m2 = some y → EvF B cs1 cs1 tb σ (f y)) : EvF B cs cs1 (tIf t ta tb) σ (f w) := fun ys H F Q q => h ys H F _ fun H1 F1 => by
  cases b with
  | true =>
    show ta σ H1 Q
    exact h1 w hm ys H1 F1 Q q
  | false =>
    show tb σ H1 Q
    exact h2 w (by rw [if_neg Bool.false_ne_true] at hm; exact hm) ys H1 F1 Q q
/-- len -/
def rLen (K : PySem.W.Frag) : List V → Hp → VK → Prop := fun xs H Q => ∃ p ys, xs = [.ref p] ∧ (SqL K H p ys ∨ SqT K H p ys) ∧ Q (.int ys.length) H
theorem cr_len {X : Cx} : CallR X (.builtin "len") (rLen X.K) := call_len_seq
theorem rc_len (h : RdS K B cs a (xs.map f)) : RcF B cs (rLen K) [.ref a] (.int (xs.length : Int)) := fun H F Q q => ⟨a, xs.map f, rfl, Or.inl (h.at F), by rw [List.length_map]; exact q⟩
theorem rc_lenV {vs : List V} {n : Nat} (h : RdS K B cs a vs) (hn : vs.length = n) : RcF B cs (rLen K) [.ref a] (.int (n : Int)) := fun H F Q q => ⟨a, vs, rfl, Or.inl (h.at F), by rw [hn]; exact q⟩
theorem rc_lenN : RcF B ((p, .lst (xs.map f)) :: cs) (rLen K) [.ref p] (.int (xs.length : Int)) := rc_len (.inl (.own 0 rfl))
/-- items -/
theorem rv_ix {w : A} (hv : atI xs i = some w) (h : RdS K B cs a (xs.map f)) : RvF B cs (rIxL K) (.ref a) (.int i) (f w) := fun H F Q q => ⟨a, xs.map f, i, f w, rfl, rfl, h.at F, by rw [atI_map, hv]; rfl, q⟩
theorem rv_ixV {vs : List V} (hv : atI vs i = some v) (h : RdS K B cs a vs) : RvF B cs (rIxL K) (.ref a) (.int i) v := fun H F Q q => ⟨a, vs, i, v, rfl, rfl, h.at F, hv, q⟩
theorem rv_ixN {w : A} (hv : atI xs i = some w) (p : Addr) : RvF B ((p, .lst (xs.map f)) :: cs) (rIxL K) (.ref p) (.int i) (f w) := rv_ix hv (.inl (.own 0 rfl))
/-- list(..) -/
def rLst (K : PySem.W.Frag) : List V → Hp → VK → Prop := fun xs H Q => ∃ p ys, xs = [.ref p] ∧ (SqL K H p ys ∨ SqT K H p ys) ∧ ∀ l, H l = none → Q (.ref l) (L2.upd H l (.lst ys))
theorem cr_list {X : Cx} : CallR X (.type "list") (rLst X.K) := call_list_of
theorem rc_list {vs : List V} (h : RdS K B cs a vs) : RcN B cs (rLst K) [.ref a] (.lst vs) := fun H F Q q => ⟨a, vs, rfl, Or.inl (h.at F), q⟩
theorem rc_listN {vs : List V} (p : Addr) : RcN B ((p, .lst vs) :: cs) (rLst K) [.ref p] (.lst vs) := rc_list (.inl (.own 0 rfl))
/-- slices -/
theorem eo_none : EoF B cs cs tNoPart σ none := fun _ H F _ q => q H F
theorem eo_some (h : EvF B cs cs1 te σ (.int i)) : EoF B cs cs1 (tPart te) σ (some i) := fun ys H F _ q => h ys H F _ fun H1 F1 => ⟨i, rfl, q H1 F1⟩
theorem en_sl {tl th : TO} {lo hi : Option Int} (ha : EvF B cs cs1 ta σ (.ref a)) (h1 : EoF B cs1 cs2 tl σ lo) (h2 : EoF B cs2 cs3 th σ hi) (h : RdS K B cs3 a (xs.map f)) : EvN B cs cs3 (tSl (rSlL K) ta tl th) σ (.lst ((cut xs lo hi).map f)) := by
  rw [← cut_map]
  exact fun ys H F _ q => ha ys H F _ fun H1 F1 => h1 ys H1 F1 _ fun H2 F2 => h2 ys H2 F2 _ fun H3 F3 => ⟨a, xs.map f, rfl, h.at F3.xs, fun p hp => q p _ (F3.new1 hp)⟩
theorem en_slN {tl th : TO} {lo hi : Option Int} (ha : EvN B cs cs1 ta σ (.lst (xs.map f))) (h1 : EoF B cs1 cs2 tl σ lo) (h2 : EoF B cs2 cs3 th σ hi) : EvN B cs cs3 (tSl (rSlL K) ta tl th) σ (.lst ((cut xs lo hi).map f)) := by
  rw [← cut_map]
  exact fun ys H F _ q => ha ys H F _ fun a H1 F1 => h1 ((a, _) :: ys) H1 F1 _ fun H2 F2 => h2 ((a, _) :: ys) H2 F2 _ fun H3 F3 => ⟨a, xs.map f, rfl, Evl.sq_of (F3.get 0 rfl), fun p hp => q p _ (F3.drop1.new1 hp)⟩
/-- + and * of lists -/
theorem rn_cat {zs : List A} (hm : catC xs ys = some zs) (h1 : Rd B cs p (.lst (xs.map f))) (h2 : Rd B cs q (.lst (ys.map f))) : RnF B cs rCat (.ref p) (.ref q) (.lst (zs.map f)) := by
  obtain ⟨hc, rfl⟩ := of_grd hm
  exact fun H F Q k => ⟨p, q, xs.map f, ys.map f, rfl, rfl, h1.at F, h2.at F, by rw [List.length_map, List.length_map, sizeLine_eq]; exact hc, fun l hl => by
    have := k l hl
    rw [List.map_append] at this
    exact this⟩
theorem map_flat (f : A → V) (xs : List A) (n : Nat) : (List.replicate n (xs.map f)).flatten = ((List.replicate n xs).flatten).map f := by
  induction n with
  | zero => rfl
  | succ n ih => rw [List.replicate_succ, List.replicate_succ, List.flatten_cons, List.flatten_cons, ih, List.map_append]
theorem rn_rep {zs : List A} {k : Int} (hm : repC xs k = some zs) (h1 : Rd B cs p (.lst (xs.map f))) : RnF B cs rRep (.ref p) (.int k) (.lst (zs.map f)) := by
  obtain ⟨hc, rfl⟩ := of_grd hm
  exact fun H F Q kk => ⟨p, k, xs.map f, rfl, rfl, h1.at F, hc.1, hc.2.1, by rw [List.length_map, sizeLine_eq]; exact hc.2.2, fun l hl => by
    have := kk l hl
    rw [← map_flat] at this
    exact this⟩
/-- == of lists of numbers -/
theorem dp_ints {xs : List Int} (h : SqL K H a (xs.map V.int)) : Dp K H (.ref a) (.list (xs.map PyData.int)) := by
  refine .lst h ?_
  clear h
  induction xs with
  | nil => exact .nil
  | cons n l ih => exact .cons (.int n) ih
theorem lay_ints : ∀ xs : List Int, PyData.canLayAll0 (xs.map PyData.int) = true
  | [] => rfl
  | x :: l => by
    show (PyData.canLay0 (.int x) && PyData.canLayAll0 (l.map PyData.int)) = true
    rw [lay_ints l]
    rfl
theorem depth_ints : ∀ xs : List Int, PyData.depthAll (xs.map PyData.int) ≤ 1
  | [] => by decide
  | x :: l => by
    have := depth_ints l
    simp only [List.map_cons, PyData.depthAll, PyData.depth]
    omega
theorem shaped_ints (xs : List Int) : SeqAt.shaped (.list (xs.map PyData.int)) = true := by
  unfold SeqAt.shaped
  rw [Bool.and_eq_true]
  refine ⟨lay_ints xs, decide_eq_true ?_⟩
  have := depth_ints xs
  simp only [PyData.depth]
  omega
theorem eqvAll_ints : ∀ xs ys : List Int, PyData.eqvAll (xs.map PyData.int) (ys.map PyData.int) = decide (xs = ys)
  | [], [] => by simp [PyData.eqvAll]
  | [], _ :: _ => by simp [PyData.eqvAll]
  | _ :: _, [] => by simp [PyData.eqvAll]
  | x :: l, y :: r => by
    rw [List.map_cons, List.map_cons, PyData.eqvAll, eqvAll_ints l r]
    by_cases h : x = y <;> by_cases h2 : l = r <;> simp [h, h2, PyData.eqv]
theorem eqv_ints (xs ys : List Int) : PyData.eqv (.list (xs.map PyData.int)) (.list (ys.map PyData.int)) = decide (xs = ys) := by
  rw [← eqvAll_ints]
  simp [PyData.eqv]
theorem rv_eqL {xs ys : List Int} (h1 : RdS K B cs p (xs.map V.int)) (h2 : RdS K B cs q (ys.map V.int)) : RvF B cs (rEqD K) (.ref p) (.ref q) (.bl (decide (xs = ys))) := fun H F Q k =>
  ⟨_, _, dp_ints (h1.at F), dp_ints (h2.at F), shaped_ints _, shaped_ints _, by rw [eqv_ints]; exact k⟩
theorem rv_neL {xs ys : List Int} (h1 : RdS K B cs p (xs.map V.int)) (h2 : RdS K B cs q (ys.map V.int)) : RvF B cs (rNeD K) (.ref p) (.ref q) (.bl (!decide (xs = ys))) := fun H F Q k =>
  ⟨_, _, dp_ints (h1.at F), dp_ints (h2.at F), shaped_ints _, shaped_ints _, by rw [eqv_ints]; exact k⟩
/-- built-ins of numbers -/
def rAbs : List V → Hp → VK → Prop := fun xs H Q => ∃ i, xs = [.int i] ∧ Q (.int (if i < 0 then -i else i)) H
theorem cr_abs {X : Cx} : CallR X (.builtin "abs") rAbs := call_abs
theorem ev_abs (h : EvF B cs cs1 ta σ (.int i)) : EvF B cs cs1 (tCB rAbs (tCons ta tNil)) σ (.int (absI i)) := ev_cb1 h fun _ _ _ q => ⟨i, rfl, q⟩
def rMax2 : List V → Hp → VK → Prop := fun xs H Q => ∃ i j, xs = [.int i, .int j] ∧ Q (.int (if j > i then j else i)) H
def rMin2 : List V → Hp → VK → Prop := fun xs H Q => ∃ i j, xs = [.int i, .int j] ∧ Q (.int (if j < i then j else i)) H
theorem cr_max2 {X : Cx} (hc : X.calm = true) : CallR X (.builtin "max") rMax2 := call_max2 hc
theorem cr_min2 {X : Cx} (hc : X.calm = true) : CallR X (.builtin "min") rMin2 := call_min2 hc
theorem ev_max2 (ha : EvF B cs cs1 ta σ (.int i)) (hb : EvF B cs1 cs2 tb σ (.int j)) : EvF B cs cs2 (tCB rMax2 (tCons ta (tCons tb tNil))) σ (.int (maxI i j)) := ev_cb (ea_cons ha (ea_cons hb ea_nil)) fun _ _ _ q => ⟨i, j, rfl, q⟩
theorem ev_min2 (ha : EvF B cs cs1 ta σ (.int i)) (hb : EvF B cs1 cs2 tb σ (.int j)) : EvF B cs cs2 (tCB rMin2 (tCons ta (tCons tb tNil))) σ (.int (minI i j)) := ev_cb (ea_cons ha (ea_cons hb ea_nil)) fun _ _ _ q => ⟨i, j, rfl, q⟩
def rInt : List V → Hp → VK → Prop := fun xs H Q => (∃ i, xs = [.int i] ∧ Q (.int i) H) ∨ ∃ k, xs = [.bl k] ∧ Q (.int (if k then 1 else 0)) H
theorem cr_int {X : Cx} : CallR X (.type "int") rInt := call_int1
theorem ev_int (h : EvF B cs cs1 ta σ (.int i)) : EvF B cs cs1 (tCB rInt (tCons ta tNil)) σ (.int i) := ev_cb1 h fun _ _ _ q => Or.inl ⟨i, rfl, q⟩
theorem ev_intB (h : EvF B cs cs1 ta σ (.bl b)) : EvF B cs cs1 (tCB rInt (tCons ta tNil)) σ (.int (b2 b)) := ev_cb1 h fun _ _ _ q => Or.inr ⟨b, rfl, q⟩
theorem ev_bits (h : EvF B cs cs1 ta σ (.int i)) : EvF B cs cs1 (tBits ta) σ (.int (bitsI i)) := fun ys H F _ q => h ys H F _ fun H1 F1 => ⟨i, rfl, q H1 F1⟩
theorem ev_neg (h : EvF B cs cs1 ta σ (.int i)) : EvF B cs cs1 (tUn (rU fun i => .int (-i)) ta) σ (.int (-i)) := ev_un h fun _ _ q => ⟨i, rfl, q⟩
theorem ev_inv (h : EvF B cs cs1 ta σ (.int i)) : EvF B cs cs1 (tUn (rU fun i => .int (Builtin.bitNot i)) ta) σ (.int (Builtin.bitNot i)) := ev_un h fun _ _ q => ⟨i, rfl, q⟩
/-- isinstance -/
theorem rc_isi {w : Value} {n : String} (ty : ∀ H1, Fr B cs H1 → TyX K H1 x w) (hk : PySem.W.kitOne K w (.type n) = some b) : RcF B cs (rIsi K) [x, .ty n] (.bl b) := fun H F _ q => ⟨x, .ty n, w, .type n, b, rfl, .ty n, ty H F, hk, q⟩
theorem ty_int {i : Int} (H1 : Hp) (_ : Fr B cs H1) : TyX K H1 (.int i) (.type "int") := .base (.int i)
theorem ty_bl {k : Bool} (H1 : Hp) (_ : Fr B cs H1) : TyX K H1 (.bl k) (.type "bool") := .base (.bl k)
theorem ty_non (H1 : Hp) (_ : Fr B cs H1) : TyX K H1 .non (.type "NoneType") := .base .non
theorem ty_str {s : Str} (H1 : Hp) (_ : Fr B cs H1) : TyX K H1 (.str s) (.type "str") := .base (.str s)
theorem ty_lst {vs : List V} (h : Rd B cs a (.lst vs)) (H1 : Hp) (F : Fr B cs H1) : TyX K H1 (.ref a) (.type "list") := .base (.lst (h.at F))
theorem ty_tup {vs : List V} (h : Rd B cs a (.tup vs)) (H1 : Hp) (F : Fr B cs H1) : TyX K H1 (.ref a) (.type "tuple") := .base (.tup (h.at F))
/-- sum, all, any -/
theorem rc_sum {xs : List Int} (h : RdS K B cs a (xs.map V.int)) : RcF B cs (rSum K) [.ref a] (.int xs.sum) := fun H F _ q => ⟨a, xs, rfl, h.at F, q⟩
theorem rc_sumN {xs : List Int} (p : Addr) : RcF B ((p, .lst (xs.map V.int)) :: cs) (rSum K) [.ref p] (.int xs.sum) := rc_sum (.inl (.own 0 rfl))
theorem rc_allN {xs : List Bool} (p : Addr) : RcF B ((p, .lst (xs.map V.bl)) :: cs) (rAll K) [.ref p] (.bl (xs.all id)) := fun H F _ q => ⟨p, xs, rfl, Evl.sq_of (F.get 0 rfl), q⟩
theorem rc_anyN {xs : List Bool} (p : Addr) : RcF B ((p, .lst (xs.map V.bl)) :: cs) (rAny K) [.ref p] (.bl (xs.any id)) := fun H F _ q => ⟨p, xs, rfl, Evl.sq_of (F.get 0 rfl), q⟩
/-- max, min of a list: any that is in it and not less -/
def maxP (xs : List Int) (m : Int) : Prop := m ∈ xs ∧ ∀ y ∈ xs, y ≤ m
theorem maxL_of {xs : List Int} {m : Int} (h : m ∈ xs) (h2 : ∀ y, y ∈ xs → y ≤ m) : maxL xs = some m := by
  have key : ∀ (l : List Int) (a : Int), (∀ y, y ∈ l → y ≤ l.foldl (fun a b => if b > a then b else a) a) ∧ a ≤ l.foldl (fun a b => if b > a then b else a) a ∧ (l.foldl (fun a b => if b > a then b else a) a = a ∨ l.foldl (fun a b => if b > a then b else a) a ∈ l) := by
    intro l
    induction l with
    | nil => intro a; exact ⟨fun _ h => (nomatch h), Int.le_refl _, Or.inl rfl⟩
    | cons b l ih =>
      intro a
      obtain ⟨h1, h2, h3⟩ := ih (if b > a then b else a)
      rw [List.foldl_cons]
      have hb : b ≤ (if b > a then b else a) ∧ a ≤ (if b > a then b else a) := by split <;> omega
      refine ⟨fun y hy => ?_, by omega, ?_⟩
      · rcases List.mem_cons.mp hy with rfl | hy
        · omega
        · exact h1 y hy
      · rcases h3 with h3 | h3
        · rw [h3]
          split
          · exact Or.inr List.mem_cons_self
          · exact Or.inl rfl
        · exact Or.inr (List.mem_cons_of_mem _ h3)
  cases xs with
  | nil => cases h
  | cons x l =>
    obtain ⟨h3, h4, h5⟩ := key l x
    show some _ = some m
    congr 1
    have h6 : m ≤ l.foldl (fun a b => if b > a then b else a) x := by
      rcases List.mem_cons.mp h with rfl | h
      · exact h4
      · exact h3 m h
    have h7 : l.foldl (fun a b => if b > a then b else a) x ≤ m := by
      rcases h5 with h5 | h5
      · rw [h5]; exact h2 x List.mem_cons_self
      · exact h2 _ (List.mem_cons_of_mem _ h5)
    omega
theorem minL_of {xs : List Int} {m : Int} (h : m ∈ xs) (h2 : ∀ y, y ∈ xs → m ≤ y) : minL xs = some m := by
  have key : ∀ (l : List Int) (a : Int), (∀ y, y ∈ l → l.foldl (fun a b => if b < a then b else a) a ≤ y) ∧ l.foldl (fun a b => if b < a then b else a) a ≤ a ∧ (l.foldl (fun a b => if b < a then b else a) a = a ∨ l.foldl (fun a b => if b < a then b else a) a ∈ l) := by
    intro l
    induction l with
    | nil => intro a; exact ⟨fun _ h => (nomatch h), Int.le_refl _, Or.inl rfl⟩
    | cons b l ih =>
      intro a
      obtain ⟨h1, h2, h3⟩ := ih (if b < a then b else a)
      rw [List.foldl_cons]
      have hb : (if b < a then b else a) ≤ b ∧ (if b < a then b else a) ≤ a := by split <;> omega
      refine ⟨fun y hy => ?_, by omega, ?_⟩
      · rcases List.mem_cons.mp hy with rfl | hy
        · omega
        · exact h1 y hy
      · rcases h3 with h3 | h3
        · rw [h3]
          split
          · exact Or.inr List.mem_cons_self
          · exact Or.inl rfl
        · exact Or.inr (List.mem_cons_of_mem _ h3)
  cases xs with
  | nil => cases h
  | cons x l =>
    obtain ⟨h3, h4, h5⟩ := key l x
    show some _ = some m
    congr 1
    have h6 : l.foldl (fun a b => if b < a then b else a) x ≤ m := by
      rcases List.mem_cons.mp h with rfl | h
      · exact h4
      · exact h3 m h
    have h7 : m ≤ l.foldl (fun a b => if b < a then b else a) x := by
      rcases h5 with h5 | h5
      · rw [h5]; exact h2 x List.mem_cons_self
      · exact h2 _ (List.mem_cons_of_mem _ h5)
    omega
theorem maxL_pos {xs : List Int} {m : Int} (h : maxL xs = some m) : 0 < xs.length := by
  cases xs with
  | nil => cases h
  | cons x l => exact Nat.succ_pos _
theorem minL_pos {xs : List Int} {m : Int} (h : minL xs = some m) : 0 < xs.length := by
  cases xs with
  | nil => cases h
  | cons x l => exact Nat.succ_pos _
theorem rc_max {xs : List Int} {m : Int} (hm : maxL xs = some m) (h : RdS K B cs a (xs.map V.int)) : RcF B cs (rMax K) [.ref a] (.int m) := fun H F Q q => ⟨a, xs, rfl, h.at F, maxL_pos hm, fun m' h1 h2 => by
  have := maxL_of h1 h2
  rw [hm] at this
  cases this
  exact q⟩
theorem rc_min {xs : List Int} {m : Int} (hm : minL xs = some m) (h : RdS K B cs a (xs.map V.int)) : RcF B cs (rMin K) [.ref a] (.int m) := fun H F Q q => ⟨a, xs, rfl, h.at F, minL_pos hm, fun m' h1 h2 => by
  have := minL_of h1 h2
  rw [hm] at this
  cases this
  exact q⟩
end
/-! ### data that stand: what a value is worth -/
inductive D where
  | non | int (i : Int) | bl (b : Bool) | str (s : Str) | lst (l : List D) | tup (l : List D) | obj (t : Nat) (l : List D)
/-- the classes: where each stands, its attributes in order -/
abbrev Cl := Nat → Addr × List Str
mutual
def Rp (K : PySem.W.Frag) (G : Cl) (H : Hp) : V → D → Prop
  | v, .non => v = .non
  | v, .int i => v = .int i
  | v, .bl b => v = .bl b
  | v, .str s => v = .str s
  | v, .lst l => ∃ a vs, v = .ref a ∧ H a = some (.lst vs) ∧ Rps K G H vs l
  | v, .tup l => ∃ a vs, v = .ref a ∧ SqT K H a vs ∧ Rps K G H vs l
  | v, .obj t l => ∃ a dx vs, v = .ref a ∧ H a = some (.ins (G t).1 dx ((G t).2.zip vs)) ∧ vs.length = (G t).2.length ∧ Rps K G H vs l
def Rps (K : PySem.W.Frag) (G : Cl) (H : Hp) : List V → List D → Prop
  | [], [] => True
  | v :: vs, d :: ds => Rp K G H v d ∧ Rps K G H vs ds
  | [], _ :: _ => False
  | _ :: _, [] => False
end
section
variable {K : PySem.W.Frag} {G : Cl} {H H' : Hp}
mutual
theorem Rp.mono (e : Ex H H') : ∀ (d : D) {v : V}, Rp K G H v d → Rp K G H' v d
  | .non, v, h => by simpa only [Rp] using h
  | .int i, v, h => by simpa only [Rp] using h
  | .bl b, v, h => by simpa only [Rp] using h
  | .str s, v, h => by simpa only [Rp] using h
  | .lst l, v, h => by
    simp only [Rp] at h ⊢
    obtain ⟨a, vs, h1, h2, h3⟩ := h
    exact ⟨a, vs, h1, e _ _ h2, Rps.mono e l h3⟩
  | .tup l, v, h => by
    simp only [Rp] at h ⊢
    obtain ⟨a, vs, h1, h2, h3⟩ := h
    exact ⟨a, vs, h1, Evl.ex_t e h2, Rps.mono e l h3⟩
  | .obj t l, v, h => by
    simp only [Rp] at h ⊢
    obtain ⟨a, dx, vs, h1, h2, h3, h4⟩ := h
    exact ⟨a, dx, vs, h1, e _ _ h2, h3, Rps.mono e l h4⟩
theorem Rps.mono (e : Ex H H') : ∀ (ds : List D) {vs : List V}, Rps K G H vs ds → Rps K G H' vs ds
  | [], [], h => by simp only [Rps]
  | [], v :: vs, h => by simp only [Rps] at h
  | d :: ds, [], h => by simp only [Rps] at h
  | d :: ds, v :: vs, h => by
    simp only [Rps] at h ⊢
    exact ⟨Rp.mono e d h.1, Rps.mono e ds h.2⟩
end
theorem Rp.to {d : D} {v : V} (h : Rp K G H v d) (e : Ex H H') : Rp K G H' v d := Rp.mono e d h
theorem Rps.to {ds : List D} {vs : List V} (h : Rps K G H vs ds) (e : Ex H H') : Rps K G H' vs ds := Rps.mono e ds h
theorem Rps.len : ∀ {vs : List V} {ds : List D}, Rps K G H vs ds → vs.length = ds.length
  | [], [], _ => rfl
  | [], _ :: _, h => by simp only [Rps] at h
  | _ :: _, [], h => by simp only [Rps] at h
  | v :: vs, d :: ds, h => by
    simp only [Rps] at h
    rw [List.length_cons, List.length_cons, Rps.len h.2]
theorem Rps.get : ∀ {vs : List V} {ds : List D} {i : Nat} {d : D}, Rps K G H vs ds → ds[i]? = some d → ∃ v, vs[i]? = some v ∧ Rp K G H v d
  | [], [], _, _, _, hd => by simp at hd
  | [], _ :: _, _, _, h, _ => by simp only [Rps] at h
  | _ :: _, [], _, _, h, _ => by simp only [Rps] at h
  | v :: vs, d :: ds, 0, d', h, hd => by
    simp only [Rps] at h
    cases hd
    exact ⟨v, rfl, h.1⟩
  | v :: vs, d :: ds, i + 1, d', h, hd => by
    simp only [Rps] at h
    exact Rps.get (i := i) h.2 hd
theorem Rps.snoc : ∀ {vs : List V} {ds : List D} {v : V} {d : D}, Rps K G H vs ds → Rp K G H v d → Rps K G H (vs ++ [v]) (ds ++ [d])
  | [], [], _, _, _, h => by
    show Rps K G H [_] [_]
    simp only [Rps]
    exact ⟨h, trivial⟩
  | [], _ :: _, _, _, h, _ => by simp only [Rps] at h
  | _ :: _, [], _, _, h, _ => by simp only [Rps] at h
  | v :: vs, d :: ds, _, _, h, h2 => by
    show Rps K G H (v :: (vs ++ [_])) (d :: (ds ++ [_]))
    simp only [Rps] at h ⊢
    exact ⟨h.1, Rps.snoc h.2 h2⟩
theorem Rps.set : ∀ {vs : List V} {ds : List D} {v : V} {d : D} (i : Nat), Rps K G H vs ds → Rp K G H v d → Rps K G H (vs.set i v) (ds.set i d)
  | [], [], _, _, _, _, _ => by simp only [List.set_nil, Rps]
  | [], _ :: _, _, _, _, h, _ => by simp only [Rps] at h
  | _ :: _, [], _, _, _, h, _ => by simp only [Rps] at h
  | v :: vs, d :: ds, _, _, 0, h, h2 => by
    simp only [Rps] at h
    show Rps K G H (_ :: vs) (_ :: ds)
    simp only [Rps]
    exact ⟨h2, h.2⟩
  | v :: vs, d :: ds, _, _, i + 1, h, h2 => by
    simp only [Rps] at h
    show Rps K G H (v :: vs.set i _) (d :: ds.set i _)
    simp only [Rps]
    exact ⟨h.1, Rps.set i h.2 h2⟩
theorem Rps.take : ∀ {vs : List V} {ds : List D} (n : Nat), Rps K G H vs ds → Rps K G H (vs.take n) (ds.take n)
  | _, _, 0, _ => by simp only [List.take_zero, Rps]
  | [], [], n + 1, _ => by simp only [List.take_nil, Rps]
  | [], _ :: _, _, h => by simp only [Rps] at h
  | _ :: _, [], _, h => by simp only [Rps] at h
  | v :: vs, d :: ds, n + 1, h => by
    simp only [Rps] at h
    show Rps K G H (v :: vs.take n) (d :: ds.take n)
    simp only [Rps]
    exact ⟨h.1, Rps.take n h.2⟩
theorem Rps.drop : ∀ {vs : List V} {ds : List D} (n : Nat), Rps K G H vs ds → Rps K G H (vs.drop n) (ds.drop n)
  | _, _, 0, h => h
  | [], [], n + 1, _ => by simp only [List.drop_nil, Rps]
  | [], _ :: _, _, h => by simp only [Rps] at h
  | _ :: _, [], _, h => by simp only [Rps] at h
  | v :: vs, d :: ds, n + 1, h => by
    simp only [Rps] at h
    exact Rps.drop n h.2
theorem Rps.app : ∀ {vs ws : List V} {ds es : List D}, Rps K G H vs ds → Rps K G H ws es → Rps K G H (vs ++ ws) (ds ++ es)
  | [], _, [], _, _, h => h
  | [], _, _ :: _, _, h, _ => by simp only [Rps] at h
  | _ :: _, _, [], _, h, _ => by simp only [Rps] at h
  | v :: vs, ws, d :: ds, es, h, h2 => by
    simp only [Rps] at h
    show Rps K G H (v :: (vs ++ ws)) (d :: (ds ++ es))
    simp only [Rps]
    exact ⟨h.1, Rps.app h.2 h2⟩
theorem Rps.ints : ∀ {xs : List Int} {vs : List V}, Rps K G H vs (xs.map D.int) ↔ vs = xs.map V.int
  | [], [] => by simp only [List.map_nil, Rps]
  | [], v :: vs => by simp only [List.map_nil, Rps]; simp
  | x :: xs, [] => by simp only [List.map_cons, Rps]; simp
  | x :: xs, v :: vs => by
    simp only [List.map_cons, Rps, Rp]
    rw [Rps.ints]
    simp
theorem Rps.bls : ∀ {xs : List Bool} {vs : List V}, Rps K G H vs (xs.map D.bl) ↔ vs = xs.map V.bl
  | [], [] => by simp only [List.map_nil, Rps]
  | [], v :: vs => by simp only [List.map_nil, Rps]; simp
  | x :: xs, [] => by simp only [List.map_cons, Rps]; simp
  | x :: xs, v :: vs => by
    simp only [List.map_cons, Rps, Rp]
    rw [Rps.bls]
    simp
end
/-- the data of typed values -/
def lD {A : Type} (f : A → D) (xs : List A) : D := .lst (xs.map f)
def oD {A : Type} (f : A → D) : Option A → D
  | none => .non
  | some x => f x
def uD (_ : Unit) : D := .non
def pD2 {A1 A2 : Type} (f1 : A1 → D) (f2 : A2 → D) (p : A1 × A2) : D := .tup [f1 p.1, f2 p.2]
def pD3 {A1 A2 A3 : Type} (f1 : A1 → D) (f2 : A2 → D) (f3 : A3 → D) (p : A1 × A2 × A3) : D := .tup [f1 p.1, f2 p.2.1, f3 p.2.2]
def pD4 {A1 A2 A3 A4 : Type} (f1 : A1 → D) (f2 : A2 → D) (f3 : A3 → D) (f4 : A4 → D) (p : A1 × A2 × A3 × A4) : D := .tup [f1 p.1, f2 p.2.1, f3 p.2.2.1, f4 p.2.2.2]
section
variable {K : PySem.W.Frag} {G : Cl} {H B : Hp} {cs : Cs} {A A1 A2 A3 A4 : Type} {f : A → D} {f1 : A1 → D} {f2 : A2 → D} {f3 : A3 → D} {f4 : A4 → D} {v : V} {vs : List V}
theorem Rp.i {i : Int} (h : Rp K G H v (.int i)) : v = .int i := by simpa only [Rp] using h
theorem Rp.b {b : Bool} (h : Rp K G H v (.bl b)) : v = .bl b := by simpa only [Rp] using h
theorem Rp.s {s : Str} (h : Rp K G H v (.str s)) : v = .str s := by simpa only [Rp] using h
theorem Rp.n (h : Rp K G H v .non) : v = .non := by simpa only [Rp] using h
theorem rp_i {i : Int} : Rp K G H (.int i) (.int i) := by simp only [Rp]
theorem rp_b {i : Bool} : Rp K G H (.bl i) (.bl i) := by simp only [Rp]
theorem rp_s {i : Str} : Rp K G H (.str i) (.str i) := by simp only [Rp]
theorem rp_n : Rp K G H .non .non := by simp only [Rp]
theorem rp_u {u : Unit} : Rp K G H .non (uD u) := by simp only [Rp, uD]
theorem Rp.l {xs : List A} (h : Rp K G H v (lD f xs)) : ∃ a vs, v = .ref a ∧ H a = some (.lst vs) ∧ Rps K G H vs (xs.map f) := by simpa only [Rp, lD] using h
theorem Rp.li {xs : List Int} (h : Rp K G H v (lD D.int xs)) : ∃ a, v = .ref a ∧ H a = some (.lst (xs.map V.int)) := by
  obtain ⟨a, vs, h1, h2, h3⟩ := h.l
  rw [Rps.ints] at h3
  subst h3
  exact ⟨a, h1, h2⟩
theorem Rp.lb {xs : List Bool} (h : Rp K G H v (lD D.bl xs)) : ∃ a, v = .ref a ∧ H a = some (.lst (xs.map V.bl)) := by
  obtain ⟨a, vs, h1, h2, h3⟩ := h.l
  rw [Rps.bls] at h3
  subst h3
  exact ⟨a, h1, h2⟩
theorem rp_l {xs : List A} {a : Addr} (h : H a = some (.lst vs)) (r : Rps K G H vs (xs.map f)) : Rp K G H (.ref a) (lD f xs) := by
  simp only [Rp, lD]
  exact ⟨a, vs, rfl, h, r⟩
theorem rp_li {xs : List Int} {a : Addr} (h : H a = some (.lst (xs.map V.int))) : Rp K G H (.ref a) (lD D.int xs) := rp_l h (Rps.ints.mpr rfl)
theorem rp_lb {xs : List Bool} {a : Addr} (h : H a = some (.lst (xs.map V.bl))) : Rp K G H (.ref a) (lD D.bl xs) := rp_l h (Rps.bls.mpr rfl)
theorem Rp.t2 {p : A1 × A2} (h : Rp K G H v (pD2 f1 f2 p)) : ∃ a v1 v2, v = .ref a ∧ SqT K H a [v1, v2] ∧ Rp K G H v1 (f1 p.1) ∧ Rp K G H v2 (f2 p.2) := by
  simp only [Rp, pD2] at h
  obtain ⟨a, vs, h1, h2, h3⟩ := h
  match vs, h3 with
  | [v1, v2], h3 =>
    simp only [Rps] at h3
    exact ⟨a, v1, v2, h1, h2, h3.1, h3.2.1⟩
  | [], h3 => simp only [Rps] at h3
  | [_], h3 => simp only [Rps] at h3; exact h3.2.elim
  | _ :: _ :: _ :: _, h3 => simp only [Rps] at h3; exact h3.2.2.elim
theorem rp_t2 {p : A1 × A2} {a : Addr} {v1 v2 : V} (h : SqT K H a [v1, v2]) (r1 : Rp K G H v1 (f1 p.1)) (r2 : Rp K G H v2 (f2 p.2)) : Rp K G H (.ref a) (pD2 f1 f2 p) := by
  simp only [Rp, pD2]
  exact ⟨a, _, rfl, h, by simp only [Rps]; exact ⟨r1, r2, trivial⟩⟩
theorem Rp.t3 {p : A1 × A2 × A3} (h : Rp K G H v (pD3 f1 f2 f3 p)) : ∃ a v1 v2 v3, v = .ref a ∧ SqT K H a [v1, v2, v3] ∧ Rp K G H v1 (f1 p.1) ∧ Rp K G H v2 (f2 p.2.1) ∧ Rp K G H v3 (f3 p.2.2) := by
  simp only [Rp, pD3] at h
  obtain ⟨a, vs, h1, h2, h3⟩ := h
  match vs, h3 with
  | [v1, v2, v3], h3 =>
    simp only [Rps] at h3
    exact ⟨a, v1, v2, v3, h1, h2, h3.1, h3.2.1, h3.2.2.1⟩
  | [], h3 => simp only [Rps] at h3
  | [_], h3 => simp only [Rps] at h3; exact h3.2.elim
  | [_, _], h3 => simp only [Rps] at h3; exact h3.2.2.elim
  | _ :: _ :: _ :: _ :: _, h3 => simp only [Rps] at h3; exact h3.2.2.2.elim
theorem rp_t3 {p : A1 × A2 × A3} {a : Addr} {v1 v2 v3 : V} (h : SqT K H a [v1, v2, v3]) (r1 : Rp K G H v1 (f1 p.1)) (r2 : Rp K G H v2 (f2 p.2.1)) (r3 : Rp K G H v3 (f3 p.2.2)) : Rp K G H (.ref a) (pD3 f1 f2 f3 p) := by
  simp only [Rp, pD3]
  exact ⟨a, _, rfl, h, by simp only [Rps]; exact ⟨r1, r2, r3, trivial⟩⟩
theorem Rp.t4 {p : A1 × A2 × A3 × A4} (h : Rp K G H v (pD4 f1 f2 f3 f4 p)) : ∃ a v1 v2 v3 v4, v = .ref a ∧ SqT K H a [v1, v2, v3, v4] ∧ Rp K G H v1 (f1 p.1) ∧ Rp K G H v2 (f2 p.2.1) ∧ Rp K G H v3 (f3 p.2.2.1) ∧ Rp K G H v4 (f4 p.2.2.2) := by
  simp only [Rp, pD4] at h
  obtain ⟨a, vs, h1, h2, h3⟩ := h
  match vs, h3 with
  | [v1, v2, v3, v4], h3 =>
    simp only [Rps] at h3
    exact ⟨a, v1, v2, v3, v4, h1, h2, h3.1, h3.2.1, h3.2.2.1, h3.2.2.2.1⟩
  | [], h3 => simp only [Rps] at h3
  | [_], h3 => simp only [Rps] at h3; exact h3.2.elim
  | [_, _], h3 => simp only [Rps] at h3; exact h3.2.2.elim
  | [_, _, _], h3 => simp only [Rps] at h3; exact h3.2.2.2.elim
  | _ :: _ :: _ :: _ :: _ :: _, h3 => simp only [Rps] at h3; exact h3.2.2.2.2.elim
theorem rp_t4 {p : A1 × A2 × A3 × A4} {a : Addr} {v1 v2 v3 v4 : V} (h : SqT K H a [v1, v2, v3, v4]) (r1 : Rp K G H v1 (f1 p.1)) (r2 : Rp K G H v2 (f2 p.2.1)) (r3 : Rp K G H v3 (f3 p.2.2.1)) (r4 : Rp K G H v4 (f4 p.2.2.2)) : Rp K G H (.ref a) (pD4 f1 f2 f3 f4 p) := by
  simp only [Rp, pD4]
  exact ⟨a, _, rfl, h, by simp only [Rps]; exact ⟨r1, r2, r3, r4, trivial⟩⟩
theorem Rps.at {xs : List A} {i : Int} {y : A} (r : Rps K G H vs (xs.map f)) (h : atI xs i = some y) : ∃ v, atI vs i = some v ∧ Rp K G H v (f y) := by
  have hl : vs.length = xs.length := by rw [r.len, List.length_map]
  unfold atI at h ⊢
  rw [hl]
  cases hj : ixN xs.length i with
  | none => rw [hj] at h; cases h
  | some j =>
    rw [hj] at h
    have h' : xs[j]? = some y := h
    obtain ⟨v, h1, h2⟩ := r.get (i := j) (d := f y) (by rw [List.getElem?_map, h']; rfl)
    exact ⟨v, h1, h2⟩
theorem Rps.gt {xs : List A} {i : Nat} {y : A} (r : Rps K G H vs (xs.map f)) (h : xs[i]? = some y) : ∃ v, vs[i]? = some v ∧ Rp K G H v (f y) := r.get (by rw [List.getElem?_map, h]; rfl)
theorem Rps.ln {xs : List A} (r : Rps K G H vs (xs.map f)) : vs.length = xs.length := by rw [r.len, List.length_map]
theorem Rps.snocF {xs : List A} {y : A} (r : Rps K G H vs (xs.map f)) (h : Rp K G H v (f y)) : Rps K G H (vs ++ [v]) ((xs ++ [y]).map f) := by
  rw [List.map_append]
  exact r.snoc h
theorem Rps.nilF : Rps K G H [] (([] : List A).map f) := by simp only [List.map_nil, Rps]
theorem Rps.cutF {xs : List A} (r : Rps K G H vs (xs.map f)) (lo hi : Option Int) : Rps K G H (cutV vs lo hi) ((cut xs lo hi).map f) := by
  unfold cutV cut
  rw [r.ln, List.map_take, List.map_drop]
  exact (r.drop _).take _
end
/-! ### rules whose written part K is told -/
section
variable {X : Cx} {K : PySem.W.Frag}
theorem kLen (h : X.K = K := by rfl) : CallR X (.builtin "len") (rLen K) := h ▸ cr_len
theorem kLst (h : X.K = K := by rfl) : CallR X (.type "list") (rLst K) := h ▸ cr_list
theorem kIx (h : X.K = K := by rfl) : IxR X (rIxL K) := h ▸ ix_list
theorem kIxT (h : X.K = K := by rfl) : IxR X (rIxT K) := h ▸ ix_tup
theorem kSl (h : X.K = K := by rfl) : SlR X (rSlL K) := h ▸ sl_list
theorem kEq (hu : X.A.units + 64 < cLine) (h : X.K = K := by rfl) : OpR X (compareOp .Eq) (rEqD K) := h ▸ op_eqD hu
theorem kNe (hu : X.A.units + 64 < cLine) (h : X.K = K := by rfl) : OpR X (compareOp .NotEq) (rNeD K) := h ▸ op_neD hu
theorem kIsi (h : X.K = K := by rfl) : CallR X (.builtin "isinstance") (rIsi K) := h ▸ call_isi
theorem kSum (hc : X.calm = true) (h : X.K = K := by rfl) : CallR X (.builtin "sum") (rSum K) := h ▸ cr_sum hc
theorem kAll (hc : X.calm = true) (h : X.K = K := by rfl) : CallR X (.builtin "all") (rAll K) := h ▸ cr_all hc
theorem kAny (hc : X.calm = true) (h : X.K = K := by rfl) : CallR X (.builtin "any") (rAny K) := h ▸ cr_any hc
theorem kMax (hc : X.calm = true) (h : X.K = K := by rfl) : CallR X (.builtin "max") (rMax K) := h ▸ cr_max hc
theorem kMin (hc : X.calm = true) (h : X.K = K := by rfl) : CallR X (.builtin "min") (rMin K) := h ▸ cr_min hc
theorem kpi_list {tg l : Expr} {tl : TE} (hl : PE X l tl) (h : X.K = K := by rfl) : PI X tg l (iList K tl) := h ▸ pi_list hl
theorem kpi_tup {tg l : Expr} {tl : TE} (hl : PE X l tl) (h : X.K = K := by rfl) : PI X tg l (iTup K tl) := h ▸ pi_tup hl
end
/-- a reading at slots told otherwise -/
theorem sl {t : L2.St → Hp → Prop} {σ σ' : L2.St} {H : Hp} (e : σ = σ') (h : t σ' H) : t σ H := e ▸ h
theorem Rd.dn (n : Nat) {B : Hp} {cs : Cs} {a : Addr} {o : HO} (r : Rd B (cs.drop n) a o) : Rd B cs a o := by
  rcases r with h | h
  · exact .inl h
  · exact .inr ((List.drop_sublist n cs).subset h)
theorem RdS.dn (n : Nat) {K : PySem.W.Frag} {B : Hp} {cs : Cs} {a : Addr} {vs : List V} (r : RdS K B (cs.drop n) a vs) : RdS K B cs a vs := by
  rcases r with h | h
  · exact .inl (h.dn n)
  · exact .inr h
theorem Rd.to {B B' : Hp} {cs : Cs} {a : Addr} {o : HO} (r : Rd B cs a o) (e : Ex B B') : Rd B' cs a o := by
  rcases r with h | h
  · exact .inl (e _ _ h)
  · exact .inr h
theorem RdS.to {K : PySem.W.Frag} {B B' : Hp} {cs : Cs} {a : Addr} {vs : List V} (r : RdS K B cs a vs) (e : Ex B B') : RdS K B' cs a vs := by
  rcases r with h | h
  · exact .inl (h.to e)
  · exact .inr (Evl.ex_l e h)
theorem Rd.app {B : Hp} {xs cs : Cs} {a : Addr} {o : HO} (r : Rd B cs a o) : Rd B (xs ++ cs) a o := by
  rcases r with h | h
  · exact .inl h
  · exact .inr (List.mem_append_right _ h)
theorem RdS.app {K : PySem.W.Frag} {B : Hp} {xs cs : Cs} {a : Addr} {vs : List V} (r : RdS K B cs a vs) : RdS K B (xs ++ cs) a vs := by
  rcases r with h | h
  · exact .inl h.app
  · exact .inr h
theorem Fr.fz {B H : Hp} {cs : Cs} {p : Addr} {o : HO} (F : Fr B ((p, o) :: cs) H) : ∃ B', Ex B B' ∧ B' p = some o ∧ Fr B' cs H := ⟨_, Evl.Ex.new (F.fresh 0 rfl), upd_same, F.rest⟩
theorem Fr.fzAt (i : Nat) {B H : Hp} {cs : Cs} {p : Addr} {o : HO} (h : cs[i]? = some (p, o)) (F : Fr B cs H) : ∃ B', Ex B B' ∧ B' p = some o ∧ Fr B' (cs.eraseIdx i) H := by
  have F1 : Fr B ((p, o) :: cs.eraseIdx i) H := F.perm (erase_perm h)
  exact F1.fz
theorem gn {i : Nat} {v : V} {σ σ' : L2.St} {H : Hp} {Q : L2.St → Hp → Prop} (e : σ.set i (some v) = σ') (q : Q σ' H) : gName i v σ H Q := by
  subst e
  exact q
def G0 : Cl := fun _ => (0, [])
theorem sqT_of {K : PySem.W.Frag} {H : Hp} {q : Addr} {xs : List Int} {od : Option Addr} {its : List Value} {n : Nat} {sl : Array (Option Value)} (l : K.lookup q = some ⟨.type "tuple", od, .seq its.toArray n, sl⟩) (hv : Vals (xs.map V.int) its) (hz : xs.length ≤ 1000) : SqT K H q (xs.map V.int) := by
  refine Or.inr ⟨_, its.toArray, n, l, rfl, rfl, ?_, hv⟩
  have := hv.length
  rw [List.length_map] at this
  rw [List.size_toArray, sizeLine_eq]
  omega
section
variable {K : PySem.W.Frag} {G : Cl} {B : Hp} {cs cs1 cs2 : Cs} {v : V} {A : Type} {f : A → D} {o : Option A} {σ : L2.St} {i : Int} {ta : TE}
theorem rp_none : Rp K G B .non (oD f none) := by simp only [Rp, oD]
theorem rp_some {y : A} (h : Rp K G B v (f y)) : Rp K G B v (oD f (some y)) := h
/-- a type whose values are not None -/
theorem opt_none (hb : o.isNone = true) (r : Rp K G B v (oD f o)) : o = none ∧ v = .non := by
  cases o with
  | none => exact ⟨rfl, r.n⟩
  | some y => cases hb
theorem opt_noneN (hb : (!o.isNone) = false) (r : Rp K G B v (oD f o)) : o = none ∧ v = .non := opt_none (by simpa using hb) r
theorem opt_some (hb : o.isNone = false) (r : Rp K G B v (oD f o)) : ∃ y, o = some y ∧ Rp K G B v (f y) := by
  cases o with
  | none => cases hb
  | some y => exact ⟨y, rfl, r⟩
theorem opt_someN (hb : (!o.isNone) = true) (r : Rp K G B v (oD f o)) : ∃ y, o = some y ∧ Rp K G B v (f y) := opt_some (by simpa using hb) r
def NotNon (f : A → D) : Prop := ∀ (K : PySem.W.Frag) (G : Cl) (B : Hp) (x : A), ¬ Rp K G B .non (f x)
theorem rv_isNO (r : Rp K G B v (oD f o)) (hn : NotNon f) : RvF B cs (fun x y H Q => y = .non ∧ Q (.bl (decide (x = .non))) H) v .non (.bl o.isNone) := rv_isN (by
  cases o with
  | none => rw [r.n]; rfl
  | some y =>
    have : v ≠ .non := by
      rintro rfl
      exact hn K G B y r
    simp [this])
theorem rv_notNO (r : Rp K G B v (oD f o)) (hn : NotNon f) : RvF B cs (fun x y H Q => y = .non ∧ Q (.bl (!decide (x = .non))) H) v .non (.bl (!o.isNone)) := rv_notN (by
  cases o with
  | none => rw [r.n]; rfl
  | some y =>
    have : v ≠ .non := by
      rintro rfl
      exact hn K G B y r
    simp [this])
theorem nn_int : NotNon D.int := fun _ _ _ _ h => by simp only [Rp] at h; cases h
theorem nn_l {B : Type} {f : B → D} : NotNon (lD f) := fun _ _ _ _ h => by
  obtain ⟨_, _, h, _⟩ := h.l
  cases h
theorem nn_t2 {A B : Type} {f : A → D} {g : B → D} : NotNon (pD2 f g) := fun _ _ _ _ h => by
  obtain ⟨_, _, _, h, _⟩ := h.t2
  cases h
theorem nn_t3 {A B C : Type} {f : A → D} {g : B → D} {k : C → D} : NotNon (pD3 f g k) := fun _ _ _ _ h => by
  obtain ⟨_, _, _, _, h, _⟩ := h.t3
  cases h
theorem nn_t4 {A B C E : Type} {f : A → D} {g : B → D} {k : C → D} {l : E → D} : NotNon (pD4 f g k l) := fun _ _ _ _ h => by
  obtain ⟨_, _, _, _, _, h, _⟩ := h.t4
  cases h
theorem Rp.u {x : Unit} (h : Rp K G B v (uD x)) : v = .non := by simpa only [Rp, uD] using h
theorem rv_ixK {q : Addr} {A : Type} {f : A → V} {xs : List A} {w : A} (hv : atI xs i = some w) (h : ∀ H, SqT K H q (List.map f xs)) : RvF B cs (rIxT K) (.ref q) (.int i) (f w) := fun H _ _ k => ⟨q, xs.map f, i, f w, rfl, rfl, h H, by rw [atI_map, hv]; rfl, k⟩
theorem rv_ixTV {q : Addr} {vs : List V} {w : V} (n : Nat) (h : SqT K B q vs) (hv : vs[n]? = some w) : RvF B cs (rIxT K) (.ref q) (.int (n : Int)) w := fun H F _ k => ⟨q, vs, (n : Int), w, rfl, rfl, Evl.ex_t F.base h, atI_nat hv, k⟩
theorem rc_lenT {q : Addr} {vs : List V} {n : Nat} (h : SqT K B q vs) (hn : vs.length = n) : RcF B cs (rLen K) [.ref q] (.int (n : Int)) := fun H F _ k => ⟨q, vs, rfl, Or.inr (Evl.ex_t F.base h), by rw [hn]; exact k⟩
theorem ty_sqt {q : Addr} {vs : List V} {H : Hp} (h : SqT K H q vs) : TyX K H (.ref q) (.type "tuple") := by
  rcases h with (h | ⟨o, h⟩) | ⟨o, its, n, h1, h2, h3, h4, h5⟩
  · exact .base (.tup h)
  · exact .fTuple h
  · exact .kTuple h1 h2
theorem rc_isiT {q : Addr} {vs : List V} {n : String} {b : Bool} (h : SqT K B q vs) (hk : PySem.W.kitOne K (.type "tuple") (.type n) = some b) : RcF B cs (rIsi K) [.ref q, .ty n] (.bl b) := rc_isi (fun _ F => ty_sqt (Evl.ex_t F.base h)) hk
theorem et_trL {q : Addr} {A : Type} {f : A → V} {xs : List A} (ha : EvF B cs cs1 ta σ (.ref q)) (h : RdS K B cs1 q (xs.map f)) : EtF B cs cs1 (fun σ H Q => ta σ H fun x H' => ∃ k, TruV K x H' k ∧ Q k H') σ (!xs.isEmpty) := fun ys H F Q k => ha ys H F _ fun H1 F1 => ⟨!xs.isEmpty, Or.inl ⟨xs.map f, h.at F1.xs, by rw [List.isEmpty_map]⟩, k H1 F1⟩
theorem ev_chainO {r r' : R2} {tb tc : TE} {x y : V} {m : Option Bool} {b c : Bool} (hm : andC b m = some c) (ha : EvF B cs cs1 ta σ x) (hb : EvF B cs1 cs2 tb σ y) (h1 : RvF B cs2 r x y (.bl b)) (h2 : ∀ z, m = some z → ∃ w, EvF B cs2 cs2 tc σ w ∧ RvF B cs2 r' y w (.bl z)) : EvF B cs cs2 (tChain r r' ta tb tc) σ (.bl c) := fun ys H F Q q =>
  ha ys H F _ fun H1 F1 => hb ys H1 F1 _ fun H2 F2 => h1 H2 F2.xs _ ⟨b, rfl, by
    unfold andC at hm
    cases b with
    | true =>
      obtain ⟨w, e1, e2⟩ := h2 c hm
      show tc σ H2 _
      exact e1 ys H2 F2 _ fun H3 F3 => e2 H3 F3.xs _ (q H3 F3)
    | false =>
      cases hm
      show Q (.bl false) H2
      exact q H2 F2⟩
end
/-! ### statements -/
section
variable {K : PySem.W.Frag} {σ σ' : L2.St} {B H H' : Hp} {cs cs' cs1 cs2 cs3 xs : Cs} {ta tb te tx : TE} {t u : TT} {x y z v : V} {D : Ends} {tu tw tz : TS} {i j k : Nat} {p a : Addr} {A : Type} {f : A → V} {o : HO}
theorem g_asg (F : Fr B cs H) (h : EvF B cs cs1 te σ v) (hσ : σ.set i (some v) = σ') (k : ∀ H1, Fr B cs1 H1 → tz D σ' H1) : tSeq (tAsg te (gName i)) tz D σ H := by
  subst hσ
  exact h [] H F _ fun H1 F1 => k H1 F1
theorem g_asgN (F : Fr B cs H) (h : EvN B cs cs1 te σ o) (k : ∀ p H1, Fr B ((p, o) :: cs1) H1 → tz D (σ.set i (some (.ref p))) H1) : tSeq (tAsg te (gName i)) tz D σ H :=
  h [] H F _ fun p H1 F1 => k p H1 F1
theorem g_ret (F : Fr B cs H) (h : EvF B cs cs1 te σ v) (k : ∀ H1, Fr B cs1 H1 → D.rt v H1) : tRet te D σ H := h [] H F _ k
theorem g_retN (F : Fr B cs H) (h : EvN B cs cs1 te σ o) (k : ∀ p H1, Fr B ((p, o) :: cs1) H1 → D.rt (.ref p) H1) : tRet te D σ H := h [] H F _ k
theorem g_aug {r : R2} (F : Fr B cs H) (hx : σ[i]? = some (some x)) (h : EvF B cs cs1 te σ y) (hr : RvF B cs1 r x y z) (hσ : σ.set i (some z) = σ') (k : ∀ H1, Fr B cs1 H1 → tz D σ' H1) : tSeq (tAug i te r) tz D σ H := by
  subst hσ
  exact ⟨x, hx, h [] H F _ fun H1 F1 => hr H1 F1 _ (k H1 F1)⟩
theorem g_drop (F : Fr B cs H) (h : EvF B cs cs1 te σ v) (k : ∀ H1, Fr B cs1 H1 → tz D σ H1) : tSeq (tDrop te) tz D σ H := h [] H F _ fun H1 F1 => k H1 F1
theorem g_dropN (F : Fr B cs H) (h : EvN B cs cs1 te σ o) (k : ∀ H1, Fr B cs1 H1 → tz D σ H1) : tSeq (tDrop te) tz D σ H := h [] H F _ fun _ H1 F1 => k H1 F1.drop1
/-- xs.append(e) -/
theorem g_appV {vs : List V} (F : Fr B cs H) (hz : vs.length < 16777216) (ha : EvF B cs cs1 ta σ (.ref p)) (h : EvF B cs1 cs2 te σ v) (h0 : Rd B cs1 p (.lst vs)) (hi : cs2[i]? = some (p, .lst vs)) (hcs : cs2.set i (p, .lst (vs ++ [v])) = cs') (k : ∀ H1, Fr B cs' H1 → tz D σ H1) :
    tSeq (tDrop (tBM K "list" rAppend ta (tCons te tNil))) tz D σ H := by
  subst hcs
  refine ha [] H F _ fun H1 F1 => ⟨Or.inl ⟨rfl, vs, Evl.sq_of (h0.at F1)⟩, h [] H1 F1 _ fun H2 F2 => ⟨p, vs, v, rfl, rfl, F2.get i hi, by rw [sizeLine_eq]; exact hz, ?_⟩⟩
  exact k _ (Fr.upd F2 i hi)
theorem g_app {ys zs : List A} {w : A} (F : Fr B cs H) (hm : appC ys w = some zs) (ha : EvF B cs cs1 ta σ (.ref p)) (h : EvF B cs1 cs2 te σ (f w)) (h0 : Rd B cs1 p (.lst (ys.map f))) (hi : cs2[i]? = some (p, .lst (ys.map f))) (hcs : cs2.set i (p, .lst (zs.map f)) = cs') (k : ∀ H1, Fr B cs' H1 → tz D σ H1) :
    tSeq (tDrop (tBM K "list" rAppend ta (tCons te tNil))) tz D σ H := by
  obtain ⟨hz, rfl⟩ := of_grd hm
  rw [List.map_append] at hcs
  exact g_appV F (by rw [List.length_map]; exact hz) ha h h0 hi hcs k
/-- xs.append(a new object) -/
theorem g_appN {vs : List V} (F : Fr B cs H) (hz : vs.length < 16777216) (ha : EvF B cs cs1 ta σ (.ref p)) (h : EvN B cs1 cs2 te σ o) (h0 : Rd B cs1 p (.lst vs)) (hi : cs2[i]? = some (p, .lst vs)) (k : ∀ q H1, Fr B ((q, o) :: cs2.set i (p, .lst (vs ++ [.ref q]))) H1 → tz D σ H1) :
    tSeq (tDrop (tBM K "list" rAppend ta (tCons te tNil))) tz D σ H := by
  refine ha [] H F _ fun H1 F1 => ⟨Or.inl ⟨rfl, vs, Evl.sq_of (h0.at F1)⟩, h [] H1 F1 _ fun q H2 F2 => ⟨p, vs, .ref q, rfl, rfl, F2.get (i + 1) hi, by rw [sizeLine_eq]; exact hz, ?_⟩⟩
  exact k q _ (Fr.upd F2 (i + 1) hi)
theorem g_extN {ys ws zs : List A} (F : Fr B cs H) (hm : catC ys ws = some zs) (ha : EvF B cs cs1 ta σ (.ref p)) (h : EvN B cs1 cs2 te σ (.lst (ws.map f))) (h0 : Rd B cs1 p (.lst (ys.map f))) (hi : cs2[i]? = some (p, .lst (ys.map f))) (hcs : cs2.set i (p, .lst (zs.map f)) = cs') (k : ∀ H1, Fr B cs' H1 → tz D σ H1) :
    tSeq (tDrop (tBM K "list" rExtend ta (tCons te tNil))) tz D σ H := by
  subst hcs
  obtain ⟨hz, rfl⟩ := of_grd hm
  refine ha [] H F _ fun H1 F1 => ⟨Or.inl ⟨rfl, _, Evl.sq_of (h0.at F1)⟩, h [] H1 F1 _ fun q H2 F2 => ⟨p, q, ys.map f, ws.map f, rfl, rfl, F2.get (i + 1) hi, F2.get 0 rfl, by rw [List.length_map, List.length_map, sizeLine_eq]; exact hz, ?_⟩⟩
  rw [List.map_append] at k
  exact k _ (Fr.drop1 (Fr.upd F2 (i + 1) hi))
theorem g_ext {ys ws zs : List A} {q : Addr} (F : Fr B cs H) (hm : catC ys ws = some zs) (ha : EvF B cs cs1 ta σ (.ref p)) (h : EvF B cs1 cs2 te σ (.ref q)) (h0 : Rd B cs1 p (.lst (ys.map f))) (hq : Rd B cs2 q (.lst (ws.map f))) (hi : cs2[i]? = some (p, .lst (ys.map f))) (hcs : cs2.set i (p, .lst (zs.map f)) = cs') (k : ∀ H1, Fr B cs' H1 → tz D σ H1) :
    tSeq (tDrop (tBM K "list" rExtend ta (tCons te tNil))) tz D σ H := by
  subst hcs
  obtain ⟨hz, rfl⟩ := of_grd hm
  refine ha [] H F _ fun H1 F1 => ⟨Or.inl ⟨rfl, _, Evl.sq_of (h0.at F1)⟩, h [] H1 F1 _ fun H2 F2 => ⟨p, q, ys.map f, ws.map f, rfl, rfl, F2.get i hi, hq.at F2, by rw [List.length_map, List.length_map, sizeLine_eq]; exact hz, ?_⟩⟩
  rw [List.map_append] at k
  exact k _ (Fr.upd F2 i hi)
/-- xs[n] = e -/
theorem g_setV {vs : List V} {n : Int} {j : Nat} (F : Fr B cs H) (hj : ixN vs.length n = some j) (h : EvF B cs cs1 te σ v) (ha : EvF B cs1 cs2 ta σ (.ref p)) (hb : EvF B cs2 cs3 tb σ (.int n)) (hi : cs3[i]? = some (p, .lst vs)) (hcs : cs3.set i (p, .lst (vs.set j v)) = cs') (k : ∀ H1, Fr B cs' H1 → tz D σ H1) :
    tSeq (tAsg te (gSub ta tb rSetL)) tz D σ H := by
  subst hcs
  exact h [] H F _ fun H1 F1 => ha [] H1 F1 _ fun H2 F2 => hb [] H2 F2 _ fun H3 F3 => ⟨p, vs, n, j, rfl, rfl, F3.get i hi, hj, k _ (Fr.upd F3 i hi)⟩
theorem g_set {ys zs : List A} {w : A} {n : Int} (F : Fr B cs H) (hm : setC ys n w = some zs) (h : EvF B cs cs1 te σ (f w)) (ha : EvF B cs1 cs2 ta σ (.ref p)) (hb : EvF B cs2 cs3 tb σ (.int n)) (hi : cs3[i]? = some (p, .lst (ys.map f))) (hcs : cs3.set i (p, .lst (zs.map f)) = cs') (k : ∀ H1, Fr B cs' H1 → tz D σ H1) :
    tSeq (tAsg te (gSub ta tb rSetL)) tz D σ H := by
  unfold setC at hm
  cases hj : ixN ys.length n with
  | none => rw [hj] at hm; cases hm
  | some j =>
    rw [hj] at hm
    cases hm
    rw [List.map_set] at hcs
    exact g_setV F (by rw [List.length_map]; exact hj) h ha hb hi hcs k
/-- xs[n] op= e -/
def rGetL (K : PySem.W.Frag) : V → V → Hp → VK → Prop := fun o i H Q => ∃ p vs n v, o = .ref p ∧ i = .int n ∧ SqL K H p vs ∧ atI vs n = some v ∧ Q v H
theorem get_list {X : Cx} {K : PySem.W.Frag} (h : X.K = K := by rfl) : PGet X (rGetL K) := by
  subst h
  intro pins s σ H o i ov iv Q I ro ri t
  obtain ⟨p, vs, n, z, rfl, rfl, hS, hv, q⟩ := t
  cases ro
  obtain ⟨t, rfl⟩ := ri
  obtain ⟨its, r, pl, hz⟩ := I.list hS
  obtain ⟨j, h1, h2, h3, h4, h5⟩ := atI_get hv
  obtain ⟨w, ew, rw'⟩ := r.get h2
  have hl := r.length
  have hn := line63
  have fin : EP X pins σ Q w s := ⟨z, H, I, rw', q⟩
  by_cases h0 : 0 ≤ n
  · have hj : n.toNat = j := by
      rw [seqIndex_of h0 h5] at h1
      exact Option.some.inj h1
    exact wpAny_getItem_list pl.isList h0 (by omega) (by rw [hj]; simpa using ew) fin
  · have hj : (n + (its.toArray.size : Int)).toNat = j := by
      rw [seqIndex_neg (by omega) h4] at h1
      rw [List.size_toArray, ← hl]
      exact Option.some.inj h1
    exact wpAny_getItem_list_neg pl.isList (by omega) (by rw [List.size_toArray] <;> omega) (by omega) (by rw [hj]; simpa using ew) fin
theorem g_augS {ys zs : List A} {w e : A} {n : Int} {y : V} {r : R2} (F : Fr B cs H) (hg : atI ys n = some w) (hm : setC ys n e = some zs) (ha : EvF B cs cs1 ta σ (.ref p)) (hb : EvF B cs1 cs2 tb σ (.int n)) (hp : RdS K B cs2 p (ys.map f)) (h : EvF B cs2 cs3 te σ y) (hr : RvF B cs3 r (f w) y (f e)) (hi : cs3[i]? = some (p, .lst (ys.map f))) (hcs : cs3.set i (p, .lst (zs.map f)) = cs') (k : ∀ H1, Fr B cs' H1 → tz D σ H1) :
    tSeq (tAugS ta tb te (rGetL K) r rSetL) tz D σ H := by
  subst hcs
  unfold setC at hm
  cases hj : ixN ys.length n with
  | none => rw [hj] at hm; cases hm
  | some j =>
    rw [hj] at hm
    cases hm
    rw [List.map_set] at k
    exact ha [] H F _ fun H1 F1 => hb [] H1 F1 _ fun H2 F2 => ⟨p, ys.map f, n, f w, rfl, rfl, hp.at F2, by rw [atI_map, hg]; rfl, h [] H2 F2 _ fun H3 F3 => hr H3 F3 _ ⟨p, ys.map f, n, j, rfl, rfl, F3.get i hi, by rw [List.length_map]; exact hj, k _ (Fr.upd F3 i hi)⟩⟩
/-- if: a way at a time -/
theorem s_if (F : Fr B cs H) {b : Bool} (h : EtF B cs cs1 t σ b) (h1 : b = true → ∀ H1, Fr B cs1 H1 → tu D σ H1) (h2 : b = false → ∀ H1, Fr B cs1 H1 → tw D σ H1) : tIfS t tu tw D σ H := h [] H F _ fun H1 F1 => by
  cases b with
  | true =>
    show tu D σ H1
    exact h1 rfl H1 F1
  | false =>
    show tw D σ H1
    exact h2 rfl H1 F1
theorem g_if (F : Fr B cs H) {b : Bool} (h : EtF B cs cs1 t σ b) (h1 : b = true → ∀ H1, Fr B cs1 H1 → tu { D with nx := tz D } σ H1) (h2 : b = false → ∀ H1, Fr B cs1 H1 → tw { D with nx := tz D } σ H1) : tSeq (tIfS t tu tw) tz D σ H := s_if (D := { D with nx := tz D }) F h h1 h2
theorem g_when (F : Fr B cs H) {b : Bool} (h : EtF B cs cs1 t σ b) (h1 : b = true → ∀ H1, Fr B cs1 H1 → tu { D with nx := tz D } σ H1) (h2 : b = false → ∀ H1, Fr B cs1 H1 → tz D σ H1) : tSeq (tIfS t tu tNext) tz D σ H := s_if (D := { D with nx := tz D }) F h h1 h2
theorem s_when (F : Fr B cs H) {b : Bool} (h : EtF B cs cs1 t σ b) (h1 : b = true → ∀ H1, Fr B cs1 H1 → tu D σ H1) (h2 : b = false → ∀ H1, Fr B cs1 H1 → D.nx σ H1) : tIfS t tu tNext D σ H := s_if F h h1 h2
/-- unpacking -/
theorem gt2 {i j : Nat} {v1 v2 : V} {Q : L2.St → Hp → Prop} (ht : SqT K H a [v1, v2]) (hσ : (σ.set i (some v1)).set j (some v2) = σ') (q : Q σ' H) : gTup K 2 (gCons (gName i) (gCons (gName j) gNil)) (.ref a) σ H Q := by
  subst hσ
  exact ⟨a, _, rfl, ht, rfl, v1, [v2], rfl, v2, [], rfl, rfl, q⟩
theorem gt3 {i j k : Nat} {v1 v2 v3 : V} {Q : L2.St → Hp → Prop} (ht : SqT K H a [v1, v2, v3]) (hσ : ((σ.set i (some v1)).set j (some v2)).set k (some v3) = σ') (q : Q σ' H) : gTup K 3 (gCons (gName i) (gCons (gName j) (gCons (gName k) gNil))) (.ref a) σ H Q := by
  subst hσ
  exact ⟨a, _, rfl, ht, rfl, v1, [v2, v3], rfl, v2, [v3], rfl, v3, [], rfl, rfl, q⟩
theorem gt4 {i j k l : Nat} {v1 v2 v3 v4 : V} {Q : L2.St → Hp → Prop} (ht : SqT K H a [v1, v2, v3, v4]) (hσ : (((σ.set i (some v1)).set j (some v2)).set k (some v3)).set l (some v4) = σ') (q : Q σ' H) : gTup K 4 (gCons (gName i) (gCons (gName j) (gCons (gName k) (gCons (gName l) gNil)))) (.ref a) σ H Q := by
  subst hσ
  exact ⟨a, _, rfl, ht, rfl, v1, [v2, v3, v4], rfl, v2, [v3, v4], rfl, v3, [v4], rfl, v4, [], rfl, rfl, q⟩
theorem g_unpE {g : TG} (F : Fr B cs H) (h : EvF B cs cs1 te σ v) (k : ∀ H1, Fr B cs1 H1 → g v σ H1 (tz D)) : tSeq (tAsg te g) tz D σ H := h [] H F _ fun H1 F1 => k H1 F1
theorem g_unpN {g : TG} (F : Fr B cs H) (h : EvN B cs cs1 te σ o) (k : ∀ p H1, Fr B ((p, o) :: cs1) H1 → g (.ref p) σ H1 (tz D)) : tSeq (tAsg te g) tz D σ H := h [] H F _ fun p H1 F1 => k p H1 F1
/-- calls -/
theorem ev_call {sp : Sp} {dvs vs : List V} {E : XK} {tA : TA} (ha : EaF B cs cs1 tA σ vs) (hs : ∀ (ys : Cs) (H : Hp), Fr B (ys ++ cs1) H → ∀ Q : VK, (∀ H', Fr B (ys ++ cs2) H' → Q v H') → sp (vs ++ dvs) H Q E) : EvF B cs cs2 (tCall sp dvs E tA) σ v := fun ys H F Q q => ha ys H F _ fun H1 F1 => hs ys H1 F1 Q q
theorem en_call {sp : Sp} {dvs vs : List V} {E : XK} {tA : TA} (ha : EaF B cs cs1 tA σ vs) (hs : ∀ (ys : Cs) (H : Hp), Fr B (ys ++ cs1) H → ∀ Q : VK, (∀ p H', Fr B ((p, o) :: (ys ++ cs2)) H' → Q (.ref p) H') → sp (vs ++ dvs) H Q E) : EvN B cs cs2 (tCall sp dvs E tA) σ o := fun ys H F Q q => ha ys H F _ fun H1 F1 => hs ys H1 F1 Q q
theorem ta_val {tr : TA} {Q : List V → Hp → Prop} (F : Fr B (xs ++ cs) H) (h : EvF B cs cs1 te σ v) (k : ∀ H1, Fr B (xs ++ cs1) H1 → tr σ H1 fun vs H2 => Q (v :: vs) H2) : tCons te tr σ H Q := h xs H F _ k
theorem ta_new {tr : TA} {Q : List V → Hp → Prop} (F : Fr B (xs ++ cs) H) (h : EvN B cs cs1 te σ o) (k : ∀ p H1, Fr B (((p, o) :: xs) ++ cs1) H1 → tr σ H1 fun vs H2 => Q (.ref p :: vs) H2) : tCons te tr σ H Q := h xs H F _ k
/-- a statement that calls: the promise asked at the very state -/
theorem g_call {g : TG} {sp : Sp} {dvs vs : List V} {E : XK} {tA : TA} (F : Fr B cs H) (ha : EaF B cs cs1 tA σ vs) (hs : ∀ H1, Fr B cs1 H1 → sp (vs ++ dvs) H1 (fun v H2 => g v σ H2 (tz D)) E) : tSeq (tAsg (tCall sp dvs E tA) g) tz D σ H := ha [] H F _ fun H1 F1 => hs H1 F1
theorem g_callR {sp : Sp} {dvs vs : List V} {E : XK} {tA : TA} (F : Fr B cs H) (ha : EaF B cs cs1 tA σ vs) (hs : ∀ H1, Fr B cs1 H1 → sp (vs ++ dvs) H1 D.rt E) : tRet (tCall sp dvs E tA) D σ H := ha [] H F _ fun H1 F1 => hs H1 F1
end
/-! ### comprehensions -/
theorem mapO_some {A C : Type} {f : A → Option C} : ∀ {xs : List A} {ys : List C}, mapO f xs = some ys → ys.length = xs.length ∧ ∀ (i : Nat) x, xs[i]? = some x → ∃ y, ys[i]? = some y ∧ f x = some y
  | [], ys, h => by
    cases h
    exact ⟨rfl, fun i x hx => by simp at hx⟩
  | x :: l, ys, h => by
    obtain ⟨y, hy, h⟩ := of_bind h
    obtain ⟨r, hr, h⟩ := of_bind h
    cases h
    obtain ⟨h1, h2⟩ := mapO_some hr
    refine ⟨by rw [List.length_cons, List.length_cons, h1], fun i z hz => ?_⟩
    cases i with
    | zero =>
      cases hz
      exact ⟨y, rfl, hy⟩
    | succ i => exact h2 i z hz
theorem rngI_at {lo hi : Int} {i : Nat} {x : Int} (h : (rngI lo hi)[i]? = some x) : x = lo + (i : Int) ∧ i < (hi - lo).toNat := by
  unfold rngI at h
  rw [List.getElem?_map] at h
  cases e : (List.range (hi - lo).toNat)[i]? with
  | none => rw [e] at h; cases h
  | some k =>
    rw [e] at h
    obtain ⟨h1, h2⟩ := List.getElem?_eq_some_iff.mp e
    rw [List.length_range] at h1
    rw [List.getElem_range] at h2
    cases h
    rw [← h2]
    exact ⟨rfl, h1⟩
theorem rngI_get {lo hi : Int} {i : Nat} (h : i < (hi - lo).toNat) : (rngI lo hi)[i]? = some (lo + (i : Int)) := by
  unfold rngI
  rw [List.getElem?_map, List.getElem?_range h]
  rfl
theorem rngI_length (lo hi : Int) : (rngI lo hi).length = (hi - lo).toNat := by
  unfold rngI
  rw [List.length_map, List.length_range]
section
variable {K : PySem.W.Frag} {σ : L2.St} {B H : Hp} {cs cs1 : Cs} {tl te : TE} {tt : TT} {a : Addr} {A C S : Type} {f : A → V} {g : C → V} {xs : List A} {ys : List C} {j : Nat} {vs : List Nat}
/-- the state of a comprehension's turn: the list so far at D, then the others -/
theorem lc_step {F0 : Cs} {H' : Hp} {D : Addr} {acc : List V} {y : V} {σ2 : L2.St} {cs cs' zs : Cs} (hF : Fr B ((D, .lst acc) :: (zs ++ cs)) H') (hz : acc.length < 16777216) (he : EvF B cs cs' te σ2 y) {P1 : Hp → Prop} (hP : ∀ H4, Fr B ((D, .lst (acc ++ [y])) :: (zs ++ cs')) H4 → P1 H4) :
    tYes σ2 H' fun b H3 => if b = true then te σ2 H3 fun y H4 => ∃ acc, H4 D = some (.lst acc) ∧ acc.length < sizeLine ∧ P1 (L2.upd H4 D (.lst (acc ++ [y]))) else P1 H3 := by
  show te σ2 H' fun y H4 => ∃ acc, H4 D = some (.lst acc) ∧ acc.length < sizeLine ∧ P1 (L2.upd H4 D (.lst (acc ++ [y])))
  refine he ((D, .lst acc) :: zs) H' hF _ fun H4 F4 => ⟨acc, F4.get 0 rfl, by rw [sizeLine_eq]; exact hz, hP _ ?_⟩
  exact Fr.upd F4 0 rfl
/-- turns told by a function of the place -/
def LcOk (B : Hp) (cs : Cs) (te : TE) (σt : V → L2.St) (it : Nat → Option V) (ys : List V) : Prop := ∀ (i : Nat) v, it i = some v → ∃ y, ys[i]? = some y ∧ EvF B cs cs te (σt v) y
theorem take_snoc {A : Type} {l : List A} {i : Nat} {y : A} (h : l[i]? = some y) : l.take (i + 1) = l.take i ++ [y] := by rw [List.take_add_one, h]; rfl
theorem lcok_map {m : A → Option C} {σt : V → L2.St} (hm : mapO m xs = some ys) (he : ∀ x y, m x = some y → EvF B cs cs te (σt (f x)) (g y)) : LcOk B cs te σt (fun i => (xs.map f)[i]?) (ys.map g) := by
  intro i v hv
  have hv : (xs.map f)[i]? = some v := hv
  rw [List.getElem?_map] at hv
  cases hx : xs[i]? with
  | none => rw [hx] at hv; cases hv
  | some x =>
    rw [hx] at hv
    cases hv
    obtain ⟨y, hy, hf⟩ := (mapO_some hm).2 i x hx
    exact ⟨g y, by rw [List.getElem?_map, hy]; rfl, he x y hf⟩
theorem en_lcL {ws : List V} {zs : List V} (hx : RdS K B cs1 a ws) (ha : EvF B cs cs1 tl σ (.ref a)) (hz : ws.length ≤ 16777216) (hl : zs.length = ws.length) (hw : ∀ x, wipe ((wipe σ vs).set j (some x)) vs = wipe σ vs)
    (he : LcOk B cs1 te (fun v => (wipe σ vs).set j (some v)) (fun i => ws[i]?) zs) : EvN B cs cs1 (tLc (iList K tl) (gName j) tYes te vs) σ (.lst zs) := by
  refine fun xs' H F Q q => ha xs' H F _ fun H1 F1 => ⟨a, rfl, ⟨ws, (hx.app (xs := xs')).at F1⟩, fun Dl hD =>
    lc_list (xs := ws) (fun i H' => Fr B ((Dl, .lst (zs.take i)) :: (xs' ++ cs1)) H') ?_ (fun i H' _ p => (hx.app (xs := xs')).at p.drop1) (fun i v H' hi p => ⟨hw v, ?_⟩) (fun H' p => q Dl H' ?_)⟩
  · exact F1.new1 hD
  · obtain ⟨y, hy, hf⟩ := he i v hi
    have hlt := (List.getElem?_eq_some_iff.mp hi).1
    refine lc_step (F0 := []) p (by rw [List.length_take]; omega) hf fun H4 F4 => ?_
    rw [take_snoc hy]
    exact F4
  · rw [List.take_of_length_le (by omega)] at p
    exact p
theorem en_lcN {ws : List V} {zs : List V} (ha : EvN B cs cs1 tl σ (.lst ws)) (hz : ws.length ≤ 16777216) (hl : zs.length = ws.length) (hw : ∀ x, wipe ((wipe σ vs).set j (some x)) vs = wipe σ vs)
    (he : LcOk B cs1 te (fun v => (wipe σ vs).set j (some v)) (fun i => ws[i]?) zs) : EvN B cs cs1 (tLc (iList K tl) (gName j) tYes te vs) σ (.lst zs) := by
  refine fun xs' H F Q q => ha xs' H F _ fun a H1 F1 => ⟨a, rfl, ⟨ws, Evl.sq_of (F1.get 0 rfl)⟩, fun Dl hD =>
    lc_list (xs := ws) (fun i H' => Fr B ((Dl, .lst (zs.take i)) :: (((a, .lst ws) :: xs') ++ cs1)) H') ?_ (fun i H' _ p => Evl.sq_of (p.get 1 rfl)) (fun i v H' hi p => ⟨hw v, ?_⟩) (fun H' p => q Dl H' ?_)⟩
  · exact F1.new1 hD
  · obtain ⟨y, hy, hf⟩ := he i v hi
    have hlt := (List.getElem?_eq_some_iff.mp hi).1
    refine lc_step (F0 := []) p (by rw [List.length_take]; omega) hf fun H4 F4 => ?_
    rw [take_snoc hy]
    exact F4
  · rw [List.take_of_length_le (by omega)] at p
    exact p.sub (.cons₂ _ (List.sublist_cons_self _ _))
theorem en_lcR2 {tA : TA} {lo hi : Int} {rs : List Int} {zs : List V} (hr : rngC lo hi = some rs) (ha : EaF B cs cs1 tA σ [.int lo, .int hi]) (hz : rs.length ≤ 16777216) (hl : zs.length = rs.length) (hw : ∀ x, wipe ((wipe σ vs).set j (some x)) vs = wipe σ vs)
    (he : LcOk B cs1 te (fun v => (wipe σ vs).set j (some v)) (fun i => (rs.map V.int)[i]?) zs) : EvN B cs cs1 (tLc (iRng2 tA) (gName j) tYes te vs) σ (.lst zs) := by
  obtain ⟨⟨r1, r2, r3, r4⟩, rfl⟩ := of_grd hr
  rw [rngI_length] at hl hz
  refine fun xs' H F Q q => ha xs' H F _ fun H1 F1 => ⟨lo, hi, rfl, ⟨r1, r2, r3, r4⟩, fun Dl hD =>
    lc_range (lo := lo) (n := (hi - lo).toNat) (fun i H' => Fr B ((Dl, .lst (zs.take i)) :: (xs' ++ cs1)) H') (F1.new1 hD) (fun i H' hi' p => ⟨hw _, ?_⟩) (fun H' p => q Dl H' ?_)⟩
  · obtain ⟨y, hy, hf⟩ := he i (.int (lo + (i : Int))) (by show (List.map V.int _)[i]? = _; rw [List.getElem?_map, rngI_get hi']; rfl)
    refine lc_step (F0 := []) p (by rw [List.length_take]; omega) hf fun H4 F4 => ?_
    rw [take_snoc hy]
    exact F4
  · rw [List.take_of_length_le (by omega)] at p
    exact p
theorem en_lcR1 {tA : TA} {hi : Int} {rs : List Int} {zs : List V} (hr : rngC 0 hi = some rs) (ha : EaF B cs cs1 tA σ [.int hi]) (hz : rs.length ≤ 16777216) (hl : zs.length = rs.length) (hw : ∀ x, wipe ((wipe σ vs).set j (some x)) vs = wipe σ vs)
    (he : LcOk B cs1 te (fun v => (wipe σ vs).set j (some v)) (fun i => (rs.map V.int)[i]?) zs) : EvN B cs cs1 (tLc (iRng1 tA) (gName j) tYes te vs) σ (.lst zs) := by
  obtain ⟨⟨r1, r2, r3, r4⟩, rfl⟩ := of_grd hr
  rw [rngI_length, Int.sub_zero] at hl hz
  refine fun xs' H F Q q => ha xs' H F _ fun H1 F1 => ⟨hi, rfl, r3, r4, fun Dl hD =>
    lc_range (lo := 0) (n := hi.toNat) (fun i H' => Fr B ((Dl, .lst (zs.take i)) :: (xs' ++ cs1)) H') (F1.new1 hD) (fun i H' hi' p => ⟨hw _, ?_⟩) (fun H' p => q Dl H' ?_)⟩
  · obtain ⟨y, hy, hf⟩ := he i (.int (0 + (i : Int))) (by show (List.map V.int _)[i]? = _; rw [List.getElem?_map, rngI_get (by rw [Int.sub_zero]; exact hi')]; rfl)
    refine lc_step (F0 := []) p (by rw [List.length_take]; omega) hf fun H4 F4 => ?_
    rw [take_snoc hy]
    exact F4
  · rw [List.take_of_length_le (by omega)] at p
    exact p
theorem mlen {m : A → Option C} (hm : mapO m xs = some ys) : (ys.map g).length = (xs.map f).length := by rw [List.length_map, List.length_map, (mapO_some hm).1]
theorem mlenR {m : A → Option C} (hm : mapO m xs = some ys) : (ys.map g).length = xs.length := by rw [List.length_map, (mapO_some hm).1]
end
/-! ### loops: the items v of a walked thing, told by R -/
section
variable {K : PySem.W.Frag} {σ : L2.St} {B H : Hp} {cs cs1 : Cs} {tl : TE} {D : Ends} {tu tz : TS} {g : TG} {j : Nat} {a : Addr} {A S R : Type} {f : A → V} {xs : List A}
theorem itF_at {m : A → S → Option (Fl S R)} {r : Fl S R} : ∀ {xs : List A} {x : A} {s : S}, itF m (x :: xs) s = some r → ∃ r', m x s = some r' ∧ (∀ s', r' = .nx s' → itF m xs s' = some r) ∧ (∀ s', r' = .bk s' → r = .nx s') ∧ (∀ q, r' = .rt q → r = .rt q) := by
  intro xs x s h
  obtain ⟨r', h1, h2⟩ := of_bind h
  refine ⟨r', h1, fun s' e => ?_, fun s' e => ?_, fun q e => ?_⟩
  · subst e
    exact h2
  · subst e
    exact (Option.some.inj h2).symm
  · subst e
    exact (Option.some.inj h2).symm
theorem itM_at {m : A → S → Option S} {r : S} {xs : List A} {x : A} {s : S} (h : itM m (x :: xs) s = some r) : ∃ s', m x s = some s' ∧ itM m xs s' = some r := of_bind h
theorem drop_at {A : Type} {xs : List A} {i : Nat} {x : A} (h : xs[i]? = some x) : xs.drop i = x :: xs.drop (i + 1) := by
  obtain ⟨h1, h2⟩ := List.getElem?_eq_some_iff.mp h
  rw [List.drop_eq_getElem_cons h1, h2]
/-- what a loop's turn is asked -/
def TurnF (D : Ends) (tu tz : TS) (g : TG) (m : A → S → Option (Fl S R)) (r : Fl S R) (J : S → L2.St → Hp → Prop) (IT : V → A → Prop) : Prop :=
  ∀ x v s r' σ' H' (N : L2.St → Hp → Prop), IT v x → m x s = some r' → J s σ' H' → (∀ s', r' = .bk s' → r = .nx s') → (∀ q, r' = .rt q → r = .rt q) → (∀ s' σ2 H2, r = .nx s' → J s' σ2 H2 → tz D σ2 H2) → (∀ s' σ2 H2, r' = .nx s' → J s' σ2 H2 → N σ2 H2) →
    g v σ' H' fun σ2 H2 => tu { D with nx := N, ct := N, bk := tz D } σ2 H2
def TurnM (D : Ends) (tu tz : TS) (g : TG) (m : A → S → Option S) (J : S → L2.St → Hp → Prop) (IT : V → A → Prop) : Prop :=
  ∀ x v s r' σ' H' (N : L2.St → Hp → Prop), IT v x → m x s = some r' → J s σ' H' → (∀ σ2 H2, J r' σ2 H2 → N σ2 H2) → g v σ' H' fun σ2 H2 => tu { D with nx := N, ct := N, bk := tz D } σ2 H2
/-- the items of a list vs are those of xs -/
def Its (IT : V → A → Prop) (vs : List V) (xs : List A) : Prop := vs.length = xs.length ∧ ∀ (i : Nat) v, vs[i]? = some v → ∃ x, xs[i]? = some x ∧ IT v x
theorem its_map (f : A → V) (xs : List A) : Its (fun v x => v = f x) (xs.map f) xs := ⟨List.length_map _, fun i v h => by
  rw [List.getElem?_map] at h
  cases hx : xs[i]? with
  | none => rw [hx] at h; cases h
  | some x =>
    rw [hx] at h
    cases h
    exact ⟨x, rfl, rfl⟩⟩
theorem its_rp {A : Type} {K : PySem.W.Frag} {G : Cl} {B : Hp} {f : A → Mn.D} {xs : List A} {vs : List V} (r : Rps K G B vs (xs.map f)) : Its (fun v x => Rp K G B v (f x)) vs xs := ⟨r.ln, fun i v hv => by
  have hl := (List.getElem?_eq_some_iff.mp hv).1
  rw [r.ln] at hl
  obtain ⟨v', h1, h2⟩ := r.gt (i := i) (List.getElem?_eq_getElem hl)
  rw [hv] at h1
  cases h1
  exact ⟨_, List.getElem?_eq_getElem hl, h2⟩⟩
theorem w_forF {vs : List V} {m : A → S → Option (Fl S R)} {s0 : S} {r : Fl S R} {IT : V → A → Prop} (hm : itF m xs s0 = some r) (hI : Its IT vs xs) (J : S → L2.St → Hp → Prop) (F : Fr B cs H) (ha : EvF B cs cs1 tl σ (.ref a)) (hx : RdS K B cs1 a vs) (h0 : ∀ H1, Fr B cs1 H1 → J s0 σ H1)
    (hl : ∀ s σ' H', J s σ' H' → SqL K H' a vs) (hd : ∀ s σ' H', r = .nx s → J s σ' H' → tz D σ' H') (hs : TurnF D tu tz g m r J IT) : tSeq (tFor (iList K tl) g tu) tz D σ H := by
  refine ha [] H F _ fun H1 F1 => ⟨a, rfl, ⟨vs, hx.at F1⟩, for_list (xs := vs) (D := { D with nx := tz D }) (fun i σ' H' => ∃ s, itF m (xs.drop i) s = some r ∧ J s σ' H') ⟨s0, hm, h0 H1 F1⟩ (fun i σ' H' _ ⟨s, _, h⟩ => hl s σ' H' h) ?_ ?_⟩
  · rintro i v σ' H' hi ⟨s, hm', hJ⟩
    obtain ⟨x, hxi, hit⟩ := hI.2 i v hi
    rw [drop_at hxi] at hm'
    obtain ⟨r', e1, e2, e3, e4⟩ := itF_at hm'
    exact hs x v s r' σ' H' _ hit e1 hJ e3 e4 hd fun s' σ2 H2 er hJ2 => ⟨s', e2 s' er, hJ2⟩
  · rintro σ' H' ⟨s, hm', hJ⟩
    rw [hI.1, List.drop_of_length_le (Nat.le_refl _)] at hm'
    cases hm'
    exact hd s σ' H' rfl hJ
theorem w_forM {vs : List V} {m : A → S → Option S} {s0 r : S} {IT : V → A → Prop} (hm : itM m xs s0 = some r) (hI : Its IT vs xs) (J : S → L2.St → Hp → Prop) (F : Fr B cs H) (ha : EvF B cs cs1 tl σ (.ref a)) (hx : RdS K B cs1 a vs) (h0 : ∀ H1, Fr B cs1 H1 → J s0 σ H1)
    (hl : ∀ s σ' H', J s σ' H' → SqL K H' a vs) (hd : ∀ σ' H', J r σ' H' → tz D σ' H') (hs : TurnM D tu tz g m J IT) : tSeq (tFor (iList K tl) g tu) tz D σ H := by
  refine ha [] H F _ fun H1 F1 => ⟨a, rfl, ⟨vs, hx.at F1⟩, for_list (xs := vs) (D := { D with nx := tz D }) (fun i σ' H' => ∃ s, itM m (xs.drop i) s = some r ∧ J s σ' H') ⟨s0, hm, h0 H1 F1⟩ (fun i σ' H' _ ⟨s, _, h⟩ => hl s σ' H' h) ?_ ?_⟩
  · rintro i v σ' H' hi ⟨s, hm', hJ⟩
    obtain ⟨x, hxi, hit⟩ := hI.2 i v hi
    rw [drop_at hxi] at hm'
    obtain ⟨r', e1, e2⟩ := itM_at hm'
    exact hs x v s r' σ' H' _ hit e1 hJ fun σ2 H2 hJ2 => ⟨r', e2, hJ2⟩
  · rintro σ' H' ⟨s, hm', hJ⟩
    rw [hI.1, List.drop_of_length_le (Nat.le_refl _)] at hm'
    cases hm'
    exact hd σ' H' hJ
/-- over a new list, at p -/
theorem w_forFN {vs : List V} {m : A → S → Option (Fl S R)} {s0 : S} {r : Fl S R} {IT : V → A → Prop} (hm : itF m xs s0 = some r) (hI : Its IT vs xs) (J : Addr → S → L2.St → Hp → Prop) (F : Fr B cs H) (ha : EvN B cs cs1 tl σ (.lst vs)) (h0 : ∀ p H1, Fr B ((p, .lst vs) :: cs1) H1 → J p s0 σ H1)
    (hl : ∀ p s σ' H', J p s σ' H' → SqL K H' p vs) (hd : ∀ p s σ' H', r = .nx s → J p s σ' H' → tz D σ' H') (hs : ∀ p, TurnF D tu tz g m r (J p) IT) : tSeq (tFor (iList K tl) g tu) tz D σ H := by
  refine ha [] H F _ fun a H1 F1 => ⟨a, rfl, ⟨vs, Evl.sq_of (F1.get 0 rfl)⟩, for_list (xs := vs) (D := { D with nx := tz D }) (fun i σ' H' => ∃ s, itF m (xs.drop i) s = some r ∧ J a s σ' H') ⟨s0, hm, h0 a H1 F1⟩ (fun i σ' H' _ ⟨s, _, h⟩ => hl a s σ' H' h) ?_ ?_⟩
  · rintro i v σ' H' hi ⟨s, hm', hJ⟩
    obtain ⟨x, hxi, hit⟩ := hI.2 i v hi
    rw [drop_at hxi] at hm'
    obtain ⟨r', e1, e2, e3, e4⟩ := itF_at hm'
    exact hs a x v s r' σ' H' _ hit e1 hJ e3 e4 (hd a) fun s' σ2 H2 er hJ2 => ⟨s', e2 s' er, hJ2⟩
  · rintro σ' H' ⟨s, hm', hJ⟩
    rw [hI.1, List.drop_of_length_le (Nat.le_refl _)] at hm'
    cases hm'
    exact hd a s σ' H' rfl hJ
theorem w_forMN {vs : List V} {m : A → S → Option S} {s0 r : S} {IT : V → A → Prop} (hm : itM m xs s0 = some r) (hI : Its IT vs xs) (J : Addr → S → L2.St → Hp → Prop) (F : Fr B cs H) (ha : EvN B cs cs1 tl σ (.lst vs)) (h0 : ∀ p H1, Fr B ((p, .lst vs) :: cs1) H1 → J p s0 σ H1)
    (hl : ∀ p s σ' H', J p s σ' H' → SqL K H' p vs) (hd : ∀ p σ' H', J p r σ' H' → tz D σ' H') (hs : ∀ p, TurnM D tu tz g m (J p) IT) : tSeq (tFor (iList K tl) g tu) tz D σ H := by
  refine ha [] H F _ fun a H1 F1 => ⟨a, rfl, ⟨vs, Evl.sq_of (F1.get 0 rfl)⟩, for_list (xs := vs) (D := { D with nx := tz D }) (fun i σ' H' => ∃ s, itM m (xs.drop i) s = some r ∧ J a s σ' H') ⟨s0, hm, h0 a H1 F1⟩ (fun i σ' H' _ ⟨s, _, h⟩ => hl a s σ' H' h) ?_ ?_⟩
  · rintro i v σ' H' hi ⟨s, hm', hJ⟩
    obtain ⟨x, hxi, hit⟩ := hI.2 i v hi
    rw [drop_at hxi] at hm'
    obtain ⟨r', e1, e2⟩ := itM_at hm'
    exact hs a x v s r' σ' H' _ hit e1 hJ fun σ2 H2 hJ2 => ⟨r', e2, hJ2⟩
  · rintro σ' H' ⟨s, hm', hJ⟩
    rw [hI.1, List.drop_of_length_le (Nat.le_refl _)] at hm'
    cases hm'
    exact hd a σ' H' hJ
/-- over a range -/
theorem w_rngF2 {tA : TA} {lo hi : Int} {rs : List Int} {m : Int → S → Option (Fl S R)} {s0 : S} {r : Fl S R} (hr : rngC lo hi = some rs) (hm : itF m rs s0 = some r) (J : S → L2.St → Hp → Prop) (F : Fr B cs H) (ha : EaF B cs cs1 tA σ [.int lo, .int hi]) (h0 : ∀ H1, Fr B cs1 H1 → J s0 σ H1)
    (hd : ∀ s σ' H', r = .nx s → J s σ' H' → tz D σ' H') (hs : TurnF D tu tz g m r J (fun v x => v = .int x)) : tSeq (tFor (iRng2 tA) g tu) tz D σ H := by
  obtain ⟨⟨r1, r2, r3, r4⟩, rfl⟩ := of_grd hr
  refine ha [] H F _ fun H1 F1 => ⟨lo, hi, rfl, ⟨r1, r2, r3, r4⟩, for_range (lo := lo) (n := (hi - lo).toNat) (D := { D with nx := tz D }) (fun i σ' H' => ∃ s, itF m ((rngI lo hi).drop i) s = some r ∧ J s σ' H') ⟨s0, hm, h0 H1 F1⟩ ?_ ?_⟩
  · rintro i σ' H' hi' ⟨s, hm', hJ⟩
    rw [drop_at (rngI_get hi')] at hm'
    obtain ⟨r', e1, e2, e3, e4⟩ := itF_at hm'
    exact hs _ _ s r' σ' H' _ rfl e1 hJ e3 e4 hd fun s' σ2 H2 er hJ2 => ⟨s', e2 s' er, hJ2⟩
  · rintro σ' H' ⟨s, hm', hJ⟩
    rw [List.drop_of_length_le (by rw [rngI_length]; exact Nat.le_refl _)] at hm'
    cases hm'
    exact hd s σ' H' rfl hJ
theorem w_rngM2 {tA : TA} {lo hi : Int} {rs : List Int} {m : Int → S → Option S} {s0 r : S} (hr : rngC lo hi = some rs) (hm : itM m rs s0 = some r) (J : S → L2.St → Hp → Prop) (F : Fr B cs H) (ha : EaF B cs cs1 tA σ [.int lo, .int hi]) (h0 : ∀ H1, Fr B cs1 H1 → J s0 σ H1)
    (hd : ∀ σ' H', J r σ' H' → tz D σ' H') (hs : TurnM D tu tz g m J (fun v x => v = .int x)) : tSeq (tFor (iRng2 tA) g tu) tz D σ H := by
  obtain ⟨⟨r1, r2, r3, r4⟩, rfl⟩ := of_grd hr
  refine ha [] H F _ fun H1 F1 => ⟨lo, hi, rfl, ⟨r1, r2, r3, r4⟩, for_range (lo := lo) (n := (hi - lo).toNat) (D := { D with nx := tz D }) (fun i σ' H' => ∃ s, itM m ((rngI lo hi).drop i) s = some r ∧ J s σ' H') ⟨s0, hm, h0 H1 F1⟩ ?_ ?_⟩
  · rintro i σ' H' hi' ⟨s, hm', hJ⟩
    rw [drop_at (rngI_get hi')] at hm'
    obtain ⟨r', e1, e2⟩ := itM_at hm'
    exact hs _ _ s r' σ' H' _ rfl e1 hJ fun σ2 H2 hJ2 => ⟨r', e2, hJ2⟩
  · rintro σ' H' ⟨s, hm', hJ⟩
    rw [List.drop_of_length_le (by rw [rngI_length]; exact Nat.le_refl _)] at hm'
    cases hm'
    exact hd σ' H' hJ
theorem w_rngF1 {tA : TA} {hi : Int} {rs : List Int} {m : Int → S → Option (Fl S R)} {s0 : S} {r : Fl S R} (hr : rngC 0 hi = some rs) (hm : itF m rs s0 = some r) (J : S → L2.St → Hp → Prop) (F : Fr B cs H) (ha : EaF B cs cs1 tA σ [.int hi]) (h0 : ∀ H1, Fr B cs1 H1 → J s0 σ H1)
    (hd : ∀ s σ' H', r = .nx s → J s σ' H' → tz D σ' H') (hs : TurnF D tu tz g m r J (fun v x => v = .int x)) : tSeq (tFor (iRng1 tA) g tu) tz D σ H := by
  obtain ⟨⟨r1, r2, r3, r4⟩, rfl⟩ := of_grd hr
  refine ha [] H F _ fun H1 F1 => ⟨hi, rfl, r3, r4, for_range (lo := 0) (n := hi.toNat) (D := { D with nx := tz D }) (fun i σ' H' => ∃ s, itF m ((rngI 0 hi).drop i) s = some r ∧ J s σ' H') ⟨s0, hm, h0 H1 F1⟩ ?_ ?_⟩
  · rintro i σ' H' hi' ⟨s, hm', hJ⟩
    rw [drop_at (rngI_get (lo := 0) (by rw [Int.sub_zero]; exact hi'))] at hm'
    obtain ⟨r', e1, e2, e3, e4⟩ := itF_at hm'
    exact hs _ _ s r' σ' H' _ rfl e1 hJ e3 e4 hd fun s' σ2 H2 er hJ2 => ⟨s', e2 s' er, hJ2⟩
  · rintro σ' H' ⟨s, hm', hJ⟩
    rw [List.drop_of_length_le (by rw [rngI_length, Int.sub_zero]; exact Nat.le_refl _)] at hm'
    cases hm'
    exact hd s σ' H' rfl hJ
theorem w_rngM1 {tA : TA} {hi : Int} {rs : List Int} {m : Int → S → Option S} {s0 r : S} (hr : rngC 0 hi = some rs) (hm : itM m rs s0 = some r) (J : S → L2.St → Hp → Prop) (F : Fr B cs H) (ha : EaF B cs cs1 tA σ [.int hi]) (h0 : ∀ H1, Fr B cs1 H1 → J s0 σ H1)
    (hd : ∀ σ' H', J r σ' H' → tz D σ' H') (hs : TurnM D tu tz g m J (fun v x => v = .int x)) : tSeq (tFor (iRng1 tA) g tu) tz D σ H := by
  obtain ⟨⟨r1, r2, r3, r4⟩, rfl⟩ := of_grd hr
  refine ha [] H F _ fun H1 F1 => ⟨hi, rfl, r3, r4, for_range (lo := 0) (n := hi.toNat) (D := { D with nx := tz D }) (fun i σ' H' => ∃ s, itM m ((rngI 0 hi).drop i) s = some r ∧ J s σ' H') ⟨s0, hm, h0 H1 F1⟩ ?_ ?_⟩
  · rintro i σ' H' hi' ⟨s, hm', hJ⟩
    rw [drop_at (rngI_get (lo := 0) (by rw [Int.sub_zero]; exact hi'))] at hm'
    obtain ⟨r', e1, e2⟩ := itM_at hm'
    exact hs _ _ s r' σ' H' _ rfl e1 hJ fun σ2 H2 hJ2 => ⟨r', e2, hJ2⟩
  · rintro σ' H' ⟨s, hm', hJ⟩
    rw [List.drop_of_length_le (by rw [rngI_length, Int.sub_zero]; exact Nat.le_refl _)] at hm'
    cases hm'
    exact hd σ' H' hJ
/-- while -/
theorem w_while {t : TT} {c : S → Option Bool} {m : S → Option (Fl S R)} {s0 : S} {r : Fl S R} {n0 : Nat} (hm : whF c m n0 s0 = some r) (J : S → L2.St → Hp → Prop) (h0 : J s0 σ H)
    (hc : ∀ s b σ' H', c s = some b → J s σ' H' → ∀ Q : Bool → Hp → Prop, (∀ H1, J s σ' H1 → Q b H1) → t σ' H' Q) (hd : ∀ s σ' H', r = .nx s → J s σ' H' → tz D σ' H')
    (hs : ∀ s r' σ' H' (N : L2.St → Hp → Prop), m s = some r' → c s = some true → J s σ' H' → (∀ s', r' = .bk s' → r = .nx s') → (∀ q, r' = .rt q → r = .rt q) → (∀ s' σ2 H2, r = .nx s' → J s' σ2 H2 → tz D σ2 H2) → (∀ s' σ2 H2, r' = .nx s' → J s' σ2 H2 → N σ2 H2) → tu { D with nx := N, ct := N, bk := tz D } σ' H') :
    tSeq (tWhile t tu) tz D σ H := by
  refine ⟨fun n σ' H' => ∃ s, whF c m n s = some r ∧ J s σ' H', ⟨n0, s0, hm, h0⟩, ?_⟩
  rintro n σ' H' ⟨s, hw, hj⟩
  cases n with
  | zero => cases hw
  | succ n =>
    obtain ⟨b, hb, hw⟩ := of_bind hw
    refine hc s b σ' H' hb hj _ fun H1 hj1 => ?_
    cases b with
    | true =>
      rw [if_pos rfl] at hw
      obtain ⟨r', hr, hw⟩ := of_bind hw
      show ∃ N : L2.St → Hp → Prop, _
      refine ⟨fun σ2 H2 => ∃ s', r' = .nx s' ∧ J s' σ2 H2, ?_, hs s r' σ' H1 _ hr hb hj1 ?_ ?_ hd fun s' σ2 H2 e2 hj2 => ⟨s', e2, hj2⟩⟩
      · rintro σ2 H2 ⟨s', rfl, hj2⟩
        exact ⟨n, Nat.lt_succ_self n, s', hw, hj2⟩
      · rintro s' rfl
        exact (Option.some.inj hw).symm
      · rintro q rfl
        exact (Option.some.inj hw).symm
    | false =>
      rw [if_neg Bool.false_ne_true] at hw
      show tz D σ' H1
      exact hd s σ' H1 (Option.some.inj hw).symm hj1
end
/-! ### step by step: goals te σ H Q -/
section
variable {K : PySem.W.Frag} {σ σ' : L2.St} {B H H' : Hp} {cs cs' cs1 cs2 : Cs} {ta tb te : TE} {t : TT} {x y z v : V} {D : Ends} {tz tu tw : TS} {i j : Nat} {p a : Addr} {o : HO} {tA tr tK : TA} {Q : VK} {vs zs ws : List V} {r : R2}
theorem st_v (F : Fr B cs H) (h : EvF B cs cs1 te σ v) (k : ∀ H1, Fr B cs1 H1 → Q v H1) : te σ H Q := h [] H F _ k
theorem st_n (F : Fr B cs H) (h : EvN B cs cs1 te σ o) (k : ∀ p H1, Fr B ((p, o) :: cs1) H1 → Q (.ref p) H1) : te σ H Q := h [] H F _ k
theorem st_cons {QA : List V → Hp → Prop} (h : te σ H fun v H1 => tr σ H1 fun vs H2 => QA (v :: vs) H2) : tCons te tr σ H QA := h
theorem st_nil {QA : List V → Hp → Prop} (h : QA [] H) : tNil σ H QA := h
def ST (Q : VK) (vs : List V) (H : Hp) : Prop := vs.length ≤ sizeLine ∧ ∀ p, H p = none → Q (.ref p) (L2.upd H p (.tup vs))
def SL (Q : VK) (vs : List V) (H : Hp) : Prop := vs.length ≤ sizeLine ∧ ∀ p, H p = none → Q (.ref p) (L2.upd H p (.lst vs))
def SC (sp : Sp) (dvs : List V) (E : XK) (Q : VK) (vs : List V) (H : Hp) : Prop := sp (vs ++ dvs) H Q E
def SN (n m : Nat) (sp : Sp) (gV : List V → List V → List V) (E : XK) (Q : VK) (vs zs : List V) (H : Hp) : Prop := vs.length = n ∧ zs.length = m ∧ sp (gV vs zs) H Q E
theorem st_tup (h : tA σ H fun vs H1 => ST Q vs H1) : tTup tA σ H Q := h
theorem st_lst (h : tA σ H fun vs H1 => SL Q vs H1) : tLst tA σ H Q := h
theorem st_call {sp : Sp} {dvs : List V} {E : XK} (h : tA σ H fun vs H1 => SC sp dvs E Q vs H1) : tCall sp dvs E tA σ H Q := h
theorem st_callN {n m : Nat} {sp : Sp} {gV : List V → List V → List V} {E : XK} (h : tA σ H fun vs H1 => tK σ H1 fun zs H2 => SN n m sp gV E Q vs zs H2) : tCallN n m sp gV E tA tK σ H Q := h
theorem st_tupE (F : Fr B cs H) (k : ∀ p H1, Fr B ((p, .tup vs) :: cs) H1 → Q (.ref p) H1) (hl : Nat.ble vs.length 100000 = true := by rfl) : ST Q vs H := ⟨Evl.sz_of (Nat.le_of_ble_eq_true hl), fun p hp => k p _ (F.new1 hp)⟩
theorem st_lstE (F : Fr B cs H) (k : ∀ p H1, Fr B ((p, .lst vs) :: cs) H1 → Q (.ref p) H1) (hl : Nat.ble vs.length 100000 = true := by rfl) : SL Q vs H := ⟨Evl.sz_of (Nat.le_of_ble_eq_true hl), fun p hp => k p _ (F.new1 hp)⟩
theorem st_scE {sp : Sp} {dvs : List V} {E : XK} (h : sp (vs ++ dvs) H Q E) : SC sp dvs E Q vs H := h
theorem st_snE {n m : Nat} {sp : Sp} {gV : List V → List V → List V} {E : XK} (h : sp (gV vs zs) H Q E) (l1 : vs.length = n := by rfl) (l2 : zs.length = m := by rfl) : SN n m sp gV E Q vs zs H := ⟨l1, l2, h⟩
theorem st_op (h : ta σ H fun x H1 => tb σ H1 fun y H2 => r x y H2 Q) : tOp r ta tb σ H Q := h
theorem st_rv (F : Fr B cs H) (hr : RvF B cs r x y z) (k : Q z H) : r x y H Q := hr H F Q k
theorem st_if {b : Bool} (F : Fr B cs H) (h : EtF B cs cs1 t σ b) (h1 : b = true → ∀ H1, Fr B cs1 H1 → ta σ H1 Q) (h2 : b = false → ∀ H1, Fr B cs1 H1 → tb σ H1 Q) : tIf t ta tb σ H Q := h [] H F _ fun H1 F1 => by
  cases b with
  | true =>
    show ta σ H1 Q
    exact h1 rfl H1 F1
  | false =>
    show tb σ H1 Q
    exact h2 rfl H1 F1
theorem ss_asg {g : TG} (h : te σ H fun v H1 => g v σ H1 (tz D)) : tSeq (tAsg te g) tz D σ H := h
theorem ss_ret (h : te σ H D.rt) : tRet te D σ H := h
theorem ss_expr (h : te σ H fun _ H1 => tz D σ H1) : tSeq (tDrop te) tz D σ H := h
def SA (tz : TS) (D : Ends) (σ : L2.St) (p : Addr) (v : V) (H : Hp) : Prop := rAppend (.ref p) [v] H fun _ H1 => tz D σ H1
theorem ss_app (F : Fr B cs H) (ha : EvF B cs cs1 ta σ (.ref p)) (h0 : Rd B cs1 p (.lst vs)) (k : ∀ H1, Fr B cs1 H1 → te σ H1 fun v H2 => SA tz D σ p v H2) : tSeq (tDrop (tBM K "list" rAppend ta (tCons te tNil))) tz D σ H :=
  ha [] H F _ fun H1 F1 => ⟨Or.inl ⟨rfl, vs, Evl.sq_of (h0.at F1)⟩, k H1 F1⟩
theorem ss_appE (i : Nat) (F : Fr B cs H) (hi : cs[i]? = some (p, .lst vs)) (hz : vs.length < 16777216) (k : ∀ H1, Fr B (cs.set i (p, .lst (vs ++ [v]))) H1 → tz D σ H1) : SA tz D σ p v H :=
  ⟨p, vs, v, rfl, rfl, F.get i hi, by rw [sizeLine_eq]; exact hz, k _ (Fr.upd F i hi)⟩
end
/-! ### a value that may be None: two ways -/
def optS {A B : Type} (o : Option A) (n : Option B) (f : A → Option B) : Option B := match o with
  | none => n
  | some x => f x
theorem of_optS {A B : Type} {o : Option A} {n : Option B} {f : A → Option B} {r : B} (h : optS o n f = some r) : (o = none ∧ n = some r) ∨ ∃ y, o = some y ∧ f y = some r := by
  cases o with
  | none => exact .inl ⟨rfl, h⟩
  | some y => exact .inr ⟨y, rfl, h⟩
section
variable {K : PySem.W.Frag} {G : Cl} {B : Hp} {v : V} {vs : List V} {A : Type} {f : A → Mn.D} {o : Option A}
theorem rp_ofN (h : o = none) (r : Rp K G B v (oD f o)) : v = .non := by subst h; exact r.n
theorem rp_ofS {y : A} (h : o = some y) (r : Rp K G B v (oD f o)) : Rp K G B v (f y) := by subst h; exact r
theorem rps_cons {x : A} {xs : List A} (h : Rp K G B v (f x)) (r : Rps K G B vs (xs.map f)) : Rps K G B (v :: vs) ((x :: xs).map f) := by
  rw [List.map_cons]
  simp only [Rps]
  exact ⟨h, r⟩
end
/-! ### comprehensions whose items are data, or whose source is -/
section
variable {K : PySem.W.Frag} {Gc : Cl} {σ : L2.St} {B H : Hp} {cs cs1 : Cs} {tl te : TE} {a : Addr} {A A1 A2 C : Type} {fy : C → Mn.D} {xs : List A} {ys : List C} {g : TG} {vs : List Nat} {Q : VK}
/-- what a turn is asked; N what the item is given to -/
def LcT (K : PySem.W.Frag) (Gc : Cl) (B : Hp) (cs : Cs) (te : TE) (fy : C → Mn.D) (y : C) (B' : Hp) (Dl : Addr) (acc : List V) (N : VK) : Prop := ∀ v B'' H'', Ex B' B'' → Rp K Gc B'' v (fy y) → Fr B'' ((Dl, .lst acc) :: cs) H'' → N v H''
theorem lc_core' {J : It} {n : Nat} {G : Hp → Prop} {Y : Nat → Hp → V → Hp → Prop} (w : Walk J n G Y) (hn : ys.length = n) (hz : n ≤ 16777216) (F : Fr B cs H)
    (hG : ∀ B' Dl acc H', Ex B B' → Fr B' ((Dl, .lst acc) :: cs) H' → G H')
    (hs : ∀ i x y B' H' H2 Dl acc (N : VK), i < n → ys[i]? = some y → Ex B B' → Fr B' ((Dl, .lst acc) :: cs) H' → Y i H' x H2 → LcT K Gc B cs te fy y B' Dl acc N → g x (wipe σ vs) H2 fun σ2 H3 => wipe σ2 vs = wipe σ vs ∧ te σ2 H3 N)
    (k : ∀ p us B' H', Ex B B' → Rps K Gc B' us (ys.map fy) → Fr B' ((p, .lst us) :: cs) H' → Q (.ref p) H') : ∀ Dl, H Dl = none → ∃ W : Nat → Nat → Hp → Prop, (∃ m, W 0 m (L2.upd H Dl (.lst []))) ∧ ∀ i m H, W i m H →
      (J.stop i H ∧ Q (.ref Dl) H) ∨ (J.go i H ∧ ∃ Nx : Hp → Prop, (∀ H', Nx H' → ∃ m', m' < m ∧ W (i + 1) m' H') ∧ ∀ x H', J.yld i H x H' → g x (wipe σ vs) H' fun σ2 H2 => wipe σ2 vs = wipe σ vs ∧ tYes σ2 H2 fun b H3 =>
        if b = true then te σ2 H3 fun y H4 => ∃ acc, H4 Dl = some (.lst acc) ∧ acc.length < sizeLine ∧ Nx (L2.upd H4 Dl (.lst (acc ++ [y]))) else Nx H3) := by
  intro Dl hD
  refine lc_it w (Qd := fun H => Q (.ref Dl) H) (fun i H' => ∃ B' us, Ex B B' ∧ Rps K Gc B' us ((ys.take i).map fy) ∧ Fr B' ((Dl, .lst us) :: cs) H') ⟨B, [], Ex.refl B, by rw [List.take_zero]; exact Rps.nilF, F.new1 hD⟩ ?_ ?_ ?_
  · rintro i H' _ ⟨B', us, e, _, F'⟩
    exact hG B' Dl us H' e F'
  · rintro i x H' H2 hi ⟨B', us, e, r, F'⟩ hy
    have hyi : ys[i]? = some (ys[i]'(by omega)) := List.getElem?_eq_getElem _
    have hlen : us.length = i := by
      rw [r.ln, List.length_take]
      omega
    refine hs i x _ B' H' H2 Dl us _ hi hyi e F' hy fun v B'' H'' e2 r2 F'' => ⟨us, F''.get 0 rfl, by rw [sizeLine_eq, hlen]; omega, B'', us ++ [v], e.trans e2, ?_, Fr.upd F'' 0 rfl⟩
    rw [take_snoc hyi]
    exact Rps.snocF (r.to e2) r2
  · rintro H' ⟨B', us, e, r, F'⟩
    rw [List.take_of_length_le (by omega)] at r
    exact k Dl us B' H' e r F'
theorem st_lcL {ws : List V} {IT : V → A → Prop} {m : A → Option C} (hm : mapO m xs = some ys) (hI : Its IT ws xs) (hz : xs.length ≤ 16777216) (F : Fr B cs H) (ha : EvF B cs cs1 tl σ (.ref a)) (hx : RdS K B cs1 a ws)
    (hs : ∀ x y v B' H' Dl acc (N : VK), IT v x → m x = some y → Ex B B' → Fr B' ((Dl, .lst acc) :: cs1) H' → LcT K Gc B cs1 te fy y B' Dl acc N → g v (wipe σ vs) H' fun σ2 H3 => wipe σ2 vs = wipe σ vs ∧ te σ2 H3 N)
    (k : ∀ p us B' H', Ex B B' → Rps K Gc B' us (ys.map fy) → Fr B' ((p, .lst us) :: cs1) H' → Q (.ref p) H') : tLc (iList K tl) g tYes te vs σ H Q := by
  have hl := (mapO_some hm).1
  refine ha [] H F _ fun H1 F1 => ⟨a, rfl, ⟨ws, hx.at F1⟩, lc_core' (K := K) (Gc := Gc) (fy := fy) walk_list (by rw [hl, hI.1]) (by rw [hI.1]; exact hz) F1 (fun B' Dl acc H' e F' => (hx.to e).at F'.drop1) (fun i x y B' H' H2 Dl acc N hi hy e F' hY hN => ?_) k⟩
  obtain ⟨rfl, hx2⟩ := hY
  obtain ⟨x', h1, h2⟩ := hI.2 i x hx2
  obtain ⟨y', h3, h4⟩ := (mapO_some hm).2 i x' h1
  rw [hy] at h3
  cases h3
  exact hs x' y x B' H2 Dl acc N h2 h4 e F' hN
theorem st_lcR2 {tA : TA} {lo hi : Int} {rs : List Int} {m : Int → Option C} (hr : rngC lo hi = some rs) (hm : mapO m rs = some ys) (hz : rs.length ≤ 16777216) (F : Fr B cs H) (ha : EaF B cs cs1 tA σ [.int lo, .int hi])
    (hs : ∀ x y v B' H' Dl acc (N : VK), v = .int x → m x = some y → Ex B B' → Fr B' ((Dl, .lst acc) :: cs1) H' → LcT K Gc B cs1 te fy y B' Dl acc N → g v (wipe σ vs) H' fun σ2 H3 => wipe σ2 vs = wipe σ vs ∧ te σ2 H3 N)
    (k : ∀ p us B' H', Ex B B' → Rps K Gc B' us (ys.map fy) → Fr B' ((p, .lst us) :: cs1) H' → Q (.ref p) H') : tLc (iRng2 tA) g tYes te vs σ H Q := by
  obtain ⟨⟨r1, r2, r3, r4⟩, rfl⟩ := of_grd hr
  have hl := (mapO_some hm).1
  rw [rngI_length] at hl hz
  refine ha [] H F _ fun H1 F1 => ⟨lo, hi, rfl, ⟨r1, r2, r3, r4⟩, lc_core' (K := K) (Gc := Gc) (fy := fy) walk_range hl hz F1 (fun _ _ _ _ _ _ => trivial) (fun i x y B' H' H2 Dl acc N hi' hy e F' hY hN => ?_) k⟩
  obtain ⟨rfl, rfl⟩ := hY
  obtain ⟨y', h3, h4⟩ := (mapO_some hm).2 i _ (rngI_get hi')
  rw [hy] at h3
  cases h3
  exact hs _ y _ B' H2 Dl acc N rfl h4 e F' hN
theorem st_lcR1 {tA : TA} {hi : Int} {rs : List Int} {m : Int → Option C} (hr : rngC 0 hi = some rs) (hm : mapO m rs = some ys) (hz : rs.length ≤ 16777216) (F : Fr B cs H) (ha : EaF B cs cs1 tA σ [.int hi])
    (hs : ∀ x y v B' H' Dl acc (N : VK), v = .int x → m x = some y → Ex B B' → Fr B' ((Dl, .lst acc) :: cs1) H' → LcT K Gc B cs1 te fy y B' Dl acc N → g v (wipe σ vs) H' fun σ2 H3 => wipe σ2 vs = wipe σ vs ∧ te σ2 H3 N)
    (k : ∀ p us B' H', Ex B B' → Rps K Gc B' us (ys.map fy) → Fr B' ((p, .lst us) :: cs1) H' → Q (.ref p) H') : tLc (iRng1 tA) g tYes te vs σ H Q := by
  obtain ⟨⟨r1, r2, r3, r4⟩, rfl⟩ := of_grd hr
  have hl := (mapO_some hm).1
  rw [rngI_length, Int.sub_zero] at hl hz
  refine ha [] H F _ fun H1 F1 => ⟨hi, rfl, r3, r4, lc_core' (K := K) (Gc := Gc) (fy := fy) walk_range hl hz F1 (fun _ _ _ _ _ _ => trivial) (fun i x y B' H' H2 Dl acc N hi' hy e F' hY hN => ?_) k⟩
  obtain ⟨rfl, rfl⟩ := hY
  obtain ⟨y', h3, h4⟩ := (mapO_some hm).2 i _ (rngI_get (lo := 0) (by rw [Int.sub_zero]; exact hi'))
  rw [hy] at h3
  cases h3
  exact hs _ y _ B' H2 Dl acc N rfl h4 e F' hN
/-- pairs: enumerate, zip -/
def enumI {A : Type} (xs : List A) : List (Int × A) := (rngI 0 (xs.length : Int)).zip xs
theorem enumI_get {A : Type} {xs : List A} {i : Nat} {x : A} (h : xs[i]? = some x) : (enumI xs)[i]? = some ((i : Int), x) := by
  unfold enumI
  have hl := (List.getElem?_eq_some_iff.mp h).1
  rw [List.getElem?_zip_eq_some]
  refine ⟨?_, h⟩
  rw [rngI_get (by omega)]
  congr 1
  omega
theorem enumI_len {A : Type} (xs : List A) : (enumI xs).length = xs.length := by
  unfold enumI
  rw [List.length_zip, rngI_length]
  omega
theorem st_lcZ {tA : TA} {a b : Addr} {xs : List A1} {ys0 : List A2} {w1 w2 : List V} {I1 : V → A1 → Prop} {I2 : V → A2 → Prop} {m : A1 × A2 → Option C} (hm : mapO m (xs.zip ys0) = some ys) (h1 : Its I1 w1 xs) (h2 : Its I2 w2 ys0) (hz : (xs.zip ys0).length ≤ 16777216) (F : Fr B cs H) (ha : EaF B cs cs1 tA σ [.ref a, .ref b]) (hx : RdS K B cs1 a w1) (hy : RdS K B cs1 b w2)
    (hs : ∀ q y v1 v2 T B' H' Dl acc (N : VK), I1 v1 q.1 → I2 v2 q.2 → m q = some y → Ex B B' → Fr B' ((Dl, .lst acc) :: cs1) H' → H' T = none → LcT K Gc B cs1 te fy y B' Dl acc N → g (.ref T) (wipe σ vs) (L2.upd H' T (.tup [v1, v2])) fun σ2 H3 => wipe σ2 vs = wipe σ vs ∧ te σ2 H3 N)
    (k : ∀ p us B' H', Ex B B' → Rps K Gc B' us (ys.map fy) → Fr B' ((p, .lst us) :: cs1) H' → Q (.ref p) H') : tLc (iZip K tA) g tYes te vs σ H Q := by
  have hl := (mapO_some hm).1
  have hzl : (xs.zip ys0).length = min w1.length w2.length := by rw [List.length_zip, h1.1, h2.1]
  refine ha [] H F _ fun H1 F1 => ⟨a, b, w1, w2, rfl, hx.at F1, hy.at F1, lc_core' (K := K) (Gc := Gc) (fy := fy) (walk_zip hzl) hl hz F1 (fun B' Dl acc H' e F' => ⟨(hx.to e).at F'.drop1, (hy.to e).at F'.drop1⟩) (fun i x y B' H' H2 Dl acc N hi hy' e F' hY hN => ?_) k⟩
  obtain ⟨T, v1, v2, rfl, hT, rfl, e1, e2⟩ := hY
  obtain ⟨q1, e3, e4⟩ := h1.2 i v1 e1
  obtain ⟨q2, e5, e6⟩ := h2.2 i v2 e2
  obtain ⟨y', e7, e8⟩ := (mapO_some hm).2 i (q1, q2) (List.getElem?_zip_eq_some.mpr ⟨e3, e5⟩)
  rw [hy'] at e7
  cases e7
  exact hs (q1, q2) y v1 v2 T B' H' Dl acc N e4 e6 e8 e F' hT hN
theorem st_lcE {tA : TA} {a : Addr} {xs : List A} {w1 : List V} {I1 : V → A → Prop} {m : Int × A → Option C} (hm : mapO m (enumI xs) = some ys) (h1 : Its I1 w1 xs) (hz : xs.length ≤ 16777216) (F : Fr B cs H) (ha : EaF B cs cs1 tA σ [.ref a]) (hx : RdS K B cs1 a w1)
    (hs : ∀ q y v1 v2 T B' H' Dl acc (N : VK), v1 = .int q.1 → I1 v2 q.2 → m q = some y → Ex B B' → Fr B' ((Dl, .lst acc) :: cs1) H' → H' T = none → LcT K Gc B cs1 te fy y B' Dl acc N → g (.ref T) (wipe σ vs) (L2.upd H' T (.tup [v1, v2])) fun σ2 H3 => wipe σ2 vs = wipe σ vs ∧ te σ2 H3 N)
    (k : ∀ p us B' H', Ex B B' → Rps K Gc B' us (ys.map fy) → Fr B' ((p, .lst us) :: cs1) H' → Q (.ref p) H') : tLc (iEnum K tA) g tYes te vs σ H Q := by
  have hl := (mapO_some hm).1
  rw [enumI_len] at hl
  refine ha [] H F _ fun H1 F1 => ⟨a, w1, rfl, hx.at F1, lc_core' (K := K) (Gc := Gc) (fy := fy) walk_enum (by rw [hl, h1.1]) (by rw [h1.1]; exact hz) F1 (fun B' Dl acc H' e F' => (hx.to e).at F'.drop1) (fun i x y B' H' H2 Dl acc N hi hy' e F' hY hN => ?_) k⟩
  obtain ⟨T, v1, v2, rfl, hT, rfl, e1, e2⟩ := hY
  cases e1
  obtain ⟨q2, e5, e6⟩ := h1.2 i v2 e2
  obtain ⟨y', e7, e8⟩ := (mapO_some hm).2 i _ (enumI_get e5)
  rw [hy'] at e7
  cases e7
  exact hs ((i : Int), q2) y (.int (i : Nat)) v2 T B' H' Dl acc N rfl e6 e8 e F' hT hN
end
/-! ### loops over pairs -/
section
variable {K : PySem.W.Frag} {σ : L2.St} {B H : Hp} {cs cs1 : Cs} {D : Ends} {tu tz : TS} {g : TG} {a b : Addr} {A1 A2 A S R : Type}
def TurnPF (D : Ends) (tu tz : TS) (g : TG) (m : A1 × A2 → S → Option (Fl S R)) (r : Fl S R) (J : S → L2.St → Hp → Prop) (I1 : V → A1 → Prop) (I2 : V → A2 → Prop) : Prop :=
  ∀ x v1 v2 T s r' σ' H' (N : L2.St → Hp → Prop), I1 v1 x.1 → I2 v2 x.2 → H' T = none → m x s = some r' → J s σ' H' → (∀ s', r' = .bk s' → r = .nx s') → (∀ q, r' = .rt q → r = .rt q) → (∀ s' σ2 H2, r = .nx s' → J s' σ2 H2 → tz D σ2 H2) → (∀ s' σ2 H2, r' = .nx s' → J s' σ2 H2 → N σ2 H2) →
    g (.ref T) σ' (L2.upd H' T (.tup [v1, v2])) fun σ2 H2 => tu { D with nx := N, ct := N, bk := tz D } σ2 H2
def TurnPM (D : Ends) (tu tz : TS) (g : TG) (m : A1 × A2 → S → Option S) (J : S → L2.St → Hp → Prop) (I1 : V → A1 → Prop) (I2 : V → A2 → Prop) : Prop :=
  ∀ x v1 v2 T s r' σ' H' (N : L2.St → Hp → Prop), I1 v1 x.1 → I2 v2 x.2 → H' T = none → m x s = some r' → J s σ' H' → (∀ σ2 H2, J r' σ2 H2 → N σ2 H2) → g (.ref T) σ' (L2.upd H' T (.tup [v1, v2])) fun σ2 H2 => tu { D with nx := N, ct := N, bk := tz D } σ2 H2
theorem wp_F {Jt : It} {n : Nat} {G : Hp → Prop} {f1 f2 : Nat → Option V} {ps : List (A1 × A2)} {m : A1 × A2 → S → Option (Fl S R)} {s0 : S} {r : Fl S R} {I1 : V → A1 → Prop} {I2 : V → A2 → Prop} (w : Walk Jt n G (YPair f1 f2)) (hn : ps.length = n) (hm : itF m ps s0 = some r)
    (hI : ∀ i v1 v2, f1 i = some v1 → f2 i = some v2 → ∃ x, ps[i]? = some x ∧ I1 v1 x.1 ∧ I2 v2 x.2) (J : S → L2.St → Hp → Prop) (h0 : J s0 σ H) (hl : ∀ s σ' H', J s σ' H' → G H') (hd : ∀ s σ' H', r = .nx s → J s σ' H' → tz D σ' H') (hs : TurnPF D tu tz g m r J I1 I2) :
    ∃ W : Nat → Nat → L2.St → Hp → Prop, (∃ m, W 0 m σ H) ∧ ∀ i m σ H, W i m σ H →
      (Jt.stop i H ∧ tz D σ H) ∨ (Jt.go i H ∧ ∃ N : L2.St → Hp → Prop, (∀ σ' H', N σ' H' → ∃ m', m' < m ∧ W (i + 1) m' σ' H') ∧ ∀ x H', Jt.yld i H x H' → g x σ H' fun σ2 H2 => tu { D with nx := N, ct := N, bk := tz D } σ2 H2) := by
  refine for_it w (D := { D with nx := tz D }) (fun i σ' H' => ∃ s, itF m (ps.drop i) s = some r ∧ J s σ' H') ⟨s0, hm, h0⟩ (fun i σ' H' _ ⟨s, _, h⟩ => hl s σ' H' h) ?_ ?_
  · rintro i x σ' H' H2 hi ⟨s, hm', hJ⟩ ⟨T, v1, v2, rfl, hT, rfl, e1, e2⟩
    obtain ⟨y, e3, e4, e5⟩ := hI i v1 v2 e1 e2
    rw [drop_at e3] at hm'
    obtain ⟨r', q1, q2, q3, q4⟩ := itF_at hm'
    exact hs y v1 v2 T s r' σ' H' _ e4 e5 hT q1 hJ q3 q4 hd fun s' σ2 H2 er hJ2 => ⟨s', q2 s' er, hJ2⟩
  · rintro σ' H' ⟨s, hm', hJ⟩
    rw [List.drop_of_length_le (by omega)] at hm'
    cases hm'
    exact hd s σ' H' rfl hJ
theorem wp_M {Jt : It} {n : Nat} {G : Hp → Prop} {f1 f2 : Nat → Option V} {ps : List (A1 × A2)} {m : A1 × A2 → S → Option S} {s0 r : S} {I1 : V → A1 → Prop} {I2 : V → A2 → Prop} (w : Walk Jt n G (YPair f1 f2)) (hn : ps.length = n) (hm : itM m ps s0 = some r)
    (hI : ∀ i v1 v2, f1 i = some v1 → f2 i = some v2 → ∃ x, ps[i]? = some x ∧ I1 v1 x.1 ∧ I2 v2 x.2) (J : S → L2.St → Hp → Prop) (h0 : J s0 σ H) (hl : ∀ s σ' H', J s σ' H' → G H') (hd : ∀ σ' H', J r σ' H' → tz D σ' H') (hs : TurnPM D tu tz g m J I1 I2) :
    ∃ W : Nat → Nat → L2.St → Hp → Prop, (∃ m, W 0 m σ H) ∧ ∀ i m σ H, W i m σ H →
      (Jt.stop i H ∧ tz D σ H) ∨ (Jt.go i H ∧ ∃ N : L2.St → Hp → Prop, (∀ σ' H', N σ' H' → ∃ m', m' < m ∧ W (i + 1) m' σ' H') ∧ ∀ x H', Jt.yld i H x H' → g x σ H' fun σ2 H2 => tu { D with nx := N, ct := N, bk := tz D } σ2 H2) := by
  refine for_it w (D := { D with nx := tz D }) (fun i σ' H' => ∃ s, itM m (ps.drop i) s = some r ∧ J s σ' H') ⟨s0, hm, h0⟩ (fun i σ' H' _ ⟨s, _, h⟩ => hl s σ' H' h) ?_ ?_
  · rintro i x σ' H' H2 hi ⟨s, hm', hJ⟩ ⟨T, v1, v2, rfl, hT, rfl, e1, e2⟩
    obtain ⟨y, e3, e4, e5⟩ := hI i v1 v2 e1 e2
    rw [drop_at e3] at hm'
    obtain ⟨r', q1, q2⟩ := itM_at hm'
    exact hs y v1 v2 T s r' σ' H' _ e4 e5 hT q1 hJ fun σ2 H2 hJ2 => ⟨r', q2, hJ2⟩
  · rintro σ' H' ⟨s, hm', hJ⟩
    rw [List.drop_of_length_le (by omega)] at hm'
    cases hm'
    exact hd σ' H' hJ
theorem hI_zip {xs : List A1} {ys : List A2} {w1 w2 : List V} {I1 : V → A1 → Prop} {I2 : V → A2 → Prop} (h1 : Its I1 w1 xs) (h2 : Its I2 w2 ys) : ∀ (i : Nat) v1 v2, w1[i]? = some v1 → w2[i]? = some v2 → ∃ x : A1 × A2, (xs.zip ys)[i]? = some x ∧ I1 v1 x.1 ∧ I2 v2 x.2 := fun i v1 v2 e1 e2 => by
  obtain ⟨q1, e3, e4⟩ := h1.2 i v1 e1
  obtain ⟨q2, e5, e6⟩ := h2.2 i v2 e2
  exact ⟨(q1, q2), List.getElem?_zip_eq_some.mpr ⟨e3, e5⟩, e4, e6⟩
theorem w_zipF {tA : TA} {xs : List A1} {ys : List A2} {w1 w2 : List V} {m : A1 × A2 → S → Option (Fl S R)} {s0 : S} {r : Fl S R} {I1 : V → A1 → Prop} {I2 : V → A2 → Prop} (hm : itF m (xs.zip ys) s0 = some r) (h1 : Its I1 w1 xs) (h2 : Its I2 w2 ys) (J : S → L2.St → Hp → Prop) (F : Fr B cs H) (ha : EaF B cs cs1 tA σ [.ref a, .ref b]) (hx : RdS K B cs1 a w1) (hy : RdS K B cs1 b w2) (h0 : ∀ H1, Fr B cs1 H1 → J s0 σ H1)
    (hl : ∀ s σ' H', J s σ' H' → SqL K H' a w1 ∧ SqL K H' b w2) (hd : ∀ s σ' H', r = .nx s → J s σ' H' → tz D σ' H') (hs : TurnPF D tu tz g m r J I1 I2) : tSeq (tFor (iZip K tA) g tu) tz D σ H :=
  ha [] H F _ fun H1 F1 => ⟨a, b, w1, w2, rfl, hx.at F1, hy.at F1, wp_F (D := D) (tz := tz) (walk_zip rfl) (by rw [List.length_zip, h1.1, h2.1]) hm (hI_zip h1 h2) J (h0 H1 F1) hl hd hs⟩
theorem w_zipM {tA : TA} {xs : List A1} {ys : List A2} {w1 w2 : List V} {m : A1 × A2 → S → Option S} {s0 r : S} {I1 : V → A1 → Prop} {I2 : V → A2 → Prop} (hm : itM m (xs.zip ys) s0 = some r) (h1 : Its I1 w1 xs) (h2 : Its I2 w2 ys) (J : S → L2.St → Hp → Prop) (F : Fr B cs H) (ha : EaF B cs cs1 tA σ [.ref a, .ref b]) (hx : RdS K B cs1 a w1) (hy : RdS K B cs1 b w2) (h0 : ∀ H1, Fr B cs1 H1 → J s0 σ H1)
    (hl : ∀ s σ' H', J s σ' H' → SqL K H' a w1 ∧ SqL K H' b w2) (hd : ∀ σ' H', J r σ' H' → tz D σ' H') (hs : TurnPM D tu tz g m J I1 I2) : tSeq (tFor (iZip K tA) g tu) tz D σ H :=
  ha [] H F _ fun H1 F1 => ⟨a, b, w1, w2, rfl, hx.at F1, hy.at F1, wp_M (D := D) (tz := tz) (walk_zip rfl) (by rw [List.length_zip, h1.1, h2.1]) hm (hI_zip h1 h2) J (h0 H1 F1) hl hd hs⟩
theorem hI_enum {xs : List A} {w1 : List V} {I1 : V → A → Prop} (h1 : Its I1 w1 xs) : ∀ (i : Nat) (v1 v2 : V), some (.int (i : Nat)) = some v1 → w1[i]? = some v2 → ∃ x, (enumI xs)[i]? = some x ∧ v1 = .int x.1 ∧ I1 v2 x.2 := fun i v1 v2 e1 e2 => by
  cases e1
  obtain ⟨q2, e5, e6⟩ := h1.2 i v2 e2
  exact ⟨((i : Int), q2), enumI_get e5, rfl, e6⟩
theorem w_enumF {tA : TA} {xs : List A} {w1 : List V} {m : Int × A → S → Option (Fl S R)} {s0 : S} {r : Fl S R} {I1 : V → A → Prop} (hm : itF m (enumI xs) s0 = some r) (h1 : Its I1 w1 xs) (J : S → L2.St → Hp → Prop) (F : Fr B cs H) (ha : EaF B cs cs1 tA σ [.ref a]) (hx : RdS K B cs1 a w1) (h0 : ∀ H1, Fr B cs1 H1 → J s0 σ H1)
    (hl : ∀ s σ' H', J s σ' H' → SqL K H' a w1) (hd : ∀ s σ' H', r = .nx s → J s σ' H' → tz D σ' H') (hs : TurnPF D tu tz g m r J (fun v x => v = .int x) I1) : tSeq (tFor (iEnum K tA) g tu) tz D σ H :=
  ha [] H F _ fun H1 F1 => ⟨a, w1, rfl, hx.at F1, wp_F (D := D) (tz := tz) (I1 := fun v (x : Int) => v = .int x) (I2 := I1) walk_enum (by rw [enumI_len, h1.1]) hm (hI_enum h1) J (h0 H1 F1) hl hd hs⟩
theorem w_enumM {tA : TA} {xs : List A} {w1 : List V} {m : Int × A → S → Option S} {s0 r : S} {I1 : V → A → Prop} (hm : itM m (enumI xs) s0 = some r) (h1 : Its I1 w1 xs) (J : S → L2.St → Hp → Prop) (F : Fr B cs H) (ha : EaF B cs cs1 tA σ [.ref a]) (hx : RdS K B cs1 a w1) (h0 : ∀ H1, Fr B cs1 H1 → J s0 σ H1)
    (hl : ∀ s σ' H', J s σ' H' → SqL K H' a w1) (hd : ∀ σ' H', J r σ' H' → tz D σ' H') (hs : TurnPM D tu tz g m J (fun v x => v = .int x) I1) : tSeq (tFor (iEnum K tA) g tu) tz D σ H :=
  ha [] H F _ fun H1 F1 => ⟨a, w1, rfl, hx.at F1, wp_M (D := D) (tz := tz) (I1 := fun v (x : Int) => v = .int x) (I2 := I1) walk_enum (by rw [enumI_len, h1.1]) hm (hI_enum h1) J (h0 H1 F1) hl hd hs⟩
end
/-! ### == of data -/
mutual
def py : Mn.D → PyData
  | .non => .none
  | .int i => .int i
  | .bl b => .bool b
  | .str s => .str s
  | .lst l => .list (pys l)
  | .tup l => .tuple (pys l)
  | .obj _ _ => .none
def pys : List Mn.D → List PyData
  | [] => []
  | d :: l => py d :: pys l
end
mutual
def plainD : Mn.D → Bool
  | .lst l => plainDs l
  | .tup l => plainDs l
  | .obj _ _ => false
  | _ => true
def plainDs : List Mn.D → Bool
  | [] => true
  | d :: l => plainD d && plainDs l
end
section
variable {K : PySem.W.Frag} {G : Cl} {B : Hp}
mutual
theorem dp_of : ∀ (d : Mn.D) {v : V}, plainD d = true → Rp K G B v d → Dp K B v (py d)
  | .non, v, _, h => by rw [h.n, py]; exact .non
  | .int i, v, _, h => by rw [h.i, py]; exact .int i
  | .bl b, v, _, h => by rw [h.b, py]; exact .bl b
  | .str s, v, _, h => by rw [h.s, py]; exact .str s
  | .lst l, v, hp, h => by
    simp only [Rp] at h
    simp only [plainD] at hp
    obtain ⟨a, vs, rfl, h2, h3⟩ := h
    rw [py]
    exact .lst (Evl.sq_of h2) (dps_of l hp h3)
  | .tup l, v, hp, h => by
    simp only [Rp] at h
    simp only [plainD] at hp
    obtain ⟨a, vs, rfl, h2, h3⟩ := h
    rw [py]
    exact .tup h2 (dps_of l hp h3)
  | .obj t l, v, hp, h => by simp only [plainD] at hp; cases hp
theorem dps_of : ∀ (l : List Mn.D) {vs : List V}, plainDs l = true → Rps K G B vs l → DpAll K B vs (pys l)
  | [], [], _, _ => by rw [pys]; exact .nil
  | [], v :: vs, _, h => by simp only [Rps] at h
  | d :: l, [], _, h => by simp only [Rps] at h
  | d :: l, v :: vs, hp, h => by
    simp only [Rps] at h
    simp only [plainDs, Bool.and_eq_true] at hp
    rw [pys]
    exact .cons (dp_of d hp.1 h.1) (dps_of l hp.2 h.2)
end
end
/-- == of data, where the library's rule holds -/
def eqC (d e : Mn.D) : Option Bool := grd (plainD d = true ∧ plainD e = true ∧ SeqAt.shaped (py d) = true ∧ SeqAt.shaped (py e) = true) (PyData.eqv (py d) (py e))
def DpF (K : PySem.W.Frag) (B : Hp) (cs : Cs) (v : V) (d : Mn.D) : Prop := plainD d = true → ∀ H, Fr B cs H → Dp K H v (py d)
section
variable {K : PySem.W.Frag} {G : Cl} {B : Hp} {cs : Cs} {a : Addr} {v v1 v2 v3 v4 : V} {d e : Mn.D} {b : Bool} {A A1 A2 A3 A4 : Type} {f : A → Mn.D} {f1 : A1 → Mn.D} {f2 : A2 → Mn.D} {f3 : A3 → Mn.D} {vs : List V} {c : Addr × HO}
theorem rv_eqC (h : eqC d e = some b) (r1 : DpF K B cs v1 d) (r2 : DpF K B cs v2 e) : RvF B cs (rEqD K) v1 v2 (.bl b) := fun H F Q k => by
  obtain ⟨⟨p1, p2, p3, p4⟩, rfl⟩ := of_grd h
  exact ⟨_, _, r1 p1 H F, r2 p2 H F, p3, p4, k⟩
theorem rv_neC (h : eqC d e = some b) (r1 : DpF K B cs v1 d) (r2 : DpF K B cs v2 e) : RvF B cs (rNeD K) v1 v2 (.bl (!b)) := fun H F Q k => by
  obtain ⟨⟨p1, p2, p3, p4⟩, rfl⟩ := of_grd h
  exact ⟨_, _, r1 p1 H F, r2 p2 H F, p3, p4, k⟩
theorem DpF.more (r : DpF K B cs v d) : DpF K B (c :: cs) v d := fun hp H F => r hp H (F.sub (List.sublist_cons_self _ _))
theorem dpf_rp (r : Rp K G B v d) : DpF K B cs v d := fun hp H F => dp_of d hp (r.to F.base)
theorem dpf_l {xs : List A} (h : RdS K B cs a vs) (r : Rps K G B vs (xs.map f)) : DpF K B cs (.ref a) (lD f xs) := fun hp H F => by
  simp only [lD, plainD] at hp
  rw [lD, py]
  exact .lst (h.at F) (dps_of _ hp (r.to F.base))
theorem dpf_li {xs : List Int} (h : RdS K B cs a (xs.map V.int)) : DpF K B cs (.ref a) (lD D.int xs) := dpf_l (G := G0) h (Rps.ints.mpr rfl)
theorem dpf_lb {xs : List Bool} (h : RdS K B cs a (xs.map V.bl)) : DpF K B cs (.ref a) (lD D.bl xs) := dpf_l (G := G0) h (Rps.bls.mpr rfl)
theorem dpf_t2 {p : A1 × A2} (h : Rd B cs a (.tup [v1, v2])) (r1 : DpF K B cs v1 (f1 p.1)) (r2 : DpF K B cs v2 (f2 p.2)) : DpF K B cs (.ref a) (pD2 f1 f2 p) := fun hp H F => by
  simp only [pD2, plainD, plainDs, Bool.and_eq_true] at hp
  rw [pD2, py]
  exact .tup (Evl.st_of (h.at F)) (by rw [pys, pys, pys]; exact .cons (r1 hp.1 H F) (.cons (r2 hp.2.1 H F) .nil))
theorem dpf_t3 {p : A1 × A2 × A3} (h : Rd B cs a (.tup [v1, v2, v3])) (r1 : DpF K B cs v1 (f1 p.1)) (r2 : DpF K B cs v2 (f2 p.2.1)) (r3 : DpF K B cs v3 (f3 p.2.2)) : DpF K B cs (.ref a) (pD3 f1 f2 f3 p) := fun hp H F => by
  simp only [pD3, plainD, plainDs, Bool.and_eq_true] at hp
  rw [pD3, py]
  exact .tup (Evl.st_of (h.at F)) (by rw [pys, pys, pys, pys]; exact .cons (r1 hp.1 H F) (.cons (r2 hp.2.1 H F) (.cons (r3 hp.2.2.1 H F) .nil)))
end
/-! ### defs with defaults -/
structure CalD (K : PySem.W.Frag) (mg : Str → Option Value) (x : Str) (f : Addr) : Prop where
  g : mg x = some (.ref f)
  k : PySem.W.keepIn K (.ref f) = true
section
variable {P : Program} {w : World} {K : PySem.W.Frag} {mg : Str → Option Value} {base : Heap} {x : Str} {st : Stmt} {dvs : List V} {kws : List (Str × V)} {f : Addr} {fd : FuncData}
theorem fund_mk {oc : Value} {od an : Option Addr} {osl : Array (Option Value)} {dV kV doc pm cdv ct : Value} (l : K.lookup f = some ⟨oc, od, .func (PySem.W.fnOf x x (defArgs st) (defBody st) (defScope st) dV kV doc pm an cdv ct), osl⟩)
    (c : PySem.W.codeIn K cdv x = true) (k : PySem.W.keepIn K (.ref f) = true) (hd : DflV K dV dvs) (hk : KwdV K kV kws) : FunD K x x (defArgs st) (defBody st) (defScope st) dvs kws f (PySem.W.fnOf x x (defArgs st) (defBody st) (defScope st) dV kV doc pm an cdv ct) :=
  ⟨⟨oc, od, dV, kV, doc, pm, an, cdv, ct, osl, rfl, l, c, hd, hk⟩, k⟩
theorem fund_ok {N ps : List Str} {k : Nat} {sp : Sp} (F : FunD K x x (defArgs st) (defBody st) (defScope st) dvs kws f fd) (S : FnScope N ps (defScope st)) (len : ∀ vs H Q E, sp vs H Q E → vs.length = ps.length)
    (hbody : ∀ (cdv : Value) (A : Around) (outer : List Env) (s : Shared) (H : Hp) (vs : List V) (Q : VK) (E : XK), Room k (A.deeper (PyProof.Rows.envOfC x (defScope st) s.heap.objs.size f cdv)) → sp vs H Q E →
      ∃ t, PSs (cxOf CX0 P w K mg base N x (defScope st) f cdv A outer s H E).nox (defBody st) t ∧ t { nx := fun _ H' => Q .non H', rt := Q } (start N vs) H) : FnOk P w K mg base CX0 (k + 1) f fd ps sp :=
  F.ok S len fun cdv A outer s H vs Q E hr hsp => by
    obtain ⟨t, h, q⟩ := hbody cdv A outer s H vs Q E hr hsp
    exact ⟨t, h.nox, q⟩
theorem dfl0 {K : PySem.W.Frag} : DflV K .none [] := .inl ⟨rfl, rfl⟩
theorem dfl1 {K : PySem.W.Frag} {T : Addr} {o : Obj} {its : List Value} {n : Nat} {dvs : List V} (h : dvs ≠ []) (l : K.lookup T = some o) (d : o.data = .seq its.toArray n) (v : Vals dvs its) : DflV K (.ref T) dvs := .inr ⟨h, T, o, its, n, rfl, l, d, v⟩
theorem kwd1 {K : PySem.W.Frag} {D : Addr} {kws : List (Str × V)} (h : ∀ q ∈ kws, ∃ u, PySem.W.nsIn K D q.1 = some (some u) ∧ RelV q.2 u) : KwdV K (.ref D) kws := .inr ⟨D, rfl, h⟩
variable {ps ks : List Str} {n : Nat}
/-- f(e, .., k = v, ..), defaults stand; none is taken -/
theorem kb1 (F : FunD K x x (defArgs st) (defBody st) (defScope st) dvs kws f fd) (hd : dvs ≠ [])
    (h : ∀ (T : Addr) (kV doc pm : Value) (an : Option Addr) (cdv ct : Value) (us its ws : List Value), us.length = n → its.length = dvs.length → ws.length = ks.length →
      ∃ k, bindArgs (PySem.W.fnOf x x (defArgs st) (defBody st) (defScope st) (.ref T) kV doc pm an cdv ct) ⟨us, ks.zip ws⟩ = seqItems? (.ref T) >>= k ∧ k (some its.toArray) = pure (ps.zip (us ++ ws))) : KBn K fd ps n ks (fun us ws => us ++ ws) (fun vs zs => vs ++ zs) := by
  obtain ⟨oc, od, dV, kV, doc, pm, an, cdv, ct, osl, rfl, lk, hcd, hD, hK⟩ := F.ex
  rcases hD with ⟨e, _⟩ | ⟨_, T, o, its, m, rfl, lT, oT, rT⟩
  · exact absurd e hd
  · refine ⟨fun s us ws X l1 l2 => ?_, fun r1 r2 => r1.append r2⟩
    obtain ⟨k, e1, e2⟩ := h T kV doc pm an cdv ct us its ws l1 rT.length.symm l2
    refine BindsTo.of_looks fun M => ?_
    rw [e1]
    exact looks_items X lT oT (.of_pure e2)
theorem kb0 (F : FunD K x x (defArgs st) (defBody st) (defScope st) [] kws f fd)
    (h : ∀ (kV doc pm : Value) (an : Option Addr) (cdv ct : Value) (us ws : List Value), us.length = n → ws.length = ks.length →
      bindArgs (PySem.W.fnOf x x (defArgs st) (defBody st) (defScope st) .none kV doc pm an cdv ct) ⟨us, ks.zip ws⟩ = pure (ps.zip (us ++ ws))) : KBn K fd ps n ks (fun us ws => us ++ ws) (fun vs zs => vs ++ zs) := by
  obtain ⟨oc, od, dV, kV, doc, pm, an, cdv, ct, osl, rfl, lk, hcd, hD, hK⟩ := F.ex
  rcases hD with ⟨_, rfl⟩ | ⟨e, _⟩
  · exact ⟨fun s us ws X l1 l2 => BindsTo.of_looks fun M => .of_pure (h kV doc pm an cdv ct us ws l1 l2), fun r1 r2 => r1.append r2⟩
  · exact absurd rfl e
end
section
variable {σ : L2.St} {B H : Hp} {cs cs1 cs2 cs3 : Cs} {v : V} {o : HO} {vs zs : List V} {n m : Nat} {sp : Sp} {gV : List V → List V → List V} {E : XK} {tA tK : TA}
theorem ev_callN (ha : EaF B cs cs1 tA σ vs) (hk : EaF B cs1 cs2 tK σ zs) (l1 : vs.length = n) (l2 : zs.length = m) (hs : ∀ (ys : Cs) (H : Hp), Fr B (ys ++ cs2) H → ∀ Q : VK, (∀ H', Fr B (ys ++ cs3) H' → Q v H') → sp (gV vs zs) H Q E) : EvF B cs cs3 (tCallN n m sp gV E tA tK) σ v := fun ys H F Q q => ha ys H F _ fun H1 F1 => hk ys H1 F1 _ fun H2 F2 => ⟨l1, l2, hs ys H2 F2 Q q⟩
theorem en_callN (ha : EaF B cs cs1 tA σ vs) (hk : EaF B cs1 cs2 tK σ zs) (l1 : vs.length = n) (l2 : zs.length = m) (hs : ∀ (ys : Cs) (H : Hp), Fr B (ys ++ cs2) H → ∀ Q : VK, (∀ p H', Fr B ((p, o) :: (ys ++ cs3)) H' → Q (.ref p) H') → sp (gV vs zs) H Q E) : EvN B cs cs3 (tCallN n m sp gV E tA tK) σ o := fun ys H F Q q => ha ys H F _ fun H1 F1 => hk ys H1 F1 _ fun H2 F2 => ⟨l1, l2, hs ys H2 F2 Q q⟩
end
/-- a def that is called by its name -/
structure Cal (K : PySem.W.Frag) (mg : Str → Option Value) (x : Str) (f : Addr) (fd : FuncData) (ps : List Str) : Prop where
  g : mg x = some (.ref f)
  k : PySem.W.keepIn K (.ref f) = true
  b : Binds K fd ps []
end Mn
/-! Cm: the mirrors' combinators in plain Lean -/
namespace Mn
open PySem L2
section
variable {A B C S R : Type}
theorem bind_ok {m : Option A} {f : A → Option B} {x : A} {r : Option B} (h : m = some x) (h2 : f x = r) : m.bind f = r := by subst h; exact h2
theorem itM_inv {f : A → S → Option S} (P : Nat → S → Prop) : ∀ (xs : List A) (s : S) (n : Nat), P n s → (∀ i x s, xs[i]? = some x → P (n + i) s → ∃ s', f x s = some s' ∧ P (n + i + 1) s') → ∃ s', itM f xs s = some s' ∧ P (n + xs.length) s'
  | [], s, n, h0, _ => ⟨s, rfl, h0⟩
  | x :: l, s, n, h0, hs => by
    obtain ⟨s1, h1, p1⟩ := hs 0 x s rfl h0
    obtain ⟨s2, h2, p2⟩ := itM_inv P l s1 (n + 1) p1 (fun i y t hy pt => by
      have e : n + 1 + i = n + (i + 1) := by omega
      rw [e] at pt
      obtain ⟨t', q1, q2⟩ := hs (i + 1) y t hy pt
      exact ⟨t', q1, by rw [e]; exact q2⟩)
    refine ⟨s2, bind_ok h1 h2, ?_⟩
    have e : n + (x :: l).length = n + 1 + l.length := by rw [List.length_cons]; omega
    rw [e]
    exact p2
theorem itM_ok {f : A → S → Option S} (P : Nat → S → Prop) {xs : List A} {s : S} (h0 : P 0 s) (hs : ∀ i x s, xs[i]? = some x → P i s → ∃ s', f x s = some s' ∧ P (i + 1) s') : ∃ s', itM f xs s = some s' ∧ P xs.length s' := by
  have := itM_inv (f := f) P xs s 0 h0 (fun i x s hx hp => by rw [Nat.zero_add] at hp ⊢; exact hs i x s hx hp)
  rw [Nat.zero_add] at this
  exact this
/-- a loop whose turn is a plain function -/
theorem itM_fold {f : A → S → Option S} {g : S → A → S} : ∀ {xs : List A} {s : S}, (∀ x s, x ∈ xs → f x s = some (g s x)) → itM f xs s = some (xs.foldl g s)
  | [], _, _ => rfl
  | x :: l, s, h => bind_ok (h x s List.mem_cons_self) (itM_fold fun y t hy => h y t (List.mem_cons_of_mem _ hy))
theorem itF_inv {f : A → S → Option (Fl S R)} (P : Nat → S → Prop) : ∀ (xs : List A) (s : S) (n : Nat), P n s → (∀ i x s, xs[i]? = some x → P (n + i) s → ∃ s', f x s = some (.nx s') ∧ P (n + i + 1) s') → ∃ s', itF f xs s = some (.nx s') ∧ P (n + xs.length) s'
  | [], s, n, h0, _ => ⟨s, rfl, h0⟩
  | x :: l, s, n, h0, hs => by
    obtain ⟨s1, h1, p1⟩ := hs 0 x s rfl h0
    obtain ⟨s2, h2, p2⟩ := itF_inv P l s1 (n + 1) p1 (fun i y t hy pt => by
      have e : n + 1 + i = n + (i + 1) := by omega
      rw [e] at pt
      obtain ⟨t', q1, q2⟩ := hs (i + 1) y t hy pt
      exact ⟨t', q1, by rw [e]; exact q2⟩)
    refine ⟨s2, bind_ok h1 h2, ?_⟩
    have e : n + (x :: l).length = n + 1 + l.length := by rw [List.length_cons]; omega
    rw [e]
    exact p2
theorem itF_ok {f : A → S → Option (Fl S R)} (P : Nat → S → Prop) {xs : List A} {s : S} (h0 : P 0 s) (hs : ∀ i x s, xs[i]? = some x → P i s → ∃ s', f x s = some (.nx s') ∧ P (i + 1) s') : ∃ s', itF f xs s = some (.nx s') ∧ P xs.length s' := by
  have := itF_inv (f := f) P xs s 0 h0 (fun i x s hx hp => by rw [Nat.zero_add] at hp ⊢; exact hs i x s hx hp)
  rw [Nat.zero_add] at this
  exact this
/-- a loop that may leave: told by what holds at its end -/
theorem itF_way {f : A → S → Option (Fl S R)} (P : Nat → S → Prop) (Q : Fl S R → Prop) : ∀ (xs : List A) (s : S) (n : Nat), P n s → (∀ i x s, xs[i]? = some x → P (n + i) s → ∃ r, f x s = some r ∧ match r with | .nx s' => P (n + i + 1) s' | .bk s' => Q (.nx s') | .rt q => Q (.rt q)) →
    (∀ s, P (n + xs.length) s → Q (.nx s)) → ∃ r, itF f xs s = some r ∧ Q r
  | [], s, n, h0, _, hd => ⟨.nx s, rfl, hd s h0⟩
  | x :: l, s, n, h0, hs, hd => by
    obtain ⟨r, h1, p1⟩ := hs 0 x s rfl h0
    cases r with
    | bk s' => exact ⟨.nx s', bind_ok h1 rfl, p1⟩
    | rt q => exact ⟨.rt q, bind_ok h1 rfl, p1⟩
    | nx s1 =>
      obtain ⟨r2, h2, p2⟩ := itF_way P Q l s1 (n + 1) p1 (fun i y t hy pt => by
        have e : n + 1 + i = n + (i + 1) := by omega
        rw [e] at pt
        obtain ⟨t', q1, q2⟩ := hs (i + 1) y t hy pt
        exact ⟨t', q1, by rw [e]; exact q2⟩) (fun t ht => hd t (by rw [List.length_cons]; have e : n + (l.length + 1) = n + 1 + l.length := by omega
                                                                   rw [e]; exact ht))
      exact ⟨r2, bind_ok h1 h2, p2⟩
theorem whF_inv {c : S → Option Bool} {f : S → Option (Fl S R)} (P : S → Prop) (μ : S → Nat) (Q : S → Prop) : ∀ (n : Nat) (s : S), μ s < n → P s → (∀ s, P s → (c s = some false ∧ Q s) ∨ (c s = some true ∧ ∃ s', f s = some (.nx s') ∧ P s' ∧ μ s' < μ s)) → ∃ s', whF c f n s = some (.nx s') ∧ Q s'
  | 0, s, h, _, _ => absurd h (Nat.not_lt_zero _)
  | n + 1, s, h, hp, hs => by
    rcases hs s hp with ⟨h1, h2⟩ | ⟨h1, s1, h2, h3, h4⟩
    · exact ⟨s, bind_ok h1 (if_neg Bool.false_ne_true), h2⟩
    · obtain ⟨s2, h5, h6⟩ := whF_inv P μ Q n s1 (by omega) h3 hs
      exact ⟨s2, bind_ok h1 ((if_pos rfl).trans (bind_ok h2 h5)), h6⟩
theorem fuel_eq : fuel = 1000000 := rfl
theorem mapO_ok {f : A → Option B} {g : A → B} : ∀ {xs : List A}, (∀ x ∈ xs, f x = some (g x)) → mapO f xs = some (xs.map g)
  | [], _ => rfl
  | x :: l, h => bind_ok (h x List.mem_cons_self) (bind_ok (mapO_ok fun y hy => h y (List.mem_cons_of_mem _ hy)) rfl)
theorem mapO_all {f : A → Option B} {Q : B → Prop} : ∀ {xs : List A}, (∀ x ∈ xs, ∃ y, f x = some y ∧ Q y) → ∃ ys, mapO f xs = some ys ∧ ys.length = xs.length ∧ ∀ y ∈ ys, Q y
  | [], _ => ⟨[], rfl, rfl, fun _ h => (nomatch h)⟩
  | x :: l, h => by
    obtain ⟨y, h1, h2⟩ := h x List.mem_cons_self
    obtain ⟨ys, h3, h4, h5⟩ := mapO_all (Q := Q) fun z hz => h z (List.mem_cons_of_mem _ hz)
    refine ⟨y :: ys, bind_ok h1 (bind_ok h3 rfl), by rw [List.length_cons, List.length_cons, h4], fun z hz => ?_⟩
    rcases List.mem_cons.mp hz with rfl | hz
    · exact h2
    · exact h5 z hz
theorem itM_congr {f g : A → S → Option S} : ∀ {xs : List A} {s : S}, (∀ x s, x ∈ xs → f x s = g x s) → itM f xs s = itM g xs s
  | [], _, _ => rfl
  | x :: l, s, h => by
    show (f x s).bind _ = (g x s).bind _
    rw [h x s List.mem_cons_self]
    congr 1
    funext t
    exact itM_congr fun y u hy => h y u (List.mem_cons_of_mem _ hy)
theorem ex_itF_way {f : A → S → Option (Fl S R)} {g : Fl S R → Option B} {xs : List A} {s : S} {Q : B → Prop} (P : Nat → S → Prop) (W : Fl S R → Prop) (h0 : P 0 s) (hs : ∀ i x s, xs[i]? = some x → P i s → ∃ r, f x s = some r ∧ match r with | .nx s' => P (i + 1) s' | .bk s' => W (.nx s') | .rt q => W (.rt q)) (he : ∀ s, P xs.length s → W (.nx s)) (hd : ∀ r, W r → ∃ y, g r = some y ∧ Q y) : ∃ y, (itF f xs s).bind g = some y ∧ Q y := by
  obtain ⟨r, h1, h2⟩ := itF_way (f := f) P W xs s 0 h0 (fun i x s hx hp => by rw [Nat.zero_add] at hp ⊢; exact hs i x s hx hp) (fun s h => he s (by rw [Nat.zero_add] at h; exact h))
  obtain ⟨y, h3, h4⟩ := hd r h2
  exact ⟨y, bind_ok h1 h3, h4⟩
theorem rngI_mem {lo hi x : Int} : x ∈ rngI lo hi ↔ lo ≤ x ∧ x < hi := by
  unfold rngI
  rw [List.mem_map]
  constructor
  · rintro ⟨i, hi', rfl⟩
    rw [List.mem_range] at hi'
    omega
  · rintro ⟨h1, h2⟩
    exact ⟨(x - lo).toNat, by rw [List.mem_range]; omega, by omega⟩
theorem rngC_ok {lo hi : Int} (h1 : -(2 ^ 62) ≤ lo) (h2 : lo < 2 ^ 62) (h3 : -(2 ^ 62) ≤ hi) (h4 : hi < 2 ^ 62) : rngC lo hi = some (rngI lo hi) := grd_ok ⟨h1, h2, h3, h4⟩
theorem modC_ok {i j : Int} (h : 0 < j) : modC i j = some (i % j) := grd_ok h
theorem divC_ok {i j : Int} (n : Nat) (h : 0 < j) (h2 : j.natAbs < 2 ^ n) (hn : n ≤ 9000 := by decide) : divC i j = some (i / j) := by
  refine grd_ok ⟨h, ?_⟩
  have := (Nat.log2_lt (by omega : j.natAbs ≠ 0)).mpr h2
  omega
theorem intBits_le {i : Int} {n : Nat} (h : i.natAbs < 2 ^ n) : Builtin.Int.intBits i ≤ n := by
  unfold Builtin.Int.intBits
  split
  · exact Nat.zero_le _
  · next h0 =>
    have e : i.natAbs ≠ 0 := by
      intro e
      apply h0
      have : i = 0 := by omega
      rw [this]; rfl
    have := (Nat.log2_lt e).mpr h
    omega
theorem intBits_iff {i : Int} {n : Nat} : Builtin.Int.intBits i ≤ n ↔ i.natAbs < 2 ^ n := by
  refine ⟨fun h => ?_, intBits_le⟩
  by_cases h0 : i = 0
  · subst h0
    exact Nat.two_pow_pos n
  · unfold Builtin.Int.intBits at h
    rw [if_neg (by simpa using h0)] at h
    exact (Nat.log2_lt (by omega)).mp (by omega)
theorem shlC_ok {i j : Int} (n : Nat) (h0 : 0 ≤ j) (hi : i.natAbs < 2 ^ n) (hj : (n : Int) + j ≤ 2 ^ 27) : shlC i j = some (i * 2 ^ j.toNat) := by
  refine grd_ok ⟨h0, ?_⟩
  have := intBits_le hi
  omega
theorem shrC_ok {i j : Int} (h0 : 0 ≤ j) : shrC i j = some (i / 2 ^ j.toNat) := grd_ok h0
theorem mulC_ok {i j : Int} (h : i.natAbs < 2 ^ 64 ∨ j.natAbs < 2 ^ 64) : mulC i j = some (i * j) := by
  refine grd_ok ?_
  rcases h with h | h
  · exact IntMulOk.of_left (intBits_le h)
  · exact IntMulOk.of_right (intBits_le h)
theorem appC_ok {xs : List A} {x : A} (h : xs.length < 16777216) : appC xs x = some (xs ++ [x]) := grd_ok h
theorem catC_ok {xs ys : List A} (h : xs.length + ys.length ≤ 16777216) : catC xs ys = some (xs ++ ys) := grd_ok h
theorem repC_ok {xs : List A} {k : Int} (h1 : -(2 ^ 63) ≤ k) (h2 : k < 2 ^ 63) (h3 : xs.length * k.toNat ≤ 16777216) : repC xs k = some (List.replicate k.toNat xs).flatten := grd_ok ⟨h1, h2, h3⟩
theorem rep1 {x : A} (n : Nat) : (List.replicate n [x]).flatten = List.replicate n x := by
  induction n with
  | zero => rfl
  | succ n ih => rw [List.replicate_succ, List.flatten_cons, ih]; rfl
theorem repC1_ok {x : A} {k : Int} (h1 : -(2 ^ 63) ≤ k) (h2 : k ≤ 16777216) : repC [x] k = some (List.replicate k.toNat x) := by
  rw [repC_ok h1 (by omega) (by show 1 * k.toNat ≤ _; omega), rep1]
theorem atI_ok {xs : List A} {i : Int} (h0 : 0 ≤ i) (h : i < xs.length) : atI xs i = some (xs[i.toNat]'(by omega)) := by
  have e : i = ((i.toNat : Nat) : Int) := by omega
  have h2 : i.toNat < xs.length := by omega
  have := atI_nat (xs := xs) (j := i.toNat) (v := xs[i.toNat]) (List.getElem?_eq_getElem h2)
  rw [← e] at this
  exact this
theorem atI_get? {xs : List A} {i : Int} (h0 : 0 ≤ i) : atI xs i = xs[i.toNat]? := by
  by_cases h : i < xs.length
  · rw [atI_ok h0 h, List.getElem?_eq_getElem]
  · rw [List.getElem?_eq_none (by omega)]
    unfold atI ixN
    rw [if_pos h0, if_neg h]
    rfl
theorem setC_ok {xs : List A} {i : Int} {x : A} (h0 : 0 ≤ i) (h : i < xs.length) : setC xs i x = some (xs.set i.toNat x) := by
  unfold setC ixN
  rw [if_pos h0, if_pos h]
  rfl
theorem cut_to {xs : List A} {k : Int} (h : 0 ≤ k) : cut xs none (some k) = xs.take k.toNat := by
  unfold cut
  rw [HT.sIx_none]
  have e : k = ((k.toNat : Nat) : Int) := by omega
  rw [e, HT.sIx_nat, List.drop_zero, Nat.sub_zero]
  have : ((k.toNat : Nat) : Int).toNat = k.toNat := by omega
  rw [this]
  by_cases h2 : k.toNat ≤ xs.length
  · rw [Nat.min_eq_left h2]
  · rw [Nat.min_eq_right (by omega), List.take_of_length_le (Nat.le_refl _), List.take_of_length_le (by omega)]
theorem cut_from {xs : List A} {k : Int} (h : 0 ≤ k) : cut xs (some k) none = xs.drop k.toNat := by
  unfold cut
  have e : k = ((k.toNat : Nat) : Int) := by omega
  rw [e, HT.sIx_nat, HT.sIx_none]
  have : ((k.toNat : Nat) : Int).toNat = k.toNat := by omega
  rw [this]
  by_cases h2 : k.toNat ≤ xs.length
  · rw [Nat.min_eq_left h2, List.take_of_length_le (by rw [List.length_drop]; exact Nat.le_refl _)]
  · rw [Nat.min_eq_right (by omega), List.drop_of_length_le (Nat.le_refl _), List.drop_of_length_le (by omega), List.take_nil]
theorem cut_mid {xs : List A} {i j : Int} (h : 0 ≤ i) (h2 : i ≤ j) : cut xs (some i) (some j) = (xs.drop i.toNat).take (j - i).toNat := by
  unfold cut
  have e : i = ((i.toNat : Nat) : Int) := by omega
  have e' : j = ((j.toNat : Nat) : Int) := by omega
  have e3 : (j - i).toNat = j.toNat - i.toNat := by omega
  rw [e3]
  rw [e, e', HT.sIx_nat, HT.sIx_nat]
  have q1 : ((i.toNat : Nat) : Int).toNat = i.toNat := by omega
  have q2 : ((j.toNat : Nat) : Int).toNat = j.toNat := by omega
  rw [q1, q2]
  by_cases h3 : i.toNat ≤ xs.length
  · rw [Nat.min_eq_left h3]
    by_cases h4 : j.toNat ≤ xs.length
    · rw [Nat.min_eq_left h4]
    · rw [Nat.min_eq_right (by omega), List.take_of_length_le (by rw [List.length_drop]; omega), List.take_of_length_le (by rw [List.length_drop]; omega)]
  · have q3 : min i.toNat xs.length = xs.length := by omega
    rw [q3, List.drop_of_length_le (Nat.le_refl _), List.drop_of_length_le (by omega), List.take_nil, List.take_nil]
theorem ex_bind {m : Option A} {f : A → Option B} {x : A} {Q : B → Prop} (h : m = some x) (h2 : ∃ r, f x = some r ∧ Q r) : ∃ r, m.bind f = some r ∧ Q r := by
  subst h
  exact h2
theorem ex_some {x : A} {Q : A → Prop} (h : Q x) : ∃ r, some x = some r ∧ Q r := ⟨x, rfl, h⟩
theorem ex_if {b : Bool} {m1 m2 : Option A} {Q : A → Prop} (h1 : b = true → ∃ r, m1 = some r ∧ Q r) (h2 : b = false → ∃ r, m2 = some r ∧ Q r) : ∃ r, (if b = true then m1 else m2) = some r ∧ Q r := by
  cases b with
  | true => exact h1 rfl
  | false => exact h2 rfl
theorem ex_ifP {p : Prop} [Decidable p] {m1 m2 : Option A} {Q : A → Prop} (h1 : p → ∃ r, m1 = some r ∧ Q r) (h2 : ¬ p → ∃ r, m2 = some r ∧ Q r) : ∃ r, (if decide p = true then m1 else m2) = some r ∧ Q r := by
  by_cases h : p
  · rw [if_pos (decide_eq_true h)]
    exact h1 h
  · rw [if_neg (by simp [h])]
    exact h2 h
theorem ex_itM {f : A → S → Option S} {g : S → Option B} {xs : List A} {s : S} {Q : B → Prop} (P : Nat → S → Prop) (h0 : P 0 s) (hs : ∀ i x s, xs[i]? = some x → P i s → ∃ s', f x s = some s' ∧ P (i + 1) s') (hd : ∀ s', P xs.length s' → ∃ r, g s' = some r ∧ Q r) : ∃ r, (itM f xs s).bind g = some r ∧ Q r := by
  obtain ⟨s', h1, h2⟩ := itM_ok P h0 hs
  exact ex_bind h1 (hd s' h2)
theorem ex_itF {f : A → S → Option (Fl S R)} {g : Fl S R → Option B} {xs : List A} {s : S} {Q : B → Prop} (P : Nat → S → Prop) (h0 : P 0 s) (hs : ∀ i x s, xs[i]? = some x → P i s → ∃ s', f x s = some (.nx s') ∧ P (i + 1) s') (hd : ∀ s', P xs.length s' → ∃ r, g (.nx s') = some r ∧ Q r) : ∃ r, (itF f xs s).bind g = some r ∧ Q r := by
  obtain ⟨s', h1, h2⟩ := itF_ok P h0 hs
  exact ex_bind h1 (hd s' h2)
/-- a turn that goes on -/
def IsN (P : S → Prop) : Fl S R → Prop
  | .nx s => P s
  | _ => False
theorem ex_itN {f : A → S → Option (Fl S R)} {g : Fl S R → Option B} {xs : List A} {s : S} {Q : B → Prop} (P : Nat → S → Prop) (h0 : P 0 s) (hs : ∀ i x s, xs[i]? = some x → P i s → ∃ r, f x s = some r ∧ IsN (P (i + 1)) r) (hd : ∀ s', P xs.length s' → ∃ r, g (.nx s') = some r ∧ Q r) : ∃ r, (itF f xs s).bind g = some r ∧ Q r :=
  ex_itF P h0 (fun i x s hx hp => by
    obtain ⟨r, h1, h2⟩ := hs i x s hx hp
    cases r with
    | nx s' => exact ⟨s', h1, h2⟩
    | bk _ => exact h2.elim
    | rt _ => exact h2.elim) hd
theorem ex_mapO {f : A → Option C} {h : List C → Option B} {xs : List A} {Q : B → Prop} {R : C → Prop} (hs : ∀ x ∈ xs, ∃ y, f x = some y ∧ R y) (hd : ∀ ys, ys.length = xs.length → (∀ y ∈ ys, R y) → ∃ r, h ys = some r ∧ Q r) : ∃ r, (mapO f xs).bind h = some r ∧ Q r := by
  obtain ⟨ys, h1, h2, h3⟩ := mapO_all hs
  exact ex_bind h1 (hd ys h2 h3)
theorem ex_mapG {f : A → Option C} (g : A → C) {h : List C → Option B} {xs : List A} {Q : B → Prop} (hs : ∀ x ∈ xs, f x = some (g x)) (hd : ∃ r, h (xs.map g) = some r ∧ Q r) : ∃ r, (mapO f xs).bind h = some r ∧ Q r := ex_bind (mapO_ok hs) hd
/-- a call whose answer is told by what holds of it -/
theorem ex_call {m : Option A} {f : A → Option B} {R : A → Prop} {Q : B → Prop} (h : ∃ x, m = some x ∧ R x) (h2 : ∀ x, R x → ∃ r, f x = some r ∧ Q r) : ∃ r, m.bind f = some r ∧ Q r := by
  obtain ⟨x, h1, h3⟩ := h
  exact ex_bind h1 (h2 x h3)
theorem of_ex {m : Option A} {x : A} (h : ∃ r, m = some r ∧ r = x) : m = some x := by
  obtain ⟨r, h1, rfl⟩ := h
  exact h1
theorem ex_grd {p : Prop} [Decidable p] {x : A} {f : A → Option B} {Q : B → Prop} (hp : p) (h2 : ∃ r, f x = some r ∧ Q r) : ∃ r, (grd p x).bind f = some r ∧ Q r := ex_bind (grd_ok hp) h2
theorem maxI_eq (i j : Int) : maxI i j = max i j := by unfold maxI; split <;> omega
theorem minI_eq (i j : Int) : minI i j = min i j := by unfold minI; split <;> omega
theorem absI_eq (i : Int) : absI i = (i.natAbs : Int) := by unfold absI; split <;> omega
theorem all_true {l : List A} {p : A → Bool} : (l.map p).all id = true ↔ ∀ x ∈ l, p x = true := by
  rw [List.all_map, List.all_eq_true]
  rfl
end
end Mn
/-! Bt: the bit operators on ints -/
namespace Bt
open PySem PySem.Builtin
theorem not_half (x : Int) : bitNot (x / 2) = bitNot x / 2 := by unfold bitNot; omega
theorem not_mod (x : Int) : bitNot x % 2 = 1 - x % 2 := by unfold bitNot; omega
theorem nand_half (a b : Nat) : (a &&& b) / 2 = a / 2 &&& b / 2 := Nat.and_div_two
theorem nand_mod (a b : Nat) : (a &&& b) % 2 = if a % 2 = 1 ∧ b % 2 = 1 then 1 else 0 := by
  split
  · next h => exact Nat.and_mod_two_eq_one.mpr h
  · next h =>
    have : ¬ (a &&& b) % 2 = 1 := fun e => h (Nat.and_mod_two_eq_one.mp e)
    omega
theorem and_nn {x y : Int} (hx : 0 ≤ x) (hy : 0 ≤ y) : bitAnd x y = ((x.toNat &&& y.toNat : Nat) : Int) := by
  unfold bitAnd
  rw [decide_eq_true hx, decide_eq_true hy]
theorem and_np {x y : Int} (hx : 0 ≤ x) (hy : ¬ 0 ≤ y) : bitAnd x y = x - ((x.toNat &&& (bitNot y).toNat : Nat) : Int) := by
  unfold bitAnd
  rw [decide_eq_true hx, decide_eq_false hy]
theorem and_pn {x y : Int} (hx : ¬ 0 ≤ x) (hy : 0 ≤ y) : bitAnd x y = y - ((y.toNat &&& (bitNot x).toNat : Nat) : Int) := by
  unfold bitAnd
  rw [decide_eq_false hx, decide_eq_true hy]
theorem and_pp {x y : Int} (hx : ¬ 0 ≤ x) (hy : ¬ 0 ≤ y) : bitAnd x y = bitNot (((bitNot x).toNat ||| (bitNot y).toNat : Nat) : Int) := by
  unfold bitAnd
  rw [decide_eq_false hx, decide_eq_false hy]
theorem nor_half (a b : Nat) : (a ||| b) / 2 = a / 2 ||| b / 2 := Nat.or_div_two
theorem nor_mod (a b : Nat) : (a ||| b) % 2 = if a % 2 = 1 ∨ b % 2 = 1 then 1 else 0 := by
  split
  · next h => exact Nat.or_mod_two_eq_one.mpr h
  · next h =>
    have : ¬ (a ||| b) % 2 = 1 := fun e => h (Nat.or_mod_two_eq_one.mp e)
    omega
theorem and_half (x y : Int) : bitAnd x y / 2 = bitAnd (x / 2) (y / 2) := by
  by_cases hx : 0 ≤ x <;> by_cases hy : 0 ≤ y
  · rw [and_nn hx hy, and_nn (by omega) (by omega)]
    have e1 : (x / 2).toNat = x.toNat / 2 := by omega
    have e2 : (y / 2).toNat = y.toNat / 2 := by omega
    rw [e1, e2, ← nand_half]
    omega
  · rw [and_np hx hy, and_np (by omega) (by omega), not_half]
    have e1 : (x / 2).toNat = x.toNat / 2 := by omega
    have e2 : (bitNot y / 2).toNat = (bitNot y).toNat / 2 := by unfold bitNot; omega
    rw [e1, e2, ← nand_half]
    have h1 := nand_mod x.toNat (bitNot y).toNat
    have h2 : (x.toNat &&& (bitNot y).toNat) ≤ x.toNat := Nat.and_le_left
    split at h1 <;> omega
  · rw [and_pn hx hy, and_pn (by omega) (by omega), not_half]
    have e1 : (y / 2).toNat = y.toNat / 2 := by omega
    have e2 : (bitNot x / 2).toNat = (bitNot x).toNat / 2 := by unfold bitNot; omega
    rw [e1, e2, ← nand_half]
    have h1 := nand_mod y.toNat (bitNot x).toNat
    split at h1 <;> omega
  · rw [and_pp hx hy, and_pp (by omega) (by omega), not_half, not_half]
    have e1 : (bitNot x / 2).toNat = (bitNot x).toNat / 2 := by unfold bitNot; omega
    have e2 : (bitNot y / 2).toNat = (bitNot y).toNat / 2 := by unfold bitNot; omega
    rw [e1, e2, ← nor_half]
    generalize (bitNot x).toNat ||| (bitNot y).toNat = z
    unfold bitNot
    omega
theorem and_mod (x y : Int) : bitAnd x y % 2 = if x % 2 = 1 ∧ y % 2 = 1 then 1 else 0 := by
  by_cases hx : 0 ≤ x <;> by_cases hy : 0 ≤ y
  · rw [and_nn hx hy]
    have h1 := nand_mod x.toNat y.toNat
    split at h1 <;> split <;> omega
  · rw [and_np hx hy]
    have h1 := nand_mod x.toNat (bitNot y).toNat
    have h2 : (x.toNat &&& (bitNot y).toNat) ≤ x.toNat := Nat.and_le_left
    have h3 : ((bitNot y).toNat : Int) = -y - 1 := by unfold bitNot; omega
    split at h1 <;> split <;> omega
  · rw [and_pn hx hy]
    have h1 := nand_mod y.toNat (bitNot x).toNat
    have h3 : ((bitNot x).toNat : Int) = -x - 1 := by unfold bitNot; omega
    split at h1 <;> split <;> omega
  · rw [and_pp hx hy]
    have h1 := nor_mod (bitNot x).toNat (bitNot y).toNat
    have h3 : ((bitNot x).toNat : Int) = -x - 1 := by unfold bitNot; omega
    have h4 : ((bitNot y).toNat : Int) = -y - 1 := by unfold bitNot; omega
    rw [not_mod]
    split at h1 <;> split <;> omega
theorem or_half (x y : Int) : bitOr x y / 2 = bitOr (x / 2) (y / 2) := by
  unfold bitOr
  rw [← not_half, and_half, ← not_half, ← not_half]
theorem or_mod (x y : Int) : bitOr x y % 2 = if x % 2 = 1 ∨ y % 2 = 1 then 1 else 0 := by
  unfold bitOr
  rw [not_mod, and_mod, not_mod, not_mod]
  split <;> split <;> omega
theorem xor_half (x y : Int) : bitXor x y / 2 = bitXor (x / 2) (y / 2) := by
  unfold bitXor
  rw [← or_half, ← and_half]
  have h1 := or_mod x y
  have h2 := and_mod x y
  split at h1 <;> split at h2 <;> omega
theorem xor_mod (x y : Int) : bitXor x y % 2 = (x + y) % 2 := by
  unfold bitXor
  have h1 := or_mod x y
  have h2 := and_mod x y
  split at h1 <;> split at h2 <;> omega
theorem or_nn {x y : Int} (hx : 0 ≤ x) (hy : 0 ≤ y) : bitOr x y = ((x.toNat ||| y.toNat : Nat) : Int) := L2.bitOr_nn hx hy
/-- what divides -/
theorem dvd_succ (k : Nat) (x : Int) : (2 : Int) ^ (k + 1) ∣ x ↔ x % 2 = 0 ∧ (2 : Int) ^ k ∣ x / 2 := by
  have e : (2 : Int) ^ (k + 1) = 2 ^ k * 2 := Int.pow_succ 2 k
  rw [e]
  constructor
  · rintro ⟨c, rfl⟩
    have h1 : 2 ^ k * 2 * c = 2 * (2 ^ k * c) := by rw [Int.mul_comm (2 ^ k) 2, Int.mul_assoc]
    rw [h1]
    refine ⟨by omega, ⟨c, by omega⟩⟩
  · rintro ⟨h, c, hc⟩
    refine ⟨c, ?_⟩
    have h1 : 2 ^ k * 2 * c = 2 * (2 ^ k * c) := by rw [Int.mul_comm (2 ^ k) 2, Int.mul_assoc]
    rw [h1, ← hc]
    omega
theorem dvd_or (k : Nat) (x y : Int) : (2 : Int) ^ k ∣ bitOr x y ↔ (2 : Int) ^ k ∣ x ∧ (2 : Int) ^ k ∣ y := by
  induction k generalizing x y with
  | zero => simp
  | succ k ih =>
    rw [dvd_succ, dvd_succ, dvd_succ, or_half, ih, or_mod]
    split
    · constructor
      · intro h; omega
      · intro h; omega
    · constructor
      · intro h; exact ⟨⟨by omega, h.2.1⟩, ⟨by omega, h.2.2⟩⟩
      · intro h; exact ⟨rfl, h.1.2, h.2.2⟩
/-- the lowest bit -/
theorem low_nat : ∀ (n : Nat), 0 < n → ∃ v : Nat, n - (n &&& (n - 1)) = 2 ^ v ∧ 2 ^ v ∣ n ∧ ¬ 2 ^ (v + 1) ∣ n := by
  intro n
  induction n using Nat.strongRecOn with
  | _ n ih =>
    intro hn
    have hh := nand_half n (n - 1)
    have hm := nand_mod n (n - 1)
    by_cases h : n % 2 = 1
    · refine ⟨0, ?_, by simp, by rw [Nat.pow_succ]; omega⟩
      have e : (n - 1) / 2 = n / 2 := by omega
      rw [e, Nat.and_self] at hh
      have : ¬ (n % 2 = 1 ∧ (n - 1) % 2 = 1) := by omega
      rw [if_neg this] at hm
      show _ = 1
      omega
    · obtain ⟨v, h1, h2, h3⟩ := ih (n / 2) (by omega) (by omega)
      have e : (n - 1) / 2 = n / 2 - 1 := by omega
      rw [e] at hh
      have : ¬ (n % 2 = 1 ∧ (n - 1) % 2 = 1) := by omega
      rw [if_neg this] at hm
      have hle : (n / 2 &&& (n / 2 - 1)) ≤ n / 2 := Nat.and_le_left
      refine ⟨v + 1, ?_, ?_, ?_⟩
      · rw [Nat.pow_succ]; omega
      · obtain ⟨c, hc⟩ := h2
        exact ⟨c, by rw [Nat.pow_succ, Nat.mul_assoc, Nat.mul_comm 2 c, ← Nat.mul_assoc, ← hc]; omega⟩
      · rintro ⟨c, hc⟩
        apply h3
        refine ⟨c, ?_⟩
        rw [Nat.pow_succ, Nat.mul_assoc, Nat.mul_comm 2 c, ← Nat.mul_assoc] at hc
        omega
theorem low_int {t : Int} (ht : t ≠ 0) : ∃ v : Nat, bitAnd t (-t) = 2 ^ v ∧ (2 : Int) ^ v ∣ t ∧ ¬ (2 : Int) ^ (v + 1) ∣ t := by
  obtain ⟨v, h1, h2, h3⟩ := low_nat t.natAbs (by omega)
  refine ⟨v, ?_, ?_, ?_⟩
  · have hle : (t.natAbs &&& (t.natAbs - 1)) ≤ t.natAbs := Nat.and_le_left
    have e : ((2 : Int) ^ v) = ((2 ^ v : Nat) : Int) := by simp
    rw [e, ← h1]
    by_cases hp : 0 ≤ t
    · rw [and_np hp (by omega)]
      have e1 : t.toNat = t.natAbs := by omega
      have e2 : (bitNot (-t)).toNat = t.natAbs - 1 := by unfold bitNot; omega
      rw [e1, e2]
      omega
    · rw [and_pn hp (by omega)]
      have e1 : (-t).toNat = t.natAbs := by omega
      have e2 : (bitNot t).toNat = t.natAbs - 1 := by unfold bitNot; omega
      rw [e1, e2]
      omega
  · rw [← Int.natAbs_dvd_natAbs]
    simpa [Int.natAbs_pow] using h2
  · rw [← Int.natAbs_dvd_natAbs]
    simpa [Int.natAbs_pow] using h3
theorem bits_pow (v : Nat) : Mn.bitsI (2 ^ v) = (v : Int) + 1 := by
  unfold Mn.bitsI Builtin.Int.intBits
  have h : (2 : Int) ^ v ≠ 0 := by
    have : 0 < (2 : Int) ^ v := Int.pow_pos (by decide)
    omega
  rw [if_neg (by simpa using h)]
  have e : ((2 : Int) ^ v).natAbs = 2 ^ v := by simp [Int.natAbs_pow]
  rw [e, Nat.log2_two_pow]
  omega
end Bt
/-! Ls: lists by place -/
namespace Mn
open PySem L2
section
variable {A : Type}
def ls (m : Nat) (f : Nat → A) : List A := (List.range m).map f
theorem ls_len (m : Nat) (f : Nat → A) : (ls m f).length = m := by unfold ls; rw [List.length_map, List.length_range]
theorem ls_congr {m : Nat} {f g : Nat → A} (h : ∀ i, i < m → f i = g i) : ls m f = ls m g := by
  unfold ls
  apply List.map_congr_left
  intro i hi
  exact h i (List.mem_range.mp hi)
theorem ls_get {m : Nat} {f : Nat → A} {k : Nat} (h : k < m) : (ls m f)[k]? = some (f k) := by
  unfold ls
  rw [List.getElem?_map, List.getElem?_range h]
  rfl
theorem ls_at {m : Nat} {f : Nat → A} {k : Nat} (h : k < m) : atI (ls m f) (k : Int) = some (f k) := by
  rw [atI_get? (by omega), Int.toNat_natCast, ls_get h]
theorem ls_set {m : Nat} {f : Nat → A} {k : Nat} {c : A} (h : k < m) : setC (ls m f) (k : Int) c = some (ls m fun i => if i = k then c else f i) := by
  rw [setC_ok (by omega) (by rw [ls_len]; omega)]
  congr 1
  unfold ls
  apply List.ext_getElem?
  intro i
  rw [List.getElem?_set, List.getElem?_map, List.getElem?_map, Int.toNat_natCast]
  by_cases hi : i < m
  · rw [List.getElem?_range hi, List.length_map, List.length_range]
    by_cases e : k = i
    · subst e
      simp [h]
    · have : ¬ i = k := fun z => e z.symm
      simp [e, this]
  · rw [List.getElem?_eq_none (by rw [List.length_range]; omega)]
    by_cases e : k = i
    · omega
    · simp [e]
theorem ls_snoc (m : Nat) (f : Nat → A) : ls m f ++ [f m] = ls (m + 1) f := by
  unfold ls
  rw [List.range_succ, List.map_append]
  rfl
theorem ls_zero (f : Nat → A) : ls 0 f = [] := rfl
theorem ls_of (xs : List A) (d : A) : xs = ls xs.length fun i => xs.getD i d := by
  apply List.ext_getElem?
  intro i
  by_cases hi : i < xs.length
  · rw [ls_get hi, List.getElem?_eq_getElem hi]
    simp [List.getD, hi]
  · rw [List.getElem?_eq_none (by omega), List.getElem?_eq_none (by rw [ls_len]; omega)]
theorem ls_map {B : Type} (m : Nat) (f : Nat → A) (g : A → B) : (ls m f).map g = ls m fun i => g (f i) := by
  unfold ls
  rw [List.map_map]
  rfl
theorem ls_rep (m : Nat) (x : A) : List.replicate m x = ls m fun _ => x := by
  apply List.ext_getElem?
  intro i
  by_cases hi : i < m
  · rw [ls_get hi, List.getElem?_replicate, if_pos hi]
  · rw [List.getElem?_eq_none (by rw [List.length_replicate]; omega), List.getElem?_eq_none (by rw [ls_len]; omega)]
theorem at_D {xs : List A} {k : Nat} (d : A) (h : k < xs.length) : atI xs (k : Int) = some (xs.getD k d) := by
  rw [atI_ok (by omega) (by omega)]
  simp [List.getD, h]
theorem getD_ls {m : Nat} {f : Nat → A} {k : Nat} (d : A) (h : k < m) : (ls m f).getD k d = f k := by
  rw [List.getD_eq_getElem?_getD, ls_get h]
  rfl
theorem getD_mem {xs : List A} {k : Nat} (d : A) (h : k < xs.length) : xs.getD k d ∈ xs := by
  have : xs.getD k d = xs[k] := by simp [List.getD, h]
  rw [this]
  exact List.getElem_mem h
theorem mapO_ls {B : Type} {m : A → Option B} {xs : List A} {g : Nat → B} (h : ∀ (i : Nat) x, xs[i]? = some x → m x = some (g i)) : mapO m xs = some (ls xs.length g) := by
  have key : ∀ (l : List A) (g : Nat → B), (∀ (i : Nat) x, l[i]? = some x → m x = some (g i)) → mapO m l = some (ls l.length g) := by
    intro l
    induction l with
    | nil => intro g _; rfl
    | cons x l ih =>
      intro g h
      refine bind_ok (h 0 x rfl) (bind_ok (ih (fun i => g (i + 1)) fun i y hy => h (i + 1) y hy) ?_)
      unfold ls
      rw [List.length_cons, List.range_succ_eq_map, List.map_cons, List.map_map]
      rfl
  exact key xs g h
end
end Mn
/-! Eqd: == of data -/
namespace Mn
open PySem L2
structure EqT {A : Type} (f : A → D) (n : Nat) (P : A → Prop) : Prop where
  plain : ∀ x, plainD (f x) = true
  lay : ∀ x, P x → PyData.canLay0 (py (f x)) = true
  dep : ∀ x, PyData.depth (py (f x)) ≤ n
  eq : ∀ x y, PyData.eqv (py (f x)) (py (f y)) = true ↔ x = y
section
variable {A A1 A2 A3 A4 : Type} {f : A → D} {f1 : A1 → D} {f2 : A2 → D} {f3 : A3 → D} {f4 : A4 → D} {n n1 n2 n3 n4 : Nat} {P : A → Prop} {P1 : A1 → Prop} {P2 : A2 → Prop} {P3 : A3 → Prop} {P4 : A4 → Prop}
theorem eqC_ok [DecidableEq A] (h : EqT f n P) (hn : n ≤ 64) {x y : A} (hx : P x) (hy : P y) : eqC (f x) (f y) = some (decide (x = y)) := by
  unfold eqC SeqAt.shaped
  rw [grd_ok ⟨h.plain x, h.plain y, by rw [h.lay x hx]; simp; exact Nat.le_trans (h.dep x) hn, by rw [h.lay y hy]; simp; exact Nat.le_trans (h.dep y) hn⟩]
  congr 1
  rw [Bool.eq_iff_iff, h.eq, decide_eq_true_iff]
theorem eqT_int : EqT D.int 1 (fun _ => True) := ⟨fun _ => by simp only [plainD], fun _ _ => by simp only [py, PyData.canLay0], fun _ => by simp only [py, PyData.depth]; decide, fun x y => by simp only [py, PyData.eqv]; exact beq_iff_eq⟩
theorem eqT_bl : EqT D.bl 1 (fun _ => True) := ⟨fun _ => by simp only [plainD], fun _ _ => by simp only [py, PyData.canLay0], fun _ => by simp only [py, PyData.depth]; decide, fun x y => by simp only [py, PyData.eqv]; exact beq_iff_eq⟩
theorem eqT_str : EqT D.str 1 (fun s => PyData.strOk s = true) := ⟨fun _ => by simp only [plainD], fun _ h => by simp only [py, PyData.canLay0]; exact h, fun _ => by simp only [py, PyData.depth]; decide, fun x y => by simp only [py, PyData.eqv]; exact beq_iff_eq⟩
theorem plains (h : EqT f n P) : ∀ xs : List A, plainDs (xs.map f) = true
  | [] => by simp only [List.map_nil, plainDs]
  | x :: l => by rw [List.map_cons]; simp only [plainDs]; rw [h.plain x, plains h l]; rfl
theorem lays (h : EqT f n P) : ∀ xs : List A, (∀ x ∈ xs, P x) → PyData.canLayAll0 (pys (xs.map f)) = true
  | [], _ => by simp only [List.map_nil, pys, PyData.canLayAll0]
  | x :: l, hp => by rw [List.map_cons]; simp only [pys, PyData.canLayAll0]; rw [h.lay x (hp x List.mem_cons_self), lays h l fun y hy => hp y (List.mem_cons_of_mem _ hy)]; rfl
theorem deps (h : EqT f n P) : ∀ xs : List A, PyData.depthAll (pys (xs.map f)) ≤ n
  | [] => by simp only [List.map_nil, pys, PyData.depthAll]; omega
  | x :: l => by
    rw [List.map_cons]
    simp only [pys, PyData.depthAll]
    have := h.dep x
    have := deps h l
    omega
theorem eqs (h : EqT f n P) : ∀ xs ys : List A, PyData.eqvAll (pys (xs.map f)) (pys (ys.map f)) = true ↔ xs = ys
  | [], [] => by simp [pys, PyData.eqvAll]
  | [], y :: ys => by simp [pys, PyData.eqvAll]
  | x :: xs, [] => by simp [pys, PyData.eqvAll]
  | x :: xs, y :: ys => by
    rw [List.map_cons, List.map_cons]
    simp only [pys, PyData.eqvAll, Bool.and_eq_true]
    rw [h.eq, eqs h]
    simp
theorem eqT_l (h : EqT f n P) : EqT (lD f) (n + 1) (fun xs => ∀ x ∈ xs, P x) := ⟨fun xs => by simp only [lD, plainD]; exact plains h xs, fun xs hp => by simp only [lD, py, PyData.canLay0]; exact lays h xs hp, fun xs => by
  simp only [lD, py, PyData.depth]
  have := deps h xs
  omega, fun xs ys => by simp only [lD, py, PyData.eqv]; exact eqs h xs ys⟩
theorem eqT_t2 (h1 : EqT f1 n P1) (h2 : EqT f2 n P2) : EqT (pD2 f1 f2) (n + 1) (fun p => P1 p.1 ∧ P2 p.2) := ⟨fun p => by simp only [pD2, plainD, plainDs]; rw [h1.plain, h2.plain]; rfl, fun p hp => by simp only [pD2, py, pys, PyData.canLay0, PyData.canLayAll0]; rw [h1.lay _ hp.1, h2.lay _ hp.2]; rfl, fun p => by
  simp only [pD2, py, pys, PyData.depth, PyData.depthAll]
  have := h1.dep p.1
  have := h2.dep p.2
  omega, fun p q => by
  simp only [pD2, py, pys, PyData.eqv, PyData.eqvAll, Bool.and_eq_true, Bool.and_true]
  rw [h1.eq, h2.eq, Prod.ext_iff]⟩
theorem eqT_t3 (h1 : EqT f1 n P1) (h2 : EqT f2 n P2) (h3 : EqT f3 n P3) : EqT (pD3 f1 f2 f3) (n + 1) (fun p => P1 p.1 ∧ P2 p.2.1 ∧ P3 p.2.2) := ⟨fun p => by simp only [pD3, plainD, plainDs]; rw [h1.plain, h2.plain, h3.plain]; rfl, fun p hp => by simp only [pD3, py, pys, PyData.canLay0, PyData.canLayAll0]; rw [h1.lay _ hp.1, h2.lay _ hp.2.1, h3.lay _ hp.2.2]; rfl, fun p => by
  simp only [pD3, py, pys, PyData.depth, PyData.depthAll]
  have := h1.dep p.1
  have := h2.dep p.2.1
  have := h3.dep p.2.2
  omega, fun p q => by
  simp only [pD3, py, pys, PyData.eqv, PyData.eqvAll, Bool.and_eq_true, Bool.and_true]
  rw [h1.eq, h2.eq, h3.eq, Prod.ext_iff, Prod.ext_iff]⟩
theorem eqT_t4 (h1 : EqT f1 n P1) (h2 : EqT f2 n P2) (h3 : EqT f3 n P3) (h4 : EqT f4 n P4) : EqT (pD4 f1 f2 f3 f4) (n + 1) (fun p => P1 p.1 ∧ P2 p.2.1 ∧ P3 p.2.2.1 ∧ P4 p.2.2.2) := ⟨fun p => by simp only [pD4, plainD, plainDs]; rw [h1.plain, h2.plain, h3.plain, h4.plain]; rfl, fun p hp => by simp only [pD4, py, pys, PyData.canLay0, PyData.canLayAll0]; rw [h1.lay _ hp.1, h2.lay _ hp.2.1, h3.lay _ hp.2.2.1, h4.lay _ hp.2.2.2]; rfl, fun p => by
  simp only [pD4, py, pys, PyData.depth, PyData.depthAll]
  have := h1.dep p.1
  have := h2.dep p.2.1
  have := h3.dep p.2.2.1
  have := h4.dep p.2.2.2
  omega, fun p q => by
  simp only [pD4, py, pys, PyData.eqv, PyData.eqvAll, Bool.and_eq_true, Bool.and_true]
  rw [h1.eq, h2.eq, h3.eq, h4.eq, Prod.ext_iff, Prod.ext_iff, Prod.ext_iff]⟩
theorem EqT.up (h : EqT f n P) {m : Nat} (hm : n ≤ m) : EqT f m P := ⟨h.plain, h.lay, fun x => Nat.le_trans (h.dep x) hm, h.eq⟩
/-- optional data: the values are not None -/
theorem eqT_o (h : EqT f n P) (h0 : ∀ x, PyData.eqv .none (py (f x)) = false ∧ PyData.eqv (py (f x)) .none = false) (hn : 1 ≤ n) : EqT (oD f) n (fun o => ∀ x, o = some x → P x) := ⟨fun o => by
  cases o with
  | none => simp only [oD, plainD]
  | some x => simp only [oD]; exact h.plain x, fun o hp => by
  cases o with
  | none => simp only [oD, py, PyData.canLay0]
  | some x => simp only [oD]; exact h.lay x (hp x rfl), fun o => by
  cases o with
  | none => simp only [oD, py, PyData.depth]; omega
  | some x => simp only [oD]; exact h.dep x, fun o o' => by
  cases o with
  | none =>
    cases o' with
    | none => simp only [oD, py, PyData.eqv]
    | some y => simp only [oD, py]; rw [(h0 y).1]; simp
  | some x =>
    cases o' with
    | none => simp only [oD, py]; rw [(h0 x).2]; simp
    | some y => simp only [oD]; rw [h.eq]; simp⟩
theorem h0_int (x : Int) : PyData.eqv .none (py (D.int x)) = false ∧ PyData.eqv (py (D.int x)) .none = false := by simp only [py, PyData.eqv]; exact ⟨trivial, trivial⟩
theorem h0_t2 (x : A1 × A2) : PyData.eqv .none (py (pD2 f1 f2 x)) = false ∧ PyData.eqv (py (pD2 f1 f2 x)) .none = false := by simp only [pD2, py, PyData.eqv]; exact ⟨trivial, trivial⟩
theorem h0_l (x : List A) : PyData.eqv .none (py (lD f x)) = false ∧ PyData.eqv (py (lD f x)) .none = false := by simp only [lD, py, PyData.eqv]; exact ⟨trivial, trivial⟩
end
end Mn
namespace K09
open PySem L2 Mn
open Evl (Ex)
def m_l_cell (script_ : List Int) (k_ : Int) : Option Int :=
  if (decide (k_ < (script_.length : Int))) = true then (
  (atI script_ k_).bind fun x3 =>
  some x3
  ) else (
  some 0
  )
def m_l_draw (cell_here_ : Int) (many_ : Int) (bound_ : Int) : Option (List Int) :=
  if (decide (((10 : Int) ^ 18) ≤ cell_here_)) = true then (
  (rngC 0 many_).bind fun r5 =>
  (itM (fun (k_6 : Int) (s7 : Int × (List Int)) => ((modC s7.1 bound_).bind fun n1018 => (appC s7.2 n1018).bind fun l1019 => (divC s7.1 bound_).bind fun n1021 => some (n1021, l1019) : Option (Int × (List Int)))) r5 (cell_here_, ([] : List Int))).bind fun r8 =>
  some r8.2
  ) else (
  bnd ((cell_here_ % 2147483647) : Int) fun seed_1027 =>
  (rngC 0 many_).bind fun r1029 =>
  (itM (fun (k_1030 : Int) (s1031 : (List Int) × Int) => (bnd (((((s1031.2 * 48271) + 12345) + k_1030) % 2147483647) : Int) fun seed_2042 => bnd ((((seed_2042 * 69621) + (977 * k_1030)) % 2147483629) : Int) fun mixed_2044 => (modC (mixed_2044 / 3) bound_).bind fun n2046 => (appC s1031.1 n2046).bind fun l2047 => some (l2047, seed_2042) : Option ((List Int) × Int))) r1029 (([] : List Int), seed_1027)).bind fun r1032 =>
  some r1032.1
  )
def m_l_channel (cell_here_ : Int) (many_ : Int) (depth_ : Int) : Option (List Int) :=
  (m_l_draw cell_here_ many_ (1 * 2 ^ 36)).bind fun c1 =>
  (itM (fun (number_6 : Int) (s7 : (List Int)) => ((shlC 1 depth_).bind fun n1018 => (modC (number_6 / 8) n1018).bind fun n1019 => (shlC 1 (depth_ - 1)).bind fun n1020 => bnd ((n1019 - n1020) : Int) fun value_1021 => (if (decide ((number_6 % 8) = 0)) = true then ((shlC 1 (depth_ - 1)).bind fun n2026 => bnd ((-n2026) : Int) fun value_2027 => some (value_2027)) else (some (value_1021)) : Option (Int)).bind fun s2024 => (if (decide ((number_6 % 8) = 1)) = true then ((shlC 1 (depth_ - 1)).bind fun n3035 => bnd ((n3035 - 1) : Int) fun value_3036 => some (value_3036)) else (some (s2024)) : Option (Int)).bind fun s3033 => (appC s7 s3033).bind fun l3041 => some (l3041) : Option ((List Int)))) c1 (([] : List Int))).bind fun r8 =>
  some r8
def m_bytes_of (number_ : Int) (many_ : Int) : Option (List Int) :=
  (rngC 0 many_).bind fun r4 =>
  (grd (r4.length ≤ 16777216) ()).bind fun z3 =>
  (mapO (fun at_1 => ((shrC number_ (8 * at_1)).bind fun n5 => some (Builtin.bitAnd n5 255))) r4).bind fun l2 =>
  some l2
def m_sample_bytes (channels_ : List (List Int)) (depth_ : Int) : Option (List Int) :=
  bnd (((depth_ + 7) / 8) : Int) fun many_5 =>
  (atI channels_ 0).bind fun x9 =>
  (rngC 0 (x9.length : Int)).bind fun r15 =>
  (itM (fun (at_16 : Int) (s17 : (List Int)) => ((itM (fun (channel_1028 : List Int) (s1029 : (List Int)) => ((atI channel_1028 at_16).bind fun x2043 => (m_bytes_of x2043 many_5).bind fun c2044 => (catC s1029 c2044).bind fun l2045 => some (l2045) : Option ((List Int)))) channels_ (s17)).bind fun r1030 => some (r1030) : Option ((List Int)))) r15 (([] : List Int))).bind fun r18 =>
  some r18
def m_l_is_integer (actual_ : Int) : Option Bool :=
  bnd ((true && (!false)) : Bool) fun x_1 =>
  some x_1
def m_l_same (actual_ : List Int) (expected_ : List Int) : Option Bool :=
  if (false || (!decide ((actual_.length : Int) = (expected_.length : Int)))) = true then (
  some false
  ) else (
  (rngC 0 (expected_.length : Int)).bind fun r5 =>
  (itF (fun (k_6 : Int) (s7 : Unit) => ((atI actual_ k_6).bind fun x1018 => (m_l_is_integer x1018).bind fun c1019 => (orC (!c1019) ((atI actual_ k_6).bind fun x1020 => (atI expected_ k_6).bind fun x1021 => some (!decide (x1020 = x1021)))).bind fun b1022 => if b1022 = true then ( some (.rt false) ) else ( some (.nx ()) ) : Option (Fl (Unit) Bool))) r5 ()).bind fun r8 => match r8 with
  | .bk _ => none | .rt q1029 => some q1029 | .nx s1028 =>
  some true
  )
def m_l_read (data_ : List Int) (at_ : Int) (many_ : Int) : Option Int :=
  (rngC 0 many_).bind fun r2 =>
  (itM (fun (k_3 : Int) (s4 : Int) => ((atI data_ (at_ + k_3)).bind fun x1015 => (shlC x1015 (8 * k_3)).bind fun n1016 => bnd ((s4 + n1016) : Int) fun value_1017 => some (value_1017) : Option (Int))) r2 (0)).bind fun r5 =>
  (atI data_ ((at_ + many_) - 1)).bind fun x1021 =>
  (if (decide (128 ≤ x1021)) = true then ((shlC 1 (8 * many_)).bind fun n2025 => bnd ((r5 - n2025) : Int) fun value_2026 => some (value_2026)) else (some (r5)) : Option (Int)).bind fun s2023 =>
  some s2023
def m_law (script_ : List Int) : Option Bool :=
  (m_l_cell script_ 0).bind fun c1 =>
  (m_l_draw c1 3 (1 * 2 ^ 20)).bind fun c2 =>
  (atI c2 0).bind fun x5 =>
  bnd ((1 + (x5 % 8)) : Int) fun count_6 =>
  (atI c2 1).bind fun x8 =>
  bnd ((x8 % 9) : Int) fun size_9 =>
  (atI c2 2).bind fun x11 =>
  bnd ((4 + (x11 % 29)) : Int) fun depth_12 =>
  (rngC 0 count_6).bind fun r14 =>
  (grd (r14.length ≤ 16777216) ()).bind fun z15 =>
  (mapO (fun (k_16 : Int) => ((m_l_cell script_ (1 + k_16)).bind fun c33 => (m_l_channel c33 size_9 depth_12).bind fun c34 => some c34 : Option (List Int))) r14).bind fun l32 =>
  (grd (l32.length ≤ 16777216) ()).bind fun z48 =>
  (mapO (fun (row_49 : List Int) => (some row_49 : Option (List Int))) l32).bind fun l65 =>
  (m_sample_bytes l65 depth_12).bind fun c90 =>
  bnd (((depth_12 + 7) / 8) : Int) fun many_93 =>
  (orC false ((mulC count_6 size_9).bind fun n95 => (mulC n95 many_93).bind fun n96 => (orC (!decide ((c90.length : Int) = n96)) ((eqC ((lD (lD D.int)) l65) ((lD (lD D.int)) l32)).bind fun q97 => some (!q97))).bind fun b98 => some b98)).bind fun b99 =>
  if b99 = true then (
  some false
  ) else (
  (rngC 0 size_9).bind fun r106 =>
  (itM (fun (at_107 : Int) (s108 : (List Int)) => ((itM (fun (row_1120 : List Int) (s1121 : (List Int)) => ((rngC 0 many_93).bind fun r2139 => (grd (r2139.length ≤ 16777216) ()).bind fun z2138 => (mapO (fun k_2136 => ((atI row_1120 at_107).bind fun x2140 => (shrC x2140 (8 * k_2136)).bind fun n2141 => some (Builtin.bitAnd n2141 255))) r2139).bind fun l2137 => (catC s1121 l2137).bind fun l2142 => some (l2142) : Option ((List Int)))) l32 (s108)).bind fun r1122 => some (r1122) : Option ((List Int)))) r106 (([] : List Int))).bind fun r109 =>
  (m_l_same c90 r109).bind fun c2149 =>
  if (!c2149) = true then (
  some false
  ) else (
  (rngC 0 size_9).bind fun r2154 =>
  (itF (fun (at_2155 : Int) (s2156 : Unit) => ((rngC 0 count_6).bind fun r3167 => (itF (fun (k_3168 : Int) (s3169 : Unit) => ((mulC at_2155 count_6).bind fun n4180 => (mulC (n4180 + k_3168) many_93).bind fun n4181 => (m_l_read c90 n4181 many_93).bind fun c4182 => (atI l32 k_3168).bind fun x4183 => (atI x4183 at_2155).bind fun x4189 => if (!decide (c4182 = x4189)) = true then ( some (.rt false) ) else ( some (.nx ()) ) : Option (Fl (Unit) Bool))) r3167 ()).bind fun r3170 => match r3170 with | .bk _ => none | .rt q4196 => some (.rt q4196) | .nx s4195 => some (.nx ()) : Option (Fl (Unit) Bool))) r2154 ()).bind fun r2157 => match r2157 with
  | .bk _ => none | .rt q4200 => some q4200 | .nx s4199 =>
  some true
  )
  )
end K09
-- COMMON: Cm Bt Ls Eqd
namespace K09
open PySem L2 Mn
theorem cell_ok (ns : List Int) {k : Int} (h : 0 ≤ k) : ∃ c, m_l_cell ns k = some c ∧ True := by
  unfold m_l_cell
  refine ex_ifP (fun hk => ?_) (fun _ => ex_some trivial)
  exact ex_bind (atI_ok h hk) (ex_some trivial)
theorem draw_ok (c : Int) {n b : Int} (h0 : 0 ≤ n) (h1 : n ≤ 100000) (hb : 0 < b) (hb2 : b < 2 ^ 64) : ∃ xs, m_l_draw c n b = some xs ∧ xs.length = n.toNat ∧ ∀ x ∈ xs, 0 ≤ x ∧ x < b := by
  unfold m_l_draw
  simp only [bnd_eq]
  have hm : ∀ y : Int, 0 ≤ y % b ∧ y % b < b := fun y => ⟨Int.emod_nonneg _ (by omega), Int.emod_lt_of_pos _ hb⟩
  have ha : ∀ (s : List Int) (y : Int), (∀ x ∈ s, 0 ≤ x ∧ x < b) → ∀ x ∈ s ++ [y % b], 0 ≤ x ∧ x < b := by
    intro s y hs x hx
    rcases List.mem_append.mp hx with h | h
    · exact hs x h
    · rcases List.mem_singleton.mp h with rfl
      exact hm y
  refine ex_if (fun _ => ?_) (fun _ => ?_)
  · refine ex_bind (rngC_ok (by omega) (by omega) (by omega) (by omega)) ?_
    refine ex_itM (fun i (s : Int × List Int) => s.2.length = i ∧ ∀ x ∈ s.2, 0 ≤ x ∧ x < b) ⟨rfl, fun _ h => (nomatch h)⟩ (fun i x s hx hp => ?_) (fun s p => ex_some ⟨?_, p.2⟩)
    · have hi := (rngI_at hx).2
      refine ex_bind (modC_ok hb) (ex_bind (appC_ok (by omega)) (ex_bind (divC_ok 64 hb (by omega)) (ex_some ⟨?_, ha _ _ hp.2⟩)))
      rw [List.length_append, hp.1]; rfl
    · rw [p.1, rngI_length, Int.sub_zero]
  · refine ex_bind (rngC_ok (by omega) (by omega) (by omega) (by omega)) ?_
    refine ex_itM (fun i (s : List Int × Int) => s.1.length = i ∧ ∀ x ∈ s.1, 0 ≤ x ∧ x < b) ⟨rfl, fun _ h => (nomatch h)⟩ (fun i x s hx hp => ?_) (fun s p => ex_some ⟨?_, p.2⟩)
    · have hi := (rngI_at hx).2
      refine ex_bind (modC_ok hb) (ex_bind (appC_ok (by omega)) (ex_some ⟨?_, ha _ _ hp.2⟩))
      rw [List.length_append, hp.1]; rfl
    · rw [p.1, rngI_length, Int.sub_zero]

theorem and_low (k : Nat) : ∀ x : Int, Builtin.bitAnd x (2 ^ k - 1) = x % 2 ^ k := by
  induction k with
  | zero =>
    intro x
    have h1 := Bt.and_nn (x := 0) (y := 0) (by decide) (by decide)
    have e : ((2 : Int) ^ 0 - 1) = 0 := rfl
    rw [e]
    have e2 : x % 2 ^ 0 = 0 := by rw [Int.pow_zero]; exact Int.emod_one x
    rw [e2]
    by_cases hx : 0 ≤ x
    · rw [Bt.and_nn hx (by decide)]
      simp
    · rw [Bt.and_pn hx (by decide)]
      simp
  | succ k ih =>
    intro x
    have hh := Bt.and_half x (2 ^ (k + 1) - 1)
    have hm := Bt.and_mod x (2 ^ (k + 1) - 1)
    have hp : (0 : Int) < 2 ^ k := Int.pow_pos (by decide)
    have e1 : ((2 : Int) ^ (k + 1) - 1) / 2 = 2 ^ k - 1 := by rw [Int.pow_succ]; omega
    have e2 : ((2 : Int) ^ (k + 1) - 1) % 2 = 1 := by rw [Int.pow_succ]; omega
    rw [e1, ih] at hh
    rw [e2] at hm
    have e3 : x % 2 ^ (k + 1) = 2 * (x / 2 % 2 ^ k) + x % 2 := by
      have h1 := Int.mul_ediv_add_emod x 2
      have h2 := Int.mul_ediv_add_emod (x / 2) (2 ^ k)
      have h3 := Int.emod_nonneg (x / 2) (show (2 : Int) ^ k ≠ 0 by omega)
      have h4 := Int.emod_lt_of_pos (x / 2) hp
      have h5 : x = 2 ^ (k + 1) * (x / 2 / 2 ^ k) + (2 * (x / 2 % 2 ^ k) + x % 2) := by
        rw [Int.pow_succ]
        have : (2 : Int) ^ k * 2 * (x / 2 / 2 ^ k) = 2 * (2 ^ k * (x / 2 / 2 ^ k)) := by
          rw [Int.mul_comm (2 ^ k) 2, Int.mul_assoc]
        omega
      conv => lhs; rw [h5]
      rw [Int.mul_add_emod_self_left]
      apply Int.emod_eq_of_lt
      · omega
      · rw [Int.pow_succ]
        omega
    rw [e3]
    have h6 : (if x % 2 = 1 ∧ (1 : Int) = 1 then (1 : Int) else 0) = x % 2 := by
      by_cases h : x % 2 = 1
      · rw [if_pos ⟨h, rfl⟩, h]
      · rw [if_neg (fun z => h z.1)]
        omega
    rw [h6] at hm
    omega
theorem and255 (x : Int) : Builtin.bitAnd x 255 = x % 256 := and_low 8 x
/-- the j-th byte -/
def byt (v : Int) (j : Nat) : Int := v / 2 ^ (8 * j) % 256
theorem byt_rng (v : Int) (j : Nat) : 0 ≤ byt v j ∧ byt v j < 256 := by unfold byt; omega
theorem byte_ok (v : Int) (j : Nat) : ((shrC v (8 * (j : Int))).bind fun n => some (Builtin.bitAnd n 255)) = some (byt v j) := by
  refine bind_ok (shrC_ok (by omega)) ?_
  have : (8 * (j : Int)).toNat = 8 * j := by omega
  rw [this, and255]
  rfl
theorem bytes_ok (v : Int) {m : Nat} (hm : m ≤ 100) : m_bytes_of v (m : Int) = some (ls m (byt v)) := by
  unfold m_bytes_of
  refine of_ex (ex_bind (rngC_ok (by omega) (by omega) (by omega) (by omega)) (ex_grd (by rw [rngI_length]; omega) ?_))
  refine ex_bind (x := ls m (byt v)) ?_ (ex_some rfl)
  have hl : (rngI 0 (m : Int)).length = m := by rw [rngI_length]; omega
  have := mapO_ls (m := fun at_ => ((shrC v (8 * at_)).bind fun n => some (Builtin.bitAnd n 255))) (xs := rngI 0 (m : Int)) (g := byt v) (fun i x hx => by
    obtain ⟨h1, h2⟩ := rngI_at hx
    rw [Int.zero_add] at h1
    subst h1
    exact byte_ok v i)
  rw [hl] at this
  exact this
theorem ls_app {A : Type} {n m : Nat} {f g : Nat → A} (h : ∀ j, j < m → g j = f (n + j)) : ls n f ++ ls m g = ls (n + m) f := by
  apply List.ext_getElem?
  intro i
  by_cases h1 : i < n
  · rw [List.getElem?_append_left (by rw [ls_len]; exact h1), ls_get h1, ls_get (by omega)]
  · rw [List.getElem?_append_right (by rw [ls_len]; omega), ls_len]
    by_cases h2 : i < n + m
    · rw [ls_get (by omega), ls_get h2, h _ (by omega)]
      congr 2
      omega
    · rw [List.getElem?_eq_none (by rw [ls_len]; omega), List.getElem?_eq_none (by rw [ls_len]; omega)]
/-- the bytes in a row: place (at * c + k) * m + j -/
def place (ch : List (List Int)) (c m : Nat) (i : Nat) : Int := byt ((ch.getD (i / m % c) []).getD (i / m / c) 0) (i % m)
theorem place_at (ch : List (List Int)) {c m a k j : Nat} (hk : k < c) (hj : j < m) : place ch c m ((a * c + k) * m + j) = byt ((ch.getD k []).getD a 0) j := by
  unfold place
  have h1 : ((a * c + k) * m + j) / m = a * c + k := by
    rw [Nat.mul_comm, Nat.mul_add_div (by omega), Nat.div_eq_of_lt hj, Nat.add_zero]
  have h2 : ((a * c + k) * m + j) % m = j := by
    rw [Nat.mul_comm, Nat.mul_add_mod, Nat.mod_eq_of_lt hj]
  have h3 : (a * c + k) % c = k := by rw [Nat.mul_comm, Nat.mul_add_mod, Nat.mod_eq_of_lt hk]
  have h4 : (a * c + k) / c = a := by rw [Nat.mul_comm, Nat.mul_add_div (by omega), Nat.div_eq_of_lt hk, Nat.add_zero]
  rw [h1, h2, h3, h4]
theorem data_len (c size m : Nat) : ∀ a k, (a * c + k) * m + m = (a * c + (k + 1)) * m := by
  intro a k
  rw [← Nat.add_assoc, Nat.add_mul (a * c + k) 1 m, Nat.one_mul]
/-- rows one behind another -/
theorem rows_ok {ch : List (List Int)} {c size m : Nat} (hc : ch.length = c) (hc8 : c ≤ 8) (hs : size ≤ 8) (hm : m ≤ 4) (hch : ∀ r ∈ ch, r.length = size) {a : Nat} (ha : a < size) {F : List Int → List Int → Option (List Int)}
    (hF : ∀ (row : List Int) (n : Nat) (f g : Nat → Int), n ≤ 10000 → row.length = size → (∀ j, j < m → f (n + j) = byt (row.getD a 0) j) → F row (ls n f) = some (ls (n + m) f)) :
    itM F ch (ls (a * c * m) (place ch c m)) = some (ls ((a + 1) * c * m) (place ch c m)) := by
  have hac : a * c ≤ 8 * 8 := Nat.mul_le_mul (by omega) hc8
  obtain ⟨s, h1, h2⟩ := itM_ok (f := F) (xs := ch) (s := ls (a * c * m) (place ch c m)) (fun k s => s = ls ((a * c + k) * m) (place ch c m)) (by rw [Nat.add_zero]) (fun k row s hx hp => by
    have hk : k < c := by
      have := (List.getElem?_eq_some_iff.mp hx).1
      omega
    have hrow : ch.getD k [] = row := by rw [List.getD_eq_getElem?_getD, hx]; rfl
    refine ⟨_, ?_, rfl⟩
    rw [hp, ← data_len c size m a k]
    have hb : (a * c + k) * m ≤ 72 * 4 := Nat.mul_le_mul (by omega) hm
    refine hF row _ _ (fun _ => 0) (by omega) (hch _ (List.mem_of_getElem? hx)) fun j hj => ?_
    rw [place_at ch hk hj, hrow])
  rw [h1, h2, hc, Nat.add_mul a 1 c, Nat.one_mul]
theorem sample_ok {ch : List (List Int)} {c size m : Nat} {depth : Int} (hc : ch.length = c) (hc0 : 0 < c) (hc8 : c ≤ 8) (hs : size ≤ 8) (hm : m ≤ 4) (hd : (depth + 7) / 8 = (m : Int)) (hch : ∀ r ∈ ch, r.length = size) : m_sample_bytes ch depth = some (ls (size * c * m) (place ch c m)) := by
  unfold m_sample_bytes
  simp only [bnd_eq]
  rw [hd]
  have h0 : atI ch 0 = some (ch[0]'(by omega)) := atI_ok (by decide) (by omega)
  refine of_ex (ex_bind h0 ?_)
  have hl0 : (ch[0]'(by omega)).length = size := hch _ (List.getElem_mem _)
  rw [hl0]
  refine ex_bind (rngC_ok (by omega) (by omega) (by omega) (by omega)) ?_
  refine ex_itM (fun a s => s = ls (a * c * m) (place ch c m)) (by simp [ls_zero]) (fun a x s hx hp => ?_) (fun s hs => ex_some ?_)
  · obtain ⟨hx1, hx2⟩ := rngI_at hx
    rw [Int.zero_add] at hx1
    subst hx1
    subst hp
    refine ex_bind (rows_ok (size := size) hc hc8 hs hm hch (by omega) fun row n f g hn hrow hf => ?_) (ex_some rfl)
    refine of_ex (ex_bind (at_D 0 (by omega)) (ex_bind (bytes_ok _ (by omega)) (ex_bind (catC_ok (by rw [ls_len, ls_len]; omega)) (ex_some ?_))))
    exact ls_app fun j hj => (hf j hj).symm
  · rw [hs, rngI_length]
    have : ((size : Int) - 0).toNat = size := by omega
    rw [this]
theorem same_ok (xs : List Int) (h : xs.length ≤ 10000) : m_l_same xs xs = some true := by
  unfold m_l_same
  rw [if_neg (by simp)]
  refine of_ex (ex_bind (rngC_ok (by omega) (by omega) (by omega) (by omega)) ?_)
  refine ex_itN (fun _ _ => True) trivial (fun i k _ hk _ => ?_) (fun _ _ => ex_some rfl)
  obtain ⟨h1, h2⟩ := rngI_at hk
  have ha : atI xs k = some (xs[k.toNat]'(by omega)) := atI_ok (by omega) (by omega)
  refine ex_bind ha ?_
  refine ex_bind (x := true) rfl ?_
  refine ex_bind (x := false) ?_ ?_
  · unfold orC
    rw [ha]
    simp
  · rw [if_neg (by decide)]
    exact ex_some trivial
/-- the bytes are read back -/
theorem low_sum (v : Int) (k : Nat) : v % 2 ^ (8 * k) + byt v k * 2 ^ (8 * k) = v % 2 ^ (8 * (k + 1)) := by
  unfold byt
  have hp : (0 : Int) < 2 ^ (8 * k) := Int.pow_pos (by decide)
  have e1 : (2 : Int) ^ (8 * (k + 1)) = 2 ^ (8 * k) * 256 := by
    have : 8 * (k + 1) = 8 * k + 8 := by omega
    rw [this, Int.pow_add]
    rfl
  rw [e1]
  generalize (2 : Int) ^ (8 * k) = p at hp
  have h1 := Int.mul_ediv_add_emod v p
  have h2 := Int.mul_ediv_add_emod (v / p) 256
  have h3 := Int.emod_nonneg v (show p ≠ 0 by omega)
  have h4 := Int.emod_lt_of_pos v hp
  have h5 : v = p * 256 * (v / p / 256) + (v % p + v / p % 256 * p) := by
    have q1 : p * 256 * (v / p / 256) = p * (256 * (v / p / 256)) := Int.mul_assoc _ _ _
    have q2 : v / p % 256 * p = p * (v / p % 256) := Int.mul_comm _ _
    have q3 : p * (256 * (v / p / 256)) + p * (v / p % 256) = p * (v / p) := by rw [← Int.mul_add, h2]
    omega
  conv => rhs; rw [h5]
  rw [Int.mul_add_emod_self_left]
  symm
  apply Int.emod_eq_of_lt
  · have : 0 ≤ v / p % 256 * p := Int.mul_nonneg (by omega) (by omega)
    omega
  · have : v / p % 256 * p ≤ 255 * p := Int.mul_le_mul_of_nonneg_right (by omega) (by omega)
    omega
theorem read_ok {data : List Int} {at_ m : Nat} {v : Int} (hm : 0 < m) (hm4 : m ≤ 4) (hb : -(2 ^ (8 * m)) ≤ 2 * v ∧ 2 * v < 2 ^ (8 * m)) (hd : ∀ j, j < m → atI data ((at_ + j : Nat) : Int) = some (byt v j)) : m_l_read data (at_ : Int) (m : Int) = some v := by
  unfold m_l_read
  simp only [bnd_eq]
  refine of_ex (ex_bind (rngC_ok (by omega) (by omega) (by omega) (by omega)) ?_)
  refine ex_itM (fun k s => s = v % 2 ^ (8 * k)) (by simp) (fun k x s hx hp => ?_) (fun s hs => ?_)
  · obtain ⟨hx1, hx2⟩ := rngI_at hx
    rw [Int.zero_add] at hx1
    subst hx1
    subst hp
    have e1 : (at_ : Int) + (k : Int) = ((at_ + k : Nat) : Int) := by omega
    rw [e1]
    refine ex_bind (hd k (by omega)) ?_
    have := byt_rng v k
    refine ex_bind (shlC_ok 8 (by omega) (by omega) (by omega)) (ex_some ?_)
    have e2 : (8 * (k : Int)).toNat = 8 * k := by omega
    rw [e2]
    exact low_sum v k
  · rw [rngI_length] at hs
    have e0 : ((m : Int) - 0).toNat = m := by omega
    rw [e0] at hs
    subst hs
    have e1 : (at_ : Int) + (m : Int) - 1 = ((at_ + (m - 1) : Nat) : Int) := by omega
    rw [e1]
    refine ex_bind (hd (m - 1) (by omega)) ?_
    have hp : (0 : Int) < 2 ^ (8 * (m - 1)) := Int.pow_pos (by decide)
    have e2 : (2 : Int) ^ (8 * m) = 2 ^ (8 * (m - 1)) * 256 := by
      have : 8 * m = 8 * (m - 1) + 8 := by omega
      conv => lhs; rw [this, Int.pow_add]
      rfl
    have hls := low_sum v (m - 1)
    have e3 : m - 1 + 1 = m := by omega
    rw [e3] at hls
    have hbr := byt_rng v (m - 1)
    have h3 := Int.emod_nonneg v (show (2 : Int) ^ (8 * (m - 1)) ≠ 0 by omega)
    have h4 := Int.emod_lt_of_pos v hp
    -- v mod M: v or v + M
    have hM : v % 2 ^ (8 * m) = if 0 ≤ v then v else v + 2 ^ (8 * m) := by
      split
      · exact Int.emod_eq_of_lt (by omega) (by omega)
      · have : v % 2 ^ (8 * m) = (v + 2 ^ (8 * m)) % 2 ^ (8 * m) := by rw [Int.add_emod_right]
        rw [this]
        exact Int.emod_eq_of_lt (by omega) (by omega)
    have e4 : (8 * (m : Int)).toNat = 8 * m := by omega
    refine ex_call (R := fun s => s = v) ?_ fun s hs => ex_some hs
    refine ex_ifP (fun h => ?_) (fun h => ?_)
    · refine ex_bind (shlC_ok 1 (by omega) (by decide) (by omega)) (ex_some ?_)
      rw [e4, Int.one_mul]
      have hge : 128 * 2 ^ (8 * (m - 1)) ≤ byt v (m - 1) * 2 ^ (8 * (m - 1)) := Int.mul_le_mul_of_nonneg_right h (by omega)
      rw [hM] at hls ⊢
      split at hls
      · next h0 => omega
      · next h0 => rw [if_neg h0]; omega
    · refine ex_some ?_
      have hle : byt v (m - 1) * 2 ^ (8 * (m - 1)) ≤ 127 * 2 ^ (8 * (m - 1)) := Int.mul_le_mul_of_nonneg_right (by omega) (by omega)
      rw [hM] at hls ⊢
      split at hls
      · next h0 => rw [if_pos h0]
      · next h0 => omega
theorem channel_ok (c : Int) {size d : Nat} (hs : size ≤ 8) (hd : 4 ≤ d) (hd2 : d ≤ 32) : ∃ r, m_l_channel c (size : Int) (d : Int) = some r ∧ r.length = size ∧ ∀ v ∈ r, -(2 ^ (d - 1)) ≤ v ∧ v < 2 ^ (d - 1) := by
  unfold m_l_channel
  simp only [bnd_eq]
  refine ex_call (draw_ok c (by omega) (by omega) (by decide) (by decide)) fun xs ⟨hl, hx⟩ => ?_
  have e1 : (1 : Int) * 2 ^ (d : Int).toNat = 2 ^ (d - 1) * 2 := by
    rw [Int.toNat_natCast, Int.one_mul]
    have : d = (d - 1) + 1 := by omega
    conv => lhs; rw [this, Int.pow_succ]
  have e2 : (1 : Int) * 2 ^ ((d : Int) - 1).toNat = 2 ^ (d - 1) := by
    have : ((d : Int) - 1).toNat = d - 1 := by omega
    rw [this, Int.one_mul]
  have hp : (0 : Int) < 2 ^ (d - 1) := Int.pow_pos (by decide)
  have s1 : shlC 1 (d : Int) = some (2 ^ (d - 1) * 2) := by rw [shlC_ok 1 (by omega) (by decide) (by omega), e1]
  have s2 : shlC 1 ((d : Int) - 1) = some (2 ^ (d - 1)) := by rw [shlC_ok 1 (by omega) (by decide) (by omega), e2]
  refine ex_itM (fun i (s : List Int) => s.length = i ∧ ∀ v ∈ s, -(2 ^ (d - 1)) ≤ v ∧ v < 2 ^ (d - 1)) ⟨rfl, fun _ h => (nomatch h)⟩ (fun i x s hx' hp' => ?_) (fun s hs' => ex_some ⟨by omega, hs'.2⟩)
  have hil : i < xs.length := (List.getElem?_eq_some_iff.mp hx').1
  refine ex_bind s1 (ex_bind (modC_ok (by omega)) (ex_bind s2 ?_))
  have m1 := Int.emod_nonneg (x / 8) (show (2 : Int) ^ (d - 1) * 2 ≠ 0 by omega)
  have m2 := Int.emod_lt_of_pos (x / 8) (show (0 : Int) < 2 ^ (d - 1) * 2 by omega)
  refine ex_call (R := fun v => -(2 ^ (d - 1)) ≤ v ∧ v < 2 ^ (d - 1)) (ex_if (fun _ => ex_bind s2 (ex_some (by omega))) (fun _ => ex_some (by omega))) fun v hv => ?_
  refine ex_call (R := fun v => -(2 ^ (d - 1)) ≤ v ∧ v < 2 ^ (d - 1)) (ex_if (fun _ => ex_bind s2 (ex_some (by omega))) (fun _ => ex_some hv)) fun v hv => ?_
  refine ex_bind (appC_ok (by omega)) (ex_some ⟨by rw [List.length_append, hp'.1]; rfl, fun y hy => ?_⟩)
  rcases List.mem_append.mp hy with h | h
  · exact hp'.2 y h
  · rcases List.mem_singleton.mp h with rfl
    exact hv
theorem law_true (ns : List Int) (hl : ns.length ≤ 63) (hb : ∀ z ∈ ns, Builtin.Int.intBits z ≤ 1048576) : m_law ns = some true := by
  unfold m_law
  simp only [bnd_eq]
  refine of_ex (ex_call (cell_ok ns (by decide)) fun c1 _ => ?_)
  refine ex_call (draw_ok c1 (by decide) (by decide) (by decide) (by decide)) fun sz ⟨hsz, _⟩ => ?_
  refine ex_bind (atI_ok (by decide) (by rw [hsz]; decide)) (ex_bind (atI_ok (by decide) (by rw [hsz]; decide)) (ex_bind (atI_ok (by decide) (by rw [hsz]; decide)) ?_))
  generalize sz[(0 : Int).toNat]'_ = x0
  generalize sz[(1 : Int).toNat]'_ = x1
  generalize sz[(2 : Int).toNat]'_ = x2
  obtain ⟨c, hc, hc0, hc8⟩ : ∃ c : Nat, 1 + x0 % 8 = (c : Int) ∧ 0 < c ∧ c ≤ 8 := ⟨(1 + x0 % 8).toNat, by omega, by omega, by omega⟩
  obtain ⟨size, hs, hs8⟩ : ∃ s : Nat, x1 % 9 = (s : Int) ∧ s ≤ 8 := ⟨(x1 % 9).toNat, by omega, by omega⟩
  obtain ⟨d, hd, hd4, hd32⟩ : ∃ d : Nat, 4 + x2 % 29 = (d : Int) ∧ 4 ≤ d ∧ d ≤ 32 := ⟨(4 + x2 % 29).toNat, by omega, by omega, by omega⟩
  obtain ⟨m, hm, hm0, hm4, hdm⟩ : ∃ m : Nat, ((d : Int) + 7) / 8 = (m : Int) ∧ 0 < m ∧ m ≤ 4 ∧ d ≤ 8 * m := ⟨(((d : Int) + 7) / 8).toNat, by omega, by omega, by omega, by omega⟩
  rw [hc, hs, hd, hm]
  refine ex_bind (rngC_ok (by omega) (by omega) (by omega) (by omega)) (ex_grd (by rw [rngI_length]; omega) ?_)
  refine ex_mapO (R := fun r => r.length = size ∧ ∀ v ∈ r, -(2 ^ (d - 1)) ≤ v ∧ v < 2 ^ (d - 1)) (fun k hk => ?_) fun ch hchl hch => ?_
  · rw [rngI_mem] at hk
    refine ex_call (cell_ok ns (by omega)) fun ck _ => ex_call (channel_ok ck hs8 hd4 hd32) fun r hr => ex_some hr
  have hcl : ch.length = c := by rw [hchl, rngI_length]; omega
  refine ex_grd (by omega) ?_
  refine ex_mapG id (fun r _ => rfl) ?_
  rw [List.map_id]
  refine ex_bind (sample_ok hcl hc0 hc8 hs8 hm4 hm (fun r hr => (hch r hr).1)) ?_
  have hn1 : size * c ≤ 8 * 8 := Nat.mul_le_mul hs8 hc8
  have hn2 : size * c * m ≤ 64 * 4 := Nat.mul_le_mul hn1 hm4
  refine ex_bind (x := false) ?_ ?_
  · unfold orC
    rw [if_neg (by decide), mulC_ok (.inl (by omega))]
    simp only [some_bind']
    rw [mulC_ok (.inr (by omega))]
    simp only [some_bind']
    rw [ls_len, if_neg (by rw [Int.mul_comm (c : Int) (size : Int)]; simp), eqC_ok (eqT_l (eqT_l eqT_int)) (by decide) (fun _ _ _ _ => trivial) (fun _ _ _ _ => trivial)]
    simp
  rw [if_neg (by decide)]
  refine ex_bind (rngC_ok (by omega) (by omega) (by omega) (by omega)) ?_
  refine ex_itM (fun a s => s = ls (a * c * m) (place ch c m)) (by simp [ls_zero]) (fun a x s hx hp => ?_) (fun s hs' => ?_)
  · obtain ⟨hx1, hx2⟩ := rngI_at hx
    rw [Int.zero_add] at hx1
    subst hx1
    subst hp
    refine ex_bind (rows_ok (size := size) hcl hc8 hs8 hm4 (fun r hr => (hch r hr).1) (by omega) fun row n f g hn hrow hf => ?_) (ex_some rfl)
    refine of_ex (ex_bind (rngC_ok (by omega) (by omega) (by omega) (by omega)) (ex_grd (by rw [rngI_length]; omega) ?_))
    refine ex_bind (x := ls m (byt (row.getD a 0))) ?_ (ex_bind (catC_ok (by rw [ls_len, ls_len]; omega)) (ex_some (ls_app fun j hj => (hf j hj).symm)))
    have hl2 : (rngI 0 (m : Int)).length = m := by rw [rngI_length]; omega
    have := mapO_ls (m := fun k_2136 => ((atI row (a : Int)).bind fun x2140 => (shrC x2140 (8 * k_2136)).bind fun n2141 => some (Builtin.bitAnd n2141 255))) (xs := rngI 0 (m : Int)) (g := byt (row.getD a 0)) (fun i x hx => by
      obtain ⟨h1, h2⟩ := rngI_at hx
      rw [Int.zero_add] at h1
      subst h1
      exact bind_ok (at_D 0 (by omega)) (byte_ok _ i))
    rw [hl2] at this
    exact this
  have e0 : ((size : Int) - 0).toNat = size := by omega
  rw [rngI_length, e0] at hs'
  subst hs'
  refine ex_bind (same_ok _ (by rw [ls_len]; omega)) ?_
  rw [if_neg (by simp)]
  refine ex_bind (rngC_ok (by omega) (by omega) (by omega) (by omega)) ?_
  refine ex_itN (fun _ _ => True) trivial (fun a x _ hx _ => ?_) (fun _ _ => ex_some rfl)
  obtain ⟨hx1, hx2⟩ := rngI_at hx
  rw [Int.zero_add] at hx1
  subst hx1
  have ha : a < size := by omega
  refine ex_bind (rngC_ok (by omega) (by omega) (by omega) (by omega)) ?_
  refine ex_itN (fun _ _ => True) trivial (fun k x _ hx _ => ?_) (fun _ _ => ex_some trivial)
  obtain ⟨hx1, hx2⟩ := rngI_at hx
  rw [Int.zero_add] at hx1
  subst hx1
  have hk : k < c := by omega
  refine ex_bind (mulC_ok (.inl (by omega))) (ex_bind (mulC_ok (.inr (by omega))) ?_)
  have e5 : ((a : Int) * (c : Int) + (k : Int)) * (m : Int) = (((a * c + k) * m : Nat) : Int) := by simp
  rw [e5]
  have hrk : ch.getD k [] ∈ ch := getD_mem [] (by omega)
  have hrl := (hch _ hrk).1
  have hv := (hch _ hrk).2 _ (getD_mem 0 (show a < (ch.getD k []).length by omega))
  have hpw : (2 : Int) ^ (d - 1) * 2 ≤ 2 ^ (8 * m) := by
    have h1 : (2 : Int) ^ (d - 1) * 2 = ((2 ^ d : Nat) : Int) := by
      have : d = (d - 1) + 1 := by omega
      conv => rhs; rw [this, Nat.pow_succ]
      simp
    have h2 : (2 : Nat) ^ d ≤ 2 ^ (8 * m) := Nat.pow_le_pow_right (by decide) hdm
    have h3 : ((2 ^ (8 * m) : Nat) : Int) = 2 ^ (8 * m) := by simp
    omega
  have hcount : (a * c + k) * m + m ≤ size * c * m := by
    have h1 : a * c + k + 1 ≤ size * c := by
      have : (a + 1) * c ≤ size * c := Nat.mul_le_mul_right c ha
      rw [Nat.add_mul, Nat.one_mul] at this
      omega
    have := Nat.mul_le_mul_right m h1
    rw [Nat.add_mul (a * c + k) 1 m, Nat.one_mul] at this
    exact this
  refine ex_bind (read_ok (v := (ch.getD k []).getD a 0) hm0 hm4 (by omega) fun j hj => ?_) ?_
  · rw [ls_at (by omega), place_at ch hk hj]
  refine ex_bind (at_D [] (by omega)) (ex_bind (at_D 0 (by omega)) ?_)
  rw [if_neg (by simp)]
  exact ex_some trivial
end K09
namespace K09
open PySem L2 Mn
open Evl (Ex)
def topS (i : Nat) : Stmt := PySem.Challenge.pw_monochord_k09_bytes_of_samples.main.body.getD i (.Pass ⟨0, 0, 0, 0⟩)
structure Txt (K : PySem.W.Frag) (mg : Str → Option Value) : Prop where
  b_bool : mg "bool" = none
  b_int : mg "int" = none
  b_isinstance : mg "isinstance" = none
  b_len : mg "len" = none
  b_list : mg "list" = none
  b_range : mg "range" = none
def sp_l_cell (K : PySem.W.Frag) (G : Cl) : Sp := fun vs H Q _ => ∃ (B : Hp) (cs : Cs) (a_script_ : Addr) (script_ : List Int) (k_ : Int) (res : Int), vs = [.ref a_script_, .int k_] ∧ Fr B cs H ∧ RdS K B cs a_script_ (List.map V.int script_) ∧ m_l_cell script_ k_ = some res ∧ ∀ H', Fr B cs H' → Q (.int res) H'
abbrev s_l_cell : Stmt := topS 8
theorem sc_l_cell : FnScope ["_law_script", "_law_k"] ["_law_script", "_law_k"] (defScope s_l_cell) := ⟨rfl, rfl, rfl, by decide +kernel, rfl, by decide +kernel, by decide +kernel⟩
theorem ok_l_cell {P : Program} {w : World} {K : PySem.W.Frag} {G : Cl} {mg : Str → Option Value} {base : Heap} {fa : Addr} {fd : FuncData} (F : Fun K "_law_cell" "_law_cell" s_l_cell fa fd) (T : Txt K mg) : FnOk P w K mg base CX0 1 fa fd ["_law_script", "_law_k"] (sp_l_cell K G) := by
  refine F.ok sc_l_cell (fun vs H Q E h => ?_) (fun cdv A outer s HB vs Q E hr h => ?_)
  · obtain ⟨B, cs, a_script_, script_, k_, res, rfl, _⟩ := h
    rfl
  · obtain ⟨B, cs, a_script_, script_, k_, res, rfl, F0, b_script_, hm, k⟩ := h
    unfold m_l_cell at hm
    refine ⟨_, (pss_cons (ps_if (pt_cmpR op_lt (pv 1) (pe_callB (kLen (K := K)) (by rfl) T.b_len (by decide +kernel) (pa_cons (pv 0) pa_nil)) (nomark _)) (pss_one (ps_ret (pe_ix (kIx (K := K)) (pv 0) (pv 1) (fun _ _ => rfl)))) pss_nil)
    (pss_one (ps_ret pe_int))), ?_⟩
    refine sl (σ' := [some (.ref a_script_), some (.int k_)]) rfl ?_
    refine g_when F0 (et_test (ev_op (ev_var (n := 1) rfl) (ev_cb (ea_cons (ev_var (n := 0) rfl) ea_nil) (rc_len (f := V.int) b_script_)) rv_I0)) (fun hb1 H F => ?_) (fun hb1 H F => ?_)
    · have F2 := F
      replace hm := of_ifT hb1 hm
      refine ss_ret ?_
      obtain ⟨x3, hx3, hm⟩ := of_bind hm
      refine st_v (v := .int x3) F2 (ev_op (ev_var (n := 0) rfl) (ev_var (n := 1) rfl) (rv_ix (f := V.int) hx3 b_script_)) fun H F4 => ?_
      obtain rfl := Option.some.inj hm
      exact k _ F4
    · have F5 := F
      replace hm := of_ifF hb1 hm
      refine ss_ret ?_
      refine st_v (v := .int 0) F5 ev_c fun H F6 => ?_
      obtain rfl := Option.some.inj hm
      exact k _ F6

def sp_l_draw (K : PySem.W.Frag) (G : Cl) : Sp := fun vs H Q _ => ∃ (B : Hp) (cs : Cs) (cell_here_ : Int) (many_ : Int) (bound_ : Int) (res : List Int), vs = [.int cell_here_, .int many_, .int bound_] ∧ Fr B cs H ∧ m_l_draw cell_here_ many_ bound_ = some res ∧ ∀ p H', Fr B ((p, .lst (List.map V.int res)) :: cs) H' → Q (.ref p) H'
abbrev s_l_draw : Stmt := topS 5
theorem sc_l_draw : FnScope ["_law_cell_here", "_law_many", "_law_bound", "_law_numbers", "_law_k", "_law_seed", "_law_mixed"] ["_law_cell_here", "_law_many", "_law_bound"] (defScope s_l_draw) := ⟨rfl, rfl, rfl, by decide +kernel, rfl, by decide +kernel, by decide +kernel⟩
theorem ok_l_draw {P : Program} {w : World} {K : PySem.W.Frag} {G : Cl} {mg : Str → Option Value} {base : Heap} {fa : Addr} {fd : FuncData} (F : Fun K "_law_draw" "_law_draw" s_l_draw fa fd) (T : Txt K mg) : FnOk P w K mg base CX0 1 fa fd ["_law_cell_here", "_law_many", "_law_bound"] (sp_l_draw K G) := by
  refine F.ok sc_l_draw (fun vs H Q E h => ?_) (fun cdv A outer s HB vs Q E hr h => ?_)
  · obtain ⟨B, cs, cell_here_, many_, bound_, res, rfl, _⟩ := h
    rfl
  · obtain ⟨B, cs, cell_here_, many_, bound_, res, rfl, F0, hm, k⟩ := h
    unfold m_l_draw at hm
    refine ⟨_, (pss_cons (ps_set (i := 3) sc_l_draw.nd rfl (Or.inl rfl) (pe_lst pa_nil))
    (pss_cons (ps_if (pt_cmpR op_ge (pv 0) (pe_op op_pow pe_int pe_int) (nomark _)) (pss_cons (ps_for PassesOwn.never rfl (pi_range1 rfl T.b_range (pa_cons (pv 1) pa_nil)) (pg_name (i := 4) sc_l_draw.nd rfl (Or.inl rfl))
      (pss_cons (ps_expr (pe_bm PySem.F.plainAttrs_list PySem.F.slot_list_append PySem.F.type_list_append mt_append (pv 3) (pa_cons (pe_op op_mod (pe_callTy cr_int (by rfl) T.b_int (by decide +kernel) (pa_cons (pv 0) pa_nil)) (pv 2)) pa_nil)))
    (pss_cons (ps_set (i := 0) sc_l_draw.nd rfl (Or.inl rfl) (pe_op op_fdivW (pv 0) (pv 2)))
    pss_nil)))
    (pss_one (ps_ret (pv 3)))) pss_nil)
    (pss_cons (ps_set (i := 5) sc_l_draw.nd rfl (Or.inl rfl) (pe_op op_mod (pe_callTy cr_int (by rfl) T.b_int (by decide +kernel) (pa_cons (pv 0) pa_nil)) pe_int))
    (pss_cons (ps_for PassesOwn.never rfl (pi_range1 rfl T.b_range (pa_cons (pv 1) pa_nil)) (pg_name (i := 4) sc_l_draw.nd rfl (Or.inl rfl))
      (pss_cons (ps_set (i := 5) sc_l_draw.nd rfl (Or.inl rfl) (pe_op op_mod (pe_callTy cr_int (by rfl) T.b_int (by decide +kernel) (pa_cons (pe_op op_add (pe_op op_add (pe_op op_mul (pv 5) pe_int) pe_int) (pv 4)) pa_nil)) pe_int))
    (pss_cons (ps_set (i := 6) sc_l_draw.nd rfl (Or.inl rfl) (pe_op op_mod (pe_callTy cr_int (by rfl) T.b_int (by decide +kernel) (pa_cons (pe_op op_add (pe_op op_mul (pv 5) pe_int) (pe_op op_mul pe_int (pv 4))) pa_nil)) pe_int))
    (pss_cons (ps_expr (pe_bm PySem.F.plainAttrs_list PySem.F.slot_list_append PySem.F.type_list_append mt_append (pv 3) (pa_cons (pe_op op_mod (pe_callTy cr_int (by rfl) T.b_int (by decide +kernel) (pa_cons (pe_op op_fdiv (pv 6) pe_int) pa_nil)) (pv 2)) pa_nil)))
    pss_nil))))
    (pss_one (ps_ret (pv 3))))))), ?_⟩
    refine sl (σ' := [some (.int cell_here_), some (.int many_), some (.int bound_), none, none, none, none]) rfl ?_
    refine g_asgN (i := 3) (o := .lst (List.map V.int ([] : List Int))) F0 (en_lst ea_nil) fun p1 H F2 => ?_
    refine sl (σ' := [some (.int cell_here_), some (.int many_), some (.int bound_), some (.ref p1), none, none, none]) rfl ?_
    refine g_when F2 (et_test (ev_op (ev_var (n := 0) rfl) (ev_op ev_c ev_c (rv_powK _ _)) rv_I0)) (fun hb3 H F => ?_) (fun hb3 H F => ?_)
    · have F4 := F
      replace hm := of_ifT hb3 hm
      obtain ⟨r5, hr5, hm⟩ := of_bind hm
      obtain ⟨r8, hl1023, hm⟩ := of_bind hm
      refine w_rngM1 hr5 hl1023 (fun s7 σ H => ∃ (u_k_ : Option V), σ = [some (.int s7.1), some (.int many_), some (.int bound_), some (.ref p1), u_k_, none, none] ∧ Fr B ((p1, .lst (List.map V.int s7.2)) :: cs) H) F4 (ea_cons (ev_var (n := 1) rfl) ea_nil) (fun H F => ?_) ?_ ?_
      · exact ⟨_, rfl, F⟩
      · rintro _ H ⟨u_k_, rfl, F1024⟩
        refine ss_ret ?_
        refine st_v F1024 (ev_var (n := 3) rfl) fun H F1025 => ?_
        obtain rfl := Option.some.inj hm
        exact k _ _ F1025
      · rintro k_6 iv16 s7 r' _ H N hi15 hb ⟨u_k_, rfl, F1017⟩ hN10
        have ho14 := hm; clear hm; have hm := hb; clear hb
        obtain rfl := hi15
        refine gn (σ' := [some (.int s7.1), some (.int many_), some (.int bound_), some (.ref p1), some (.int k_6), none, none]) rfl ?_
        obtain ⟨n1018, hn1018, hm⟩ := of_bind hm
        obtain ⟨l1019, hl1019, hm⟩ := of_bind hm
        refine g_app (f := V.int) (i := 0) F1017 hl1019 (ev_var (n := 3) rfl) (ev_op (ev_int (ev_var (n := 0) rfl)) (ev_var (n := 2) rfl) (rv_mod hn1018)) (Rd.own 0 rfl) rfl rfl fun H F1020 => ?_
        obtain ⟨n1021, hn1021, hm⟩ := of_bind hm
        refine g_asg (i := 0) (v := .int n1021) (σ' := [some (.int n1021), some (.int many_), some (.int bound_), some (.ref p1), some (.int k_6), none, none]) F1020 (ev_op (ev_var (n := 0) rfl) (ev_var (n := 2) rfl) (rv_div hn1021)) rfl fun H F1022 => ?_
        obtain rfl := Option.some.inj hm
        exact hN10 _ _ ⟨_, rfl, F1022⟩
    · have F1026 := F
      replace hm := of_ifF hb3 hm
      obtain ⟨seed_1027, hseed_1027, hm⟩ := of_bnd hm
      refine g_asg (i := 5) (v := .int seed_1027) (σ' := [some (.int cell_here_), some (.int many_), some (.int bound_), some (.ref p1), none, some (.int seed_1027), none]) F1026 (ev_cg (f := V.int) (ev_op (ev_int (ev_var (n := 0) rfl)) ev_c (rv_modK _)) hseed_1027) rfl fun H F1028 => ?_
      obtain ⟨r1029, hr1029, hm⟩ := of_bind hm
      obtain ⟨r1032, hl2049, hm⟩ := of_bind hm
      refine w_rngM1 hr1029 hl2049 (fun s1031 σ H => ∃ (u_k_ : Option V) (u_mixed_ : Option V), σ = [some (.int cell_here_), some (.int many_), some (.int bound_), some (.ref p1), u_k_, some (.int s1031.2), u_mixed_] ∧ Fr B ((p1, .lst (List.map V.int s1031.1)) :: cs) H) F1028 (ea_cons (ev_var (n := 1) rfl) ea_nil) (fun H F => ?_) ?_ ?_
      · exact ⟨_, _, rfl, F⟩
      · rintro _ H ⟨u_k_, u_mixed_, rfl, F2050⟩
        refine ss_ret ?_
        refine st_v F2050 (ev_var (n := 3) rfl) fun H F2051 => ?_
        obtain rfl := Option.some.inj hm
        exact k _ _ F2051
      · rintro k_1030 iv1040 s1031 r' _ H N hi1039 hb ⟨u_k_, u_mixed_, rfl, F2041⟩ hN1034
        have ho1038 := hm; clear hm; have hm := hb; clear hb
        obtain rfl := hi1039
        refine gn (σ' := [some (.int cell_here_), some (.int many_), some (.int bound_), some (.ref p1), some (.int k_1030), some (.int s1031.2), u_mixed_]) rfl ?_
        obtain ⟨seed_2042, hseed_2042, hm⟩ := of_bnd hm
        refine g_asg (i := 5) (v := .int seed_2042) (σ' := [some (.int cell_here_), some (.int many_), some (.int bound_), some (.ref p1), some (.int k_1030), some (.int seed_2042), u_mixed_]) F2041 (ev_cg (f := V.int) (ev_op (ev_int (ev_op (ev_op (ev_op (ev_var (n := 5) rfl) ev_c (rv_mulR _)) ev_c rv_I0) (ev_var (n := 4) rfl) rv_I0)) ev_c (rv_modK _)) hseed_2042) rfl fun H F2043 => ?_
        obtain ⟨mixed_2044, hmixed_2044, hm⟩ := of_bnd hm
        refine g_asg (i := 6) (v := .int mixed_2044) (σ' := [some (.int cell_here_), some (.int many_), some (.int bound_), some (.ref p1), some (.int k_1030), some (.int seed_2042), some (.int mixed_2044)]) F2043 (ev_cg (f := V.int) (ev_op (ev_int (ev_op (ev_op (ev_var (n := 5) rfl) ev_c (rv_mulR _)) (ev_op ev_c (ev_var (n := 4) rfl) (rv_mulL _)) rv_I0)) ev_c (rv_modK _)) hmixed_2044) rfl fun H F2045 => ?_
        obtain ⟨n2046, hn2046, hm⟩ := of_bind hm
        obtain ⟨l2047, hl2047, hm⟩ := of_bind hm
        refine g_app (f := V.int) (i := 0) F2045 hl2047 (ev_var (n := 3) rfl) (ev_op (ev_int (ev_op (ev_var (n := 6) rfl) ev_c (rv_divK _))) (ev_var (n := 2) rfl) (rv_mod hn2046)) (Rd.own 0 rfl) rfl rfl fun H F2048 => ?_
        obtain rfl := Option.some.inj hm
        exact hN1034 _ _ ⟨_, _, rfl, F2048⟩

def sp_l_channel (K : PySem.W.Frag) (G : Cl) : Sp := fun vs H Q _ => ∃ (B : Hp) (cs : Cs) (cell_here_ : Int) (many_ : Int) (depth_ : Int) (res : List Int), vs = [.int cell_here_, .int many_, .int depth_] ∧ Fr B cs H ∧ m_l_channel cell_here_ many_ depth_ = some res ∧ ∀ p H', Fr B ((p, .lst (List.map V.int res)) :: cs) H' → Q (.ref p) H'
abbrev s_l_channel : Stmt := topS 9
theorem sc_l_channel : FnScope ["_law_cell_here", "_law_many", "_law_depth", "_law_numbers", "_law_row", "_law_number", "_law_value"] ["_law_cell_here", "_law_many", "_law_depth"] (defScope s_l_channel) := ⟨rfl, rfl, rfl, by decide +kernel, rfl, by decide +kernel, by decide +kernel⟩
theorem ok_l_channel {P : Program} {w : World} {K : PySem.W.Frag} {G : Cl} {mg : Str → Option Value} {base : Heap} {fa : Addr} {fd : FuncData} (F : Fun K "_law_channel" "_law_channel" s_l_channel fa fd) (T : Txt K mg) {f_l_draw : Addr} {fd_l_draw : FuncData} (G_l_draw : FnOk P w K mg base CX0 1 f_l_draw fd_l_draw ["_law_cell_here", "_law_many", "_law_bound"] (sp_l_draw K G)) (C_l_draw : Cal K mg "_law_draw" f_l_draw fd_l_draw ["_law_cell_here", "_law_many", "_law_bound"]) : FnOk P w K mg base CX0 2 fa fd ["_law_cell_here", "_law_many", "_law_depth"] (sp_l_channel K G) := by
  refine F.ok sc_l_channel (fun vs H Q E h => ?_) (fun cdv A outer s HB vs Q E hr h => ?_)
  · obtain ⟨B, cs, cell_here_, many_, depth_, res, rfl, _⟩ := h
    rfl
  · obtain ⟨B, cs, cell_here_, many_, depth_, res, rfl, F0, hm, k⟩ := h
    unfold m_l_channel at hm
    refine ⟨_, (pss_cons (ps_set (i := 3) sc_l_channel.nd rfl (Or.inl rfl) (pe_call G_l_draw (hr.mono (by decide)) rfl C_l_draw.g C_l_draw.k C_l_draw.b .nil pass0 (pa_cons (pv 0) (pa_cons (pv 1) (pa_cons (pe_op op_shl pe_int pe_int) pa_nil)))))
    (pss_cons (ps_set (i := 4) sc_l_channel.nd rfl (Or.inl rfl) (pe_lst pa_nil))
    (pss_cons (ps_for PassesOwn.never rfl (kpi_list (K := K) (pv 3)) (pg_name (i := 5) sc_l_channel.nd rfl (Or.inl rfl))
      (pss_cons (ps_set (i := 6) sc_l_channel.nd rfl (Or.inl rfl) (pe_op op_sub (pe_op op_mod (pe_callTy cr_int (by rfl) T.b_int (by decide +kernel) (pa_cons (pe_op op_fdiv (pv 5) pe_int) pa_nil)) (pe_op op_shlW pe_int (pv 2))) (pe_op op_shlW pe_int (pe_op op_sub (pv 2) pe_int))))
    (Evl.pss_cut (ps_if (pt_cmpR op_eq (pe_op op_mod (pe_callTy cr_int (by rfl) T.b_int (by decide +kernel) (pa_cons (pv 5) pa_nil)) pe_int) pe_int (nomark _)) (pss_cons (ps_set (i := 6) sc_l_channel.nd rfl (Or.inl rfl) (pe_un un_neg (pe_op op_shlW pe_int (pe_op op_sub (pv 2) pe_int))))
    pss_nil) pss_nil)
    (Evl.pss_cut (ps_if (pt_cmpR op_eq (pe_op op_mod (pe_callTy cr_int (by rfl) T.b_int (by decide +kernel) (pa_cons (pv 5) pa_nil)) pe_int) pe_int (nomark _)) (pss_cons (ps_set (i := 6) sc_l_channel.nd rfl (Or.inl rfl) (pe_op op_sub (pe_op op_shlW pe_int (pe_op op_sub (pv 2) pe_int)) pe_int))
    pss_nil) pss_nil)
    (pss_cons (ps_expr (pe_bm PySem.F.plainAttrs_list PySem.F.slot_list_append PySem.F.type_list_append mt_append (pv 4) (pa_cons (pv 6) pa_nil)))
    pss_nil)))))
    (pss_one (ps_ret (pv 4)))))), ?_⟩
    refine sl (σ' := [some (.int cell_here_), some (.int many_), some (.int depth_), none, none, none, none]) rfl ?_
    obtain ⟨c1, hc1, hm⟩ := of_bind hm
    refine g_asgN (i := 3) (o := .lst (List.map V.int c1)) F0 (en_call (ea_cons (ev_var (n := 0) rfl) (ea_cons (ev_var (n := 1) rfl) (ea_cons (ev_op ev_c ev_c (rv_shlK _ _)) ea_nil))) (fun ys H F Q q => ⟨_, _, cell_here_, many_, (1 * 2 ^ 36), c1, rfl, F, hc1, q⟩)) fun p2 H F3 => ?_
    refine sl (σ' := [some (.int cell_here_), some (.int many_), some (.int depth_), some (.ref p2), none, none, none]) rfl ?_
    refine g_asgN (i := 4) (o := .lst (List.map V.int ([] : List Int))) F3 (en_lst ea_nil) fun p4 H F5 => ?_
    refine sl (σ' := [some (.int cell_here_), some (.int many_), some (.int depth_), some (.ref p2), some (.ref p4), none, none]) rfl ?_
    obtain ⟨r8, hl3043, hm⟩ := of_bind hm
    refine w_forM hl3043 (its_map V.int c1) (fun s7 σ H => ∃ (u_number_ : Option V) (u_value_ : Option V), σ = [some (.int cell_here_), some (.int many_), some (.int depth_), some (.ref p2), some (.ref p4), u_number_, u_value_] ∧ Fr B ((p2, .lst (List.map V.int c1)) :: (p4, .lst (List.map V.int s7)) :: cs) H) F5 (ev_var (n := 3) rfl) (Or.inl (Rd.own 1 rfl)) (fun H F => ?_) ?_ ?_ ?_
    · exact ⟨_, _, rfl, (Fr.pickT (ds := [(p2, .lst (List.map V.int c1)), (p4, .lst (List.map V.int ([] : List Int)))]) 2 F [1, 0] (by decide) (by decide) rfl)⟩
    · rintro s7 _ H ⟨_, _, rfl, F⟩
      exact RdS.at (Or.inl (Rd.own 0 rfl)) F
    · rintro _ H ⟨u_number_, u_value_, rfl, F3044⟩
      refine ss_ret ?_
      refine st_v F3044 (ev_var (n := 4) rfl) fun H F3045 => ?_
      obtain rfl := Option.some.inj hm
      exact k _ _ (Fr.pickT (ds := [(p4, .lst (List.map V.int r8))]) 2 F3045 [1] (by decide) (by decide) rfl)
    · rintro number_6 iv16 s7 r' _ H N hi15 hb ⟨u_number_, u_value_, rfl, F1017⟩ hN10
      have ho14 := hm; clear hm; have hm := hb; clear hb
      obtain rfl := hi15
      refine gn (σ' := [some (.int cell_here_), some (.int many_), some (.int depth_), some (.ref p2), some (.ref p4), some (.int number_6), u_value_]) rfl ?_
      obtain ⟨n1018, hn1018, hm⟩ := of_bind hm
      obtain ⟨n1019, hn1019, hm⟩ := of_bind hm
      obtain ⟨n1020, hn1020, hm⟩ := of_bind hm
      obtain ⟨value_1021, hvalue_1021, hm⟩ := of_bnd hm
      refine g_asg (i := 6) (v := .int value_1021) (σ' := [some (.int cell_here_), some (.int many_), some (.int depth_), some (.ref p2), some (.ref p4), some (.int number_6), some (.int value_1021)]) F1017 (ev_cg (f := V.int) (ev_op (ev_op (ev_int (ev_op (ev_var (n := 5) rfl) ev_c (rv_divK _))) (ev_op ev_c (ev_var (n := 2) rfl) (rv_shl hn1018)) (rv_mod hn1019)) (ev_op ev_c (ev_op (ev_var (n := 2) rfl) ev_c rv_I0) (rv_shl hn1020)) rv_I0) hvalue_1021) rfl fun H F1022 => ?_
      obtain ⟨s2024, hj2030, hm⟩ := of_bind hm
      refine Evl.q_cut (M := fun σ H => σ = [some (.int cell_here_), some (.int many_), some (.int depth_), some (.ref p2), some (.ref p4), some (.int number_6), some (.int s2024)] ∧ Fr B ((p2, .lst (List.map V.int c1)) :: (p4, .lst (List.map V.int s7)) :: cs) H) ?_ ?_
      · clear hm; have hm := hj2030
        refine s_when F1022 (et_test (ev_op (ev_op (ev_int (ev_var (n := 5) rfl)) ev_c (rv_modK _)) ev_c rv_eqI)) (fun hb1023 H F => ?_) (fun hb1023 H F => ?_)
        · have F2025 := F
          replace hm := of_ifT hb1023 hm
          obtain ⟨n2026, hn2026, hm⟩ := of_bind hm
          obtain ⟨value_2027, hvalue_2027, hm⟩ := of_bnd hm
          refine g_asg (i := 6) (v := .int value_2027) (σ' := [some (.int cell_here_), some (.int many_), some (.int depth_), some (.ref p2), some (.ref p4), some (.int number_6), some (.int value_2027)]) F2025 (ev_cg (f := V.int) (ev_neg (ev_op ev_c (ev_op (ev_var (n := 2) rfl) ev_c rv_I0) (rv_shl hn2026))) hvalue_2027) rfl fun H F2028 => ?_
          obtain rfl := Option.some.inj hm
          exact ⟨rfl, F2028⟩
        · have F2029 := F
          replace hm := of_ifF hb1023 hm
          obtain rfl := Option.some.inj hm
          exact ⟨rfl, F2029⟩
      · rintro _ H ⟨rfl, F2031⟩
        obtain ⟨s3033, hj3039, hm⟩ := of_bind hm
        refine Evl.q_cut (M := fun σ H => σ = [some (.int cell_here_), some (.int many_), some (.int depth_), some (.ref p2), some (.ref p4), some (.int number_6), some (.int s3033)] ∧ Fr B ((p2, .lst (List.map V.int c1)) :: (p4, .lst (List.map V.int s7)) :: cs) H) ?_ ?_
        · clear hm; have hm := hj3039
          refine s_when F2031 (et_test (ev_op (ev_op (ev_int (ev_var (n := 5) rfl)) ev_c (rv_modK _)) ev_c rv_eqI)) (fun hb2032 H F => ?_) (fun hb2032 H F => ?_)
          · have F3034 := F
            replace hm := of_ifT hb2032 hm
            obtain ⟨n3035, hn3035, hm⟩ := of_bind hm
            obtain ⟨value_3036, hvalue_3036, hm⟩ := of_bnd hm
            refine g_asg (i := 6) (v := .int value_3036) (σ' := [some (.int cell_here_), some (.int many_), some (.int depth_), some (.ref p2), some (.ref p4), some (.int number_6), some (.int value_3036)]) F3034 (ev_cg (f := V.int) (ev_op (ev_op ev_c (ev_op (ev_var (n := 2) rfl) ev_c rv_I0) (rv_shl hn3035)) ev_c rv_I0) hvalue_3036) rfl fun H F3037 => ?_
            obtain rfl := Option.some.inj hm
            exact ⟨rfl, F3037⟩
          · have F3038 := F
            replace hm := of_ifF hb2032 hm
            obtain rfl := Option.some.inj hm
            exact ⟨rfl, F3038⟩
        · rintro _ H ⟨rfl, F3040⟩
          obtain ⟨l3041, hl3041, hm⟩ := of_bind hm
          refine g_app (f := V.int) (i := 1) F3040 hl3041 (ev_var (n := 4) rfl) (ev_var (n := 6) rfl) (Rd.own 1 rfl) rfl rfl fun H F3042 => ?_
          obtain rfl := Option.some.inj hm
          exact hN10 _ _ ⟨_, _, rfl, F3042⟩

def sp_bytes_of (K : PySem.W.Frag) (G : Cl) : Sp := fun vs H Q _ => ∃ (B : Hp) (cs : Cs) (number_ : Int) (many_ : Int) (res : List Int), vs = [.int number_, .int many_] ∧ Fr B cs H ∧ m_bytes_of number_ many_ = some res ∧ ∀ p H', Fr B ((p, .lst (List.map V.int res)) :: cs) H' → Q (.ref p) H'
abbrev s_bytes_of : Stmt := topS 1
theorem sc_bytes_of : FnScope ["number", "many", "at"] ["number", "many"] (defScope s_bytes_of) := ⟨rfl, rfl, rfl, by decide +kernel, rfl, by decide +kernel, by decide +kernel⟩
theorem ok_bytes_of {P : Program} {w : World} {K : PySem.W.Frag} {G : Cl} {mg : Str → Option Value} {base : Heap} {fa : Addr} {fd : FuncData} (F : Fun K "bytes_of" "bytes_of" s_bytes_of fa fd) (T : Txt K mg) : FnOk P w K mg base CX0 1 fa fd ["number", "many"] (sp_bytes_of K G) := by
  refine F.ok sc_bytes_of (fun vs H Q E h => ?_) (fun cdv A outer s HB vs Q E hr h => ?_)
  · obtain ⟨B, cs, number_, many_, res, rfl, _⟩ := h
    rfl
  · obtain ⟨B, cs, number_, many_, res, rfl, F0, hm, k⟩ := h
    unfold m_bytes_of at hm
    refine ⟨_, (pss_one (ps_ret (pe_lc (own := [("at", 2)]) (g := gName 2) (tt := tYes) rfl sc_bytes_of.nd (pi_range1 rfl T.b_range (pa_cons (pv 1) pa_nil)) (blkOk_by (N := ["number", "many", "at"]) (sc := defScope s_bytes_of) (by decide +kernel)) (fun _ _ _ _ _ => pg_name (i := 2) sc_bytes_of.nd rfl (Or.inl rfl)) (fun _ _ _ _ _ => pts_nil) (fun _ _ _ _ _ => (pe_op op_and (pe_op op_shr (pv 0) (pe_op op_mul pe_int (pv 2))) pe_int))))), ?_⟩
    refine sl (σ' := [some (.int number_), some (.int many_), none]) rfl ?_
    refine ss_ret ?_
    obtain ⟨r4, hr4, hm⟩ := of_bind hm
    obtain ⟨z3, hz3, hm⟩ := of_bind hm
    obtain ⟨l2, hl2, hm⟩ := of_bind hm
    refine st_n (o := .lst (List.map V.int l2)) F0 (en_lcR1 (zs := List.map V.int l2) hr4 (ea_cons (ev_var (n := 1) rfl) ea_nil) (of_grd hz3).1 (mlenR hl2) (fun _ => rfl) (lcok_map (f := V.int) (g := V.int) hl2 fun at_1 y hy => by obtain ⟨n5, hn5, hy⟩ := of_bind hy; obtain rfl := Option.some.inj hy; exact (ev_op (ev_op (ev_var (n := 0) rfl) (ev_op ev_c (ev_var (n := 2) rfl) (rv_mulL _)) (rv_shr hn5)) ev_c rv_I0))) fun p6 H F7 => ?_
    obtain rfl := Option.some.inj hm
    exact k _ _ F7

def sp_sample_bytes (K : PySem.W.Frag) (G : Cl) : Sp := fun vs H Q _ => ∃ (B : Hp) (cs : Cs) (v_channels_ : V) (channels_ : List (List Int)) (depth_ : Int) (res : List Int), vs = [v_channels_, .int depth_] ∧ Fr B cs H ∧ Rp K G B v_channels_ ((lD (lD D.int)) channels_) ∧ m_sample_bytes channels_ depth_ = some res ∧ ∀ p H', Fr B ((p, .lst (List.map V.int res)) :: cs) H' → Q (.ref p) H'
abbrev s_sample_bytes : Stmt := topS 3
theorem sc_sample_bytes : FnScope ["channels", "depth", "many", "result", "at", "channel"] ["channels", "depth"] (defScope s_sample_bytes) := ⟨rfl, rfl, rfl, by decide +kernel, rfl, by decide +kernel, by decide +kernel⟩
theorem ok_sample_bytes {P : Program} {w : World} {K : PySem.W.Frag} {G : Cl} {mg : Str → Option Value} {base : Heap} {fa : Addr} {fd : FuncData} (F : Fun K "sample_bytes" "sample_bytes" s_sample_bytes fa fd) (T : Txt K mg) {f_bytes_of : Addr} {fd_bytes_of : FuncData} (G_bytes_of : FnOk P w K mg base CX0 1 f_bytes_of fd_bytes_of ["number", "many"] (sp_bytes_of K G)) (C_bytes_of : Cal K mg "bytes_of" f_bytes_of fd_bytes_of ["number", "many"]) : FnOk P w K mg base CX0 2 fa fd ["channels", "depth"] (sp_sample_bytes K G) := by
  refine F.ok sc_sample_bytes (fun vs H Q E h => ?_) (fun cdv A outer s HB vs Q E hr h => ?_)
  · obtain ⟨B, cs, v_channels_, channels_, depth_, res, rfl, _⟩ := h
    rfl
  · obtain ⟨B, cs, v_channels_, channels_, depth_, res, rfl, F0, b_channels_, hm, k⟩ := h
    unfold m_sample_bytes at hm
    obtain ⟨a_channels_1, vs2, rfl, hB3, rs4⟩ := b_channels_.l
    refine ⟨_, (pss_cons (ps_set (i := 2) sc_sample_bytes.nd rfl (Or.inl rfl) (pe_op op_fdiv (pe_op op_add (pv 1) pe_int) pe_int))
    (pss_cons (ps_set (i := 3) sc_sample_bytes.nd rfl (Or.inl rfl) (pe_lst pa_nil))
    (pss_cons (ps_for PassesOwn.never rfl (pi_range1 rfl T.b_range (pa_cons (pe_callB (kLen (K := K)) (by rfl) T.b_len (by decide +kernel) (pa_cons (pe_ix (kIx (K := K)) (pv 0) pe_int (fun _ _ => rfl)) pa_nil)) pa_nil)) (pg_name (i := 4) sc_sample_bytes.nd rfl (Or.inl rfl))
      (pss_cons (ps_for PassesOwn.never rfl (kpi_list (K := K) (pv 0)) (pg_name (i := 5) sc_sample_bytes.nd rfl (Or.inl rfl))
      (pss_cons (ps_expr (pe_bm PySem.F.plainAttrs_list PySem.F.slot_list_extend PySem.F.type_list_extend mt_extend (pv 3) (pa_cons (pe_call G_bytes_of (hr.mono (by decide)) rfl C_bytes_of.g C_bytes_of.k C_bytes_of.b .nil pass0 (pa_cons (pe_ix (kIx (K := K)) (pv 5) (pv 4) (fun _ _ => rfl)) (pa_cons (pv 2) pa_nil))) pa_nil)))
    pss_nil))
    pss_nil))
    (pss_one (ps_ret (pv 3)))))), ?_⟩
    refine sl (σ' := [some (.ref a_channels_1), some (.int depth_), none, none, none, none]) rfl ?_
    obtain ⟨many_5, hmany_5, hm⟩ := of_bnd hm
    refine g_asg (i := 2) (v := .int many_5) (σ' := [some (.ref a_channels_1), some (.int depth_), some (.int many_5), none, none, none]) F0 (ev_cg (f := V.int) (ev_op (ev_op (ev_var (n := 1) rfl) ev_c rv_I0) ev_c (rv_divK _)) hmany_5) rfl fun H F6 => ?_
    refine g_asgN (i := 3) (o := .lst (List.map V.int ([] : List Int))) F6 (en_lst ea_nil) fun p7 H F8 => ?_
    refine sl (σ' := [some (.ref a_channels_1), some (.int depth_), some (.int many_5), some (.ref p7), none, none]) rfl ?_
    obtain ⟨x9, hx9, hm⟩ := of_bind hm
    obtain ⟨v10, hv11, r12⟩ := Rps.at (f := (lD D.int)) rs4 hx9
    obtain ⟨a_x13, rfl, hB14⟩ := r12.li
    obtain ⟨r15, hr15, hm⟩ := of_bind hm
    obtain ⟨r18, hl2049, hm⟩ := of_bind hm
    refine w_rngM1 hr15 hl2049 (fun s17 σ H => ∃ (u_at_ : Option V) (u_channel_ : Option V), σ = [some (.ref a_channels_1), some (.int depth_), some (.int many_5), some (.ref p7), u_at_, u_channel_] ∧ Fr B ((p7, .lst (List.map V.int s17)) :: cs) H) F8 (ea_cons (ev_cb (ea_cons (ev_op (ev_var (n := 0) rfl) ev_c (rv_ixV hv11 (Or.inl (Or.inl hB3)))) ea_nil) (rc_len (f := V.int) (Or.inl (Or.inl hB14)))) ea_nil) (fun H F => ?_) ?_ ?_
    · exact ⟨_, _, rfl, F⟩
    · rintro _ H ⟨u_at_, u_channel_, rfl, F2050⟩
      refine ss_ret ?_
      refine st_v F2050 (ev_var (n := 3) rfl) fun H F2051 => ?_
      obtain rfl := Option.some.inj hm
      exact k _ _ F2051
    · rintro at_16 iv26 s17 r' _ H N hi25 hb ⟨u_at_, u_channel_, rfl, F1027⟩ hN20
      have ho24 := hm; clear hm; have hm := hb; clear hb
      obtain rfl := hi25
      refine gn (σ' := [some (.ref a_channels_1), some (.int depth_), some (.int many_5), some (.ref p7), some (.int at_16), u_channel_]) rfl ?_
      obtain ⟨r1030, hl2047, hm⟩ := of_bind hm
      refine w_forM hl2047 (its_rp (f := (lD D.int)) rs4) (fun s1029 σ H => ∃ (u_channel_ : Option V), σ = [some (.ref a_channels_1), some (.int depth_), some (.int many_5), some (.ref p7), some (.int at_16), u_channel_] ∧ Fr B ((p7, .lst (List.map V.int s1029)) :: cs) H) F1027 (ev_var (n := 0) rfl) (Or.inl (Or.inl hB3)) (fun H F => ?_) ?_ ?_ ?_
      · exact ⟨_, rfl, F⟩
      · rintro s1029 _ H ⟨_, rfl, F⟩
        exact RdS.at (Or.inl (Or.inl hB3)) F
      · rintro _ H ⟨u_channel_, rfl, F2048⟩
        obtain rfl := Option.some.inj hm
        exact hN20 _ _ ⟨_, _, rfl, F2048⟩
      · rintro channel_1028 iv1038 s1029 r' _ H N hi1037 hb ⟨u_channel_, rfl, F2039⟩ hN1032
        have ho1036 := hm; clear hm; have hm := hb; clear hb
        have r2040 := hi1037
        obtain ⟨a_channel_2041, rfl, hB2042⟩ := r2040.li
        refine gn (σ' := [some (.ref a_channels_1), some (.int depth_), some (.int many_5), some (.ref p7), some (.int at_16), some (.ref a_channel_2041)]) rfl ?_
        obtain ⟨x2043, hx2043, hm⟩ := of_bind hm
        obtain ⟨c2044, hc2044, hm⟩ := of_bind hm
        obtain ⟨l2045, hl2045, hm⟩ := of_bind hm
        refine g_extN (f := V.int) (i := 0) F2039 hl2045 (ev_var (n := 3) rfl) (en_call (ea_cons (ev_op (ev_var (n := 5) rfl) (ev_var (n := 4) rfl) (rv_ix (f := V.int) hx2043 (Or.inl (Or.inl hB2042)))) (ea_cons (ev_var (n := 2) rfl) ea_nil)) (fun ys H F Q q => ⟨_, _, x2043, many_5, c2044, rfl, F, hc2044, q⟩)) (Rd.own 0 rfl) rfl rfl fun H F2046 => ?_
        obtain rfl := Option.some.inj hm
        exact hN1032 _ _ ⟨_, rfl, F2046⟩

def sp_l_is_integer (K : PySem.W.Frag) (G : Cl) : Sp := fun vs H Q _ => ∃ (B : Hp) (cs : Cs) (actual_ : Int) (res : Bool), vs = [.int actual_] ∧ Fr B cs H ∧ m_l_is_integer actual_ = some res ∧ ∀ H', Fr B cs H' → Q (.bl res) H'
abbrev s_l_is_integer : Stmt := topS 6
theorem sc_l_is_integer : FnScope ["_law_actual"] ["_law_actual"] (defScope s_l_is_integer) := ⟨rfl, rfl, rfl, by decide +kernel, rfl, by decide +kernel, by decide +kernel⟩
theorem ok_l_is_integer {P : Program} {w : World} {K : PySem.W.Frag} {G : Cl} {mg : Str → Option Value} {base : Heap} {fa : Addr} {fd : FuncData} (F : Fun K "_law_is_integer" "_law_is_integer" s_l_is_integer fa fd) (T : Txt K mg) : FnOk P w K mg base CX0 1 fa fd ["_law_actual"] (sp_l_is_integer K G) := by
  refine F.ok sc_l_is_integer (fun vs H Q E h => ?_) (fun cdv A outer s HB vs Q E hr h => ?_)
  · obtain ⟨B, cs, actual_, res, rfl, _⟩ := h
    rfl
  · obtain ⟨B, cs, actual_, res, rfl, F0, hm, k⟩ := h
    unfold m_l_is_integer at hm
    refine ⟨_, (pss_one (ps_ret (pe_and (pe_callB (kIsi (K := K)) (by rfl) T.b_isinstance (by decide +kernel) (pa_cons (pv 0) (pa_cons (pe_bltn (v := .ty "int") (by rfl) T.b_int (by decide +kernel) rfl) pa_nil))) (pe_one (pe_not (pe_callB (kIsi (K := K)) (by rfl) T.b_isinstance (by decide +kernel) (pa_cons (pv 0) (pa_cons (pe_bltn (v := .ty "bool") (by rfl) T.b_bool (by decide +kernel) rfl) pa_nil)))))))), ?_⟩
    refine sl (σ' := [some (.int actual_)]) rfl ?_
    refine ss_ret ?_
    obtain ⟨x_1, hx_1, hm⟩ := of_bnd hm
    refine st_v (v := .bl x_1) F0 (ev_cg (f := V.bl) (ev_andV (ev_cb (ea_cons (ev_var (n := 0) rfl) (ea_cons ev_c ea_nil)) (rc_isi (b := true) ty_int (kit_ty (by decide +kernel)))) (fun _ => (ev_notV (ev_cb (ea_cons (ev_var (n := 0) rfl) (ea_cons ev_c ea_nil)) (rc_isi (b := false) ty_int (kit_ty (by decide +kernel))))))) hx_1) fun H F2 => ?_
    obtain rfl := Option.some.inj hm
    exact k _ F2

def sp_l_same (K : PySem.W.Frag) (G : Cl) : Sp := fun vs H Q _ => ∃ (B : Hp) (cs : Cs) (a_actual_ : Addr) (actual_ : List Int) (a_expected_ : Addr) (expected_ : List Int) (res : Bool), vs = [.ref a_actual_, .ref a_expected_] ∧ Fr B cs H ∧ Rd B cs a_actual_ (.lst (List.map V.int actual_)) ∧ Rd B cs a_expected_ (.lst (List.map V.int expected_)) ∧ m_l_same actual_ expected_ = some res ∧ ∀ H', Fr B cs H' → Q (.bl res) H'
abbrev s_l_same : Stmt := topS 7
theorem sc_l_same : FnScope ["_law_actual", "_law_expected", "_law_k"] ["_law_actual", "_law_expected"] (defScope s_l_same) := ⟨rfl, rfl, rfl, by decide +kernel, rfl, by decide +kernel, by decide +kernel⟩
theorem ok_l_same {P : Program} {w : World} {K : PySem.W.Frag} {G : Cl} {mg : Str → Option Value} {base : Heap} {fa : Addr} {fd : FuncData} (F : Fun K "_law_same" "_law_same" s_l_same fa fd) (T : Txt K mg) {f_l_is_integer : Addr} {fd_l_is_integer : FuncData} (G_l_is_integer : FnOk P w K mg base CX0 1 f_l_is_integer fd_l_is_integer ["_law_actual"] (sp_l_is_integer K G)) (C_l_is_integer : Cal K mg "_law_is_integer" f_l_is_integer fd_l_is_integer ["_law_actual"]) : FnOk P w K mg base CX0 2 fa fd ["_law_actual", "_law_expected"] (sp_l_same K G) := by
  refine F.ok sc_l_same (fun vs H Q E h => ?_) (fun cdv A outer s HB vs Q E hr h => ?_)
  · obtain ⟨B, cs, a_actual_, actual_, a_expected_, expected_, res, rfl, _⟩ := h
    rfl
  · obtain ⟨B, cs, a_actual_, actual_, a_expected_, expected_, res, rfl, F0, b_actual_, b_expected_, hm, k⟩ := h
    unfold m_l_same at hm
    refine ⟨_, (pss_cons (ps_if (PW.pt (pw_or (pt_not (pt_val (pe_callB (kIsi (K := K)) (by rfl) T.b_isinstance (by decide +kernel) (pa_cons (pv 0) (pa_cons (pe_bltn (v := .ty "list") (by rfl) T.b_list (by decide +kernel) rfl) pa_nil))))) (pw_or1 (pt_cmpR op_ne (pe_callB (kLen (K := K)) (by rfl) T.b_len (by decide +kernel) (pa_cons (pv 0) pa_nil)) (pe_callB (kLen (K := K)) (by rfl) T.b_len (by decide +kernel) (pa_cons (pv 1) pa_nil)) (nomark _))))) (pss_one (ps_ret pe_bl)) pss_nil)
    (pss_cons (ps_for PassesOwn.never rfl (pi_range1 rfl T.b_range (pa_cons (pe_callB (kLen (K := K)) (by rfl) T.b_len (by decide +kernel) (pa_cons (pv 1) pa_nil)) pa_nil)) (pg_name (i := 2) sc_l_same.nd rfl (Or.inl rfl))
      (pss_one (ps_if (PW.pt (pw_or (pt_not (pt_val (pe_call G_l_is_integer (hr.mono (by decide)) rfl C_l_is_integer.g C_l_is_integer.k C_l_is_integer.b .nil pass0 (pa_cons (pe_ix (kIx (K := K)) (pv 0) (pv 2) (fun _ _ => rfl)) pa_nil)))) (pw_or1 (pt_cmpR op_ne (pe_ix (kIx (K := K)) (pv 0) (pv 2) (fun _ _ => rfl)) (pe_ix (kIx (K := K)) (pv 1) (pv 2) (fun _ _ => rfl)) (nomark _))))) (pss_one (ps_ret pe_bl)) pss_nil)))
    (pss_one (ps_ret pe_bl)))), ?_⟩
    refine sl (σ' := [some (.ref a_actual_), some (.ref a_expected_), none]) rfl ?_
    refine g_when F0 (et_or (et_cg (et_not (et_B (ev_cb (ea_cons (ev_var (n := 0) rfl) (ea_cons ev_c ea_nil)) (rc_isi (b := true) (ty_lst b_actual_) (kit_ty (by decide +kernel)))))) rfl) (fun _ => (et_test (ev_op (ev_cb (ea_cons (ev_var (n := 0) rfl) ea_nil) (rc_len (f := V.int) (Or.inl b_actual_))) (ev_cb (ea_cons (ev_var (n := 1) rfl) ea_nil) (rc_len (f := V.int) (Or.inl b_expected_))) rv_neI)))) (fun hb1 H F => ?_) (fun hb1 H F => ?_)
    · have F2 := F
      replace hm := of_ifT hb1 hm
      refine ss_ret ?_
      refine st_v (v := .bl false) F2 ev_c fun H F3 => ?_
      obtain rfl := Option.some.inj hm
      exact k _ F3
    · have F4 := F
      replace hm := of_ifF hb1 hm
      obtain ⟨r5, hr5, hm⟩ := of_bind hm
      obtain ⟨r8, hl1027, hm⟩ := of_bind hm
      refine w_rngF1 hr5 hl1027 (fun s7 σ H => ∃ (u_k_ : Option V), σ = [some (.ref a_actual_), some (.ref a_expected_), u_k_] ∧ Fr B (cs) H) F4 (ea_cons (ev_cb (ea_cons (ev_var (n := 1) rfl) ea_nil) (rc_len (f := V.int) (Or.inl b_expected_))) ea_nil) (fun H F => ?_) ?_ ?_
      · exact ⟨_, rfl, F⟩
      · rintro s1028 _ H rfl ⟨u_k_, rfl, F1030⟩
        dsimp only at hm
        refine ss_ret ?_
        refine st_v (v := .bl true) F1030 ev_c fun H F1031 => ?_
        obtain rfl := Option.some.inj hm
        exact k _ F1031
      · rintro k_6 iv16 s7 r' _ H N hi15 hb ⟨u_k_, rfl, F1017⟩ hk11 hq12 hd13 hN10
        have ho14 := hm; clear hm; have hm := hb; clear hb
        obtain rfl := hi15
        refine gn (σ' := [some (.ref a_actual_), some (.ref a_expected_), some (.int k_6)]) rfl ?_
        obtain ⟨x1018, hx1018, hm⟩ := of_bind hm
        obtain ⟨c1019, hc1019, hm⟩ := of_bind hm
        obtain ⟨b1022, hb1022, hm⟩ := of_bind hm
        refine s_when F1017 (et_orO hb1022 (et_not (et_B (ev_call (ea_cons (ev_op (ev_var (n := 0) rfl) (ev_var (n := 2) rfl) (rv_ix (f := V.int) hx1018 (Or.inl b_actual_))) ea_nil) (fun ys H F Q q => ⟨_, _, x1018, c1019, rfl, F, hc1019, q⟩)))) (fun y hy => by obtain ⟨x1020, hx1020, hy⟩ := of_bind hy; obtain ⟨x1021, hx1021, hy⟩ := of_bind hy; obtain rfl := Option.some.inj hy; exact (et_test (ev_op (ev_op (ev_var (n := 0) rfl) (ev_var (n := 2) rfl) (rv_ix (f := V.int) hx1020 (Or.inl b_actual_))) (ev_op (ev_var (n := 1) rfl) (ev_var (n := 2) rfl) (rv_ix (f := V.int) hx1021 (Or.inl b_expected_))) rv_neI)))) (fun hb1023 H F => ?_) (fun hb1023 H F => ?_)
        · have F1024 := F
          replace hm := of_ifT hb1023 hm
          refine ss_ret ?_
          refine st_v (v := .bl false) F1024 ev_c fun H F1025 => ?_
          obtain rfl := Option.some.inj hm
          obtain rfl := hq12 _ rfl
          replace hm := ho14
          obtain rfl := Option.some.inj hm
          exact k _ F1025
        · have F1026 := F
          replace hm := of_ifF hb1023 hm
          obtain rfl := Option.some.inj hm
          exact hN10 _ _ _ rfl ⟨_, rfl, F1026⟩

def sp_l_read (K : PySem.W.Frag) (G : Cl) : Sp := fun vs H Q _ => ∃ (B : Hp) (cs : Cs) (a_data_ : Addr) (data_ : List Int) (at_ : Int) (many_ : Int) (res : Int), vs = [.ref a_data_, .int at_, .int many_] ∧ Fr B cs H ∧ Rd B cs a_data_ (.lst (List.map V.int data_)) ∧ m_l_read data_ at_ many_ = some res ∧ ∀ H', Fr B cs H' → Q (.int res) H'
abbrev s_l_read : Stmt := topS 10
theorem sc_l_read : FnScope ["_law_data", "_law_at", "_law_many", "_law_value", "_law_k"] ["_law_data", "_law_at", "_law_many"] (defScope s_l_read) := ⟨rfl, rfl, rfl, by decide +kernel, rfl, by decide +kernel, by decide +kernel⟩
theorem ok_l_read {P : Program} {w : World} {K : PySem.W.Frag} {G : Cl} {mg : Str → Option Value} {base : Heap} {fa : Addr} {fd : FuncData} (F : Fun K "_law_read" "_law_read" s_l_read fa fd) (T : Txt K mg) : FnOk P w K mg base CX0 1 fa fd ["_law_data", "_law_at", "_law_many"] (sp_l_read K G) := by
  refine F.ok sc_l_read (fun vs H Q E h => ?_) (fun cdv A outer s HB vs Q E hr h => ?_)
  · obtain ⟨B, cs, a_data_, data_, at_, many_, res, rfl, _⟩ := h
    rfl
  · obtain ⟨B, cs, a_data_, data_, at_, many_, res, rfl, F0, b_data_, hm, k⟩ := h
    unfold m_l_read at hm
    refine ⟨_, (pss_cons (ps_set (i := 3) sc_l_read.nd rfl (Or.inl rfl) pe_int)
    (pss_cons (ps_for PassesOwn.never rfl (pi_range1 rfl T.b_range (pa_cons (pv 2) pa_nil)) (pg_name (i := 4) sc_l_read.nd rfl (Or.inl rfl))
      (pss_cons (ps_set (i := 3) sc_l_read.nd rfl (Or.inl rfl) (pe_op op_add (pv 3) (pe_op op_shlW (pe_ix (kIx (K := K)) (pv 0) (pe_op op_add (pv 1) (pv 4)) (fun _ _ => rfl)) (pe_op op_mul pe_int (pv 4)))))
    pss_nil))
    (Evl.pss_cut (ps_if (pt_cmpR op_ge (pe_ix (kIx (K := K)) (pv 0) (pe_op op_sub (pe_op op_add (pv 1) (pv 2)) pe_int) (fun _ _ => rfl)) pe_int (nomark _)) (pss_cons (ps_set (i := 3) sc_l_read.nd rfl (Or.inl rfl) (pe_op op_sub (pv 3) (pe_op op_shlW pe_int (pe_op op_mul pe_int (pv 2)))))
    pss_nil) pss_nil)
    (pss_one (ps_ret (pv 3)))))), ?_⟩
    refine sl (σ' := [some (.ref a_data_), some (.int at_), some (.int many_), none, none]) rfl ?_
    refine g_asg (i := 3) (v := .int 0) (σ' := [some (.ref a_data_), some (.int at_), some (.int many_), some (.int 0), none]) F0 ev_c rfl fun H F1 => ?_
    obtain ⟨r2, hr2, hm⟩ := of_bind hm
    obtain ⟨r5, hl1019, hm⟩ := of_bind hm
    refine w_rngM1 hr2 hl1019 (fun s4 σ H => ∃ (u_k_ : Option V), σ = [some (.ref a_data_), some (.int at_), some (.int many_), some (.int s4), u_k_] ∧ Fr B (cs) H) F1 (ea_cons (ev_var (n := 2) rfl) ea_nil) (fun H F => ?_) ?_ ?_
    · exact ⟨_, rfl, F⟩
    · rintro _ H ⟨u_k_, rfl, F1020⟩
      obtain ⟨x1021, hx1021, hm⟩ := of_bind hm
      obtain ⟨s2023, hj2029, hm⟩ := of_bind hm
      refine Evl.q_cut (M := fun σ H => σ = [some (.ref a_data_), some (.int at_), some (.int many_), some (.int s2023), u_k_] ∧ Fr B (cs) H) ?_ ?_
      · clear hm; have hm := hj2029
        refine s_when F1020 (et_test (ev_op (ev_op (ev_var (n := 0) rfl) (ev_op (ev_op (ev_var (n := 1) rfl) (ev_var (n := 2) rfl) rv_I0) ev_c rv_I0) (rv_ix (f := V.int) hx1021 (Or.inl b_data_))) ev_c rv_I0)) (fun hb1022 H F => ?_) (fun hb1022 H F => ?_)
        · have F2024 := F
          replace hm := of_ifT hb1022 hm
          obtain ⟨n2025, hn2025, hm⟩ := of_bind hm
          obtain ⟨value_2026, hvalue_2026, hm⟩ := of_bnd hm
          refine g_asg (i := 3) (v := .int value_2026) (σ' := [some (.ref a_data_), some (.int at_), some (.int many_), some (.int value_2026), u_k_]) F2024 (ev_cg (f := V.int) (ev_op (ev_var (n := 3) rfl) (ev_op ev_c (ev_op ev_c (ev_var (n := 2) rfl) (rv_mulL _)) (rv_shl hn2025)) rv_I0) hvalue_2026) rfl fun H F2027 => ?_
          obtain rfl := Option.some.inj hm
          exact ⟨rfl, F2027⟩
        · have F2028 := F
          replace hm := of_ifF hb1022 hm
          obtain rfl := Option.some.inj hm
          exact ⟨rfl, F2028⟩
      · rintro _ H ⟨rfl, F2030⟩
        refine ss_ret ?_
        refine st_v (v := .int s2023) F2030 (ev_var (n := 3) rfl) fun H F2031 => ?_
        obtain rfl := Option.some.inj hm
        exact k _ F2031
    · rintro k_3 iv13 s4 r' _ H N hi12 hb ⟨u_k_, rfl, F1014⟩ hN7
      have ho11 := hm; clear hm; have hm := hb; clear hb
      obtain rfl := hi12
      refine gn (σ' := [some (.ref a_data_), some (.int at_), some (.int many_), some (.int s4), some (.int k_3)]) rfl ?_
      obtain ⟨x1015, hx1015, hm⟩ := of_bind hm
      obtain ⟨n1016, hn1016, hm⟩ := of_bind hm
      obtain ⟨value_1017, hvalue_1017, hm⟩ := of_bnd hm
      refine g_asg (i := 3) (v := .int value_1017) (σ' := [some (.ref a_data_), some (.int at_), some (.int many_), some (.int value_1017), some (.int k_3)]) F1014 (ev_cg (f := V.int) (ev_op (ev_var (n := 3) rfl) (ev_op (ev_op (ev_var (n := 0) rfl) (ev_op (ev_var (n := 1) rfl) (ev_var (n := 4) rfl) rv_I0) (rv_ix (f := V.int) hx1015 (Or.inl b_data_))) (ev_op ev_c (ev_var (n := 4) rfl) (rv_mulL _)) (rv_shl hn1016)) rv_I0) hvalue_1017) rfl fun H F1018 => ?_
      obtain rfl := Option.some.inj hm
      exact hN7 _ _ ⟨_, rfl, F1018⟩

def sp_law (K : PySem.W.Frag) (G : Cl) : Sp := fun vs H Q _ => ∃ (B : Hp) (cs : Cs) (a_script_ : Addr) (script_ : List Int) (res : Bool), vs = [.ref a_script_] ∧ Fr B cs H ∧ RdS K B cs a_script_ (List.map V.int script_) ∧ m_law script_ = some res ∧ ∀ H', Fr B cs H' → Q (.bl res) H'
abbrev s_law : Stmt := topS 11
theorem sc_law : FnScope ["_law_script", "_law_sizes", "_law_count", "_law_size", "_law_depth", "_law_channels", "_law_k", "_law_handed", "_law_row", "_law_data", "_law_many", "_law_expected", "_law_at"] ["_law_script"] (defScope s_law) := ⟨rfl, rfl, rfl, by decide +kernel, rfl, by decide +kernel, by decide +kernel⟩
theorem ok_law {P : Program} {w : World} {K : PySem.W.Frag} {G : Cl} {mg : Str → Option Value} {base : Heap} {fa : Addr} {fd : FuncData} (F : Fun K "law" "law" s_law fa fd) (T : Txt K mg) {f_l_cell : Addr} {fd_l_cell : FuncData} (G_l_cell : FnOk P w K mg base CX0 1 f_l_cell fd_l_cell ["_law_script", "_law_k"] (sp_l_cell K G)) (C_l_cell : Cal K mg "_law_cell" f_l_cell fd_l_cell ["_law_script", "_law_k"]) {f_l_draw : Addr} {fd_l_draw : FuncData} (G_l_draw : FnOk P w K mg base CX0 1 f_l_draw fd_l_draw ["_law_cell_here", "_law_many", "_law_bound"] (sp_l_draw K G)) (C_l_draw : Cal K mg "_law_draw" f_l_draw fd_l_draw ["_law_cell_here", "_law_many", "_law_bound"]) {f_l_channel : Addr} {fd_l_channel : FuncData} (G_l_channel : FnOk P w K mg base CX0 2 f_l_channel fd_l_channel ["_law_cell_here", "_law_many", "_law_depth"] (sp_l_channel K G)) (C_l_channel : Cal K mg "_law_channel" f_l_channel fd_l_channel ["_law_cell_here", "_law_many", "_law_depth"]) {f_sample_bytes : Addr} {fd_sample_bytes : FuncData} (G_sample_bytes : FnOk P w K mg base CX0 2 f_sample_bytes fd_sample_bytes ["channels", "depth"] (sp_sample_bytes K G)) (C_sample_bytes : Cal K mg "sample_bytes" f_sample_bytes fd_sample_bytes ["channels", "depth"]) {f_l_same : Addr} {fd_l_same : FuncData} (G_l_same : FnOk P w K mg base CX0 2 f_l_same fd_l_same ["_law_actual", "_law_expected"] (sp_l_same K G)) (C_l_same : Cal K mg "_law_same" f_l_same fd_l_same ["_law_actual", "_law_expected"]) {f_l_read : Addr} {fd_l_read : FuncData} (G_l_read : FnOk P w K mg base CX0 1 f_l_read fd_l_read ["_law_data", "_law_at", "_law_many"] (sp_l_read K G)) (C_l_read : Cal K mg "_law_read" f_l_read fd_l_read ["_law_data", "_law_at", "_law_many"]) : FnOk P w K mg base CX0 3 fa fd ["_law_script"] (sp_law K G) := by
  refine F.ok sc_law (fun vs H Q E h => ?_) (fun cdv A outer s HB vs Q E hr h => ?_)
  · obtain ⟨B, cs, a_script_, script_, res, rfl, _⟩ := h
    rfl
  · obtain ⟨B, cs, a_script_, script_, res, rfl, F0, b_script_, hm, k⟩ := h
    unfold m_law at hm
    refine ⟨_, (pss_cons (ps_set (i := 1) sc_law.nd rfl (Or.inl rfl) (pe_call G_l_draw (hr.mono (by decide)) rfl C_l_draw.g C_l_draw.k C_l_draw.b .nil pass0 (pa_cons (pe_call G_l_cell (hr.mono (by decide)) rfl C_l_cell.g C_l_cell.k C_l_cell.b .nil pass0 (pa_cons (pv 0) (pa_cons pe_int pa_nil))) (pa_cons pe_int (pa_cons (pe_op op_shl pe_int pe_int) pa_nil)))))
    (pss_cons (ps_set (i := 2) sc_law.nd rfl (Or.inl rfl) (pe_op op_add pe_int (pe_op op_mod (pe_ix (kIx (K := K)) (pv 1) pe_int (fun _ _ => rfl)) pe_int)))
    (pss_cons (ps_set (i := 3) sc_law.nd rfl (Or.inr rfl) (pe_op op_mod (pe_ix (kIx (K := K)) (pv 1) pe_int (fun _ _ => rfl)) pe_int))
    (pss_cons (ps_set (i := 4) sc_law.nd rfl (Or.inr rfl) (pe_op op_add pe_int (pe_op op_mod (pe_ix (kIx (K := K)) (pv 1) pe_int (fun _ _ => rfl)) pe_int)))
    (pss_cons (ps_setLc (i := 5) (own := [("_law_k", 6)]) (g := gName 6) (tt := tYes) rfl sc_law.nd rfl rfl (sw_true rfl rfl rfl (by decide +kernel)) (pi_range1 rfl T.b_range (pa_cons (pv 2) pa_nil)) (blkOk_by (N := ["_law_script", "_law_sizes", "_law_count", "_law_size", "_law_depth", "_law_channels", "_law_k", "_law_handed", "_law_row", "_law_data", "_law_many", "_law_expected", "_law_at"]) (sc := defScope s_law) (by decide +kernel)) (fun _ _ _ _ _ => pg_name (i := 6) sc_law.nd rfl (Or.inl rfl)) (fun _ _ _ _ _ => pts_nil) (fun _ _ _ _ _ => (pe_call G_l_channel (hr.mono (by decide)) rfl C_l_channel.g C_l_channel.k C_l_channel.b .nil pass0 (pa_cons (pe_call G_l_cell (hr.mono (by decide)) rfl C_l_cell.g C_l_cell.k C_l_cell.b .nil pass0 (pa_cons (pv 0) (pa_cons (pe_op op_add pe_int (pv 6)) pa_nil))) (pa_cons (pv 3) (pa_cons (pv 4) pa_nil))))))
    (pss_cons (ps_setLc (i := 7) (own := [("_law_row", 8)]) (g := gName 8) (tt := tYes) rfl sc_law.nd rfl rfl (sw_true rfl rfl rfl (by decide +kernel)) (kpi_list (K := K) (pv 5)) (blkOk_by (N := ["_law_script", "_law_sizes", "_law_count", "_law_size", "_law_depth", "_law_channels", "_law_k", "_law_handed", "_law_row", "_law_data", "_law_many", "_law_expected", "_law_at"]) (sc := defScope s_law) (by decide +kernel)) (fun _ _ _ _ _ => pg_name (i := 8) sc_law.nd rfl (Or.inl rfl)) (fun _ _ _ _ _ => pts_nil) (fun _ _ _ _ _ => (pe_callTy (kLst (K := K)) (by rfl) T.b_list (by decide +kernel) (pa_cons (pv 8) pa_nil))))
    (pss_cons (ps_set (i := 9) sc_law.nd rfl (Or.inl rfl) (pe_call G_sample_bytes (hr.mono (by decide)) rfl C_sample_bytes.g C_sample_bytes.k C_sample_bytes.b .nil pass0 (pa_cons (pv 7) (pa_cons (pv 4) pa_nil))))
    (pss_cons (ps_set (i := 10) sc_law.nd rfl (Or.inl rfl) (pe_op op_fdiv (pe_op op_add (pv 4) pe_int) pe_int))
    (pss_cons (ps_if (PW.pt (pw_or (pt_not (pt_val (pe_callB (kIsi (K := K)) (by rfl) T.b_isinstance (by decide +kernel) (pa_cons (pv 9) (pa_cons (pe_bltn (v := .ty "list") (by rfl) T.b_list (by decide +kernel) rfl) pa_nil))))) (pw_or (pt_cmpR op_ne (pe_callB (kLen (K := K)) (by rfl) T.b_len (by decide +kernel) (pa_cons (pv 9) pa_nil)) (pe_op op_mulA (pe_op op_mulA (pv 2) (pv 3)) (pv 10)) (nomark _)) (pw_or1 (pt_cmpR (kNe (K := K) hr.units) (pv 7) (pv 5) (nomark _)))))) (pss_one (ps_ret pe_bl)) pss_nil)
    (pss_cons (ps_set (i := 11) sc_law.nd rfl (Or.inl rfl) (pe_lst pa_nil))
    (pss_cons (ps_for PassesOwn.never rfl (pi_range1 rfl T.b_range (pa_cons (pv 3) pa_nil)) (pg_name (i := 12) sc_law.nd rfl (Or.inr rfl))
      (pss_cons (ps_for PassesOwn.never rfl (kpi_list (K := K) (pv 5)) (pg_name (i := 8) sc_law.nd rfl (Or.inr rfl))
      (pss_cons (ps_set (i := 11) sc_law.nd rfl (Or.inl rfl) (pe_op op_cat (pv 11) (pe_lc (own := [("_law_k", 6)]) (g := gName 6) (tt := tYes) rfl sc_law.nd (pi_range1 rfl T.b_range (pa_cons (pv 10) pa_nil)) (blkOk_by (N := ["_law_script", "_law_sizes", "_law_count", "_law_size", "_law_depth", "_law_channels", "_law_k", "_law_handed", "_law_row", "_law_data", "_law_many", "_law_expected", "_law_at"]) (sc := defScope s_law) (by decide +kernel)) (fun _ _ _ _ _ => pg_name (i := 6) sc_law.nd rfl (Or.inl rfl)) (fun _ _ _ _ _ => pts_nil) (fun _ _ _ _ _ => (pe_op op_and (pe_op op_shr (pe_ix (kIx (K := K)) (pv 8) (pv 12) (fun _ _ => rfl)) (pe_op op_mul pe_int (pv 6))) pe_int)))))
    pss_nil))
    pss_nil))
    (pss_cons (ps_if (pt_not (pt_val (pe_call G_l_same (hr.mono (by decide)) rfl C_l_same.g C_l_same.k C_l_same.b .nil pass0 (pa_cons (pv 9) (pa_cons (pv 11) pa_nil))))) (pss_one (ps_ret pe_bl)) pss_nil)
    (pss_cons (ps_for PassesOwn.never rfl (pi_range1 rfl T.b_range (pa_cons (pv 3) pa_nil)) (pg_name (i := 12) sc_law.nd rfl (Or.inr rfl))
      (pss_cons (ps_for PassesOwn.never rfl (pi_range1 rfl T.b_range (pa_cons (pv 2) pa_nil)) (pg_name (i := 6) sc_law.nd rfl (Or.inl rfl))
      (pss_one (ps_if (pt_cmpR op_ne (pe_call G_l_read (hr.mono (by decide)) rfl C_l_read.g C_l_read.k C_l_read.b .nil pass0 (pa_cons (pv 9) (pa_cons (pe_op op_mulA (pe_op op_add (pe_op op_mulA (pv 12) (pv 2)) (pv 6)) (pv 10)) (pa_cons (pv 10) pa_nil)))) (pe_ix (kIx (K := K)) (pe_ix (kIx (K := K)) (pv 5) (pv 6) (fun _ _ => rfl)) (pv 12) (fun _ _ => rfl)) (nomark _)) (pss_one (ps_ret pe_bl)) pss_nil)))
    pss_nil))
    (pss_one (ps_ret pe_bl))))))))))))))), ?_⟩
    refine sl (σ' := [some (.ref a_script_), none, none, none, none, none, none, none, none, none, none, none, none]) rfl ?_
    obtain ⟨c1, hc1, hm⟩ := of_bind hm
    obtain ⟨c2, hc2, hm⟩ := of_bind hm
    refine g_asgN (i := 1) (o := .lst (List.map V.int c2)) F0 (en_call (ea_cons (ev_call (ea_cons (ev_var (n := 0) rfl) (ea_cons ev_c ea_nil)) (fun ys H F Q q => ⟨_, _, _, script_, 0, c1, rfl, F, (RdS.app b_script_), hc1, q⟩)) (ea_cons ev_c (ea_cons (ev_op ev_c ev_c (rv_shlK _ _)) ea_nil))) (fun ys H F Q q => ⟨_, _, c1, 3, (1 * 2 ^ 20), c2, rfl, F, hc2, q⟩)) fun p3 H F4 => ?_
    refine sl (σ' := [some (.ref a_script_), some (.ref p3), none, none, none, none, none, none, none, none, none, none, none]) rfl ?_
    obtain ⟨x5, hx5, hm⟩ := of_bind hm
    obtain ⟨count_6, hcount_6, hm⟩ := of_bnd hm
    refine g_asg (i := 2) (v := .int count_6) (σ' := [some (.ref a_script_), some (.ref p3), some (.int count_6), none, none, none, none, none, none, none, none, none, none]) F4 (ev_cg (f := V.int) (ev_op ev_c (ev_op (ev_op (ev_var (n := 1) rfl) ev_c (rv_ix (f := V.int) hx5 (Or.inl (Rd.own 0 rfl)))) ev_c (rv_modK _)) rv_I0) hcount_6) rfl fun H F7 => ?_
    obtain ⟨x8, hx8, hm⟩ := of_bind hm
    obtain ⟨size_9, hsize_9, hm⟩ := of_bnd hm
    refine g_asg (i := 3) (v := .int size_9) (σ' := [some (.ref a_script_), some (.ref p3), some (.int count_6), some (.int size_9), none, none, none, none, none, none, none, none, none]) F7 (ev_cg (f := V.int) (ev_op (ev_op (ev_var (n := 1) rfl) ev_c (rv_ix (f := V.int) hx8 (Or.inl (Rd.own 0 rfl)))) ev_c (rv_modK _)) hsize_9) rfl fun H F10 => ?_
    obtain ⟨x11, hx11, hm⟩ := of_bind hm
    obtain ⟨depth_12, hdepth_12, hm⟩ := of_bnd hm
    refine g_asg (i := 4) (v := .int depth_12) (σ' := [some (.ref a_script_), some (.ref p3), some (.int count_6), some (.int size_9), some (.int depth_12), none, none, none, none, none, none, none, none]) F10 (ev_cg (f := V.int) (ev_op ev_c (ev_op (ev_op (ev_var (n := 1) rfl) ev_c (rv_ix (f := V.int) hx11 (Or.inl (Rd.own 0 rfl)))) ev_c (rv_modK _)) rv_I0) hdepth_12) rfl fun H F13 => ?_
    refine ss_asg ?_
    obtain ⟨r14, hr14, hm⟩ := of_bind hm
    obtain ⟨z15, hz15, hm⟩ := of_bind hm
    obtain ⟨l32, hl32, hm⟩ := of_bind hm
    refine st_lcR1 (K := K) (Gc := G) (fy := (lD D.int)) hr14 hl32 (of_grd hz15).1 F13 (ea_cons (ev_var (n := 2) rfl) ea_nil) ?_ (fun p42 us43 B44 H e45 rs46 F47 => ?_)
    · rintro k_16 y17 v18 B22 H D23 ac24 N25 hi26 hb e29 F30 hN31
      clear hm; have hm := hb; clear hb
      replace b_script_ := RdS.to b_script_ e29
      obtain rfl := hi26
      refine gn (σ' := [some (.ref a_script_), some (.ref p3), some (.int count_6), some (.int size_9), some (.int depth_12), none, some (.int k_16), none, none, none, none, none, none]) rfl ?_
      refine ⟨rfl, ?_⟩
      obtain ⟨c33, hc33, hm⟩ := of_bind hm
      obtain ⟨c34, hc34, hm⟩ := of_bind hm
      refine st_n (o := .lst (List.map V.int c34)) F30 (en_call (ea_cons (ev_call (ea_cons (ev_var (n := 0) rfl) (ea_cons (ev_op ev_c (ev_var (n := 6) rfl) rv_I0) ea_nil)) (fun ys H F Q q => ⟨_, _, _, script_, (1 + k_16), c33, rfl, F, (RdS.app (RdS.dn 2 b_script_)), hc33, q⟩)) (ea_cons (ev_var (n := 3) rfl) (ea_cons (ev_var (n := 4) rfl) ea_nil))) (fun ys H F Q q => ⟨_, _, c33, size_9, depth_12, c34, rfl, F, hc34, q⟩)) fun p35 H F36 => ?_
      obtain ⟨B38, e39, hB40, F41⟩ := Fr.fzAt 0 rfl F36
      replace b_script_ := RdS.to b_script_ e39
      replace e29 := Ex.trans e29 e39
      replace F41 : Fr B38 ((D23, .lst ac24) :: (p3, .lst (List.map V.int c2)) :: cs) _ := F41
      obtain rfl := Option.some.inj hm
      exact hN31 _ _ _ e39 (show Rp K G _ _ ((lD D.int) c34) from (rp_li hB40)) F41
    replace b_script_ := RdS.to b_script_ e45
    refine gn (σ' := [some (.ref a_script_), some (.ref p3), some (.int count_6), some (.int size_9), some (.int depth_12), some (.ref p42), none, none, none, none, none, none, none]) rfl ?_
    refine ss_asg ?_
    obtain ⟨z48, hz48, hm⟩ := of_bind hm
    obtain ⟨l65, hl65, hm⟩ := of_bind hm
    refine st_lcL (K := K) (Gc := G) (fy := (lD D.int)) hl65 (its_rp (f := (lD D.int)) rs46) (of_grd hz48).1 F47 (ev_var (n := 5) rfl) (Or.inl (Rd.own 0 rfl)) ?_ (fun p76 us77 B78 H e79 rs80 F81 => ?_)
    · rintro row_49 y50 v51 B55 H D56 ac57 N58 hi59 hb e62 F63 hN64
      clear hm; have hm := hb; clear hb
      replace b_script_ := RdS.to b_script_ e62
      replace rs46 := Rps.to rs46 e62
      replace e45 := Ex.trans e45 e62
      have r66 := Rp.to hi59 e62
      obtain ⟨a_x67, rfl, hB68⟩ := r66.li
      refine gn (σ' := [some (.ref a_script_), some (.ref p3), some (.int count_6), some (.int size_9), some (.int depth_12), some (.ref p42), none, none, some (.ref a_x67), none, none, none, none]) rfl ?_
      refine ⟨rfl, ?_⟩
      refine st_n (o := .lst (List.map V.int row_49)) F63 (en_cb (ea_cons (ev_var (n := 8) rfl) ea_nil) (rc_list (vs := List.map V.int row_49) (Or.inl (Or.inl hB68)))) fun p69 H F70 => ?_
      obtain ⟨B72, e73, hB74, F75⟩ := Fr.fzAt 0 rfl F70
      replace b_script_ := RdS.to b_script_ e73
      replace rs46 := Rps.to rs46 e73
      replace hB68 := e73 _ _ hB68
      replace e45 := Ex.trans e45 e73
      replace e62 := Ex.trans e62 e73
      replace F75 : Fr B72 ((D56, .lst ac57) :: (p42, .lst us43) :: (p3, .lst (List.map V.int c2)) :: cs) _ := F75
      obtain rfl := Option.some.inj hm
      exact hN64 _ _ _ e73 (show Rp K G _ _ ((lD D.int) row_49) from (rp_li hB74)) F75
    replace b_script_ := RdS.to b_script_ e79
    replace rs46 := Rps.to rs46 e79
    replace e45 := Ex.trans e45 e79
    refine gn (σ' := [some (.ref a_script_), some (.ref p3), some (.int count_6), some (.int size_9), some (.int depth_12), some (.ref p42), none, some (.ref p76), none, none, none, none, none]) rfl ?_
    refine ss_asg ?_
    refine st_call ?_
    refine st_cons ?_
    refine st_v F81 (ev_var (n := 7) rfl) fun H F82 => ?_
    refine st_cons ?_
    refine st_v (v := .int depth_12) F82 (ev_var (n := 4) rfl) fun H F84 => ?_
    refine st_nil ?_
    obtain ⟨B86, e87, hB88, F89⟩ := Fr.fzAt 0 rfl F84
    replace b_script_ := RdS.to b_script_ e87
    replace rs46 := Rps.to rs46 e87
    replace rs80 := Rps.to rs80 e87
    replace e45 := Ex.trans e45 e87
    replace e79 := Ex.trans e79 e87
    replace F89 : Fr B86 ((p42, .lst us43) :: (p3, .lst (List.map V.int c2)) :: cs) _ := F89
    obtain ⟨c90, hc90, hm⟩ := of_bind hm
    refine st_scE ⟨_, _, _, l65, depth_12, c90, rfl, F89, (show Rp K G _ _ ((lD (lD D.int)) l65) from (rp_l hB88 rs80)), hc90, fun p92 H F91 => ?_⟩
    refine gn (σ' := [some (.ref a_script_), some (.ref p3), some (.int count_6), some (.int size_9), some (.int depth_12), some (.ref p42), none, some (.ref p76), none, some (.ref p92), none, none, none]) rfl ?_
    obtain ⟨many_93, hmany_93, hm⟩ := of_bnd hm
    refine g_asg (i := 10) (v := .int many_93) (σ' := [some (.ref a_script_), some (.ref p3), some (.int count_6), some (.int size_9), some (.int depth_12), some (.ref p42), none, some (.ref p76), none, some (.ref p92), some (.int many_93), none, none]) F91 (ev_cg (f := V.int) (ev_op (ev_op (ev_var (n := 4) rfl) ev_c rv_I0) ev_c (rv_divK _)) hmany_93) rfl fun H F94 => ?_
    obtain ⟨b99, hb99, hm⟩ := of_bind hm
    refine g_when F94 (et_orO hb99 (et_cg (et_not (et_B (ev_cb (ea_cons (ev_var (n := 9) rfl) (ea_cons ev_c ea_nil)) (rc_isi (b := true) (ty_lst (Rd.own 0 rfl)) (kit_ty (by decide +kernel)))))) rfl) (fun y hy => by obtain ⟨n95, hn95, hy⟩ := of_bind hy; obtain ⟨n96, hn96, hy⟩ := of_bind hy; obtain ⟨b98, hb98, hy⟩ := of_bind hy; obtain rfl := Option.some.inj hy; exact (et_orO hb98 (et_test (ev_op (ev_cb (ea_cons (ev_var (n := 9) rfl) ea_nil) (rc_len (f := V.int) (Or.inl (Rd.own 0 rfl)))) (ev_op (ev_op (ev_var (n := 2) rfl) (ev_var (n := 3) rfl) (rv_mul hn95)) (ev_var (n := 10) rfl) (rv_mul hn96)) rv_neI)) (fun y hy => by obtain ⟨q97, hq97, hy⟩ := of_bind hy; obtain rfl := Option.some.inj hy; exact (et_test (ev_op (ev_var (n := 7) rfl) (ev_var (n := 5) rfl) (rv_neC hq97 (dpf_l (Or.inl (Or.inl hB88)) rs80) (dpf_l (Or.inl (Rd.own 1 rfl)) rs46)))))))) (fun hb100 H F => ?_) (fun hb100 H F => ?_)
    · have F101 := F
      replace hm := of_ifT hb100 hm
      refine ss_ret ?_
      refine st_v (v := .bl false) F101 ev_c fun H F102 => ?_
      obtain rfl := Option.some.inj hm
      exact k _ ((Fr.pickT (ds := []) 3 F102 [] (by decide) (by decide) rfl).weak e45)
    · have F103 := F
      replace hm := of_ifF hb100 hm
      refine g_asgN (i := 11) (o := .lst (List.map V.int ([] : List Int))) F103 (en_lst ea_nil) fun p104 H F105 => ?_
      refine sl (σ' := [some (.ref a_script_), some (.ref p3), some (.int count_6), some (.int size_9), some (.int depth_12), some (.ref p42), none, some (.ref p76), none, some (.ref p92), some (.int many_93), some (.ref p104), none]) rfl ?_
      obtain ⟨r106, hr106, hm⟩ := of_bind hm
      obtain ⟨r109, hl2147, hm⟩ := of_bind hm
      refine w_rngM1 hr106 hl2147 (fun s108 σ H => ∃ (p118 : Addr) (u_row_ : Option V) (u_at_ : Option V), σ = [some (.ref a_script_), some (.ref p3), some (.int count_6), some (.int size_9), some (.int depth_12), some (.ref p42), none, some (.ref p76), u_row_, some (.ref p92), some (.int many_93), some (.ref p118), u_at_] ∧ Fr B86 ((p3, .lst (List.map V.int c2)) :: (p42, .lst us43) :: (p92, .lst (List.map V.int c90)) :: (p118, .lst (List.map V.int s108)) :: cs) H) F105 (ea_cons (ev_var (n := 3) rfl) ea_nil) (fun H F => ?_) ?_ ?_
      · exact ⟨p104, _, _, rfl, (Fr.pickT (ds := [(p3, .lst (List.map V.int c2)), (p42, .lst us43), (p92, .lst (List.map V.int c90)), (p104, .lst (List.map V.int ([] : List Int)))]) 4 F [3, 2, 1, 0] (by decide) (by decide) rfl)⟩
      · rintro _ H ⟨p118, u_row_, u_at_, rfl, F2148⟩
        obtain ⟨c2149, hc2149, hm⟩ := of_bind hm
        refine g_when F2148 (et_not (et_B (ev_call (ea_cons (ev_var (n := 9) rfl) (ea_cons (ev_var (n := 11) rfl) ea_nil)) (fun ys H F Q q => ⟨_, _, _, c90, _, r109, c2149, rfl, F, (Rd.app (Rd.own 2 rfl)), (Rd.app (Rd.own 3 rfl)), hc2149, q⟩)))) (fun hb2150 H F => ?_) (fun hb2150 H F => ?_)
        · have F2151 := F
          replace hm := of_ifT hb2150 hm
          refine ss_ret ?_
          refine st_v (v := .bl false) F2151 ev_c fun H F2152 => ?_
          obtain rfl := Option.some.inj hm
          exact k _ ((Fr.pickT (ds := []) 4 F2152 [] (by decide) (by decide) rfl).weak e45)
        · have F2153 := F
          replace hm := of_ifF hb2150 hm
          obtain ⟨r2154, hr2154, hm⟩ := of_bind hm
          obtain ⟨r2157, hl4198, hm⟩ := of_bind hm
          refine w_rngF1 hr2154 hl4198 (fun s2156 σ H => ∃ (u_k_ : Option V) (u_at_ : Option V), σ = [some (.ref a_script_), some (.ref p3), some (.int count_6), some (.int size_9), some (.int depth_12), some (.ref p42), u_k_, some (.ref p76), u_row_, some (.ref p92), some (.int many_93), some (.ref p118), u_at_] ∧ Fr B86 ((p3, .lst (List.map V.int c2)) :: (p42, .lst us43) :: (p92, .lst (List.map V.int c90)) :: (p118, .lst (List.map V.int r109)) :: cs) H) F2153 (ea_cons (ev_var (n := 3) rfl) ea_nil) (fun H F => ?_) ?_ ?_
          · exact ⟨_, _, rfl, F⟩
          · rintro s4199 _ H rfl ⟨u_k_, u_at_, rfl, F4201⟩
            dsimp only at hm
            refine ss_ret ?_
            refine st_v (v := .bl true) F4201 ev_c fun H F4202 => ?_
            obtain rfl := Option.some.inj hm
            exact k _ ((Fr.pickT (ds := []) 4 F4202 [] (by decide) (by decide) rfl).weak e45)
          · rintro at_2155 iv2165 s2156 r' _ H N hi2164 hb ⟨u_k_, u_at_, rfl, F3166⟩ hk2160 hq2161 hd2162 hN2159
            have ho2163 := hm; clear hm; have hm := hb; clear hb
            obtain rfl := hi2164
            refine gn (σ' := [some (.ref a_script_), some (.ref p3), some (.int count_6), some (.int size_9), some (.int depth_12), some (.ref p42), u_k_, some (.ref p76), u_row_, some (.ref p92), some (.int many_93), some (.ref p118), some (.int at_2155)]) rfl ?_
            obtain ⟨r3167, hr3167, hm⟩ := of_bind hm
            obtain ⟨r3170, hl4194, hm⟩ := of_bind hm
            refine w_rngF1 hr3167 hl4194 (fun s3169 σ H => ∃ (u_k_ : Option V), σ = [some (.ref a_script_), some (.ref p3), some (.int count_6), some (.int size_9), some (.int depth_12), some (.ref p42), u_k_, some (.ref p76), u_row_, some (.ref p92), some (.int many_93), some (.ref p118), some (.int at_2155)] ∧ Fr B86 ((p3, .lst (List.map V.int c2)) :: (p42, .lst us43) :: (p92, .lst (List.map V.int c90)) :: (p118, .lst (List.map V.int r109)) :: cs) H) F3166 (ea_cons (ev_var (n := 2) rfl) ea_nil) (fun H F => ?_) ?_ ?_
            · exact ⟨_, rfl, F⟩
            · rintro s4195 _ H rfl ⟨u_k_, rfl, F4197⟩
              dsimp only at hm
              obtain rfl := Option.some.inj hm
              exact hN2159 _ _ _ rfl ⟨_, _, rfl, F4197⟩
            · rintro k_3168 iv3178 s3169 r' _ H N hi3177 hb ⟨u_k_, rfl, F4179⟩ hk3173 hq3174 hd3175 hN3172
              have ho3176 := hm; clear hm; have hm := hb; clear hb
              obtain rfl := hi3177
              refine gn (σ' := [some (.ref a_script_), some (.ref p3), some (.int count_6), some (.int size_9), some (.int depth_12), some (.ref p42), some (.int k_3168), some (.ref p76), u_row_, some (.ref p92), some (.int many_93), some (.ref p118), some (.int at_2155)]) rfl ?_
              obtain ⟨n4180, hn4180, hm⟩ := of_bind hm
              obtain ⟨n4181, hn4181, hm⟩ := of_bind hm
              obtain ⟨c4182, hc4182, hm⟩ := of_bind hm
              obtain ⟨x4183, hx4183, hm⟩ := of_bind hm
              obtain ⟨v4184, hv4185, r4186⟩ := Rps.at (f := (lD D.int)) rs46 hx4183
              obtain ⟨a_x4187, rfl, hB4188⟩ := r4186.li
              obtain ⟨x4189, hx4189, hm⟩ := of_bind hm
              refine s_when F4179 (et_test (ev_op (ev_call (ea_cons (ev_var (n := 9) rfl) (ea_cons (ev_op (ev_op (ev_op (ev_var (n := 12) rfl) (ev_var (n := 2) rfl) (rv_mul hn4180)) (ev_var (n := 6) rfl) rv_I0) (ev_var (n := 10) rfl) (rv_mul hn4181)) (ea_cons (ev_var (n := 10) rfl) ea_nil))) (fun ys H F Q q => ⟨_, _, _, c90, n4181, many_93, c4182, rfl, F, (Rd.app (Rd.own 2 rfl)), hc4182, q⟩)) (ev_op (ev_op (ev_var (n := 5) rfl) (ev_var (n := 6) rfl) (rv_ixV hv4185 (Or.inl (Rd.own 1 rfl)))) (ev_var (n := 12) rfl) (rv_ix (f := V.int) hx4189 (Or.inl (Or.inl hB4188)))) rv_neI)) (fun hb4190 H F => ?_) (fun hb4190 H F => ?_)
              · have F4191 := F
                replace hm := of_ifT hb4190 hm
                refine ss_ret ?_
                refine st_v (v := .bl false) F4191 ev_c fun H F4192 => ?_
                obtain rfl := Option.some.inj hm
                obtain rfl := hq3174 _ rfl
                replace hm := ho3176
                obtain rfl := Option.some.inj hm
                obtain rfl := hq2161 _ rfl
                replace hm := ho2163
                obtain rfl := Option.some.inj hm
                exact k _ ((Fr.pickT (ds := []) 4 F4192 [] (by decide) (by decide) rfl).weak e45)
              · have F4193 := F
                replace hm := of_ifF hb4190 hm
                obtain rfl := Option.some.inj hm
                exact hN3172 _ _ _ rfl ⟨_, rfl, F4193⟩
      · rintro at_107 iv117 s108 r' _ H N hi116 hb ⟨p118, u_row_, u_at_, rfl, F1119⟩ hN111
        have ho115 := hm; clear hm; have hm := hb; clear hb
        obtain rfl := hi116
        refine gn (σ' := [some (.ref a_script_), some (.ref p3), some (.int count_6), some (.int size_9), some (.int depth_12), some (.ref p42), none, some (.ref p76), u_row_, some (.ref p92), some (.int many_93), some (.ref p118), some (.int at_107)]) rfl ?_
        obtain ⟨r1122, hl2145, hm⟩ := of_bind hm
        refine w_forM hl2145 (its_rp (f := (lD D.int)) rs46) (fun s1121 σ H => ∃ (p1131 : Addr) (u_row_ : Option V), σ = [some (.ref a_script_), some (.ref p3), some (.int count_6), some (.int size_9), some (.int depth_12), some (.ref p42), none, some (.ref p76), u_row_, some (.ref p92), some (.int many_93), some (.ref p1131), some (.int at_107)] ∧ Fr B86 ((p3, .lst (List.map V.int c2)) :: (p42, .lst us43) :: (p92, .lst (List.map V.int c90)) :: (p1131, .lst (List.map V.int s1121)) :: cs) H) F1119 (ev_var (n := 5) rfl) (Or.inl (Rd.own 1 rfl)) (fun H F => ?_) ?_ ?_ ?_
        · exact ⟨p118, _, rfl, F⟩
        · rintro s1121 _ H ⟨_, _, rfl, F⟩
          exact RdS.at (Or.inl (Rd.own 1 rfl)) F
        · rintro _ H ⟨p1131, u_row_, rfl, F2146⟩
          obtain rfl := Option.some.inj hm
          exact hN111 _ _ ⟨p1131, _, _, rfl, F2146⟩
        · rintro row_1120 iv1130 s1121 r' _ H N hi1129 hb ⟨p1131, u_row_, rfl, F2132⟩ hN1124
          have ho1128 := hm; clear hm; have hm := hb; clear hb
          have r2133 := hi1129
          obtain ⟨a_row_2134, rfl, hB2135⟩ := r2133.li
          refine gn (σ' := [some (.ref a_script_), some (.ref p3), some (.int count_6), some (.int size_9), some (.int depth_12), some (.ref p42), none, some (.ref p76), some (.ref a_row_2134), some (.ref p92), some (.int many_93), some (.ref p1131), some (.int at_107)]) rfl ?_
          obtain ⟨r2139, hr2139, hm⟩ := of_bind hm
          obtain ⟨z2138, hz2138, hm⟩ := of_bind hm
          obtain ⟨l2137, hl2137, hm⟩ := of_bind hm
          obtain ⟨l2142, hl2142, hm⟩ := of_bind hm
          refine g_asgN (i := 11) (o := .lst (List.map V.int l2142)) F2132 (en_opN2 (ev_var (n := 11) rfl) (en_lcR1 (zs := List.map V.int l2137) hr2139 (ea_cons (ev_var (n := 10) rfl) ea_nil) (of_grd hz2138).1 (mlenR hl2137) (fun _ => rfl) (lcok_map (f := V.int) (g := V.int) hl2137 fun k_2136 y hy => by obtain ⟨x2140, hx2140, hy⟩ := of_bind hy; obtain ⟨n2141, hn2141, hy⟩ := of_bind hy; obtain rfl := Option.some.inj hy; exact (ev_op (ev_op (ev_op (ev_var (n := 8) rfl) (ev_var (n := 12) rfl) (rv_ix (f := V.int) hx2140 (Or.inl (Or.inl hB2135)))) (ev_op ev_c (ev_var (n := 6) rfl) (rv_mulL _)) (rv_shr hn2141)) ev_c rv_I0))) (fun q => (rn_cat (f := V.int) hl2142 (Rd.more (Rd.own 3 rfl)) (Rd.own 0 rfl)))) fun p2143 H F2144 => ?_
          refine sl (σ' := [some (.ref a_script_), some (.ref p3), some (.int count_6), some (.int size_9), some (.int depth_12), some (.ref p42), none, some (.ref p76), some (.ref a_row_2134), some (.ref p92), some (.int many_93), some (.ref p2143), some (.int at_107)]) rfl ?_
          obtain rfl := Option.some.inj hm
          exact hN1124 _ _ ⟨p2143, _, rfl, (Fr.pickT (ds := [(p3, .lst (List.map V.int c2)), (p42, .lst us43), (p92, .lst (List.map V.int c90)), (p2143, .lst (List.map V.int l2142))]) 5 F2144 [1, 2, 3, 0] (by decide) (by decide) rfl)⟩

theorem all_mk {l : PySem.W.OpenLaw} {w : World} {K : PySem.W.Frag} {h : Heap} {mg : Str → Option Value} {fa : Addr} {f_l_cell : Addr} {f_l_draw : Addr} {f_l_channel : Addr} {f_bytes_of : Addr} {f_sample_bytes : Addr} {f_l_is_integer : Addr} {f_l_same : Addr} {f_l_read : Addr} {f_law : Addr} (X : K.In h) (G : h.Ns mainGlobals mg) (hfa : mg "law" = some (.ref fa))
    {od_l_cell an_l_cell : Option Addr} {sl_l_cell : Array (Option Value)} {oc_l_cell kV_l_cell dc_l_cell pm_l_cell cd_l_cell ct_l_cell : Value}
    {od_l_draw an_l_draw : Option Addr} {sl_l_draw : Array (Option Value)} {oc_l_draw kV_l_draw dc_l_draw pm_l_draw cd_l_draw ct_l_draw : Value}
    {od_l_channel an_l_channel : Option Addr} {sl_l_channel : Array (Option Value)} {oc_l_channel kV_l_channel dc_l_channel pm_l_channel cd_l_channel ct_l_channel : Value}
    {od_bytes_of an_bytes_of : Option Addr} {sl_bytes_of : Array (Option Value)} {oc_bytes_of kV_bytes_of dc_bytes_of pm_bytes_of cd_bytes_of ct_bytes_of : Value}
    {od_sample_bytes an_sample_bytes : Option Addr} {sl_sample_bytes : Array (Option Value)} {oc_sample_bytes kV_sample_bytes dc_sample_bytes pm_sample_bytes cd_sample_bytes ct_sample_bytes : Value}
    {od_l_is_integer an_l_is_integer : Option Addr} {sl_l_is_integer : Array (Option Value)} {oc_l_is_integer kV_l_is_integer dc_l_is_integer pm_l_is_integer cd_l_is_integer ct_l_is_integer : Value}
    {od_l_same an_l_same : Option Addr} {sl_l_same : Array (Option Value)} {oc_l_same kV_l_same dc_l_same pm_l_same cd_l_same ct_l_same : Value}
    {od_l_read an_l_read : Option Addr} {sl_l_read : Array (Option Value)} {oc_l_read kV_l_read dc_l_read pm_l_read cd_l_read ct_l_read : Value}
    {od_law an_law : Option Addr} {sl_law : Array (Option Value)} {oc_law kV_law dc_law pm_law cd_law ct_law : Value}
    (a_l_cell : PySem.W.nsIn K mainGlobals "_law_cell" = some (some (.ref f_l_cell))) (l_l_cell : K.lookup f_l_cell = some ⟨oc_l_cell, od_l_cell, .func (PySem.W.fnOf "_law_cell" "_law_cell" (defArgs s_l_cell) (defBody s_l_cell) (defScope s_l_cell) .none kV_l_cell dc_l_cell pm_l_cell an_l_cell cd_l_cell ct_l_cell), sl_l_cell⟩) (c_l_cell : PySem.W.codeIn K cd_l_cell "_law_cell" = true) (k_l_cell : PySem.W.keepIn K (.ref f_l_cell) = true)
    (a_l_draw : PySem.W.nsIn K mainGlobals "_law_draw" = some (some (.ref f_l_draw))) (l_l_draw : K.lookup f_l_draw = some ⟨oc_l_draw, od_l_draw, .func (PySem.W.fnOf "_law_draw" "_law_draw" (defArgs s_l_draw) (defBody s_l_draw) (defScope s_l_draw) .none kV_l_draw dc_l_draw pm_l_draw an_l_draw cd_l_draw ct_l_draw), sl_l_draw⟩) (c_l_draw : PySem.W.codeIn K cd_l_draw "_law_draw" = true) (k_l_draw : PySem.W.keepIn K (.ref f_l_draw) = true)
    (a_l_channel : PySem.W.nsIn K mainGlobals "_law_channel" = some (some (.ref f_l_channel))) (l_l_channel : K.lookup f_l_channel = some ⟨oc_l_channel, od_l_channel, .func (PySem.W.fnOf "_law_channel" "_law_channel" (defArgs s_l_channel) (defBody s_l_channel) (defScope s_l_channel) .none kV_l_channel dc_l_channel pm_l_channel an_l_channel cd_l_channel ct_l_channel), sl_l_channel⟩) (c_l_channel : PySem.W.codeIn K cd_l_channel "_law_channel" = true) (k_l_channel : PySem.W.keepIn K (.ref f_l_channel) = true)
    (a_bytes_of : PySem.W.nsIn K mainGlobals "bytes_of" = some (some (.ref f_bytes_of))) (l_bytes_of : K.lookup f_bytes_of = some ⟨oc_bytes_of, od_bytes_of, .func (PySem.W.fnOf "bytes_of" "bytes_of" (defArgs s_bytes_of) (defBody s_bytes_of) (defScope s_bytes_of) .none kV_bytes_of dc_bytes_of pm_bytes_of an_bytes_of cd_bytes_of ct_bytes_of), sl_bytes_of⟩) (c_bytes_of : PySem.W.codeIn K cd_bytes_of "bytes_of" = true) (k_bytes_of : PySem.W.keepIn K (.ref f_bytes_of) = true)
    (a_sample_bytes : PySem.W.nsIn K mainGlobals "sample_bytes" = some (some (.ref f_sample_bytes))) (l_sample_bytes : K.lookup f_sample_bytes = some ⟨oc_sample_bytes, od_sample_bytes, .func (PySem.W.fnOf "sample_bytes" "sample_bytes" (defArgs s_sample_bytes) (defBody s_sample_bytes) (defScope s_sample_bytes) .none kV_sample_bytes dc_sample_bytes pm_sample_bytes an_sample_bytes cd_sample_bytes ct_sample_bytes), sl_sample_bytes⟩) (c_sample_bytes : PySem.W.codeIn K cd_sample_bytes "sample_bytes" = true) (k_sample_bytes : PySem.W.keepIn K (.ref f_sample_bytes) = true)
    (a_l_is_integer : PySem.W.nsIn K mainGlobals "_law_is_integer" = some (some (.ref f_l_is_integer))) (l_l_is_integer : K.lookup f_l_is_integer = some ⟨oc_l_is_integer, od_l_is_integer, .func (PySem.W.fnOf "_law_is_integer" "_law_is_integer" (defArgs s_l_is_integer) (defBody s_l_is_integer) (defScope s_l_is_integer) .none kV_l_is_integer dc_l_is_integer pm_l_is_integer an_l_is_integer cd_l_is_integer ct_l_is_integer), sl_l_is_integer⟩) (c_l_is_integer : PySem.W.codeIn K cd_l_is_integer "_law_is_integer" = true) (k_l_is_integer : PySem.W.keepIn K (.ref f_l_is_integer) = true)
    (a_l_same : PySem.W.nsIn K mainGlobals "_law_same" = some (some (.ref f_l_same))) (l_l_same : K.lookup f_l_same = some ⟨oc_l_same, od_l_same, .func (PySem.W.fnOf "_law_same" "_law_same" (defArgs s_l_same) (defBody s_l_same) (defScope s_l_same) .none kV_l_same dc_l_same pm_l_same an_l_same cd_l_same ct_l_same), sl_l_same⟩) (c_l_same : PySem.W.codeIn K cd_l_same "_law_same" = true) (k_l_same : PySem.W.keepIn K (.ref f_l_same) = true)
    (a_l_read : PySem.W.nsIn K mainGlobals "_law_read" = some (some (.ref f_l_read))) (l_l_read : K.lookup f_l_read = some ⟨oc_l_read, od_l_read, .func (PySem.W.fnOf "_law_read" "_law_read" (defArgs s_l_read) (defBody s_l_read) (defScope s_l_read) .none kV_l_read dc_l_read pm_l_read an_l_read cd_l_read ct_l_read), sl_l_read⟩) (c_l_read : PySem.W.codeIn K cd_l_read "_law_read" = true) (k_l_read : PySem.W.keepIn K (.ref f_l_read) = true)
    (a_law : PySem.W.nsIn K mainGlobals "law" = some (some (.ref f_law))) (l_law : K.lookup f_law = some ⟨oc_law, od_law, .func (PySem.W.fnOf "law" "law" (defArgs s_law) (defBody s_law) (defScope s_law) .none kV_law dc_law pm_law an_law cd_law ct_law), sl_law⟩) (c_law : PySem.W.codeIn K cd_law "law" = true) (k_law : PySem.W.keepIn K (.ref f_law) = true)
    (z_bool : PySem.W.nsIn K mainGlobals "bool" = some none)
    (z_int : PySem.W.nsIn K mainGlobals "int" = some none)
    (z_isinstance : PySem.W.nsIn K mainGlobals "isinstance" = some none)
    (z_len : PySem.W.nsIn K mainGlobals "len" = some none)
    (z_list : PySem.W.nsIn K mainGlobals "list" = some none)
    (z_range : PySem.W.nsIn K mainGlobals "range" = some none) :
    ∃ fd : FuncData, (∀ (s : Shared) (v : Value), BindsTo s fd ⟨[v], []⟩ [("_law_script", v)]) ∧ ∀ base : Heap, K.In base → base.Ns mainGlobals mg → FnOk l.prog w K mg base CX0 3 fa fd ["_law_script"] (sp_law K G0) := by
  have e := hfa.symm.trans (PySem.W.mg_of X G a_law)
  cases e
  have T : Txt K mg := ⟨PySem.W.mg_none_of X G z_bool, PySem.W.mg_none_of X G z_int, PySem.W.mg_none_of X G z_isinstance, PySem.W.mg_none_of X G z_len, PySem.W.mg_none_of X G z_list, PySem.W.mg_none_of X G z_range⟩
  have F_l_cell := fun_mk (st := s_l_cell) l_l_cell c_l_cell k_l_cell
  have b_l_cell := F_l_cell.binds (ps := ["_law_script", "_law_k"]) fun _ _ _ _ _ _ us hl => match us, hl with | [_, _], _ => rfl
  have C_l_cell : Cal K mg "_law_cell" f_l_cell _ _ := ⟨PySem.W.mg_of X G a_l_cell, k_l_cell, b_l_cell⟩
  have F_l_draw := fun_mk (st := s_l_draw) l_l_draw c_l_draw k_l_draw
  have b_l_draw := F_l_draw.binds (ps := ["_law_cell_here", "_law_many", "_law_bound"]) fun _ _ _ _ _ _ us hl => match us, hl with | [_, _, _], _ => rfl
  have C_l_draw : Cal K mg "_law_draw" f_l_draw _ _ := ⟨PySem.W.mg_of X G a_l_draw, k_l_draw, b_l_draw⟩
  have F_l_channel := fun_mk (st := s_l_channel) l_l_channel c_l_channel k_l_channel
  have b_l_channel := F_l_channel.binds (ps := ["_law_cell_here", "_law_many", "_law_depth"]) fun _ _ _ _ _ _ us hl => match us, hl with | [_, _, _], _ => rfl
  have C_l_channel : Cal K mg "_law_channel" f_l_channel _ _ := ⟨PySem.W.mg_of X G a_l_channel, k_l_channel, b_l_channel⟩
  have F_bytes_of := fun_mk (st := s_bytes_of) l_bytes_of c_bytes_of k_bytes_of
  have b_bytes_of := F_bytes_of.binds (ps := ["number", "many"]) fun _ _ _ _ _ _ us hl => match us, hl with | [_, _], _ => rfl
  have C_bytes_of : Cal K mg "bytes_of" f_bytes_of _ _ := ⟨PySem.W.mg_of X G a_bytes_of, k_bytes_of, b_bytes_of⟩
  have F_sample_bytes := fun_mk (st := s_sample_bytes) l_sample_bytes c_sample_bytes k_sample_bytes
  have b_sample_bytes := F_sample_bytes.binds (ps := ["channels", "depth"]) fun _ _ _ _ _ _ us hl => match us, hl with | [_, _], _ => rfl
  have C_sample_bytes : Cal K mg "sample_bytes" f_sample_bytes _ _ := ⟨PySem.W.mg_of X G a_sample_bytes, k_sample_bytes, b_sample_bytes⟩
  have F_l_is_integer := fun_mk (st := s_l_is_integer) l_l_is_integer c_l_is_integer k_l_is_integer
  have b_l_is_integer := F_l_is_integer.binds (ps := ["_law_actual"]) fun _ _ _ _ _ _ us hl => match us, hl with | [_], _ => rfl
  have C_l_is_integer : Cal K mg "_law_is_integer" f_l_is_integer _ _ := ⟨PySem.W.mg_of X G a_l_is_integer, k_l_is_integer, b_l_is_integer⟩
  have F_l_same := fun_mk (st := s_l_same) l_l_same c_l_same k_l_same
  have b_l_same := F_l_same.binds (ps := ["_law_actual", "_law_expected"]) fun _ _ _ _ _ _ us hl => match us, hl with | [_, _], _ => rfl
  have C_l_same : Cal K mg "_law_same" f_l_same _ _ := ⟨PySem.W.mg_of X G a_l_same, k_l_same, b_l_same⟩
  have F_l_read := fun_mk (st := s_l_read) l_l_read c_l_read k_l_read
  have b_l_read := F_l_read.binds (ps := ["_law_data", "_law_at", "_law_many"]) fun _ _ _ _ _ _ us hl => match us, hl with | [_, _, _], _ => rfl
  have C_l_read : Cal K mg "_law_read" f_l_read _ _ := ⟨PySem.W.mg_of X G a_l_read, k_l_read, b_l_read⟩
  have F_law := fun_mk (st := s_law) l_law c_law k_law
  refine ⟨PySem.W.fnOf "law" "law" (defArgs s_law) (defBody s_law) (defScope s_law) .none kV_law dc_law pm_law an_law cd_law ct_law, fun s v => .of_eq rfl, fun base _ _ => ?_⟩
  have G_l_cell := ok_l_cell (P := l.prog) (w := w) (base := base) (G := G0) F_l_cell T
  have G_l_draw := ok_l_draw (P := l.prog) (w := w) (base := base) (G := G0) F_l_draw T
  have G_l_channel := ok_l_channel (P := l.prog) (w := w) (base := base) (G := G0) F_l_channel T G_l_draw C_l_draw
  have G_bytes_of := ok_bytes_of (P := l.prog) (w := w) (base := base) (G := G0) F_bytes_of T
  have G_sample_bytes := ok_sample_bytes (P := l.prog) (w := w) (base := base) (G := G0) F_sample_bytes T G_bytes_of C_bytes_of
  have G_l_is_integer := ok_l_is_integer (P := l.prog) (w := w) (base := base) (G := G0) F_l_is_integer T
  have G_l_same := ok_l_same (P := l.prog) (w := w) (base := base) (G := G0) F_l_same T G_l_is_integer C_l_is_integer
  have G_l_read := ok_l_read (P := l.prog) (w := w) (base := base) (G := G0) F_l_read T
  exact ok_law F_law T G_l_cell C_l_cell G_l_draw C_l_draw G_l_channel C_l_channel G_sample_bytes C_sample_bytes G_l_same C_l_same G_l_read C_l_read
theorem walk {l : PySem.W.OpenLaw} {q : Program} {loose : List Str} {XP : (Str → Option Value) → Heap → Prop} {YP : World → Heap → Prop} {d : DefRec} {K : Params → PySem.W.Frag} (hn : l.most = some 63) (hdf : d.params.defaults = [])
    (true_ : ∀ ns : List Int, ns.length ≤ 63 → (∀ z ∈ ns, Builtin.Int.intBits z ≤ 1048576) → m_law ns = some true)
    (hY : ∀ (w : World) (h : Heap), YP w h → (K w.params).In h)
    (F : ∀ (w : World) (mg : Str → Option Value) (fa : Addr) (h : Heap), (K w.params).In h → h.Ns mainGlobals mg → mg d.name = some (.ref fa) →
      ∃ fd : FuncData, (∀ (s : Shared) (u : Value), BindsTo s fd ⟨[u], []⟩ [("_law_script", u)]) ∧ ∀ base : Heap, (K w.params).In base → base.Ns mainGlobals mg → FnOk l.prog w (K w.params) mg base CX0 3 fa fd ["_law_script"] (sp_law (K w.params) G0)) :
    PySem.W.WalkO q loose XP YP l.row.toRowW d [] (fun f vs => PySem.call f vs) :=
  L2.walk_ofB (n := 63) (k := 3) (x := "_law_script") (CX := fun _ => CX0) (sp := fun w => sp_law (K w.params) G0) hn (by decide) hdf ⟨rfl, by decide, by decide⟩ hY F (fun _ H a ns hl hb _ hS => ⟨H, [], a, ns, true, rfl, Fr.refl H, Or.inr hS, true_ ns hl hb, fun _ _ => rfl⟩) fun _ _ _ _ _ z => z
end K09
open PySem PySem.W PyProof.Rows
set_option maxRecDepth 100000 in
set_option maxHeartbeats 0 in
theorem PySem.Challenge.cw_monochord_k09_bytes_of_samples_holds : PySem.Challenge.rw_monochord_k09_bytes_of_samples.Holds := by
  w_on; o_law; k_head; (case hw => w_witness2)
  k_fill
  refine K09.walk (l := PySem.Challenge.rw_monochord_k09_bytes_of_samples) rfl rfl K09.law_true (fun w h Y => PySem.W.kIn_of Y) ?F
  case F =>
    intro w mg fa h KX G hmg
    refine' K09.all_mk KX G hmg ?a_l_cell ?l_l_cell ?c_l_cell ?k_l_cell ?a_l_draw ?l_l_draw ?c_l_draw ?k_l_draw ?a_l_channel ?l_l_channel ?c_l_channel ?k_l_channel ?a_bytes_of ?l_bytes_of ?c_bytes_of ?k_bytes_of ?a_sample_bytes ?l_sample_bytes ?c_sample_bytes ?k_sample_bytes ?a_l_is_integer ?l_l_is_integer ?c_l_is_integer ?k_l_is_integer ?a_l_same ?l_l_same ?c_l_same ?k_l_same ?a_l_read ?l_l_read ?c_l_read ?k_l_read ?a_law ?l_law ?c_law ?k_law ?z_bool ?z_int ?z_isinstance ?z_len ?z_list ?z_range
    (case a_l_cell => k_is)
    (case l_l_cell => k_is)
    (case c_l_cell => k_is)
    (case k_l_cell => k_is)
    (case a_l_draw => k_is)
    (case l_l_draw => k_is)
    (case c_l_draw => k_is)
    (case k_l_draw => k_is)
    (case a_l_channel => k_is)
    (case l_l_channel => k_is)
    (case c_l_channel => k_is)
    (case k_l_channel => k_is)
    (case a_bytes_of => k_is)
    (case l_bytes_of => k_is)
    (case c_bytes_of => k_is)
    (case k_bytes_of => k_is)
    (case a_sample_bytes => k_is)
    (case l_sample_bytes => k_is)
    (case c_sample_bytes => k_is)
    (case k_sample_bytes => k_is)
    (case a_l_is_integer => k_is)
    (case l_l_is_integer => k_is)
    (case c_l_is_integer => k_is)
    (case k_l_is_integer => k_is)
    (case a_l_same => k_is)
    (case l_l_same => k_is)
    (case c_l_same => k_is)
    (case k_l_same => k_is)
    (case a_l_read => k_is)
    (case l_l_read => k_is)
    (case c_l_read => k_is)
    (case k_l_read => k_is)
    (case a_law => k_is)
    (case l_law => k_is)
    (case c_law => k_is)
    (case k_law => k_is)
    (case z_bool => k_is)
    (case z_int => k_is)
    (case z_isinstance => k_is)
    (case z_len => k_is)
    (case z_list => k_is)
    (case z_range => k_is)
