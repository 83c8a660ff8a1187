import PyProof.Rows.All
import Wide.All
import OpenK.AllK
import Wide.FinOn
import HandS.ForMost
import HandS.Evl
import HandS.IsInst
import HandS.Wide
import HandS.WideBits
import HandS.Flow
import HandS.EndBits
import HandS.Defaults
import HandS.Walk
import PySem.Challenge.RW_monochord_k61_quantized_coefficients
set_option Elab.async false
set_option linter.all false
set_option maxRecDepth 100000
set_option maxHeartbeats 4000000
/-! Mn: mirrors in the option monad, and how a reading of a def meets its mirror -/
namespace Mn
open PySem L2
open Evl (Ex)
/-! ### mirrors -/
theorem of_bind {A B : Type} {m : Option A} {f : A → Option B} {r : B} (h : m.bind f = some r) : ∃ x, m = some x ∧ f x = some r := by
  cases m with
  | none => cases h
  | some x => exact ⟨x, rfl, h⟩
def mapS {A C S : Type} (f : A → S → Option (C × S)) : List A → S → Option (List C × S)
  | [], s => some ([], s)
  | x :: l, s => (f x s).bind fun p => (mapS f l p.2).bind fun q => some (p.1 :: q.1, q.2)
def bnd {A B : Type} (e : A) (f : A → B) : B := f e
theorem of_bnd {A B : Type} {e : A} {f : A → B} {r : B} (h : bnd e f = r) : ∃ x, e = x ∧ f x = r := ⟨e, rfl, h⟩
@[simp] theorem bnd_eq {A B : Type} (e : A) (f : A → B) : bnd e f = f e := by exact (fun (h : bnd e f = f e) => h) rfl
@[simp] theorem some_bind' {A B : Type} (e : A) (f : A → Option B) : (some e).bind f = f e := by exact (fun (h : (some e).bind f = f e) => h) rfl
inductive Fl (S R : Type) where
  | nx (s : S) | bk (s : S) | rt (r : R)
def itM {A S : Type} (f : A → S → Option S) : List A → S → Option S
  | [], s => some s
  | x :: l, s => (f x s).bind fun s' => itM f l s'
def itF {A S R : Type} (f : A → S → Option (Fl S R)) : List A → S → Option (Fl S R)
  | [], s => some (.nx s)
  | x :: l, s => (f x s).bind fun r => match r with
    | .nx s' => itF f l s'
    | .bk s' => some (.nx s')
    | .rt q => some (.rt q)
/-- while, in at most so many turns -/
def whF {S R : Type} (c : S → Option Bool) (f : S → Option (Fl S R)) : Nat → S → Option (Fl S R)
  | 0, _ => none
  | n + 1, s => (c s).bind fun b => if b = true then (f s).bind fun r => match r with
      | .nx s' => whF c f n s'
      | .bk s' => some (.nx s')
      | .rt q => some (.rt q)
    else some (.nx s)
def mapO {A B : Type} (f : A → Option B) : List A → Option (List B)
  | [] => some []
  | x :: l => (f x).bind fun y => (mapO f l).bind fun r => some (y :: r)
/-- [e for x in xs if c] -/
def fmO {A B : Type} (c : A → Option Bool) (f : A → Option B) : List A → Option (List B)
  | [] => some []
  | x :: l => (c x).bind fun b => if b = true then (f x).bind fun y => (fmO c f l).bind fun r => some (y :: r) else fmO c f l
def rngI (lo hi : Int) : List Int := (List.range (hi - lo).toNat).map fun (i : Nat) => lo + (i : Int)
instance {i j : Int} : Decidable (IntMulOk i j) := by unfold IntMulOk; infer_instance
instance {i j : Int} : Decidable (CShl i j) := by unfold CShl; infer_instance
instance {i j : Int} : Decidable (CPow i j) := by unfold CPow; infer_instance
def grd {A : Type} (p : Prop) [Decidable p] (e : A) : Option A := if p then some e else none
theorem of_grd {A : Type} {p : Prop} [Decidable p] {e r : A} (h : grd p e = some r) : p ∧ e = r := by
  unfold grd at h
  split at h
  · next hp => exact ⟨hp, Option.some.inj h⟩
  · cases h
theorem grd_ok {A : Type} {p : Prop} [Decidable p] {e : A} (h : p) : grd p e = some e := if_pos h
def modC (i j : Int) : Option Int := grd (0 < j) (i % j)
def divC (i j : Int) : Option Int := grd (0 < j ∧ j.natAbs.log2 < 9000) (i / j)
def mulC (i j : Int) : Option Int := grd (IntMulOk i j) (i * j)
def shlC (i j : Int) : Option Int := grd (CShl i j) (i * 2 ^ j.toNat)
def shrC (i j : Int) : Option Int := grd (0 ≤ j) (i / 2 ^ j.toNat)
def powC (i j : Int) : Option Int := grd (CPow i j) (i ^ j.toNat)
def sizeC : Nat := 16777216
theorem sizeC_eq : sizeC = sizeLine := by rw [sizeLine_eq]; rfl
def appC {A : Type} (xs : List A) (x : A) : Option (List A) := grd (xs.length < 16777216) (xs ++ [x])
def catC {A : Type} (xs ys : List A) : Option (List A) := grd (xs.length + ys.length ≤ 16777216) (xs ++ ys)
def repC {A : Type} (xs : List A) (k : Int) : Option (List A) := grd (-(2 ^ 63) ≤ k ∧ k < 2 ^ 63 ∧ xs.length * k.toNat ≤ 16777216) (List.replicate k.toNat xs).flatten
def setC {A : Type} (xs : List A) (i : Int) (x : A) : Option (List A) := (ixN xs.length i).map fun j => xs.set j x
def cut {A : Type} (xs : List A) (lo hi : Option Int) : List A := (xs.drop (HT.sIx xs.length 0 lo)).take (HT.sIx xs.length xs.length hi - HT.sIx xs.length 0 lo)
/-- a range's ends -/
def rngC (lo hi : Int) : Option (List Int) := grd (-(2 ^ 62) ≤ lo ∧ lo < 2 ^ 62 ∧ -(2 ^ 62) ≤ hi ∧ hi < 2 ^ 62) (rngI lo hi)
def andC (a : Bool) (b : Option Bool) : Option Bool := if a = true then b else some false
def orC (a : Bool) (b : Option Bool) : Option Bool := if a = true then some true else b
def maxI (i j : Int) : Int := if j > i then j else i
def minI (i j : Int) : Int := if j < i then j else i
def absI (i : Int) : Int := if i < 0 then -i else i
def b2 (b : Bool) : Int := if b then 1 else 0
def bitsI (i : Int) : Int := (Builtin.Int.intBits i : Nat)
/-- max and min of a list -/
def maxL (xs : List Int) : Option Int := match xs with
  | [] => none
  | x :: r => some (r.foldl (fun a b => if b > a then b else a) x)
def minL (xs : List Int) : Option Int := match xs with
  | [] => none
  | x :: r => some (r.foldl (fun a b => if b < a then b else a) x)

theorem of_ifT {A : Type} {b : Bool} {x y r : A} (hb : b = true) (h : (if b = true then x else y) = r) : x = r := by
  rw [if_pos hb] at h
  exact h
theorem of_ifF {A : Type} {b : Bool} {x y r : A} (hb : b = false) (h : (if b = true then x else y) = r) : y = r := by
  rw [if_neg (by rw [hb]; exact Bool.false_ne_true)] at h
  exact h
def optG {A B : Type} (o : Option A) (f : A → Option B) : Option B := o.bind f
theorem of_opt {A B : Type} {o : Option A} {y : A} {f : A → Option B} {r : B} (h : o = some y) (hm : optG o f = some r) : f y = some r := by
  subst h
  exact hm
def fuel : Nat := 1000000

structure Fr (B : Hp) (cs : List (Addr × HO)) (H : Hp) : Prop where
  base : Ex B H
  own : ∀ c ∈ cs, H c.1 = some c.2
  new : ∀ c ∈ cs, B c.1 = none
  nd : (cs.map (·.1)).Nodup
section
variable {B H H' : Hp} {cs ds : List (Addr × HO)} {p : Addr} {o : HO} {K : PySem.W.Frag}
theorem Fr.refl (H : Hp) : Fr H [] H := ⟨Ex.refl H, fun _ h => (nomatch h), fun _ h => (nomatch h), List.nodup_nil⟩
theorem Fr.of (e : Ex H H') : Fr H [] H' := ⟨e, fun _ h => (nomatch h), fun _ h => (nomatch h), List.nodup_nil⟩
theorem Fr.ex (F : Fr B cs H) (e : Ex H H') : Fr B cs H' := ⟨F.base.trans e, fun c h => e _ _ (F.own c h), F.new, F.nd⟩
theorem Fr.get (F : Fr B cs H) (i : Nat) {c : Addr × HO} (h : cs[i]? = some c) : H c.1 = some c.2 := F.own c (List.mem_of_getElem? h)
theorem Fr.fresh (F : Fr B cs H) (i : Nat) {c : Addr × HO} (h : cs[i]? = some c) : B c.1 = none := F.new c (List.mem_of_getElem? h)
theorem Fr.app (F : Fr B cs H) (G : Fr H ds H') : Fr B (cs ++ ds) H' where
  base := F.base.trans G.base
  own := fun c hc => by
    rcases List.mem_append.mp hc with q | q
    · exact G.base _ _ (F.own c q)
    · exact G.own c q
  new := fun c hc => by
    rcases List.mem_append.mp hc with q | q
    · exact F.new c q
    · exact Evl.fresh_back F.base (G.new c q)
  nd := by
    rw [List.map_append, List.nodup_append]
    refine ⟨F.nd, G.nd, fun a ha b hb => ?_⟩
    rcases List.mem_map.mp ha with ⟨c, hc, rfl⟩
    rcases List.mem_map.mp hb with ⟨d, hd, rfl⟩
    intro e2
    have h1 := F.own c hc
    have h2 := G.new d hd
    rw [← e2, h1] at h2
    cases h2
theorem Fr.upd (F : Fr B cs H) (i : Nat) {o' : HO} (h : cs[i]? = some (p, o)) : Fr B (cs.set i (p, o')) (upd H p o') where
  base := fun a u ha => by
    have hb := F.fresh i h
    have : a ≠ p := by
      intro e
      subst e
      rw [ha] at hb
      cases hb
    rw [upd_ne this]
    exact F.base a u ha
  own := fun c hc => by
    obtain ⟨j, hj⟩ := List.mem_iff_getElem?.mp hc
    rw [List.getElem?_set] at hj
    by_cases e : i = j
    · subst e
      rw [if_pos rfl] at hj
      split at hj
      · cases hj
        exact upd_same
      · cases hj
    · rw [if_neg e] at hj
      have hne : c.1 ≠ p := by
        intro e2
        have e3 : (cs.map (·.1))[i]? = some p := by rw [List.getElem?_map, h]; rfl
        have e4 : (cs.map (·.1))[j]? = some p := by rw [List.getElem?_map, hj]; exact congrArg some e2
        exact e (nd_ix F.nd e3 e4)
      rw [upd_ne hne]
      exact F.own c (List.mem_of_getElem? hj)
  new := fun c hc => by
    rcases List.mem_or_eq_of_mem_set hc with q | q
    · exact F.new c q
    · subst q
      exact F.new (p, o) (List.mem_of_getElem? h)
  nd := by
    have : (cs.set i (p, o')).map (·.1) = cs.map (·.1) := by
      rw [List.map_set]
      apply List.ext_getElem?
      intro j
      rw [List.getElem?_set]
      split
      · next e =>
        subst e
        split
        · rw [List.getElem?_map, h]; rfl
        · next hl =>
          rw [List.getElem?_eq_none (by omega)]
      · rfl
    rw [this]
    exact F.nd
theorem Fr.sub (F : Fr B cs H) (h : List.Sublist ds cs) : Fr B ds H := ⟨F.base, fun c hc => F.own c (h.subset hc), fun c hc => F.new c (h.subset hc), (h.map _).nodup F.nd⟩
/-- an order of the cells -/
theorem Fr.perm (F : Fr B cs H) (h : ds.Perm cs) : Fr B ds H := ⟨F.base, fun c hc => F.own c (h.mem_iff.mp hc), fun c hc => F.new c (h.mem_iff.mp hc), ((h.map (·.1)).nodup_iff).mpr F.nd⟩
theorem Fr.add (F : Fr B cs H) (hp : H p = none) (e : Ex H H') (h : H' p = some o) : Fr B ((p, o) :: cs) H' where
  base := F.base.trans e
  own := fun c hc => by
    rcases List.mem_cons.mp hc with rfl | q
    · exact h
    · exact e _ _ (F.own c q)
  new := fun c hc => by
    rcases List.mem_cons.mp hc with rfl | q
    · exact Evl.fresh_back F.base hp
    · exact F.new c q
  nd := by
    rw [List.map_cons, List.nodup_cons]
    refine ⟨fun hm => ?_, F.nd⟩
    rcases List.mem_map.mp hm with ⟨c, hc, e2⟩
    have := F.own c hc
    rw [e2, hp] at this
    cases this
/-- a new object -/
theorem Fr.new1 (F : Fr B cs H) (hp : H p = none) : Fr B ((p, o) :: cs) (L2.upd H p o) := F.add hp (Evl.Ex.new hp) upd_same
theorem Fr.weak {B0 : Hp} (F : Fr B cs H) (e : Ex B0 B) : Fr B0 cs H := ⟨e.trans F.base, F.own, fun c hc => Evl.fresh_back e (F.new c hc), F.nd⟩
theorem Fr.drop1 (F : Fr B ((p, o) :: cs) H) : Fr B cs H := F.sub (List.sublist_cons_self _ _)
theorem erase_perm {A : Type} : ∀ {l : List A} {i : Nat} {a : A}, l[i]? = some a → List.Perm (a :: l.eraseIdx i) l
  | [], _, _, h => by simp at h
  | b :: l, 0, _, h => by cases h; exact .refl _
  | b :: l, i + 1, a, h => (List.Perm.swap b a _).trans (.cons b (erase_perm (l := l) (i := i) h))
theorem Fr.out {xs : List (Addr × HO)} (i : Nat) (F : Fr B (xs ++ cs) H) (h : cs[i]? = some (p, o)) : Fr B ((p, o) :: (xs ++ cs.eraseIdx i)) H := by
  refine F.perm ?_
  have h1 : List.Perm ((p, o) :: cs.eraseIdx i) cs := by
    exact erase_perm h
  refine List.perm_middle.symm.trans ?_
  exact List.Perm.append_left xs h1
theorem Fr.back {xs : List (Addr × HO)} {o' : HO} (i : Nat) (h : cs[i]? = some (p, o)) (F : Fr B ((p, o') :: (xs ++ cs.eraseIdx i)) H) : Fr B (xs ++ cs.set i (p, o')) H := by
  refine F.perm ?_
  have h1 : List.Perm (cs.set i (p, o')) ((p, o') :: cs.eraseIdx i) := by
    obtain ⟨hl, he⟩ := List.getElem?_eq_some_iff.mp h
    have h2 := erase_perm (l := cs.set i (p, o')) (i := i) (a := (p, o')) (by rw [List.getElem?_set]; simp; exact hl)
    rw [List.eraseIdx_set_eq] at h2
    exact h2.symm
  exact (List.Perm.append_left xs h1).trans List.perm_middle
theorem Fr.pick (F : Fr B cs H) (ix : List Nat) (hn : ix.Nodup) (h : (ix.map fun i => cs[i]?) = ds.map some) : Fr B ds H := by
  have mem : ∀ (k : Nat) (d : Addr × HO), ds[k]? = some d → ∃ i, ix[k]? = some i ∧ cs[i]? = some d := by
    intro k d hd
    have e : (ds.map some)[k]? = some (some d) := by rw [List.getElem?_map, hd]; rfl
    rw [← h, List.getElem?_map] at e
    cases hi : ix[k]? with
    | none => rw [hi] at e; cases e
    | some i =>
      rw [hi] at e
      exact ⟨i, rfl, Option.some.inj e⟩
  refine ⟨F.base, fun c hc => ?_, fun c hc => ?_, ?_⟩
  · obtain ⟨k, hk⟩ := List.mem_iff_getElem?.mp hc
    obtain ⟨i, _, hi⟩ := mem k c hk
    exact F.get i hi
  · obtain ⟨k, hk⟩ := List.mem_iff_getElem?.mp hc
    obtain ⟨i, _, hi⟩ := mem k c hk
    exact F.fresh i hi
  · rw [List.nodup_iff_pairwise_ne, List.pairwise_iff_getElem]
    intro k1 k2 h1 h2 hlt e
    rw [List.length_map] at h1 h2
    rw [List.getElem_map, List.getElem_map] at e
    obtain ⟨i1, hi1, hc1⟩ := mem k1 _ (List.getElem?_eq_getElem h1)
    obtain ⟨i2, hi2, hc2⟩ := mem k2 _ (List.getElem?_eq_getElem h2)
    have e1 : (cs.map (·.1))[i1]? = some (ds[k1]).1 := by rw [List.getElem?_map, hc1]; rfl
    have e2 : (cs.map (·.1))[i2]? = some (ds[k1]).1 := by rw [List.getElem?_map, hc2, e]; rfl
    have := nd_ix F.nd e1 e2
    subst this
    have := nd_ix hn hi1 hi2
    omega
theorem Fr.pickT (n : Nat) (F : Fr B cs H) (ix : List Nat) (hn : ix.Nodup) (hl : ∀ i ∈ ix, i < n) (h : (ix.map fun i => cs[i]?) = ds.map some) : Fr B (ds ++ cs.drop n) H := by
  have F1 : Fr B ds H := F.pick ix hn h
  have F2 : Fr B (cs.drop n) H := F.sub (List.drop_sublist n cs)
  refine ⟨F.base, fun c hc => ?_, fun c hc => ?_, ?_⟩
  · rcases List.mem_append.mp hc with q | q
    · exact F1.own c q
    · exact F2.own c q
  · rcases List.mem_append.mp hc with q | q
    · exact F1.new c q
    · exact F2.new c q
  · rw [List.map_append, List.nodup_append]
    refine ⟨F1.nd, F2.nd, fun a ha b hb e => ?_⟩
    obtain ⟨c, hc, rfl⟩ := List.mem_map.mp ha
    obtain ⟨d, hd, rfl⟩ := List.mem_map.mp hb
    obtain ⟨k, hk⟩ := List.mem_iff_getElem?.mp hc
    obtain ⟨j, hj⟩ := List.mem_iff_getElem?.mp hd
    rw [List.getElem?_drop] at hj
    have e0 : (ds.map some)[k]? = some (some c) := by rw [List.getElem?_map, hk]; rfl
    rw [← h, List.getElem?_map] at e0
    cases hi : ix[k]? with
    | none => rw [hi] at e0; cases e0
    | some i =>
      rw [hi] at e0
      have e1 : cs[i]? = some c := Option.some.inj e0
      have l1 := hl i (List.mem_of_getElem? hi)
      have g1 : (cs.map (·.1))[i]? = some c.1 := by rw [List.getElem?_map, e1]; rfl
      have g2 : (cs.map (·.1))[n + j]? = some c.1 := by rw [List.getElem?_map, hj, e]; rfl
      have := nd_ix F.nd g1 g2
      omega
/-- an own cell is laid to what stands -/
theorem Fr.rest (F : Fr B ((p, o) :: cs) H) : Fr (L2.upd B p o) cs H where
  base := fun a u ha => by
    by_cases e : a = p
    · subst e
      rw [upd_same] at ha
      cases ha
      exact F.own _ List.mem_cons_self
    · rw [upd_ne e] at ha
      exact F.base a u ha
  own := fun c hc => F.own c (List.mem_cons_of_mem _ hc)
  new := fun c hc => by
    have hn := F.nd
    rw [List.map_cons, List.nodup_cons] at hn
    have : c.1 ≠ p := fun e => hn.1 (List.mem_map.mpr ⟨c, hc, e⟩)
    rw [upd_ne this]
    exact F.new c (List.mem_cons_of_mem _ hc)
  nd := by
    have hn := F.nd
    rw [List.map_cons, List.nodup_cons] at hn
    exact hn.2
theorem Ex.upd_new (h : B p = none) : Ex B (L2.upd B p o) := Evl.Ex.new h
end
/-! ### values -/
abbrev LI (xs : List Int) : HO := .lst (xs.map V.int)
abbrev LB (xs : List Bool) : HO := .lst (xs.map V.bl)
theorem atI_map {A C : Type} (f : A → C) (xs : List A) (i : Int) : atI (xs.map f) i = (atI xs i).map f := by
  unfold atI
  rw [List.length_map]
  cases ixN xs.length i with
  | none => rfl
  | some j =>
    show (xs.map f)[j]? = (xs[j]?).map f
    rw [List.getElem?_map]
theorem cut_map {A : Type} (f : A → V) (xs : List A) (lo hi : Option Int) : cutV (xs.map f) lo hi = (cut xs lo hi).map f := by
  unfold cutV cut
  rw [List.length_map, List.drop_map_comm, List.take_map_comm]
where
  List.drop_map_comm : ∀ {n : Nat} {l : List A}, (l.map f).drop n = (l.drop n).map f := by intros; rw [List.map_drop]
  List.take_map_comm : ∀ {n : Nat} {l : List A}, (l.map f).take n = (l.take n).map f := by intros; rw [List.map_take]
/-! ### what evaluates to what: from any heap in the state (B, cs), beside any other own cells xs -/
abbrev Cs := List (Addr × HO)
def EvF (B : Hp) (cs cs' : Cs) (te : TE) (σ : L2.St) (v : V) : Prop := ∀ (xs : Cs) (H : Hp), Fr B (xs ++ cs) H → ∀ Q : VK, (∀ H', Fr B (xs ++ cs') H' → Q v H') → te σ H Q
def EtF (B : Hp) (cs cs' : Cs) (t : TT) (σ : L2.St) (b : Bool) : Prop := ∀ (xs : Cs) (H : Hp), Fr B (xs ++ cs) H → ∀ Q : Bool → Hp → Prop, (∀ H', Fr B (xs ++ cs') H' → Q b H') → t σ H Q
def EaF (B : Hp) (cs cs' : Cs) (ta : TA) (σ : L2.St) (vs : List V) : Prop := ∀ (xs : Cs) (H : Hp), Fr B (xs ++ cs) H → ∀ Q : List V → Hp → Prop, (∀ H', Fr B (xs ++ cs') H' → Q vs H') → ta σ H Q
def EoF (B : Hp) (cs cs' : Cs) (to : TO) (σ : L2.St) (o : Option Int) : Prop := ∀ (xs : Cs) (H : Hp), Fr B (xs ++ cs) H → ∀ Q : Option Int → Hp → Prop, (∀ H', Fr B (xs ++ cs') H' → Q o H') → to σ H Q
/-- a new object at p -/
def EvN (B : Hp) (cs cs' : Cs) (te : TE) (σ : L2.St) (o : HO) : Prop := ∀ (xs : Cs) (H : Hp), Fr B (xs ++ cs) H → ∀ Q : VK, (∀ p H', Fr B ((p, o) :: (xs ++ cs')) H' → Q (.ref p) H') → te σ H Q
def RvF (B : Hp) (cs : Cs) (r : R2) (x y z : V) : Prop := ∀ H, Fr B cs H → ∀ Q : VK, Q z H → r x y H Q
def RnF (B : Hp) (cs : Cs) (r : R2) (x y : V) (o : HO) : Prop := ∀ H, Fr B cs H → ∀ Q : VK, (∀ p, H p = none → Q (.ref p) (L2.upd H p o)) → r x y H Q
def RcF (B : Hp) (cs : Cs) (r : List V → Hp → VK → Prop) (vs : List V) (z : V) : Prop := ∀ H, Fr B cs H → ∀ Q : VK, Q z H → r vs H Q
def RcN (B : Hp) (cs : Cs) (r : List V → Hp → VK → Prop) (vs : List V) (o : HO) : Prop := ∀ H, Fr B cs H → ∀ Q : VK, (∀ p, H p = none → Q (.ref p) (L2.upd H p o)) → r vs H Q
/-- what stands, or is own -/
def Rd (B : Hp) (cs : Cs) (a : Addr) (o : HO) : Prop := B a = some o ∨ (a, o) ∈ cs
def RdS (K : PySem.W.Frag) (B : Hp) (cs : Cs) (a : Addr) (vs : List V) : Prop := Rd B cs a (.lst vs) ∨ SqL K B a vs
theorem Rd.own {B : Hp} {cs : Cs} (i : Nat) {a : Addr} {o : HO} (h : cs[i]? = some (a, o)) : Rd B cs a o := .inr (List.mem_of_getElem? h)
theorem Rd.at {B H : Hp} {cs : Cs} {a : Addr} {o : HO} (r : Rd B cs a o) (F : Fr B cs H) : H a = some o := by
  rcases r with h | h
  · exact F.base _ _ h
  · exact F.own _ h
theorem RdS.at {K : PySem.W.Frag} {B H : Hp} {cs : Cs} {a : Addr} {vs : List V} (r : RdS K B cs a vs) (F : Fr B cs H) : SqL K H a vs := by
  rcases r with h | h
  · exact Evl.sq_of (h.at F)
  · exact Evl.ex_l F.base h
theorem Rd.more {B : Hp} {cs : Cs} {a : Addr} {o : HO} {c : Addr × HO} (r : Rd B cs a o) : Rd B (c :: cs) a o := by
  rcases r with h | h
  · exact .inl h
  · exact .inr (List.mem_cons_of_mem _ h)
theorem RdS.more {K : PySem.W.Frag} {B : Hp} {cs : Cs} {a : Addr} {vs : List V} {c : Addr × HO} (r : RdS K B cs a vs) : RdS K B (c :: cs) a vs := by
  rcases r with h | h
  · exact .inl h.more
  · exact .inr h
theorem Fr.xs {B H : Hp} {xs cs : Cs} (F : Fr B (xs ++ cs) H) : Fr B cs H := F.sub (List.sublist_append_right xs cs)
theorem Fr.cxs {B H : Hp} {xs cs : Cs} {c : Addr × HO} (F : Fr B (c :: (xs ++ cs)) H) : Fr B (c :: cs) H := F.sub (.cons₂ _ (List.sublist_append_right xs cs))
section
variable {K : PySem.W.Frag} {σ σ' : L2.St} {H H' B : Hp} {cs cs1 cs2 cs3 cs4 : Cs} {ta tb te tx : TE} {t u : TT} {x y z v : V} {r : R2} {i j m : Int} {a p q : Addr} {A : Type} {f : A → V} {xs ys : List A} {b c : Bool} {o o1 o2 : HO}
theorem ev_cg {e e' : A} (h : EvF B cs cs1 te σ (f e)) (hx : e = e') : EvF B cs cs1 te σ (f e') := hx ▸ h
theorem en_cg {e e' : List A} (h : EvN B cs cs1 te σ (.lst (e.map f))) (hx : e = e') : EvN B cs cs1 te σ (.lst (e'.map f)) := hx ▸ h
theorem et_cg (h : EtF B cs cs1 t σ b) (hx : b = c) : EtF B cs cs1 t σ c := hx ▸ h
theorem ev_var {n : Nat} (h : σ[n]? = some (some v)) : EvF B cs cs (tVar n) σ v := fun _ H F _ q => ⟨v, h, q H F⟩
theorem ev_c : EvF B cs cs (tC v) σ v := fun _ H F _ q => q H F
theorem ev_op (ha : EvF B cs cs1 ta σ x) (hb : EvF B cs1 cs2 tb σ y) (hr : RvF B cs2 r x y z) : EvF B cs cs2 (tOp r ta tb) σ z := fun ys H F Q q =>
  ha ys H F _ fun H1 F1 => hb ys H1 F1 _ fun H2 F2 => hr H2 F2.xs Q (q H2 F2)
theorem ev_opN1 (ha : EvN B cs cs1 ta σ o) (hb : EvF B cs1 cs2 tb σ y) (hr : ∀ p, RvF B ((p, o) :: cs2) r (.ref p) y z) : EvF B cs cs2 (tOp r ta tb) σ z := fun ys H F Q q =>
  ha ys H F _ fun p H1 F1 => hb ((p, o) :: ys) H1 F1 _ fun H2 F2 => hr p H2 F2.cxs Q (q H2 F2.drop1)
theorem ev_opN2 (ha : EvF B cs cs1 ta σ x) (hb : EvN B cs1 cs2 tb σ o) (hr : ∀ p, RvF B ((p, o) :: cs2) r x (.ref p) z) : EvF B cs cs2 (tOp r ta tb) σ z := fun ys H F Q q =>
  ha ys H F _ fun H1 F1 => hb ys H1 F1 _ fun p H2 F2 => hr p H2 F2.cxs Q (q H2 F2.drop1)
theorem ev_opNN (ha : EvN B cs cs1 ta σ o1) (hb : EvN B cs1 cs2 tb σ o2) (hr : ∀ p q, RvF B ((q, o2) :: (p, o1) :: cs2) r (.ref p) (.ref q) z) : EvF B cs cs2 (tOp r ta tb) σ z := fun ys H F Q q =>
  ha ys H F _ fun p H1 F1 => hb ((p, o1) :: ys) H1 F1 _ fun p2 H2 F2 => hr p p2 H2 (F2.sub (.cons₂ _ (.cons₂ _ (List.sublist_append_right ys cs2)))) Q (q H2 F2.drop1.drop1)
theorem en_op (ha : EvF B cs cs1 ta σ x) (hb : EvF B cs1 cs2 tb σ y) (hr : RnF B cs2 r x y o) : EvN B cs cs2 (tOp r ta tb) σ o := fun ys H F Q q =>
  ha ys H F _ fun H1 F1 => hb ys H1 F1 _ fun H2 F2 => hr H2 F2.xs Q fun p hp => q p _ (F2.new1 hp)
theorem en_opN1 (ha : EvN B cs cs1 ta σ o1) (hb : EvF B cs1 cs2 tb σ y) (hr : ∀ p, RnF B ((p, o1) :: cs2) r (.ref p) y o) : EvN B cs cs2 (tOp r ta tb) σ o := fun ys H F Q q =>
  ha ys H F _ fun p H1 F1 => hb ((p, o1) :: ys) H1 F1 _ fun H2 F2 => hr p H2 F2.cxs Q fun p2 hp => q p2 _ (F2.drop1.new1 hp)
theorem en_opN2 (ha : EvF B cs cs1 ta σ x) (hb : EvN B cs1 cs2 tb σ o2) (hr : ∀ p, RnF B ((p, o2) :: cs2) r x (.ref p) o) : EvN B cs cs2 (tOp r ta tb) σ o := fun ys H F Q q =>
  ha ys H F _ fun H1 F1 => hb ys H1 F1 _ fun p H2 F2 => hr p H2 F2.cxs Q fun p2 hp => q p2 _ (F2.drop1.new1 hp)
theorem en_opNN (ha : EvN B cs cs1 ta σ o1) (hb : EvN B cs1 cs2 tb σ o2) (hr : ∀ p q, RnF B ((q, o2) :: (p, o1) :: cs2) r (.ref p) (.ref q) o) : EvN B cs cs2 (tOp r ta tb) σ o := fun ys H F Q q =>
  ha ys H F _ fun p H1 F1 => hb ((p, o1) :: ys) H1 F1 _ fun p2 H2 F2 => hr p p2 H2 (F2.sub (.cons₂ _ (.cons₂ _ (List.sublist_append_right ys cs2)))) Q fun p3 hp => q p3 _ (F2.drop1.drop1.new1 hp)
/-- arguments -/
theorem ea_nil : EaF B cs cs tNil σ [] := fun _ H F _ q => q H F
theorem ea_cons {tr : TA} {vs : List V} (h : EvF B cs cs1 te σ v) (hr : EaF B cs1 cs2 tr σ vs) : EaF B cs cs2 (tCons te tr) σ (v :: vs) := fun ys H F _ q =>
  h ys H F _ fun H1 F1 => hr ys H1 F1 _ fun H2 F2 => q H2 F2
/-- a new list among the arguments: what follows is told at (p, o) :: cs -/
def EaN (B : Hp) (cs : Cs) (ta : TA) (σ : L2.St) (P : List V → Cs → Prop) : Prop := ∀ (xs : Cs) (H : Hp), Fr B (xs ++ cs) H → ∀ Q : List V → Hp → Prop, (∀ vs cs' H', P vs cs' → Fr B (xs ++ cs') H' → Q vs H') → ta σ H Q
/-- displays -/
theorem en_lst {tA : TA} {vs : List V} (h : EaF B cs cs1 tA σ vs) (hl : Nat.ble vs.length 100000 = true := by rfl) : EvN B cs cs1 (tLst tA) σ (.lst vs) := fun ys H F _ q =>
  h ys H F _ fun H1 F1 => ⟨Evl.sz_of (Nat.le_of_ble_eq_true hl), fun p hp => q p _ (F1.new1 hp)⟩
theorem en_tup {tA : TA} {vs : List V} (h : EaF B cs cs1 tA σ vs) (hl : Nat.ble vs.length 100000 = true := by rfl) : EvN B cs cs1 (tTup tA) σ (.tup vs) := fun ys H F _ q =>
  h ys H F _ fun H1 F1 => ⟨Evl.sz_of (Nat.le_of_ble_eq_true hl), fun p hp => q p _ (F1.new1 hp)⟩
/-- built-ins called -/
theorem ev_cb {rc : List V → Hp → VK → Prop} {tA : TA} {vs : List V} (h : EaF B cs cs1 tA σ vs) (hr : RcF B cs1 rc vs z) : EvF B cs cs1 (tCB rc tA) σ z := fun ys H F Q q => h ys H F _ fun H1 F1 => hr H1 F1.xs Q (q H1 F1)
theorem ev_cbN {rc : List V → Hp → VK → Prop} (h : EvN B cs cs1 te σ o) (hr : ∀ p, RcF B ((p, o) :: cs1) rc [.ref p] z) : EvF B cs cs1 (tCB rc (tCons te tNil)) σ z := fun ys H F Q q => h ys H F _ fun p H1 F1 => hr p H1 F1.cxs Q (q H1 F1.drop1)
theorem en_cb {rc : List V → Hp → VK → Prop} {tA : TA} {vs : List V} (h : EaF B cs cs1 tA σ vs) (hr : RcN B cs1 rc vs o) : EvN B cs cs1 (tCB rc tA) σ o := fun ys H F Q q => h ys H F _ fun H1 F1 => hr H1 F1.xs Q fun p hp => q p _ (F1.new1 hp)
theorem en_cbN {rc : List V → Hp → VK → Prop} (h : EvN B cs cs1 te σ o1) (hr : ∀ p, RcN B ((p, o1) :: cs1) rc [.ref p] o) : EvN B cs cs1 (tCB rc (tCons te tNil)) σ o := fun ys H F Q q => h ys H F _ fun p H1 F1 => hr p H1 F1.cxs Q fun p2 hp => q p2 _ (F1.drop1.new1 hp)
theorem ev_cb1 {rc : List V → Hp → VK → Prop} (h : EvF B cs cs1 te σ v) (hr : RcF B cs1 rc [v] z) : EvF B cs cs1 (tCB rc (tCons te tNil)) σ z := ev_cb (ea_cons h ea_nil) hr
theorem ev_un {ru : V → Hp → VK → Prop} (h : EvF B cs cs1 ta σ x) (hr : ∀ H (Q : VK), Q z H → ru x H Q) : EvF B cs cs1 (tUn ru ta) σ z := fun ys H F Q q => h ys H F _ fun H1 F1 => hr H1 Q (q H1 F1)
/-- numbers -/
def rMulA : R2 := rI IntMulOk fun i j => .int (i * j)
theorem op_mulA {X : Cx} : OpR X (binaryOp .Mult) rMulA := opI fun _ _ _ _ _ _ _ hc q => PyProof.Rows.mul_int q hc
theorem iop_mulA {X : Cx} : OpR X (inplaceOp .Mult) (rI CMul fun i j => .int (i * j)) := iop_mul
theorem rv_I0 {g : Int → Int → V} : RvF B cs (rI0 g) (.int i) (.int j) (g i j) := fun _ _ _ q => ⟨i, j, rfl, rfl, q⟩
theorem rv_I {C : Int → Int → Prop} {g : Int → Int → V} (hc : C i j) : RvF B cs (rI C g) (.int i) (.int j) (g i j) := fun _ _ _ q => ⟨i, j, rfl, rfl, hc, q⟩
theorem rv_mod (h : modC i j = some m) : RvF B cs (rI (fun _ j => 0 < j) fun i j => .int (i % j)) (.int i) (.int j) (.int m) := by
  obtain ⟨hc, rfl⟩ := of_grd h
  exact rv_I hc
theorem rv_div (h : divC i j = some m) : RvF B cs (rI CDivW fun i j => .int (i / j)) (.int i) (.int j) (.int m) := by
  obtain ⟨hc, rfl⟩ := of_grd h
  exact rv_I hc
theorem rv_mul (h : mulC i j = some m) : RvF B cs rMulA (.int i) (.int j) (.int m) := by
  obtain ⟨hc, rfl⟩ := of_grd h
  exact rv_I hc
theorem rv_shl (h : shlC i j = some m) : RvF B cs (rI CShl fun i j => .int (i * 2 ^ j.toNat)) (.int i) (.int j) (.int m) := by
  obtain ⟨hc, rfl⟩ := of_grd h
  exact rv_I hc
theorem rv_shr (h : shrC i j = some m) : RvF B cs (rI (fun _ j => 0 ≤ j) fun i j => .int (i / 2 ^ j.toNat)) (.int i) (.int j) (.int m) := by
  obtain ⟨hc, rfl⟩ := of_grd h
  exact rv_I hc
theorem rv_pow (h : powC i j = some m) : RvF B cs (rI CPow fun i j => .int (i ^ j.toNat)) (.int i) (.int j) (.int m) := by
  obtain ⟨hc, rfl⟩ := of_grd h
  exact rv_I hc
theorem rv_mulL (k : Int) (hk : -(2 ^ 64) < k ∧ k < 2 ^ 64 := by decide) : RvF B cs (rI CMul fun i j => .int (i * j)) (.int k) (.int j) (.int (k * j)) := rv_I (Or.inl hk)
theorem rv_mulR (k : Int) (hk : -(2 ^ 64) < k ∧ k < 2 ^ 64 := by decide) : RvF B cs (rI CMul fun i j => .int (i * j)) (.int i) (.int k) (.int (i * k)) := rv_I (Or.inr hk)
theorem rv_modK (k : Int) (hk : 0 < k := by decide) : RvF B cs (rI (fun _ j => 0 < j) fun i j => .int (i % j)) (.int i) (.int k) (.int (i % k)) := rv_I hk
theorem rv_divK (k : Int) (hk : 0 < k ∧ k < 1073741824 := by decide) : RvF B cs (rI CDiv fun i j => .int (i / j)) (.int i) (.int k) (.int (i / k)) := rv_I hk
theorem rv_shrK (k : Int) (n : Nat) (hk : 0 ≤ k := by decide) (hn : k.toNat = n := by rfl) : RvF B cs (rI (fun _ j => 0 ≤ j) fun i j => .int (i / 2 ^ j.toNat)) (.int i) (.int k) (.int (i / 2 ^ n)) := by
  subst hn
  exact rv_I hk
theorem rv_shlK (k : Int) (n : Int) {d : Nat} (hk : CPow k n := by decide) (hd : n.toNat = d := by rfl) : RvF B cs (rI CPow fun i j => .int (i * 2 ^ j.toNat)) (.int k) (.int n) (.int (k * 2 ^ d)) := by
  subst hd
  exact rv_I hk
theorem rv_powK (k : Int) (n : Int) {d : Nat} (hk : CPow k n := by decide) (hd : n.toNat = d := by rfl) : RvF B cs (rI CPow fun i j => .int (i ^ j.toNat)) (.int k) (.int n) (.int (k ^ d)) := by
  subst hd
  exact rv_I hk
theorem rv_cg {e e' : Int} (hx : e = e') (h : RvF B cs r x y (.int e)) : RvF B cs r x y (.int e') := hx ▸ h
theorem rv_cgB {e e' : Bool} (hx : e = e') (h : RvF B cs r x y (.bl e)) : RvF B cs r x y (.bl e') := hx ▸ h
theorem rv_isN (h : decide (x = .non) = b) : RvF B cs (fun x y H Q => y = .non ∧ Q (.bl (decide (x = .non))) H) x .non (.bl b) := fun _ _ _ q => ⟨rfl, by rw [h]; exact q⟩
theorem rv_notN (h : (!decide (x = .non)) = b) : RvF B cs (fun x y H Q => y = .non ∧ Q (.bl (!decide (x = .non))) H) x .non (.bl b) := fun _ _ _ q => ⟨rfl, by rw [h]; exact q⟩
theorem rv_isF (h : x ≠ .non) : RvF B cs (fun x y H Q => y = .non ∧ Q (.bl (decide (x = .non))) H) x .non (.bl false) := rv_isN (decide_eq_false h)
theorem rv_isT : RvF B cs (fun x y H Q => y = .non ∧ Q (.bl (decide (x = .non))) H) .non .non (.bl true) := rv_isN (decide_eq_true rfl)
theorem rv_notT (h : x ≠ .non) : RvF B cs (fun x y H Q => y = .non ∧ Q (.bl (!decide (x = .non))) H) x .non (.bl true) := rv_notN (by rw [decide_eq_false h]; rfl)
theorem rv_notF : RvF B cs (fun x y H Q => y = .non ∧ Q (.bl (!decide (x = .non))) H) .non .non (.bl false) := rv_notN (by rw [decide_eq_true rfl]; rfl)
/-- tests -/
theorem rv_eqI : RvF B cs rEq (.int i) (.int j) (.bl (decide (i = j))) := fun _ _ Q q => ⟨rfl, by
  have h : (.bl (decide (V.int i = V.int j)) : V) = .bl (decide (i = j)) := by congr 1; simp
  rw [h]; exact q⟩
theorem rv_neI : RvF B cs rNe (.int i) (.int j) (.bl (!decide (i = j))) := fun _ _ Q q => ⟨rfl, by
  have h : (.bl (!decide (V.int i = V.int j)) : V) = .bl (!decide (i = j)) := by congr 2; simp
  rw [h]; exact q⟩
theorem rv_eqB : RvF B cs rEq (.bl b) (.bl c) (.bl (decide (b = c))) := fun _ _ Q q => ⟨rfl, by
  have h : (.bl (decide (V.bl b = V.bl c)) : V) = .bl (decide (b = c)) := by congr 1; simp
  rw [h]; exact q⟩
theorem rv_neB : RvF B cs rNe (.bl b) (.bl c) (.bl (!decide (b = c))) := fun _ _ Q q => ⟨rfl, by
  have h : (.bl (!decide (V.bl b = V.bl c)) : V) = .bl (!decide (b = c)) := by congr 2; simp
  rw [h]; exact q⟩
theorem rv_eqS {s1 s2 : Str} : RvF B cs rEq (.str s1) (.str s2) (.bl (decide (s1 = s2))) := fun _ _ Q q => ⟨rfl, by
  have h : (.bl (decide (V.str s1 = V.str s2)) : V) = .bl (decide (s1 = s2)) := by congr 1; simp
  rw [h]; exact q⟩
theorem rv_neS {s1 s2 : Str} : RvF B cs rNe (.str s1) (.str s2) (.bl (!decide (s1 = s2))) := fun _ _ Q q => ⟨rfl, by
  have h : (.bl (!decide (V.str s1 = V.str s2)) : V) = .bl (!decide (s1 = s2)) := by congr 2; simp
  rw [h]; exact q⟩
theorem et_test (h : EvF B cs cs1 te σ (.bl b)) : EtF B cs cs1 (tTest te) σ b := fun ys H F _ q => h ys H F _ fun H1 F1 => ⟨b, rfl, q H1 F1⟩
theorem et_B (h : EvF B cs cs1 te σ (.bl b)) : EtF B cs cs1 (tB te) σ b := fun ys H F _ q => h ys H F _ fun H1 F1 => ⟨b, rfl, q H1 F1⟩
theorem et_not (h : EtF B cs cs1 t σ b) : EtF B cs cs1 (tNot t) σ (!b) := fun ys H F _ q => h ys H F _ fun H1 F1 => q H1 F1
theorem et_and (h1 : EtF B cs cs1 t σ b) (h2 : b = true → EtF B cs1 cs1 u σ c) : EtF B cs cs1 (tAnd t u) σ (b && c) := fun ys H F Q q => h1 ys H F _ fun H1 F1 => by
  cases b with
  | true => exact h2 rfl ys H1 F1 Q q
  | false => exact q H1 F1
theorem et_or (h1 : EtF B cs cs1 t σ b) (h2 : b = false → EtF B cs1 cs1 u σ c) : EtF B cs cs1 (tOr t u) σ (b || c) := fun ys H F Q q => h1 ys H F _ fun H1 F1 => by
  cases b with
  | true => exact q H1 F1
  | false => exact h2 rfl ys H1 F1 Q q
theorem et_andO {m : Option Bool} (hm : andC b m = some c) (h1 : EtF B cs cs1 t σ b) (h2 : ∀ y, m = some y → EtF B cs1 cs1 u σ y) : EtF B cs cs1 (tAnd t u) σ c := by
  unfold andC at hm
  cases b with
  | true =>
    have := et_and h1 (fun _ => h2 c hm)
    exact this
  | false =>
    cases hm
    exact et_and (b := false) (c := false) h1 (fun q => (nomatch q))
theorem et_orO {m : Option Bool} (hm : orC b m = some c) (h1 : EtF B cs cs1 t σ b) (h2 : ∀ y, m = some y → EtF B cs1 cs1 u σ y) : EtF B cs cs1 (tOr t u) σ c := by
  unfold orC at hm
  cases b with
  | true =>
    cases hm
    exact et_or (b := true) (c := true) h1 (fun q => (nomatch q))
  | false =>
    have := et_or h1 (fun _ => h2 c hm)
    exact this
theorem ev_andV (h1 : EvF B cs cs1 ta σ (.bl b)) (h2 : b = true → EvF B cs1 cs1 tb σ (.bl c)) : EvF B cs cs1 (tAndV ta tb) σ (.bl (b && c)) := fun ys H F Q q => h1 ys H F _ fun H1 F1 => ⟨b, rfl, by
  cases b with
  | true => exact h2 rfl ys H1 F1 Q q
  | false => exact q H1 F1⟩
theorem ev_orV (h1 : EvF B cs cs1 ta σ (.bl b)) (h2 : b = false → EvF B cs1 cs1 tb σ (.bl c)) : EvF B cs cs1 (tOrV ta tb) σ (.bl (b || c)) := fun ys H F Q q => h1 ys H F _ fun H1 F1 => ⟨b, rfl, by
  cases b with
  | true => exact q H1 F1
  | false => exact h2 rfl ys H1 F1 Q q⟩
theorem ev_notV (h1 : EvF B cs cs1 ta σ (.bl b)) : EvF B cs cs1 (tNotV ta) σ (.bl (!b)) := fun ys H F _ q => h1 ys H F _ fun H1 F1 => ⟨b, rfl, q H1 F1⟩
theorem ev_andVO {m : Option Bool} (hm : andC b m = some c) (h1 : EvF B cs cs1 ta σ (.bl b)) (h2 : ∀ y, m = some y → EvF B cs1 cs1 tb σ (.bl y)) : EvF B cs cs1 (tAndV ta tb) σ (.bl c) := by
  unfold andC at hm
  cases b with
  | true =>
    have := ev_andV h1 (fun _ => h2 c hm)
    exact this
  | false =>
    cases hm
    exact ev_andV (b := false) (c := false) h1 (fun q => (nomatch q))
theorem ev_orVO {m : Option Bool} (hm : orC b m = some c) (h1 : EvF B cs cs1 ta σ (.bl b)) (h2 : ∀ y, m = some y → EvF B cs1 cs1 tb σ (.bl y)) : EvF B cs cs1 (tOrV ta tb) σ (.bl c) := by
  unfold orC at hm
  cases b with
  | true =>
    cases hm
    exact ev_orV (b := true) (c := true) h1 (fun q => (nomatch q))
  | false =>
    have := ev_orV h1 (fun _ => h2 c hm)
    exact this
theorem ev_chain {r r' : R2} {tc : TE} {w : V} (ha : EvF B cs cs1 ta σ x) (hb : EvF B cs1 cs2 tb σ y) (hc : EvF B cs2 cs2 tc σ w) (h1 : RvF B cs2 r x y (.bl b)) (h2 : RvF B cs2 r' y w (.bl c)) : EvF B cs cs2 (tChain r r' ta tb tc) σ (.bl (b && c)) := fun ys H F Q q =>
  ha ys H F _ fun H1 F1 => hb ys H1 F1 _ fun H2 F2 => h1 H2 F2.xs _ ⟨b, rfl, by
    cases b with
    | true =>
      show tc σ H2 _
      exact hc ys H2 F2 _ fun H3 F3 => h2 H3 F3.xs _ (q H3 F3)
    | false =>
      show Q (.bl false) H2
      exact q H2 F2⟩
/-- a if c else b -/
theorem ev_ifV {w : A} {m1 m2 : Option A} (hm : (if b = true then m1 else m2) = some w) (h : EtF B cs cs1 t σ b) (h1 : ∀ y, m1 = some y → EvF B cs1 cs1 ta σ (f y)) (h2 : ∀ y, m2 = some y → EvF B cs1 cs1 tb σ (f y)) : EvF B cs cs1 (tIf t ta tb) σ (f w) := fun ys H F Q q => h ys H F _ fun H1 F1 => by
  cases b with
  | true =>
    show ta σ H1 Q
    exact h1 w hm ys H1 F1 Q q
  | false =>
    show tb σ H1 Q
    exact h2 w (by rw [if_neg Bool.false_ne_true] at hm; exact hm) ys H1 F1 Q q
/-- len -/
def rLen (K : PySem.W.Frag) : List V → Hp → VK → Prop := fun xs H Q => ∃ p ys, xs = [.ref p] ∧ (SqL K H p ys ∨ SqT K H p ys) ∧ Q (.int ys.length) H
theorem cr_len {X : Cx} : CallR X (.builtin "len") (rLen X.K) := call_len_seq
theorem rc_len (h : RdS K B cs a (xs.map f)) : RcF B cs (rLen K) [.ref a] (.int (xs.length : Int)) := fun H F Q q => ⟨a, xs.map f, rfl, Or.inl (h.at F), by rw [List.length_map]; exact q⟩
theorem rc_lenV {vs : List V} {n : Nat} (h : RdS K B cs a vs) (hn : vs.length = n) : RcF B cs (rLen K) [.ref a] (.int (n : Int)) := fun H F Q q => ⟨a, vs, rfl, Or.inl (h.at F), by rw [hn]; exact q⟩
theorem rc_lenN : RcF B ((p, .lst (xs.map f)) :: cs) (rLen K) [.ref p] (.int (xs.length : Int)) := rc_len (.inl (.own 0 rfl))
/-- items -/
theorem rv_ix {w : A} (hv : atI xs i = some w) (h : RdS K B cs a (xs.map f)) : RvF B cs (rIxL K) (.ref a) (.int i) (f w) := fun H F Q q => ⟨a, xs.map f, i, f w, rfl, rfl, h.at F, by rw [atI_map, hv]; rfl, q⟩
theorem rv_ixV {vs : List V} (hv : atI vs i = some v) (h : RdS K B cs a vs) : RvF B cs (rIxL K) (.ref a) (.int i) v := fun H F Q q => ⟨a, vs, i, v, rfl, rfl, h.at F, hv, q⟩
theorem rv_ixN {w : A} (hv : atI xs i = some w) (p : Addr) : RvF B ((p, .lst (xs.map f)) :: cs) (rIxL K) (.ref p) (.int i) (f w) := rv_ix hv (.inl (.own 0 rfl))
/-- list(..) -/
def rLst (K : PySem.W.Frag) : List V → Hp → VK → Prop := fun xs H Q => ∃ p ys, xs = [.ref p] ∧ (SqL K H p ys ∨ SqT K H p ys) ∧ ∀ l, H l = none → Q (.ref l) (L2.upd H l (.lst ys))
theorem cr_list {X : Cx} : CallR X (.type "list") (rLst X.K) := call_list_of
theorem rc_list {vs : List V} (h : RdS K B cs a vs) : RcN B cs (rLst K) [.ref a] (.lst vs) := fun H F Q q => ⟨a, vs, rfl, Or.inl (h.at F), q⟩
theorem rc_listN {vs : List V} (p : Addr) : RcN B ((p, .lst vs) :: cs) (rLst K) [.ref p] (.lst vs) := rc_list (.inl (.own 0 rfl))
/-- slices -/
theorem eo_none : EoF B cs cs tNoPart σ none := fun _ H F _ q => q H F
theorem eo_some (h : EvF B cs cs1 te σ (.int i)) : EoF B cs cs1 (tPart te) σ (some i) := fun ys H F _ q => h ys H F _ fun H1 F1 => ⟨i, rfl, q H1 F1⟩
theorem en_sl {tl th : TO} {lo hi : Option Int} (ha : EvF B cs cs1 ta σ (.ref a)) (h1 : EoF B cs1 cs2 tl σ lo) (h2 : EoF B cs2 cs3 th σ hi) (h : RdS K B cs3 a (xs.map f)) : EvN B cs cs3 (tSl (rSlL K) ta tl th) σ (.lst ((cut xs lo hi).map f)) := by
  rw [← cut_map]
  exact fun ys H F _ q => ha ys H F _ fun H1 F1 => h1 ys H1 F1 _ fun H2 F2 => h2 ys H2 F2 _ fun H3 F3 => ⟨a, xs.map f, rfl, h.at F3.xs, fun p hp => q p _ (F3.new1 hp)⟩
theorem en_slN {tl th : TO} {lo hi : Option Int} (ha : EvN B cs cs1 ta σ (.lst (xs.map f))) (h1 : EoF B cs1 cs2 tl σ lo) (h2 : EoF B cs2 cs3 th σ hi) : EvN B cs cs3 (tSl (rSlL K) ta tl th) σ (.lst ((cut xs lo hi).map f)) := by
  rw [← cut_map]
  exact fun ys H F _ q => ha ys H F _ fun a H1 F1 => h1 ((a, _) :: ys) H1 F1 _ fun H2 F2 => h2 ((a, _) :: ys) H2 F2 _ fun H3 F3 => ⟨a, xs.map f, rfl, Evl.sq_of (F3.get 0 rfl), fun p hp => q p _ (F3.drop1.new1 hp)⟩
/-- + and * of lists -/
theorem rn_cat {zs : List A} (hm : catC xs ys = some zs) (h1 : Rd B cs p (.lst (xs.map f))) (h2 : Rd B cs q (.lst (ys.map f))) : RnF B cs rCat (.ref p) (.ref q) (.lst (zs.map f)) := by
  obtain ⟨hc, rfl⟩ := of_grd hm
  exact fun H F Q k => ⟨p, q, xs.map f, ys.map f, rfl, rfl, h1.at F, h2.at F, by rw [List.length_map, List.length_map, sizeLine_eq]; exact hc, fun l hl => by
    have := k l hl
    rw [List.map_append] at this
    exact this⟩
theorem map_flat (f : A → V) (xs : List A) (n : Nat) : (List.replicate n (xs.map f)).flatten = ((List.replicate n xs).flatten).map f := by
  induction n with
  | zero => rfl
  | succ n ih => rw [List.replicate_succ, List.replicate_succ, List.flatten_cons, List.flatten_cons, ih, List.map_append]
theorem rn_rep {zs : List A} {k : Int} (hm : repC xs k = some zs) (h1 : Rd B cs p (.lst (xs.map f))) : RnF B cs rRep (.ref p) (.int k) (.lst (zs.map f)) := by
  obtain ⟨hc, rfl⟩ := of_grd hm
  exact fun H F Q kk => ⟨p, k, xs.map f, rfl, rfl, h1.at F, hc.1, hc.2.1, by rw [List.length_map, sizeLine_eq]; exact hc.2.2, fun l hl => by
    have := kk l hl
    rw [← map_flat] at this
    exact this⟩
/-- == of lists of numbers -/
theorem dp_ints {xs : List Int} (h : SqL K H a (xs.map V.int)) : Dp K H (.ref a) (.list (xs.map PyData.int)) := by
  refine .lst h ?_
  clear h
  induction xs with
  | nil => exact .nil
  | cons n l ih => exact .cons (.int n) ih
theorem lay_ints : ∀ xs : List Int, PyData.canLayAll0 (xs.map PyData.int) = true
  | [] => rfl
  | x :: l => by
    show (PyData.canLay0 (.int x) && PyData.canLayAll0 (l.map PyData.int)) = true
    rw [lay_ints l]
    rfl
theorem depth_ints : ∀ xs : List Int, PyData.depthAll (xs.map PyData.int) ≤ 1
  | [] => by decide
  | x :: l => by
    have := depth_ints l
    simp only [List.map_cons, PyData.depthAll, PyData.depth]
    omega
theorem shaped_ints (xs : List Int) : SeqAt.shaped (.list (xs.map PyData.int)) = true := by
  unfold SeqAt.shaped
  rw [Bool.and_eq_true]
  refine ⟨lay_ints xs, decide_eq_true ?_⟩
  have := depth_ints xs
  simp only [PyData.depth]
  omega
theorem eqvAll_ints : ∀ xs ys : List Int, PyData.eqvAll (xs.map PyData.int) (ys.map PyData.int) = decide (xs = ys)
  | [], [] => by simp [PyData.eqvAll]
  | [], _ :: _ => by simp [PyData.eqvAll]
  | _ :: _, [] => by simp [PyData.eqvAll]
  | x :: l, y :: r => by
    rw [List.map_cons, List.map_cons, PyData.eqvAll, eqvAll_ints l r]
    by_cases h : x = y <;> by_cases h2 : l = r <;> simp [h, h2, PyData.eqv]
theorem eqv_ints (xs ys : List Int) : PyData.eqv (.list (xs.map PyData.int)) (.list (ys.map PyData.int)) = decide (xs = ys) := by
  rw [← eqvAll_ints]
  simp [PyData.eqv]
theorem rv_eqL {xs ys : List Int} (h1 : RdS K B cs p (xs.map V.int)) (h2 : RdS K B cs q (ys.map V.int)) : RvF B cs (rEqD K) (.ref p) (.ref q) (.bl (decide (xs = ys))) := fun H F Q k =>
  ⟨_, _, dp_ints (h1.at F), dp_ints (h2.at F), shaped_ints _, shaped_ints _, by rw [eqv_ints]; exact k⟩
theorem rv_neL {xs ys : List Int} (h1 : RdS K B cs p (xs.map V.int)) (h2 : RdS K B cs q (ys.map V.int)) : RvF B cs (rNeD K) (.ref p) (.ref q) (.bl (!decide (xs = ys))) := fun H F Q k =>
  ⟨_, _, dp_ints (h1.at F), dp_ints (h2.at F), shaped_ints _, shaped_ints _, by rw [eqv_ints]; exact k⟩
/-- built-ins of numbers -/
def rAbs : List V → Hp → VK → Prop := fun xs H Q => ∃ i, xs = [.int i] ∧ Q (.int (if i < 0 then -i else i)) H
theorem cr_abs {X : Cx} : CallR X (.builtin "abs") rAbs := call_abs
theorem ev_abs (h : EvF B cs cs1 ta σ (.int i)) : EvF B cs cs1 (tCB rAbs (tCons ta tNil)) σ (.int (absI i)) := ev_cb1 h fun _ _ _ q => ⟨i, rfl, q⟩
def rMax2 : List V → Hp → VK → Prop := fun xs H Q => ∃ i j, xs = [.int i, .int j] ∧ Q (.int (if j > i then j else i)) H
def rMin2 : List V → Hp → VK → Prop := fun xs H Q => ∃ i j, xs = [.int i, .int j] ∧ Q (.int (if j < i then j else i)) H
theorem cr_max2 {X : Cx} (hc : X.calm = true) : CallR X (.builtin "max") rMax2 := call_max2 hc
theorem cr_min2 {X : Cx} (hc : X.calm = true) : CallR X (.builtin "min") rMin2 := call_min2 hc
theorem ev_max2 (ha : EvF B cs cs1 ta σ (.int i)) (hb : EvF B cs1 cs2 tb σ (.int j)) : EvF B cs cs2 (tCB rMax2 (tCons ta (tCons tb tNil))) σ (.int (maxI i j)) := ev_cb (ea_cons ha (ea_cons hb ea_nil)) fun _ _ _ q => ⟨i, j, rfl, q⟩
theorem ev_min2 (ha : EvF B cs cs1 ta σ (.int i)) (hb : EvF B cs1 cs2 tb σ (.int j)) : EvF B cs cs2 (tCB rMin2 (tCons ta (tCons tb tNil))) σ (.int (minI i j)) := ev_cb (ea_cons ha (ea_cons hb ea_nil)) fun _ _ _ q => ⟨i, j, rfl, q⟩
def rInt : List V → Hp → VK → Prop := fun xs H Q => (∃ i, xs = [.int i] ∧ Q (.int i) H) ∨ ∃ k, xs = [.bl k] ∧ Q (.int (if k then 1 else 0)) H
theorem cr_int {X : Cx} : CallR X (.type "int") rInt := call_int1
theorem ev_int (h : EvF B cs cs1 ta σ (.int i)) : EvF B cs cs1 (tCB rInt (tCons ta tNil)) σ (.int i) := ev_cb1 h fun _ _ _ q => Or.inl ⟨i, rfl, q⟩
theorem ev_intB (h : EvF B cs cs1 ta σ (.bl b)) : EvF B cs cs1 (tCB rInt (tCons ta tNil)) σ (.int (b2 b)) := ev_cb1 h fun _ _ _ q => Or.inr ⟨b, rfl, q⟩
theorem ev_bits (h : EvF B cs cs1 ta σ (.int i)) : EvF B cs cs1 (tBits ta) σ (.int (bitsI i)) := fun ys H F _ q => h ys H F _ fun H1 F1 => ⟨i, rfl, q H1 F1⟩
theorem ev_neg (h : EvF B cs cs1 ta σ (.int i)) : EvF B cs cs1 (tUn (rU fun i => .int (-i)) ta) σ (.int (-i)) := ev_un h fun _ _ q => ⟨i, rfl, q⟩
theorem ev_inv (h : EvF B cs cs1 ta σ (.int i)) : EvF B cs cs1 (tUn (rU fun i => .int (Builtin.bitNot i)) ta) σ (.int (Builtin.bitNot i)) := ev_un h fun _ _ q => ⟨i, rfl, q⟩
/-- isinstance -/
theorem rc_isi {w : Value} {n : String} (ty : ∀ H1, Fr B cs H1 → TyX K H1 x w) (hk : PySem.W.kitOne K w (.type n) = some b) : RcF B cs (rIsi K) [x, .ty n] (.bl b) := fun H F _ q => ⟨x, .ty n, w, .type n, b, rfl, .ty n, ty H F, hk, q⟩
theorem ty_int {i : Int} (H1 : Hp) (_ : Fr B cs H1) : TyX K H1 (.int i) (.type "int") := .base (.int i)
theorem ty_bl {k : Bool} (H1 : Hp) (_ : Fr B cs H1) : TyX K H1 (.bl k) (.type "bool") := .base (.bl k)
theorem ty_non (H1 : Hp) (_ : Fr B cs H1) : TyX K H1 .non (.type "NoneType") := .base .non
theorem ty_str {s : Str} (H1 : Hp) (_ : Fr B cs H1) : TyX K H1 (.str s) (.type "str") := .base (.str s)
theorem ty_lst {vs : List V} (h : Rd B cs a (.lst vs)) (H1 : Hp) (F : Fr B cs H1) : TyX K H1 (.ref a) (.type "list") := .base (.lst (h.at F))
theorem ty_tup {vs : List V} (h : Rd B cs a (.tup vs)) (H1 : Hp) (F : Fr B cs H1) : TyX K H1 (.ref a) (.type "tuple") := .base (.tup (h.at F))
/-- sum, all, any -/
theorem rc_sum {xs : List Int} (h : RdS K B cs a (xs.map V.int)) : RcF B cs (rSum K) [.ref a] (.int xs.sum) := fun H F _ q => ⟨a, xs, rfl, h.at F, q⟩
theorem rc_sumN {xs : List Int} (p : Addr) : RcF B ((p, .lst (xs.map V.int)) :: cs) (rSum K) [.ref p] (.int xs.sum) := rc_sum (.inl (.own 0 rfl))
theorem rc_allN {xs : List Bool} (p : Addr) : RcF B ((p, .lst (xs.map V.bl)) :: cs) (rAll K) [.ref p] (.bl (xs.all id)) := fun H F _ q => ⟨p, xs, rfl, Evl.sq_of (F.get 0 rfl), q⟩
theorem rc_anyN {xs : List Bool} (p : Addr) : RcF B ((p, .lst (xs.map V.bl)) :: cs) (rAny K) [.ref p] (.bl (xs.any id)) := fun H F _ q => ⟨p, xs, rfl, Evl.sq_of (F.get 0 rfl), q⟩
/-- max, min of a list: any that is in it and not less -/
def maxP (xs : List Int) (m : Int) : Prop := m ∈ xs ∧ ∀ y ∈ xs, y ≤ m
theorem maxL_of {xs : List Int} {m : Int} (h : m ∈ xs) (h2 : ∀ y, y ∈ xs → y ≤ m) : maxL xs = some m := by
  have key : ∀ (l : List Int) (a : Int), (∀ y, y ∈ l → y ≤ l.foldl (fun a b => if b > a then b else a) a) ∧ a ≤ l.foldl (fun a b => if b > a then b else a) a ∧ (l.foldl (fun a b => if b > a then b else a) a = a ∨ l.foldl (fun a b => if b > a then b else a) a ∈ l) := by
    intro l
    induction l with
    | nil => intro a; exact ⟨fun _ h => (nomatch h), Int.le_refl _, Or.inl rfl⟩
    | cons b l ih =>
      intro a
      obtain ⟨h1, h2, h3⟩ := ih (if b > a then b else a)
      rw [List.foldl_cons]
      have hb : b ≤ (if b > a then b else a) ∧ a ≤ (if b > a then b else a) := by split <;> omega
      refine ⟨fun y hy => ?_, by omega, ?_⟩
      · rcases List.mem_cons.mp hy with rfl | hy
        · omega
        · exact h1 y hy
      · rcases h3 with h3 | h3
        · rw [h3]
          split
          · exact Or.inr List.mem_cons_self
          · exact Or.inl rfl
        · exact Or.inr (List.mem_cons_of_mem _ h3)
  cases xs with
  | nil => cases h
  | cons x l =>
    obtain ⟨h3, h4, h5⟩ := key l x
    show some _ = some m
    congr 1
    have h6 : m ≤ l.foldl (fun a b => if b > a then b else a) x := by
      rcases List.mem_cons.mp h with rfl | h
      · exact h4
      · exact h3 m h
    have h7 : l.foldl (fun a b => if b > a then b else a) x ≤ m := by
      rcases h5 with h5 | h5
      · rw [h5]; exact h2 x List.mem_cons_self
      · exact h2 _ (List.mem_cons_of_mem _ h5)
    omega
theorem minL_of {xs : List Int} {m : Int} (h : m ∈ xs) (h2 : ∀ y, y ∈ xs → m ≤ y) : minL xs = some m := by
  have key : ∀ (l : List Int) (a : Int), (∀ y, y ∈ l → l.foldl (fun a b => if b < a then b else a) a ≤ y) ∧ l.foldl (fun a b => if b < a then b else a) a ≤ a ∧ (l.foldl (fun a b => if b < a then b else a) a = a ∨ l.foldl (fun a b => if b < a then b else a) a ∈ l) := by
    intro l
    induction l with
    | nil => intro a; exact ⟨fun _ h => (nomatch h), Int.le_refl _, Or.inl rfl⟩
    | cons b l ih =>
      intro a
      obtain ⟨h1, h2, h3⟩ := ih (if b < a then b else a)
      rw [List.foldl_cons]
      have hb : (if b < a then b else a) ≤ b ∧ (if b < a then b else a) ≤ a := by split <;> omega
      refine ⟨fun y hy => ?_, by omega, ?_⟩
      · rcases List.mem_cons.mp hy with rfl | hy
        · omega
        · exact h1 y hy
      · rcases h3 with h3 | h3
        · rw [h3]
          split
          · exact Or.inr List.mem_cons_self
          · exact Or.inl rfl
        · exact Or.inr (List.mem_cons_of_mem _ h3)
  cases xs with
  | nil => cases h
  | cons x l =>
    obtain ⟨h3, h4, h5⟩ := key l x
    show some _ = some m
    congr 1
    have h6 : l.foldl (fun a b => if b < a then b else a) x ≤ m := by
      rcases List.mem_cons.mp h with rfl | h
      · exact h4
      · exact h3 m h
    have h7 : m ≤ l.foldl (fun a b => if b < a then b else a) x := by
      rcases h5 with h5 | h5
      · rw [h5]; exact h2 x List.mem_cons_self
      · exact h2 _ (List.mem_cons_of_mem _ h5)
    omega
theorem maxL_pos {xs : List Int} {m : Int} (h : maxL xs = some m) : 0 < xs.length := by
  cases xs with
  | nil => cases h
  | cons x l => exact Nat.succ_pos _
theorem minL_pos {xs : List Int} {m : Int} (h : minL xs = some m) : 0 < xs.length := by
  cases xs with
  | nil => cases h
  | cons x l => exact Nat.succ_pos _
theorem rc_max {xs : List Int} {m : Int} (hm : maxL xs = some m) (h : RdS K B cs a (xs.map V.int)) : RcF B cs (rMax K) [.ref a] (.int m) := fun H F Q q => ⟨a, xs, rfl, h.at F, maxL_pos hm, fun m' h1 h2 => by
  have := maxL_of h1 h2
  rw [hm] at this
  cases this
  exact q⟩
theorem rc_min {xs : List Int} {m : Int} (hm : minL xs = some m) (h : RdS K B cs a (xs.map V.int)) : RcF B cs (rMin K) [.ref a] (.int m) := fun H F Q q => ⟨a, xs, rfl, h.at F, minL_pos hm, fun m' h1 h2 => by
  have := minL_of h1 h2
  rw [hm] at this
  cases this
  exact q⟩
end
/-! ### data that stand: what a value is worth -/
inductive D where
  | non | int (i : Int) | bl (b : Bool) | str (s : Str) | lst (l : List D) | tup (l : List D) | obj (t : Nat) (l : List D)
/-- the classes: where each stands, its attributes in order -/
abbrev Cl := Nat → Addr × List Str
mutual
def Rp (K : PySem.W.Frag) (G : Cl) (H : Hp) : V → D → Prop
  | v, .non => v = .non
  | v, .int i => v = .int i
  | v, .bl b => v = .bl b
  | v, .str s => v = .str s
  | v, .lst l => ∃ a vs, v = .ref a ∧ H a = some (.lst vs) ∧ Rps K G H vs l
  | v, .tup l => ∃ a vs, v = .ref a ∧ SqT K H a vs ∧ Rps K G H vs l
  | v, .obj t l => ∃ a dx vs, v = .ref a ∧ H a = some (.ins (G t).1 dx ((G t).2.zip vs)) ∧ vs.length = (G t).2.length ∧ Rps K G H vs l
def Rps (K : PySem.W.Frag) (G : Cl) (H : Hp) : List V → List D → Prop
  | [], [] => True
  | v :: vs, d :: ds => Rp K G H v d ∧ Rps K G H vs ds
  | [], _ :: _ => False
  | _ :: _, [] => False
end
section
variable {K : PySem.W.Frag} {G : Cl} {H H' : Hp}
mutual
theorem Rp.mono (e : Ex H H') : ∀ (d : D) {v : V}, Rp K G H v d → Rp K G H' v d
  | .non, v, h => by simpa only [Rp] using h
  | .int i, v, h => by simpa only [Rp] using h
  | .bl b, v, h => by simpa only [Rp] using h
  | .str s, v, h => by simpa only [Rp] using h
  | .lst l, v, h => by
    simp only [Rp] at h ⊢
    obtain ⟨a, vs, h1, h2, h3⟩ := h
    exact ⟨a, vs, h1, e _ _ h2, Rps.mono e l h3⟩
  | .tup l, v, h => by
    simp only [Rp] at h ⊢
    obtain ⟨a, vs, h1, h2, h3⟩ := h
    exact ⟨a, vs, h1, Evl.ex_t e h2, Rps.mono e l h3⟩
  | .obj t l, v, h => by
    simp only [Rp] at h ⊢
    obtain ⟨a, dx, vs, h1, h2, h3, h4⟩ := h
    exact ⟨a, dx, vs, h1, e _ _ h2, h3, Rps.mono e l h4⟩
theorem Rps.mono (e : Ex H H') : ∀ (ds : List D) {vs : List V}, Rps K G H vs ds → Rps K G H' vs ds
  | [], [], h => by simp only [Rps]
  | [], v :: vs, h => by simp only [Rps] at h
  | d :: ds, [], h => by simp only [Rps] at h
  | d :: ds, v :: vs, h => by
    simp only [Rps] at h ⊢
    exact ⟨Rp.mono e d h.1, Rps.mono e ds h.2⟩
end
theorem Rp.to {d : D} {v : V} (h : Rp K G H v d) (e : Ex H H') : Rp K G H' v d := Rp.mono e d h
theorem Rps.to {ds : List D} {vs : List V} (h : Rps K G H vs ds) (e : Ex H H') : Rps K G H' vs ds := Rps.mono e ds h
theorem Rps.len : ∀ {vs : List V} {ds : List D}, Rps K G H vs ds → vs.length = ds.length
  | [], [], _ => rfl
  | [], _ :: _, h => by simp only [Rps] at h
  | _ :: _, [], h => by simp only [Rps] at h
  | v :: vs, d :: ds, h => by
    simp only [Rps] at h
    rw [List.length_cons, List.length_cons, Rps.len h.2]
theorem Rps.get : ∀ {vs : List V} {ds : List D} {i : Nat} {d : D}, Rps K G H vs ds → ds[i]? = some d → ∃ v, vs[i]? = some v ∧ Rp K G H v d
  | [], [], _, _, _, hd => by simp at hd
  | [], _ :: _, _, _, h, _ => by simp only [Rps] at h
  | _ :: _, [], _, _, h, _ => by simp only [Rps] at h
  | v :: vs, d :: ds, 0, d', h, hd => by
    simp only [Rps] at h
    cases hd
    exact ⟨v, rfl, h.1⟩
  | v :: vs, d :: ds, i + 1, d', h, hd => by
    simp only [Rps] at h
    exact Rps.get (i := i) h.2 hd
theorem Rps.snoc : ∀ {vs : List V} {ds : List D} {v : V} {d : D}, Rps K G H vs ds → Rp K G H v d → Rps K G H (vs ++ [v]) (ds ++ [d])
  | [], [], _, _, _, h => by
    show Rps K G H [_] [_]
    simp only [Rps]
    exact ⟨h, trivial⟩
  | [], _ :: _, _, _, h, _ => by simp only [Rps] at h
  | _ :: _, [], _, _, h, _ => by simp only [Rps] at h
  | v :: vs, d :: ds, _, _, h, h2 => by
    show Rps K G H (v :: (vs ++ [_])) (d :: (ds ++ [_]))
    simp only [Rps] at h ⊢
    exact ⟨h.1, Rps.snoc h.2 h2⟩
theorem Rps.set : ∀ {vs : List V} {ds : List D} {v : V} {d : D} (i : Nat), Rps K G H vs ds → Rp K G H v d → Rps K G H (vs.set i v) (ds.set i d)
  | [], [], _, _, _, _, _ => by simp only [List.set_nil, Rps]
  | [], _ :: _, _, _, _, h, _ => by simp only [Rps] at h
  | _ :: _, [], _, _, _, h, _ => by simp only [Rps] at h
  | v :: vs, d :: ds, _, _, 0, h, h2 => by
    simp only [Rps] at h
    show Rps K G H (_ :: vs) (_ :: ds)
    simp only [Rps]
    exact ⟨h2, h.2⟩
  | v :: vs, d :: ds, _, _, i + 1, h, h2 => by
    simp only [Rps] at h
    show Rps K G H (v :: vs.set i _) (d :: ds.set i _)
    simp only [Rps]
    exact ⟨h.1, Rps.set i h.2 h2⟩
theorem Rps.take : ∀ {vs : List V} {ds : List D} (n : Nat), Rps K G H vs ds → Rps K G H (vs.take n) (ds.take n)
  | _, _, 0, _ => by simp only [List.take_zero, Rps]
  | [], [], n + 1, _ => by simp only [List.take_nil, Rps]
  | [], _ :: _, _, h => by simp only [Rps] at h
  | _ :: _, [], _, h => by simp only [Rps] at h
  | v :: vs, d :: ds, n + 1, h => by
    simp only [Rps] at h
    show Rps K G H (v :: vs.take n) (d :: ds.take n)
    simp only [Rps]
    exact ⟨h.1, Rps.take n h.2⟩
theorem Rps.drop : ∀ {vs : List V} {ds : List D} (n : Nat), Rps K G H vs ds → Rps K G H (vs.drop n) (ds.drop n)
  | _, _, 0, h => h
  | [], [], n + 1, _ => by simp only [List.drop_nil, Rps]
  | [], _ :: _, _, h => by simp only [Rps] at h
  | _ :: _, [], _, h => by simp only [Rps] at h
  | v :: vs, d :: ds, n + 1, h => by
    simp only [Rps] at h
    exact Rps.drop n h.2
theorem Rps.app : ∀ {vs ws : List V} {ds es : List D}, Rps K G H vs ds → Rps K G H ws es → Rps K G H (vs ++ ws) (ds ++ es)
  | [], _, [], _, _, h => h
  | [], _, _ :: _, _, h, _ => by simp only [Rps] at h
  | _ :: _, _, [], _, h, _ => by simp only [Rps] at h
  | v :: vs, ws, d :: ds, es, h, h2 => by
    simp only [Rps] at h
    show Rps K G H (v :: (vs ++ ws)) (d :: (ds ++ es))
    simp only [Rps]
    exact ⟨h.1, Rps.app h.2 h2⟩
theorem Rps.ints : ∀ {xs : List Int} {vs : List V}, Rps K G H vs (xs.map D.int) ↔ vs = xs.map V.int
  | [], [] => by simp only [List.map_nil, Rps]
  | [], v :: vs => by simp only [List.map_nil, Rps]; simp
  | x :: xs, [] => by simp only [List.map_cons, Rps]; simp
  | x :: xs, v :: vs => by
    simp only [List.map_cons, Rps, Rp]
    rw [Rps.ints]
    simp
theorem Rps.bls : ∀ {xs : List Bool} {vs : List V}, Rps K G H vs (xs.map D.bl) ↔ vs = xs.map V.bl
  | [], [] => by simp only [List.map_nil, Rps]
  | [], v :: vs => by simp only [List.map_nil, Rps]; simp
  | x :: xs, [] => by simp only [List.map_cons, Rps]; simp
  | x :: xs, v :: vs => by
    simp only [List.map_cons, Rps, Rp]
    rw [Rps.bls]
    simp
end
/-- the data of typed values -/
def lD {A : Type} (f : A → D) (xs : List A) : D := .lst (xs.map f)
def oD {A : Type} (f : A → D) : Option A → D
  | none => .non
  | some x => f x
def uD (_ : Unit) : D := .non
def pD2 {A1 A2 : Type} (f1 : A1 → D) (f2 : A2 → D) (p : A1 × A2) : D := .tup [f1 p.1, f2 p.2]
def pD3 {A1 A2 A3 : Type} (f1 : A1 → D) (f2 : A2 → D) (f3 : A3 → D) (p : A1 × A2 × A3) : D := .tup [f1 p.1, f2 p.2.1, f3 p.2.2]
def pD4 {A1 A2 A3 A4 : Type} (f1 : A1 → D) (f2 : A2 → D) (f3 : A3 → D) (f4 : A4 → D) (p : A1 × A2 × A3 × A4) : D := .tup [f1 p.1, f2 p.2.1, f3 p.2.2.1, f4 p.2.2.2]
section
variable {K : PySem.W.Frag} {G : Cl} {H B : Hp} {cs : Cs} {A A1 A2 A3 A4 : Type} {f : A → D} {f1 : A1 → D} {f2 : A2 → D} {f3 : A3 → D} {f4 : A4 → D} {v : V} {vs : List V}
theorem Rp.i {i : Int} (h : Rp K G H v (.int i)) : v = .int i := by simpa only [Rp] using h
theorem Rp.b {b : Bool} (h : Rp K G H v (.bl b)) : v = .bl b := by simpa only [Rp] using h
theorem Rp.s {s : Str} (h : Rp K G H v (.str s)) : v = .str s := by simpa only [Rp] using h
theorem Rp.n (h : Rp K G H v .non) : v = .non := by simpa only [Rp] using h
theorem rp_i {i : Int} : Rp K G H (.int i) (.int i) := by simp only [Rp]
theorem rp_b {i : Bool} : Rp K G H (.bl i) (.bl i) := by simp only [Rp]
theorem rp_s {i : Str} : Rp K G H (.str i) (.str i) := by simp only [Rp]
theorem rp_n : Rp K G H .non .non := by simp only [Rp]
theorem rp_u {u : Unit} : Rp K G H .non (uD u) := by simp only [Rp, uD]
theorem Rp.l {xs : List A} (h : Rp K G H v (lD f xs)) : ∃ a vs, v = .ref a ∧ H a = some (.lst vs) ∧ Rps K G H vs (xs.map f) := by simpa only [Rp, lD] using h
theorem Rp.li {xs : List Int} (h : Rp K G H v (lD D.int xs)) : ∃ a, v = .ref a ∧ H a = some (.lst (xs.map V.int)) := by
  obtain ⟨a, vs, h1, h2, h3⟩ := h.l
  rw [Rps.ints] at h3
  subst h3
  exact ⟨a, h1, h2⟩
theorem Rp.lb {xs : List Bool} (h : Rp K G H v (lD D.bl xs)) : ∃ a, v = .ref a ∧ H a = some (.lst (xs.map V.bl)) := by
  obtain ⟨a, vs, h1, h2, h3⟩ := h.l
  rw [Rps.bls] at h3
  subst h3
  exact ⟨a, h1, h2⟩
theorem rp_l {xs : List A} {a : Addr} (h : H a = some (.lst vs)) (r : Rps K G H vs (xs.map f)) : Rp K G H (.ref a) (lD f xs) := by
  simp only [Rp, lD]
  exact ⟨a, vs, rfl, h, r⟩
theorem rp_li {xs : List Int} {a : Addr} (h : H a = some (.lst (xs.map V.int))) : Rp K G H (.ref a) (lD D.int xs) := rp_l h (Rps.ints.mpr rfl)
theorem rp_lb {xs : List Bool} {a : Addr} (h : H a = some (.lst (xs.map V.bl))) : Rp K G H (.ref a) (lD D.bl xs) := rp_l h (Rps.bls.mpr rfl)
theorem Rp.t2 {p : A1 × A2} (h : Rp K G H v (pD2 f1 f2 p)) : ∃ a v1 v2, v = .ref a ∧ SqT K H a [v1, v2] ∧ Rp K G H v1 (f1 p.1) ∧ Rp K G H v2 (f2 p.2) := by
  simp only [Rp, pD2] at h
  obtain ⟨a, vs, h1, h2, h3⟩ := h
  match vs, h3 with
  | [v1, v2], h3 =>
    simp only [Rps] at h3
    exact ⟨a, v1, v2, h1, h2, h3.1, h3.2.1⟩
  | [], h3 => simp only [Rps] at h3
  | [_], h3 => simp only [Rps] at h3; exact h3.2.elim
  | _ :: _ :: _ :: _, h3 => simp only [Rps] at h3; exact h3.2.2.elim
theorem rp_t2 {p : A1 × A2} {a : Addr} {v1 v2 : V} (h : SqT K H a [v1, v2]) (r1 : Rp K G H v1 (f1 p.1)) (r2 : Rp K G H v2 (f2 p.2)) : Rp K G H (.ref a) (pD2 f1 f2 p) := by
  simp only [Rp, pD2]
  exact ⟨a, _, rfl, h, by simp only [Rps]; exact ⟨r1, r2, trivial⟩⟩
theorem Rp.t3 {p : A1 × A2 × A3} (h : Rp K G H v (pD3 f1 f2 f3 p)) : ∃ a v1 v2 v3, v = .ref a ∧ SqT K H a [v1, v2, v3] ∧ Rp K G H v1 (f1 p.1) ∧ Rp K G H v2 (f2 p.2.1) ∧ Rp K G H v3 (f3 p.2.2) := by
  simp only [Rp, pD3] at h
  obtain ⟨a, vs, h1, h2, h3⟩ := h
  match vs, h3 with
  | [v1, v2, v3], h3 =>
    simp only [Rps] at h3
    exact ⟨a, v1, v2, v3, h1, h2, h3.1, h3.2.1, h3.2.2.1⟩
  | [], h3 => simp only [Rps] at h3
  | [_], h3 => simp only [Rps] at h3; exact h3.2.elim
  | [_, _], h3 => simp only [Rps] at h3; exact h3.2.2.elim
  | _ :: _ :: _ :: _ :: _, h3 => simp only [Rps] at h3; exact h3.2.2.2.elim
theorem rp_t3 {p : A1 × A2 × A3} {a : Addr} {v1 v2 v3 : V} (h : SqT K H a [v1, v2, v3]) (r1 : Rp K G H v1 (f1 p.1)) (r2 : Rp K G H v2 (f2 p.2.1)) (r3 : Rp K G H v3 (f3 p.2.2)) : Rp K G H (.ref a) (pD3 f1 f2 f3 p) := by
  simp only [Rp, pD3]
  exact ⟨a, _, rfl, h, by simp only [Rps]; exact ⟨r1, r2, r3, trivial⟩⟩
theorem Rp.t4 {p : A1 × A2 × A3 × A4} (h : Rp K G H v (pD4 f1 f2 f3 f4 p)) : ∃ a v1 v2 v3 v4, v = .ref a ∧ SqT K H a [v1, v2, v3, v4] ∧ Rp K G H v1 (f1 p.1) ∧ Rp K G H v2 (f2 p.2.1) ∧ Rp K G H v3 (f3 p.2.2.1) ∧ Rp K G H v4 (f4 p.2.2.2) := by
  simp only [Rp, pD4] at h
  obtain ⟨a, vs, h1, h2, h3⟩ := h
  match vs, h3 with
  | [v1, v2, v3, v4], h3 =>
    simp only [Rps] at h3
    exact ⟨a, v1, v2, v3, v4, h1, h2, h3.1, h3.2.1, h3.2.2.1, h3.2.2.2.1⟩
  | [], h3 => simp only [Rps] at h3
  | [_], h3 => simp only [Rps] at h3; exact h3.2.elim
  | [_, _], h3 => simp only [Rps] at h3; exact h3.2.2.elim
  | [_, _, _], h3 => simp only [Rps] at h3; exact h3.2.2.2.elim
  | _ :: _ :: _ :: _ :: _ :: _, h3 => simp only [Rps] at h3; exact h3.2.2.2.2.elim
theorem rp_t4 {p : A1 × A2 × A3 × A4} {a : Addr} {v1 v2 v3 v4 : V} (h : SqT K H a [v1, v2, v3, v4]) (r1 : Rp K G H v1 (f1 p.1)) (r2 : Rp K G H v2 (f2 p.2.1)) (r3 : Rp K G H v3 (f3 p.2.2.1)) (r4 : Rp K G H v4 (f4 p.2.2.2)) : Rp K G H (.ref a) (pD4 f1 f2 f3 f4 p) := by
  simp only [Rp, pD4]
  exact ⟨a, _, rfl, h, by simp only [Rps]; exact ⟨r1, r2, r3, r4, trivial⟩⟩
theorem Rps.at {xs : List A} {i : Int} {y : A} (r : Rps K G H vs (xs.map f)) (h : atI xs i = some y) : ∃ v, atI vs i = some v ∧ Rp K G H v (f y) := by
  have hl : vs.length = xs.length := by rw [r.len, List.length_map]
  unfold atI at h ⊢
  rw [hl]
  cases hj : ixN xs.length i with
  | none => rw [hj] at h; cases h
  | some j =>
    rw [hj] at h
    have h' : xs[j]? = some y := h
    obtain ⟨v, h1, h2⟩ := r.get (i := j) (d := f y) (by rw [List.getElem?_map, h']; rfl)
    exact ⟨v, h1, h2⟩
theorem Rps.gt {xs : List A} {i : Nat} {y : A} (r : Rps K G H vs (xs.map f)) (h : xs[i]? = some y) : ∃ v, vs[i]? = some v ∧ Rp K G H v (f y) := r.get (by rw [List.getElem?_map, h]; rfl)
theorem Rps.ln {xs : List A} (r : Rps K G H vs (xs.map f)) : vs.length = xs.length := by rw [r.len, List.length_map]
theorem Rps.snocF {xs : List A} {y : A} (r : Rps K G H vs (xs.map f)) (h : Rp K G H v (f y)) : Rps K G H (vs ++ [v]) ((xs ++ [y]).map f) := by
  rw [List.map_append]
  exact r.snoc h
theorem Rps.nilF : Rps K G H [] (([] : List A).map f) := by simp only [List.map_nil, Rps]
theorem Rps.cutF {xs : List A} (r : Rps K G H vs (xs.map f)) (lo hi : Option Int) : Rps K G H (cutV vs lo hi) ((cut xs lo hi).map f) := by
  unfold cutV cut
  rw [r.ln, List.map_take, List.map_drop]
  exact (r.drop _).take _
end
/-! ### rules whose written part K is told -/
section
variable {X : Cx} {K : PySem.W.Frag}
theorem kLen (h : X.K = K := by rfl) : CallR X (.builtin "len") (rLen K) := h ▸ cr_len
theorem kLst (h : X.K = K := by rfl) : CallR X (.type "list") (rLst K) := h ▸ cr_list
theorem kIx (h : X.K = K := by rfl) : IxR X (rIxL K) := h ▸ ix_list
theorem kIxT (h : X.K = K := by rfl) : IxR X (rIxT K) := h ▸ ix_tup
theorem kSl (h : X.K = K := by rfl) : SlR X (rSlL K) := h ▸ sl_list
theorem kEq (hu : X.A.units + 64 < cLine) (h : X.K = K := by rfl) : OpR X (compareOp .Eq) (rEqD K) := h ▸ op_eqD hu
theorem kNe (hu : X.A.units + 64 < cLine) (h : X.K = K := by rfl) : OpR X (compareOp .NotEq) (rNeD K) := h ▸ op_neD hu
theorem kIsi (h : X.K = K := by rfl) : CallR X (.builtin "isinstance") (rIsi K) := h ▸ call_isi
theorem kSum (hc : X.calm = true) (h : X.K = K := by rfl) : CallR X (.builtin "sum") (rSum K) := h ▸ cr_sum hc
theorem kAll (hc : X.calm = true) (h : X.K = K := by rfl) : CallR X (.builtin "all") (rAll K) := h ▸ cr_all hc
theorem kAny (hc : X.calm = true) (h : X.K = K := by rfl) : CallR X (.builtin "any") (rAny K) := h ▸ cr_any hc
theorem kMax (hc : X.calm = true) (h : X.K = K := by rfl) : CallR X (.builtin "max") (rMax K) := h ▸ cr_max hc
theorem kMin (hc : X.calm = true) (h : X.K = K := by rfl) : CallR X (.builtin "min") (rMin K) := h ▸ cr_min hc
theorem kpi_list {tg l : Expr} {tl : TE} (hl : PE X l tl) (h : X.K = K := by rfl) : PI X tg l (iList K tl) := h ▸ pi_list hl
theorem kpi_tup {tg l : Expr} {tl : TE} (hl : PE X l tl) (h : X.K = K := by rfl) : PI X tg l (iTup K tl) := h ▸ pi_tup hl
end
/-- a reading at slots told otherwise -/
theorem sl {t : L2.St → Hp → Prop} {σ σ' : L2.St} {H : Hp} (e : σ = σ') (h : t σ' H) : t σ H := e ▸ h
theorem Rd.dn (n : Nat) {B : Hp} {cs : Cs} {a : Addr} {o : HO} (r : Rd B (cs.drop n) a o) : Rd B cs a o := by
  rcases r with h | h
  · exact .inl h
  · exact .inr ((List.drop_sublist n cs).subset h)
theorem RdS.dn (n : Nat) {K : PySem.W.Frag} {B : Hp} {cs : Cs} {a : Addr} {vs : List V} (r : RdS K B (cs.drop n) a vs) : RdS K B cs a vs := by
  rcases r with h | h
  · exact .inl (h.dn n)
  · exact .inr h
theorem Rd.to {B B' : Hp} {cs : Cs} {a : Addr} {o : HO} (r : Rd B cs a o) (e : Ex B B') : Rd B' cs a o := by
  rcases r with h | h
  · exact .inl (e _ _ h)
  · exact .inr h
theorem RdS.to {K : PySem.W.Frag} {B B' : Hp} {cs : Cs} {a : Addr} {vs : List V} (r : RdS K B cs a vs) (e : Ex B B') : RdS K B' cs a vs := by
  rcases r with h | h
  · exact .inl (h.to e)
  · exact .inr (Evl.ex_l e h)
theorem Rd.app {B : Hp} {xs cs : Cs} {a : Addr} {o : HO} (r : Rd B cs a o) : Rd B (xs ++ cs) a o := by
  rcases r with h | h
  · exact .inl h
  · exact .inr (List.mem_append_right _ h)
theorem RdS.app {K : PySem.W.Frag} {B : Hp} {xs cs : Cs} {a : Addr} {vs : List V} (r : RdS K B cs a vs) : RdS K B (xs ++ cs) a vs := by
  rcases r with h | h
  · exact .inl h.app
  · exact .inr h
theorem Fr.fz {B H : Hp} {cs : Cs} {p : Addr} {o : HO} (F : Fr B ((p, o) :: cs) H) : ∃ B', Ex B B' ∧ B' p = some o ∧ Fr B' cs H := ⟨_, Evl.Ex.new (F.fresh 0 rfl), upd_same, F.rest⟩
theorem Fr.fzAt (i : Nat) {B H : Hp} {cs : Cs} {p : Addr} {o : HO} (h : cs[i]? = some (p, o)) (F : Fr B cs H) : ∃ B', Ex B B' ∧ B' p = some o ∧ Fr B' (cs.eraseIdx i) H := by
  have F1 : Fr B ((p, o) :: cs.eraseIdx i) H := F.perm (erase_perm h)
  exact F1.fz
theorem gn {i : Nat} {v : V} {σ σ' : L2.St} {H : Hp} {Q : L2.St → Hp → Prop} (e : σ.set i (some v) = σ') (q : Q σ' H) : gName i v σ H Q := by
  subst e
  exact q
def G0 : Cl := fun _ => (0, [])
theorem sqT_of {K : PySem.W.Frag} {H : Hp} {q : Addr} {xs : List Int} {od : Option Addr} {its : List Value} {n : Nat} {sl : Array (Option Value)} (l : K.lookup q = some ⟨.type "tuple", od, .seq its.toArray n, sl⟩) (hv : Vals (xs.map V.int) its) (hz : xs.length ≤ 1000) : SqT K H q (xs.map V.int) := by
  refine Or.inr ⟨_, its.toArray, n, l, rfl, rfl, ?_, hv⟩
  have := hv.length
  rw [List.length_map] at this
  rw [List.size_toArray, sizeLine_eq]
  omega
section
variable {K : PySem.W.Frag} {G : Cl} {B : Hp} {cs cs1 cs2 : Cs} {v : V} {A : Type} {f : A → D} {o : Option A} {σ : L2.St} {i : Int} {ta : TE}
theorem rp_none : Rp K G B .non (oD f none) := by simp only [Rp, oD]
theorem rp_some {y : A} (h : Rp K G B v (f y)) : Rp K G B v (oD f (some y)) := h
/-- a type whose values are not None -/
theorem opt_none (hb : o.isNone = true) (r : Rp K G B v (oD f o)) : o = none ∧ v = .non := by
  cases o with
  | none => exact ⟨rfl, r.n⟩
  | some y => cases hb
theorem opt_noneN (hb : (!o.isNone) = false) (r : Rp K G B v (oD f o)) : o = none ∧ v = .non := opt_none (by simpa using hb) r
theorem opt_some (hb : o.isNone = false) (r : Rp K G B v (oD f o)) : ∃ y, o = some y ∧ Rp K G B v (f y) := by
  cases o with
  | none => cases hb
  | some y => exact ⟨y, rfl, r⟩
theorem opt_someN (hb : (!o.isNone) = true) (r : Rp K G B v (oD f o)) : ∃ y, o = some y ∧ Rp K G B v (f y) := opt_some (by simpa using hb) r
def NotNon (f : A → D) : Prop := ∀ (K : PySem.W.Frag) (G : Cl) (B : Hp) (x : A), ¬ Rp K G B .non (f x)
theorem rv_isNO (r : Rp K G B v (oD f o)) (hn : NotNon f) : RvF B cs (fun x y H Q => y = .non ∧ Q (.bl (decide (x = .non))) H) v .non (.bl o.isNone) := rv_isN (by
  cases o with
  | none => rw [r.n]; rfl
  | some y =>
    have : v ≠ .non := by
      rintro rfl
      exact hn K G B y r
    simp [this])
theorem rv_notNO (r : Rp K G B v (oD f o)) (hn : NotNon f) : RvF B cs (fun x y H Q => y = .non ∧ Q (.bl (!decide (x = .non))) H) v .non (.bl (!o.isNone)) := rv_notN (by
  cases o with
  | none => rw [r.n]; rfl
  | some y =>
    have : v ≠ .non := by
      rintro rfl
      exact hn K G B y r
    simp [this])
theorem nn_int : NotNon D.int := fun _ _ _ _ h => by simp only [Rp] at h; cases h
theorem nn_l {B : Type} {f : B → D} : NotNon (lD f) := fun _ _ _ _ h => by
  obtain ⟨_, _, h, _⟩ := h.l
  cases h
theorem nn_t2 {A B : Type} {f : A → D} {g : B → D} : NotNon (pD2 f g) := fun _ _ _ _ h => by
  obtain ⟨_, _, _, h, _⟩ := h.t2
  cases h
theorem nn_t3 {A B C : Type} {f : A → D} {g : B → D} {k : C → D} : NotNon (pD3 f g k) := fun _ _ _ _ h => by
  obtain ⟨_, _, _, _, h, _⟩ := h.t3
  cases h
theorem nn_t4 {A B C E : Type} {f : A → D} {g : B → D} {k : C → D} {l : E → D} : NotNon (pD4 f g k l) := fun _ _ _ _ h => by
  obtain ⟨_, _, _, _, _, h, _⟩ := h.t4
  cases h
theorem Rp.u {x : Unit} (h : Rp K G B v (uD x)) : v = .non := by simpa only [Rp, uD] using h
theorem rv_ixK {q : Addr} {A : Type} {f : A → V} {xs : List A} {w : A} (hv : atI xs i = some w) (h : ∀ H, SqT K H q (List.map f xs)) : RvF B cs (rIxT K) (.ref q) (.int i) (f w) := fun H _ _ k => ⟨q, xs.map f, i, f w, rfl, rfl, h H, by rw [atI_map, hv]; rfl, k⟩
theorem rv_ixTV {q : Addr} {vs : List V} {w : V} (n : Nat) (h : SqT K B q vs) (hv : vs[n]? = some w) : RvF B cs (rIxT K) (.ref q) (.int (n : Int)) w := fun H F _ k => ⟨q, vs, (n : Int), w, rfl, rfl, Evl.ex_t F.base h, atI_nat hv, k⟩
theorem rc_lenT {q : Addr} {vs : List V} {n : Nat} (h : SqT K B q vs) (hn : vs.length = n) : RcF B cs (rLen K) [.ref q] (.int (n : Int)) := fun H F _ k => ⟨q, vs, rfl, Or.inr (Evl.ex_t F.base h), by rw [hn]; exact k⟩
theorem ty_sqt {q : Addr} {vs : List V} {H : Hp} (h : SqT K H q vs) : TyX K H (.ref q) (.type "tuple") := by
  rcases h with (h | ⟨o, h⟩) | ⟨o, its, n, h1, h2, h3, h4, h5⟩
  · exact .base (.tup h)
  · exact .fTuple h
  · exact .kTuple h1 h2
theorem rc_isiT {q : Addr} {vs : List V} {n : String} {b : Bool} (h : SqT K B q vs) (hk : PySem.W.kitOne K (.type "tuple") (.type n) = some b) : RcF B cs (rIsi K) [.ref q, .ty n] (.bl b) := rc_isi (fun _ F => ty_sqt (Evl.ex_t F.base h)) hk
theorem et_trL {q : Addr} {A : Type} {f : A → V} {xs : List A} (ha : EvF B cs cs1 ta σ (.ref q)) (h : RdS K B cs1 q (xs.map f)) : EtF B cs cs1 (fun σ H Q => ta σ H fun x H' => ∃ k, TruV K x H' k ∧ Q k H') σ (!xs.isEmpty) := fun ys H F Q k => ha ys H F _ fun H1 F1 => ⟨!xs.isEmpty, Or.inl ⟨xs.map f, h.at F1.xs, by rw [List.isEmpty_map]⟩, k H1 F1⟩
theorem ev_chainO {r r' : R2} {tb tc : TE} {x y : V} {m : Option Bool} {b c : Bool} (hm : andC b m = some c) (ha : EvF B cs cs1 ta σ x) (hb : EvF B cs1 cs2 tb σ y) (h1 : RvF B cs2 r x y (.bl b)) (h2 : ∀ z, m = some z → ∃ w, EvF B cs2 cs2 tc σ w ∧ RvF B cs2 r' y w (.bl z)) : EvF B cs cs2 (tChain r r' ta tb tc) σ (.bl c) := fun ys H F Q q =>
  ha ys H F _ fun H1 F1 => hb ys H1 F1 _ fun H2 F2 => h1 H2 F2.xs _ ⟨b, rfl, by
    unfold andC at hm
    cases b with
    | true =>
      obtain ⟨w, e1, e2⟩ := h2 c hm
      show tc σ H2 _
      exact e1 ys H2 F2 _ fun H3 F3 => e2 H3 F3.xs _ (q H3 F3)
    | false =>
      cases hm
      show Q (.bl false) H2
      exact q H2 F2⟩
end
/-! ### statements -/
section
variable {K : PySem.W.Frag} {σ σ' : L2.St} {B H H' : Hp} {cs cs' cs1 cs2 cs3 xs : Cs} {ta tb te tx : TE} {t u : TT} {x y z v : V} {D : Ends} {tu tw tz : TS} {i j k : Nat} {p a : Addr} {A : Type} {f : A → V} {o : HO}
theorem g_asg (F : Fr B cs H) (h : EvF B cs cs1 te σ v) (hσ : σ.set i (some v) = σ') (k : ∀ H1, Fr B cs1 H1 → tz D σ' H1) : tSeq (tAsg te (gName i)) tz D σ H := by
  subst hσ
  exact h [] H F _ fun H1 F1 => k H1 F1
theorem g_asgN (F : Fr B cs H) (h : EvN B cs cs1 te σ o) (k : ∀ p H1, Fr B ((p, o) :: cs1) H1 → tz D (σ.set i (some (.ref p))) H1) : tSeq (tAsg te (gName i)) tz D σ H :=
  h [] H F _ fun p H1 F1 => k p H1 F1
theorem g_ret (F : Fr B cs H) (h : EvF B cs cs1 te σ v) (k : ∀ H1, Fr B cs1 H1 → D.rt v H1) : tRet te D σ H := h [] H F _ k
theorem g_retN (F : Fr B cs H) (h : EvN B cs cs1 te σ o) (k : ∀ p H1, Fr B ((p, o) :: cs1) H1 → D.rt (.ref p) H1) : tRet te D σ H := h [] H F _ k
theorem g_aug {r : R2} (F : Fr B cs H) (hx : σ[i]? = some (some x)) (h : EvF B cs cs1 te σ y) (hr : RvF B cs1 r x y z) (hσ : σ.set i (some z) = σ') (k : ∀ H1, Fr B cs1 H1 → tz D σ' H1) : tSeq (tAug i te r) tz D σ H := by
  subst hσ
  exact ⟨x, hx, h [] H F _ fun H1 F1 => hr H1 F1 _ (k H1 F1)⟩
theorem g_drop (F : Fr B cs H) (h : EvF B cs cs1 te σ v) (k : ∀ H1, Fr B cs1 H1 → tz D σ H1) : tSeq (tDrop te) tz D σ H := h [] H F _ fun H1 F1 => k H1 F1
theorem g_dropN (F : Fr B cs H) (h : EvN B cs cs1 te σ o) (k : ∀ H1, Fr B cs1 H1 → tz D σ H1) : tSeq (tDrop te) tz D σ H := h [] H F _ fun _ H1 F1 => k H1 F1.drop1
/-- xs.append(e) -/
theorem g_appV {vs : List V} (F : Fr B cs H) (hz : vs.length < 16777216) (ha : EvF B cs cs1 ta σ (.ref p)) (h : EvF B cs1 cs2 te σ v) (h0 : Rd B cs1 p (.lst vs)) (hi : cs2[i]? = some (p, .lst vs)) (hcs : cs2.set i (p, .lst (vs ++ [v])) = cs') (k : ∀ H1, Fr B cs' H1 → tz D σ H1) :
    tSeq (tDrop (tBM K "list" rAppend ta (tCons te tNil))) tz D σ H := by
  subst hcs
  refine ha [] H F _ fun H1 F1 => ⟨Or.inl ⟨rfl, vs, Evl.sq_of (h0.at F1)⟩, h [] H1 F1 _ fun H2 F2 => ⟨p, vs, v, rfl, rfl, F2.get i hi, by rw [sizeLine_eq]; exact hz, ?_⟩⟩
  exact k _ (Fr.upd F2 i hi)
theorem g_app {ys zs : List A} {w : A} (F : Fr B cs H) (hm : appC ys w = some zs) (ha : EvF B cs cs1 ta σ (.ref p)) (h : EvF B cs1 cs2 te σ (f w)) (h0 : Rd B cs1 p (.lst (ys.map f))) (hi : cs2[i]? = some (p, .lst (ys.map f))) (hcs : cs2.set i (p, .lst (zs.map f)) = cs') (k : ∀ H1, Fr B cs' H1 → tz D σ H1) :
    tSeq (tDrop (tBM K "list" rAppend ta (tCons te tNil))) tz D σ H := by
  obtain ⟨hz, rfl⟩ := of_grd hm
  rw [List.map_append] at hcs
  exact g_appV F (by rw [List.length_map]; exact hz) ha h h0 hi hcs k
/-- xs.append(a new object) -/
theorem g_appN {vs : List V} (F : Fr B cs H) (hz : vs.length < 16777216) (ha : EvF B cs cs1 ta σ (.ref p)) (h : EvN B cs1 cs2 te σ o) (h0 : Rd B cs1 p (.lst vs)) (hi : cs2[i]? = some (p, .lst vs)) (k : ∀ q H1, Fr B ((q, o) :: cs2.set i (p, .lst (vs ++ [.ref q]))) H1 → tz D σ H1) :
    tSeq (tDrop (tBM K "list" rAppend ta (tCons te tNil))) tz D σ H := by
  refine ha [] H F _ fun H1 F1 => ⟨Or.inl ⟨rfl, vs, Evl.sq_of (h0.at F1)⟩, h [] H1 F1 _ fun q H2 F2 => ⟨p, vs, .ref q, rfl, rfl, F2.get (i + 1) hi, by rw [sizeLine_eq]; exact hz, ?_⟩⟩
  exact k q _ (Fr.upd F2 (i + 1) hi)
theorem g_extN {ys ws zs : List A} (F : Fr B cs H) (hm : catC ys ws = some zs) (ha : EvF B cs cs1 ta σ (.ref p)) (h : EvN B cs1 cs2 te σ (.lst (ws.map f))) (h0 : Rd B cs1 p (.lst (ys.map f))) (hi : cs2[i]? = some (p, .lst (ys.map f))) (hcs : cs2.set i (p, .lst (zs.map f)) = cs') (k : ∀ H1, Fr B cs' H1 → tz D σ H1) :
    tSeq (tDrop (tBM K "list" rExtend ta (tCons te tNil))) tz D σ H := by
  subst hcs
  obtain ⟨hz, rfl⟩ := of_grd hm
  refine ha [] H F _ fun H1 F1 => ⟨Or.inl ⟨rfl, _, Evl.sq_of (h0.at F1)⟩, h [] H1 F1 _ fun q H2 F2 => ⟨p, q, ys.map f, ws.map f, rfl, rfl, F2.get (i + 1) hi, F2.get 0 rfl, by rw [List.length_map, List.length_map, sizeLine_eq]; exact hz, ?_⟩⟩
  rw [List.map_append] at k
  exact k _ (Fr.drop1 (Fr.upd F2 (i + 1) hi))
theorem g_ext {ys ws zs : List A} {q : Addr} (F : Fr B cs H) (hm : catC ys ws = some zs) (ha : EvF B cs cs1 ta σ (.ref p)) (h : EvF B cs1 cs2 te σ (.ref q)) (h0 : Rd B cs1 p (.lst (ys.map f))) (hq : Rd B cs2 q (.lst (ws.map f))) (hi : cs2[i]? = some (p, .lst (ys.map f))) (hcs : cs2.set i (p, .lst (zs.map f)) = cs') (k : ∀ H1, Fr B cs' H1 → tz D σ H1) :
    tSeq (tDrop (tBM K "list" rExtend ta (tCons te tNil))) tz D σ H := by
  subst hcs
  obtain ⟨hz, rfl⟩ := of_grd hm
  refine ha [] H F _ fun H1 F1 => ⟨Or.inl ⟨rfl, _, Evl.sq_of (h0.at F1)⟩, h [] H1 F1 _ fun H2 F2 => ⟨p, q, ys.map f, ws.map f, rfl, rfl, F2.get i hi, hq.at F2, by rw [List.length_map, List.length_map, sizeLine_eq]; exact hz, ?_⟩⟩
  rw [List.map_append] at k
  exact k _ (Fr.upd F2 i hi)
/-- xs[n] = e -/
theorem g_setV {vs : List V} {n : Int} {j : Nat} (F : Fr B cs H) (hj : ixN vs.length n = some j) (h : EvF B cs cs1 te σ v) (ha : EvF B cs1 cs2 ta σ (.ref p)) (hb : EvF B cs2 cs3 tb σ (.int n)) (hi : cs3[i]? = some (p, .lst vs)) (hcs : cs3.set i (p, .lst (vs.set j v)) = cs') (k : ∀ H1, Fr B cs' H1 → tz D σ H1) :
    tSeq (tAsg te (gSub ta tb rSetL)) tz D σ H := by
  subst hcs
  exact h [] H F _ fun H1 F1 => ha [] H1 F1 _ fun H2 F2 => hb [] H2 F2 _ fun H3 F3 => ⟨p, vs, n, j, rfl, rfl, F3.get i hi, hj, k _ (Fr.upd F3 i hi)⟩
theorem g_set {ys zs : List A} {w : A} {n : Int} (F : Fr B cs H) (hm : setC ys n w = some zs) (h : EvF B cs cs1 te σ (f w)) (ha : EvF B cs1 cs2 ta σ (.ref p)) (hb : EvF B cs2 cs3 tb σ (.int n)) (hi : cs3[i]? = some (p, .lst (ys.map f))) (hcs : cs3.set i (p, .lst (zs.map f)) = cs') (k : ∀ H1, Fr B cs' H1 → tz D σ H1) :
    tSeq (tAsg te (gSub ta tb rSetL)) tz D σ H := by
  unfold setC at hm
  cases hj : ixN ys.length n with
  | none => rw [hj] at hm; cases hm
  | some j =>
    rw [hj] at hm
    cases hm
    rw [List.map_set] at hcs
    exact g_setV F (by rw [List.length_map]; exact hj) h ha hb hi hcs k
/-- xs[n] op= e -/
def rGetL (K : PySem.W.Frag) : V → V → Hp → VK → Prop := fun o i H Q => ∃ p vs n v, o = .ref p ∧ i = .int n ∧ SqL K H p vs ∧ atI vs n = some v ∧ Q v H
theorem get_list {X : Cx} {K : PySem.W.Frag} (h : X.K = K := by rfl) : PGet X (rGetL K) := by
  subst h
  intro pins s σ H o i ov iv Q I ro ri t
  obtain ⟨p, vs, n, z, rfl, rfl, hS, hv, q⟩ := t
  cases ro
  obtain ⟨t, rfl⟩ := ri
  obtain ⟨its, r, pl, hz⟩ := I.list hS
  obtain ⟨j, h1, h2, h3, h4, h5⟩ := atI_get hv
  obtain ⟨w, ew, rw'⟩ := r.get h2
  have hl := r.length
  have hn := line63
  have fin : EP X pins σ Q w s := ⟨z, H, I, rw', q⟩
  by_cases h0 : 0 ≤ n
  · have hj : n.toNat = j := by
      rw [seqIndex_of h0 h5] at h1
      exact Option.some.inj h1
    exact wpAny_getItem_list pl.isList h0 (by omega) (by rw [hj]; simpa using ew) fin
  · have hj : (n + (its.toArray.size : Int)).toNat = j := by
      rw [seqIndex_neg (by omega) h4] at h1
      rw [List.size_toArray, ← hl]
      exact Option.some.inj h1
    exact wpAny_getItem_list_neg pl.isList (by omega) (by rw [List.size_toArray] <;> omega) (by omega) (by rw [hj]; simpa using ew) fin
theorem g_augS {ys zs : List A} {w e : A} {n : Int} {y : V} {r : R2} (F : Fr B cs H) (hg : atI ys n = some w) (hm : setC ys n e = some zs) (ha : EvF B cs cs1 ta σ (.ref p)) (hb : EvF B cs1 cs2 tb σ (.int n)) (hp : RdS K B cs2 p (ys.map f)) (h : EvF B cs2 cs3 te σ y) (hr : RvF B cs3 r (f w) y (f e)) (hi : cs3[i]? = some (p, .lst (ys.map f))) (hcs : cs3.set i (p, .lst (zs.map f)) = cs') (k : ∀ H1, Fr B cs' H1 → tz D σ H1) :
    tSeq (tAugS ta tb te (rGetL K) r rSetL) tz D σ H := by
  subst hcs
  unfold setC at hm
  cases hj : ixN ys.length n with
  | none => rw [hj] at hm; cases hm
  | some j =>
    rw [hj] at hm
    cases hm
    rw [List.map_set] at k
    exact ha [] H F _ fun H1 F1 => hb [] H1 F1 _ fun H2 F2 => ⟨p, ys.map f, n, f w, rfl, rfl, hp.at F2, by rw [atI_map, hg]; rfl, h [] H2 F2 _ fun H3 F3 => hr H3 F3 _ ⟨p, ys.map f, n, j, rfl, rfl, F3.get i hi, by rw [List.length_map]; exact hj, k _ (Fr.upd F3 i hi)⟩⟩
/-- if: a way at a time -/
theorem s_if (F : Fr B cs H) {b : Bool} (h : EtF B cs cs1 t σ b) (h1 : b = true → ∀ H1, Fr B cs1 H1 → tu D σ H1) (h2 : b = false → ∀ H1, Fr B cs1 H1 → tw D σ H1) : tIfS t tu tw D σ H := h [] H F _ fun H1 F1 => by
  cases b with
  | true =>
    show tu D σ H1
    exact h1 rfl H1 F1
  | false =>
    show tw D σ H1
    exact h2 rfl H1 F1
theorem g_if (F : Fr B cs H) {b : Bool} (h : EtF B cs cs1 t σ b) (h1 : b = true → ∀ H1, Fr B cs1 H1 → tu { D with nx := tz D } σ H1) (h2 : b = false → ∀ H1, Fr B cs1 H1 → tw { D with nx := tz D } σ H1) : tSeq (tIfS t tu tw) tz D σ H := s_if (D := { D with nx := tz D }) F h h1 h2
theorem g_when (F : Fr B cs H) {b : Bool} (h : EtF B cs cs1 t σ b) (h1 : b = true → ∀ H1, Fr B cs1 H1 → tu { D with nx := tz D } σ H1) (h2 : b = false → ∀ H1, Fr B cs1 H1 → tz D σ H1) : tSeq (tIfS t tu tNext) tz D σ H := s_if (D := { D with nx := tz D }) F h h1 h2
theorem s_when (F : Fr B cs H) {b : Bool} (h : EtF B cs cs1 t σ b) (h1 : b = true → ∀ H1, Fr B cs1 H1 → tu D σ H1) (h2 : b = false → ∀ H1, Fr B cs1 H1 → D.nx σ H1) : tIfS t tu tNext D σ H := s_if F h h1 h2
/-- unpacking -/
theorem gt2 {i j : Nat} {v1 v2 : V} {Q : L2.St → Hp → Prop} (ht : SqT K H a [v1, v2]) (hσ : (σ.set i (some v1)).set j (some v2) = σ') (q : Q σ' H) : gTup K 2 (gCons (gName i) (gCons (gName j) gNil)) (.ref a) σ H Q := by
  subst hσ
  exact ⟨a, _, rfl, ht, rfl, v1, [v2], rfl, v2, [], rfl, rfl, q⟩
theorem gt3 {i j k : Nat} {v1 v2 v3 : V} {Q : L2.St → Hp → Prop} (ht : SqT K H a [v1, v2, v3]) (hσ : ((σ.set i (some v1)).set j (some v2)).set k (some v3) = σ') (q : Q σ' H) : gTup K 3 (gCons (gName i) (gCons (gName j) (gCons (gName k) gNil))) (.ref a) σ H Q := by
  subst hσ
  exact ⟨a, _, rfl, ht, rfl, v1, [v2, v3], rfl, v2, [v3], rfl, v3, [], rfl, rfl, q⟩
theorem gt4 {i j k l : Nat} {v1 v2 v3 v4 : V} {Q : L2.St → Hp → Prop} (ht : SqT K H a [v1, v2, v3, v4]) (hσ : (((σ.set i (some v1)).set j (some v2)).set k (some v3)).set l (some v4) = σ') (q : Q σ' H) : gTup K 4 (gCons (gName i) (gCons (gName j) (gCons (gName k) (gCons (gName l) gNil)))) (.ref a) σ H Q := by
  subst hσ
  exact ⟨a, _, rfl, ht, rfl, v1, [v2, v3, v4], rfl, v2, [v3, v4], rfl, v3, [v4], rfl, v4, [], rfl, rfl, q⟩
theorem g_unpE {g : TG} (F : Fr B cs H) (h : EvF B cs cs1 te σ v) (k : ∀ H1, Fr B cs1 H1 → g v σ H1 (tz D)) : tSeq (tAsg te g) tz D σ H := h [] H F _ fun H1 F1 => k H1 F1
theorem g_unpN {g : TG} (F : Fr B cs H) (h : EvN B cs cs1 te σ o) (k : ∀ p H1, Fr B ((p, o) :: cs1) H1 → g (.ref p) σ H1 (tz D)) : tSeq (tAsg te g) tz D σ H := h [] H F _ fun p H1 F1 => k p H1 F1
/-- calls -/
theorem ev_call {sp : Sp} {dvs vs : List V} {E : XK} {tA : TA} (ha : EaF B cs cs1 tA σ vs) (hs : ∀ (ys : Cs) (H : Hp), Fr B (ys ++ cs1) H → ∀ Q : VK, (∀ H', Fr B (ys ++ cs2) H' → Q v H') → sp (vs ++ dvs) H Q E) : EvF B cs cs2 (tCall sp dvs E tA) σ v := fun ys H F Q q => ha ys H F _ fun H1 F1 => hs ys H1 F1 Q q
theorem en_call {sp : Sp} {dvs vs : List V} {E : XK} {tA : TA} (ha : EaF B cs cs1 tA σ vs) (hs : ∀ (ys : Cs) (H : Hp), Fr B (ys ++ cs1) H → ∀ Q : VK, (∀ p H', Fr B ((p, o) :: (ys ++ cs2)) H' → Q (.ref p) H') → sp (vs ++ dvs) H Q E) : EvN B cs cs2 (tCall sp dvs E tA) σ o := fun ys H F Q q => ha ys H F _ fun H1 F1 => hs ys H1 F1 Q q
theorem ta_val {tr : TA} {Q : List V → Hp → Prop} (F : Fr B (xs ++ cs) H) (h : EvF B cs cs1 te σ v) (k : ∀ H1, Fr B (xs ++ cs1) H1 → tr σ H1 fun vs H2 => Q (v :: vs) H2) : tCons te tr σ H Q := h xs H F _ k
theorem ta_new {tr : TA} {Q : List V → Hp → Prop} (F : Fr B (xs ++ cs) H) (h : EvN B cs cs1 te σ o) (k : ∀ p H1, Fr B (((p, o) :: xs) ++ cs1) H1 → tr σ H1 fun vs H2 => Q (.ref p :: vs) H2) : tCons te tr σ H Q := h xs H F _ k
/-- a statement that calls: the promise asked at the very state -/
theorem g_call {g : TG} {sp : Sp} {dvs vs : List V} {E : XK} {tA : TA} (F : Fr B cs H) (ha : EaF B cs cs1 tA σ vs) (hs : ∀ H1, Fr B cs1 H1 → sp (vs ++ dvs) H1 (fun v H2 => g v σ H2 (tz D)) E) : tSeq (tAsg (tCall sp dvs E tA) g) tz D σ H := ha [] H F _ fun H1 F1 => hs H1 F1
theorem g_callR {sp : Sp} {dvs vs : List V} {E : XK} {tA : TA} (F : Fr B cs H) (ha : EaF B cs cs1 tA σ vs) (hs : ∀ H1, Fr B cs1 H1 → sp (vs ++ dvs) H1 D.rt E) : tRet (tCall sp dvs E tA) D σ H := ha [] H F _ fun H1 F1 => hs H1 F1
end
/-! ### comprehensions -/
theorem mapO_some {A C : Type} {f : A → Option C} : ∀ {xs : List A} {ys : List C}, mapO f xs = some ys → ys.length = xs.length ∧ ∀ (i : Nat) x, xs[i]? = some x → ∃ y, ys[i]? = some y ∧ f x = some y
  | [], ys, h => by
    cases h
    exact ⟨rfl, fun i x hx => by simp at hx⟩
  | x :: l, ys, h => by
    obtain ⟨y, hy, h⟩ := of_bind h
    obtain ⟨r, hr, h⟩ := of_bind h
    cases h
    obtain ⟨h1, h2⟩ := mapO_some hr
    refine ⟨by rw [List.length_cons, List.length_cons, h1], fun i z hz => ?_⟩
    cases i with
    | zero =>
      cases hz
      exact ⟨y, rfl, hy⟩
    | succ i => exact h2 i z hz
theorem rngI_at {lo hi : Int} {i : Nat} {x : Int} (h : (rngI lo hi)[i]? = some x) : x = lo + (i : Int) ∧ i < (hi - lo).toNat := by
  unfold rngI at h
  rw [List.getElem?_map] at h
  cases e : (List.range (hi - lo).toNat)[i]? with
  | none => rw [e] at h; cases h
  | some k =>
    rw [e] at h
    obtain ⟨h1, h2⟩ := List.getElem?_eq_some_iff.mp e
    rw [List.length_range] at h1
    rw [List.getElem_range] at h2
    cases h
    rw [← h2]
    exact ⟨rfl, h1⟩
theorem rngI_get {lo hi : Int} {i : Nat} (h : i < (hi - lo).toNat) : (rngI lo hi)[i]? = some (lo + (i : Int)) := by
  unfold rngI
  rw [List.getElem?_map, List.getElem?_range h]
  rfl
theorem rngI_length (lo hi : Int) : (rngI lo hi).length = (hi - lo).toNat := by
  unfold rngI
  rw [List.length_map, List.length_range]
section
variable {K : PySem.W.Frag} {σ : L2.St} {B H : Hp} {cs cs1 : Cs} {tl te : TE} {tt : TT} {a : Addr} {A C S : Type} {f : A → V} {g : C → V} {xs : List A} {ys : List C} {j : Nat} {vs : List Nat}
/-- the state of a comprehension's turn: the list so far at D, then the others -/
theorem lc_step {F0 : Cs} {H' : Hp} {D : Addr} {acc : List V} {y : V} {σ2 : L2.St} {cs cs' zs : Cs} (hF : Fr B ((D, .lst acc) :: (zs ++ cs)) H') (hz : acc.length < 16777216) (he : EvF B cs cs' te σ2 y) {P1 : Hp → Prop} (hP : ∀ H4, Fr B ((D, .lst (acc ++ [y])) :: (zs ++ cs')) H4 → P1 H4) :
    tYes σ2 H' fun b H3 => if b = true then te σ2 H3 fun y H4 => ∃ acc, H4 D = some (.lst acc) ∧ acc.length < sizeLine ∧ P1 (L2.upd H4 D (.lst (acc ++ [y]))) else P1 H3 := by
  show te σ2 H' fun y H4 => ∃ acc, H4 D = some (.lst acc) ∧ acc.length < sizeLine ∧ P1 (L2.upd H4 D (.lst (acc ++ [y])))
  refine he ((D, .lst acc) :: zs) H' hF _ fun H4 F4 => ⟨acc, F4.get 0 rfl, by rw [sizeLine_eq]; exact hz, hP _ ?_⟩
  exact Fr.upd F4 0 rfl
/-- turns told by a function of the place -/
def LcOk (B : Hp) (cs : Cs) (te : TE) (σt : V → L2.St) (it : Nat → Option V) (ys : List V) : Prop := ∀ (i : Nat) v, it i = some v → ∃ y, ys[i]? = some y ∧ EvF B cs cs te (σt v) y
theorem take_snoc {A : Type} {l : List A} {i : Nat} {y : A} (h : l[i]? = some y) : l.take (i + 1) = l.take i ++ [y] := by rw [List.take_add_one, h]; rfl
theorem lcok_map {m : A → Option C} {σt : V → L2.St} (hm : mapO m xs = some ys) (he : ∀ x y, m x = some y → EvF B cs cs te (σt (f x)) (g y)) : LcOk B cs te σt (fun i => (xs.map f)[i]?) (ys.map g) := by
  intro i v hv
  have hv : (xs.map f)[i]? = some v := hv
  rw [List.getElem?_map] at hv
  cases hx : xs[i]? with
  | none => rw [hx] at hv; cases hv
  | some x =>
    rw [hx] at hv
    cases hv
    obtain ⟨y, hy, hf⟩ := (mapO_some hm).2 i x hx
    exact ⟨g y, by rw [List.getElem?_map, hy]; rfl, he x y hf⟩
theorem en_lcL {ws : List V} {zs : List V} (ha : EvF B cs cs1 tl σ (.ref a)) (hx : RdS K B cs1 a ws) (hz : ws.length ≤ 16777216) (hl : zs.length = ws.length) (hw : ∀ x, wipe ((wipe σ vs).set j (some x)) vs = wipe σ vs)
    (he : LcOk B cs1 te (fun v => (wipe σ vs).set j (some v)) (fun i => ws[i]?) zs) : EvN B cs cs1 (tLc (iList K tl) (gName j) tYes te vs) σ (.lst zs) := by
  refine fun xs' H F Q q => ha xs' H F _ fun H1 F1 => ⟨a, rfl, ⟨ws, (hx.app (xs := xs')).at F1⟩, fun Dl hD =>
    lc_list (xs := ws) (fun i H' => Fr B ((Dl, .lst (zs.take i)) :: (xs' ++ cs1)) H') ?_ (fun i H' _ p => (hx.app (xs := xs')).at p.drop1) (fun i v H' hi p => ⟨hw v, ?_⟩) (fun H' p => q Dl H' ?_)⟩
  · exact F1.new1 hD
  · obtain ⟨y, hy, hf⟩ := he i v hi
    have hlt := (List.getElem?_eq_some_iff.mp hi).1
    refine lc_step (F0 := []) p (by rw [List.length_take]; omega) hf fun H4 F4 => ?_
    rw [take_snoc hy]
    exact F4
  · rw [List.take_of_length_le (by omega)] at p
    exact p
theorem en_lcN {ws : List V} {zs : List V} (ha : EvN B cs cs1 tl σ (.lst ws)) (hz : ws.length ≤ 16777216) (hl : zs.length = ws.length) (hw : ∀ x, wipe ((wipe σ vs).set j (some x)) vs = wipe σ vs)
    (he : LcOk B cs1 te (fun v => (wipe σ vs).set j (some v)) (fun i => ws[i]?) zs) : EvN B cs cs1 (tLc (iList K tl) (gName j) tYes te vs) σ (.lst zs) := by
  refine fun xs' H F Q q => ha xs' H F _ fun a H1 F1 => ⟨a, rfl, ⟨ws, Evl.sq_of (F1.get 0 rfl)⟩, fun Dl hD =>
    lc_list (xs := ws) (fun i H' => Fr B ((Dl, .lst (zs.take i)) :: (((a, .lst ws) :: xs') ++ cs1)) H') ?_ (fun i H' _ p => Evl.sq_of (p.get 1 rfl)) (fun i v H' hi p => ⟨hw v, ?_⟩) (fun H' p => q Dl H' ?_)⟩
  · exact F1.new1 hD
  · obtain ⟨y, hy, hf⟩ := he i v hi
    have hlt := (List.getElem?_eq_some_iff.mp hi).1
    refine lc_step (F0 := []) p (by rw [List.length_take]; omega) hf fun H4 F4 => ?_
    rw [take_snoc hy]
    exact F4
  · rw [List.take_of_length_le (by omega)] at p
    exact p.sub (.cons₂ _ (List.sublist_cons_self _ _))
theorem en_lcR2 {tA : TA} {lo hi : Int} {rs : List Int} {zs : List V} (hr : rngC lo hi = some rs) (ha : EaF B cs cs1 tA σ [.int lo, .int hi]) (hz : rs.length ≤ 16777216) (hl : zs.length = rs.length) (hw : ∀ x, wipe ((wipe σ vs).set j (some x)) vs = wipe σ vs)
    (he : LcOk B cs1 te (fun v => (wipe σ vs).set j (some v)) (fun i => (rs.map V.int)[i]?) zs) : EvN B cs cs1 (tLc (iRng2 tA) (gName j) tYes te vs) σ (.lst zs) := by
  obtain ⟨⟨r1, r2, r3, r4⟩, rfl⟩ := of_grd hr
  rw [rngI_length] at hl hz
  refine fun xs' H F Q q => ha xs' H F _ fun H1 F1 => ⟨lo, hi, rfl, ⟨r1, r2, r3, r4⟩, fun Dl hD =>
    lc_range (lo := lo) (n := (hi - lo).toNat) (fun i H' => Fr B ((Dl, .lst (zs.take i)) :: (xs' ++ cs1)) H') (F1.new1 hD) (fun i H' hi' p => ⟨hw _, ?_⟩) (fun H' p => q Dl H' ?_)⟩
  · obtain ⟨y, hy, hf⟩ := he i (.int (lo + (i : Int))) (by show (List.map V.int _)[i]? = _; rw [List.getElem?_map, rngI_get hi']; rfl)
    refine lc_step (F0 := []) p (by rw [List.length_take]; omega) hf fun H4 F4 => ?_
    rw [take_snoc hy]
    exact F4
  · rw [List.take_of_length_le (by omega)] at p
    exact p
theorem en_lcR1 {tA : TA} {hi : Int} {rs : List Int} {zs : List V} (hr : rngC 0 hi = some rs) (ha : EaF B cs cs1 tA σ [.int hi]) (hz : rs.length ≤ 16777216) (hl : zs.length = rs.length) (hw : ∀ x, wipe ((wipe σ vs).set j (some x)) vs = wipe σ vs)
    (he : LcOk B cs1 te (fun v => (wipe σ vs).set j (some v)) (fun i => (rs.map V.int)[i]?) zs) : EvN B cs cs1 (tLc (iRng1 tA) (gName j) tYes te vs) σ (.lst zs) := by
  obtain ⟨⟨r1, r2, r3, r4⟩, rfl⟩ := of_grd hr
  rw [rngI_length, Int.sub_zero] at hl hz
  refine fun xs' H F Q q => ha xs' H F _ fun H1 F1 => ⟨hi, rfl, r3, r4, fun Dl hD =>
    lc_range (lo := 0) (n := hi.toNat) (fun i H' => Fr B ((Dl, .lst (zs.take i)) :: (xs' ++ cs1)) H') (F1.new1 hD) (fun i H' hi' p => ⟨hw _, ?_⟩) (fun H' p => q Dl H' ?_)⟩
  · obtain ⟨y, hy, hf⟩ := he i (.int (0 + (i : Int))) (by show (List.map V.int _)[i]? = _; rw [List.getElem?_map, rngI_get (by rw [Int.sub_zero]; exact hi')]; rfl)
    refine lc_step (F0 := []) p (by rw [List.length_take]; omega) hf fun H4 F4 => ?_
    rw [take_snoc hy]
    exact F4
  · rw [List.take_of_length_le (by omega)] at p
    exact p
theorem mlen {m : A → Option C} (hm : mapO m xs = some ys) : (ys.map g).length = (xs.map f).length := by rw [List.length_map, List.length_map, (mapO_some hm).1]
theorem mlenR {m : A → Option C} (hm : mapO m xs = some ys) : (ys.map g).length = xs.length := by rw [List.length_map, (mapO_some hm).1]
end
/-! ### loops: the items v of a walked thing, told by R -/
section
variable {K : PySem.W.Frag} {σ : L2.St} {B H : Hp} {cs cs1 : Cs} {tl : TE} {D : Ends} {tu tz : TS} {g : TG} {j : Nat} {a : Addr} {A S R : Type} {f : A → V} {xs : List A}
theorem itF_at {m : A → S → Option (Fl S R)} {r : Fl S R} : ∀ {xs : List A} {x : A} {s : S}, itF m (x :: xs) s = some r → ∃ r', m x s = some r' ∧ (∀ s', r' = .nx s' → itF m xs s' = some r) ∧ (∀ s', r' = .bk s' → r = .nx s') ∧ (∀ q, r' = .rt q → r = .rt q) := by
  intro xs x s h
  obtain ⟨r', h1, h2⟩ := of_bind h
  refine ⟨r', h1, fun s' e => ?_, fun s' e => ?_, fun q e => ?_⟩
  · subst e
    exact h2
  · subst e
    exact (Option.some.inj h2).symm
  · subst e
    exact (Option.some.inj h2).symm
theorem itM_at {m : A → S → Option S} {r : S} {xs : List A} {x : A} {s : S} (h : itM m (x :: xs) s = some r) : ∃ s', m x s = some s' ∧ itM m xs s' = some r := of_bind h
theorem drop_at {A : Type} {xs : List A} {i : Nat} {x : A} (h : xs[i]? = some x) : xs.drop i = x :: xs.drop (i + 1) := by
  obtain ⟨h1, h2⟩ := List.getElem?_eq_some_iff.mp h
  rw [List.drop_eq_getElem_cons h1, h2]
/-- what a loop's turn is asked -/
def TurnF (D : Ends) (tu tz : TS) (g : TG) (m : A → S → Option (Fl S R)) (r : Fl S R) (J : S → L2.St → Hp → Prop) (IT : V → A → Prop) : Prop :=
  ∀ x v s r' σ' H' (N : L2.St → Hp → Prop), IT v x → m x s = some r' → J s σ' H' → (∀ s', r' = .bk s' → r = .nx s') → (∀ q, r' = .rt q → r = .rt q) → (∀ s' σ2 H2, r = .nx s' → J s' σ2 H2 → tz D σ2 H2) → (∀ s' σ2 H2, r' = .nx s' → J s' σ2 H2 → N σ2 H2) →
    g v σ' H' fun σ2 H2 => tu { D with nx := N, ct := N, bk := tz D } σ2 H2
def TurnM (D : Ends) (tu tz : TS) (g : TG) (m : A → S → Option S) (J : S → L2.St → Hp → Prop) (IT : V → A → Prop) : Prop :=
  ∀ x v s r' σ' H' (N : L2.St → Hp → Prop), IT v x → m x s = some r' → J s σ' H' → (∀ σ2 H2, J r' σ2 H2 → N σ2 H2) → g v σ' H' fun σ2 H2 => tu { D with nx := N, ct := N, bk := tz D } σ2 H2
/-- the items of a list vs are those of xs -/
def Its (IT : V → A → Prop) (vs : List V) (xs : List A) : Prop := vs.length = xs.length ∧ ∀ (i : Nat) v, vs[i]? = some v → ∃ x, xs[i]? = some x ∧ IT v x
theorem its_map (f : A → V) (xs : List A) : Its (fun v x => v = f x) (xs.map f) xs := ⟨List.length_map _, fun i v h => by
  rw [List.getElem?_map] at h
  cases hx : xs[i]? with
  | none => rw [hx] at h; cases h
  | some x =>
    rw [hx] at h
    cases h
    exact ⟨x, rfl, rfl⟩⟩
theorem its_rp {A : Type} {K : PySem.W.Frag} {G : Cl} {B : Hp} {f : A → Mn.D} {xs : List A} {vs : List V} (r : Rps K G B vs (xs.map f)) : Its (fun v x => Rp K G B v (f x)) vs xs := ⟨r.ln, fun i v hv => by
  have hl := (List.getElem?_eq_some_iff.mp hv).1
  rw [r.ln] at hl
  obtain ⟨v', h1, h2⟩ := r.gt (i := i) (List.getElem?_eq_getElem hl)
  rw [hv] at h1
  cases h1
  exact ⟨_, List.getElem?_eq_getElem hl, h2⟩⟩
theorem w_forF {vs : List V} {m : A → S → Option (Fl S R)} {s0 : S} {r : Fl S R} {IT : V → A → Prop} (hm : itF m xs s0 = some r) (hI : Its IT vs xs) (J : S → L2.St → Hp → Prop) (F : Fr B cs H) (ha : EvF B cs cs1 tl σ (.ref a)) (hx : RdS K B cs1 a vs) (h0 : ∀ H1, Fr B cs1 H1 → J s0 σ H1)
    (hl : ∀ s σ' H', J s σ' H' → SqL K H' a vs) (hd : ∀ s σ' H', r = .nx s → J s σ' H' → tz D σ' H') (hs : TurnF D tu tz g m r J IT) : tSeq (tFor (iList K tl) g tu) tz D σ H := by
  refine ha [] H F _ fun H1 F1 => ⟨a, rfl, ⟨vs, hx.at F1⟩, for_list (xs := vs) (D := { D with nx := tz D }) (fun i σ' H' => ∃ s, itF m (xs.drop i) s = some r ∧ J s σ' H') ⟨s0, hm, h0 H1 F1⟩ (fun i σ' H' _ ⟨s, _, h⟩ => hl s σ' H' h) ?_ ?_⟩
  · rintro i v σ' H' hi ⟨s, hm', hJ⟩
    obtain ⟨x, hxi, hit⟩ := hI.2 i v hi
    rw [drop_at hxi] at hm'
    obtain ⟨r', e1, e2, e3, e4⟩ := itF_at hm'
    exact hs x v s r' σ' H' _ hit e1 hJ e3 e4 hd fun s' σ2 H2 er hJ2 => ⟨s', e2 s' er, hJ2⟩
  · rintro σ' H' ⟨s, hm', hJ⟩
    rw [hI.1, List.drop_of_length_le (Nat.le_refl _)] at hm'
    cases hm'
    exact hd s σ' H' rfl hJ
theorem w_forM {vs : List V} {m : A → S → Option S} {s0 r : S} {IT : V → A → Prop} (hm : itM m xs s0 = some r) (hI : Its IT vs xs) (J : S → L2.St → Hp → Prop) (F : Fr B cs H) (ha : EvF B cs cs1 tl σ (.ref a)) (hx : RdS K B cs1 a vs) (h0 : ∀ H1, Fr B cs1 H1 → J s0 σ H1)
    (hl : ∀ s σ' H', J s σ' H' → SqL K H' a vs) (hd : ∀ σ' H', J r σ' H' → tz D σ' H') (hs : TurnM D tu tz g m J IT) : tSeq (tFor (iList K tl) g tu) tz D σ H := by
  refine ha [] H F _ fun H1 F1 => ⟨a, rfl, ⟨vs, hx.at F1⟩, for_list (xs := vs) (D := { D with nx := tz D }) (fun i σ' H' => ∃ s, itM m (xs.drop i) s = some r ∧ J s σ' H') ⟨s0, hm, h0 H1 F1⟩ (fun i σ' H' _ ⟨s, _, h⟩ => hl s σ' H' h) ?_ ?_⟩
  · rintro i v σ' H' hi ⟨s, hm', hJ⟩
    obtain ⟨x, hxi, hit⟩ := hI.2 i v hi
    rw [drop_at hxi] at hm'
    obtain ⟨r', e1, e2⟩ := itM_at hm'
    exact hs x v s r' σ' H' _ hit e1 hJ fun σ2 H2 hJ2 => ⟨r', e2, hJ2⟩
  · rintro σ' H' ⟨s, hm', hJ⟩
    rw [hI.1, List.drop_of_length_le (Nat.le_refl _)] at hm'
    cases hm'
    exact hd σ' H' hJ
/-- over a new list, at p -/
theorem w_forFN {vs : List V} {m : A → S → Option (Fl S R)} {s0 : S} {r : Fl S R} {IT : V → A → Prop} (hm : itF m xs s0 = some r) (hI : Its IT vs xs) (J : Addr → S → L2.St → Hp → Prop) (F : Fr B cs H) (ha : EvN B cs cs1 tl σ (.lst vs)) (h0 : ∀ p H1, Fr B ((p, .lst vs) :: cs1) H1 → J p s0 σ H1)
    (hl : ∀ p s σ' H', J p s σ' H' → SqL K H' p vs) (hd : ∀ p s σ' H', r = .nx s → J p s σ' H' → tz D σ' H') (hs : ∀ p, TurnF D tu tz g m r (J p) IT) : tSeq (tFor (iList K tl) g tu) tz D σ H := by
  refine ha [] H F _ fun a H1 F1 => ⟨a, rfl, ⟨vs, Evl.sq_of (F1.get 0 rfl)⟩, for_list (xs := vs) (D := { D with nx := tz D }) (fun i σ' H' => ∃ s, itF m (xs.drop i) s = some r ∧ J a s σ' H') ⟨s0, hm, h0 a H1 F1⟩ (fun i σ' H' _ ⟨s, _, h⟩ => hl a s σ' H' h) ?_ ?_⟩
  · rintro i v σ' H' hi ⟨s, hm', hJ⟩
    obtain ⟨x, hxi, hit⟩ := hI.2 i v hi
    rw [drop_at hxi] at hm'
    obtain ⟨r', e1, e2, e3, e4⟩ := itF_at hm'
    exact hs a x v s r' σ' H' _ hit e1 hJ e3 e4 (hd a) fun s' σ2 H2 er hJ2 => ⟨s', e2 s' er, hJ2⟩
  · rintro σ' H' ⟨s, hm', hJ⟩
    rw [hI.1, List.drop_of_length_le (Nat.le_refl _)] at hm'
    cases hm'
    exact hd a s σ' H' rfl hJ
theorem w_forMN {vs : List V} {m : A → S → Option S} {s0 r : S} {IT : V → A → Prop} (hm : itM m xs s0 = some r) (hI : Its IT vs xs) (J : Addr → S → L2.St → Hp → Prop) (F : Fr B cs H) (ha : EvN B cs cs1 tl σ (.lst vs)) (h0 : ∀ p H1, Fr B ((p, .lst vs) :: cs1) H1 → J p s0 σ H1)
    (hl : ∀ p s σ' H', J p s σ' H' → SqL K H' p vs) (hd : ∀ p σ' H', J p r σ' H' → tz D σ' H') (hs : ∀ p, TurnM D tu tz g m (J p) IT) : tSeq (tFor (iList K tl) g tu) tz D σ H := by
  refine ha [] H F _ fun a H1 F1 => ⟨a, rfl, ⟨vs, Evl.sq_of (F1.get 0 rfl)⟩, for_list (xs := vs) (D := { D with nx := tz D }) (fun i σ' H' => ∃ s, itM m (xs.drop i) s = some r ∧ J a s σ' H') ⟨s0, hm, h0 a H1 F1⟩ (fun i σ' H' _ ⟨s, _, h⟩ => hl a s σ' H' h) ?_ ?_⟩
  · rintro i v σ' H' hi ⟨s, hm', hJ⟩
    obtain ⟨x, hxi, hit⟩ := hI.2 i v hi
    rw [drop_at hxi] at hm'
    obtain ⟨r', e1, e2⟩ := itM_at hm'
    exact hs a x v s r' σ' H' _ hit e1 hJ fun σ2 H2 hJ2 => ⟨r', e2, hJ2⟩
  · rintro σ' H' ⟨s, hm', hJ⟩
    rw [hI.1, List.drop_of_length_le (Nat.le_refl _)] at hm'
    cases hm'
    exact hd a σ' H' hJ
/-- over a range -/
theorem w_rngF2 {tA : TA} {lo hi : Int} {rs : List Int} {m : Int → S → Option (Fl S R)} {s0 : S} {r : Fl S R} (hr : rngC lo hi = some rs) (hm : itF m rs s0 = some r) (J : S → L2.St → Hp → Prop) (F : Fr B cs H) (ha : EaF B cs cs1 tA σ [.int lo, .int hi]) (h0 : ∀ H1, Fr B cs1 H1 → J s0 σ H1)
    (hd : ∀ s σ' H', r = .nx s → J s σ' H' → tz D σ' H') (hs : TurnF D tu tz g m r J (fun v x => v = .int x)) : tSeq (tFor (iRng2 tA) g tu) tz D σ H := by
  obtain ⟨⟨r1, r2, r3, r4⟩, rfl⟩ := of_grd hr
  refine ha [] H F _ fun H1 F1 => ⟨lo, hi, rfl, ⟨r1, r2, r3, r4⟩, for_range (lo := lo) (n := (hi - lo).toNat) (D := { D with nx := tz D }) (fun i σ' H' => ∃ s, itF m ((rngI lo hi).drop i) s = some r ∧ J s σ' H') ⟨s0, hm, h0 H1 F1⟩ ?_ ?_⟩
  · rintro i σ' H' hi' ⟨s, hm', hJ⟩
    rw [drop_at (rngI_get hi')] at hm'
    obtain ⟨r', e1, e2, e3, e4⟩ := itF_at hm'
    exact hs _ _ s r' σ' H' _ rfl e1 hJ e3 e4 hd fun s' σ2 H2 er hJ2 => ⟨s', e2 s' er, hJ2⟩
  · rintro σ' H' ⟨s, hm', hJ⟩
    rw [List.drop_of_length_le (by rw [rngI_length]; exact Nat.le_refl _)] at hm'
    cases hm'
    exact hd s σ' H' rfl hJ
theorem w_rngM2 {tA : TA} {lo hi : Int} {rs : List Int} {m : Int → S → Option S} {s0 r : S} (hr : rngC lo hi = some rs) (hm : itM m rs s0 = some r) (J : S → L2.St → Hp → Prop) (F : Fr B cs H) (ha : EaF B cs cs1 tA σ [.int lo, .int hi]) (h0 : ∀ H1, Fr B cs1 H1 → J s0 σ H1)
    (hd : ∀ σ' H', J r σ' H' → tz D σ' H') (hs : TurnM D tu tz g m J (fun v x => v = .int x)) : tSeq (tFor (iRng2 tA) g tu) tz D σ H := by
  obtain ⟨⟨r1, r2, r3, r4⟩, rfl⟩ := of_grd hr
  refine ha [] H F _ fun H1 F1 => ⟨lo, hi, rfl, ⟨r1, r2, r3, r4⟩, for_range (lo := lo) (n := (hi - lo).toNat) (D := { D with nx := tz D }) (fun i σ' H' => ∃ s, itM m ((rngI lo hi).drop i) s = some r ∧ J s σ' H') ⟨s0, hm, h0 H1 F1⟩ ?_ ?_⟩
  · rintro i σ' H' hi' ⟨s, hm', hJ⟩
    rw [drop_at (rngI_get hi')] at hm'
    obtain ⟨r', e1, e2⟩ := itM_at hm'
    exact hs _ _ s r' σ' H' _ rfl e1 hJ fun σ2 H2 hJ2 => ⟨r', e2, hJ2⟩
  · rintro σ' H' ⟨s, hm', hJ⟩
    rw [List.drop_of_length_le (by rw [rngI_length]; exact Nat.le_refl _)] at hm'
    cases hm'
    exact hd σ' H' hJ
theorem w_rngF1 {tA : TA} {hi : Int} {rs : List Int} {m : Int → S → Option (Fl S R)} {s0 : S} {r : Fl S R} (hr : rngC 0 hi = some rs) (hm : itF m rs s0 = some r) (J : S → L2.St → Hp → Prop) (F : Fr B cs H) (ha : EaF B cs cs1 tA σ [.int hi]) (h0 : ∀ H1, Fr B cs1 H1 → J s0 σ H1)
    (hd : ∀ s σ' H', r = .nx s → J s σ' H' → tz D σ' H') (hs : TurnF D tu tz g m r J (fun v x => v = .int x)) : tSeq (tFor (iRng1 tA) g tu) tz D σ H := by
  obtain ⟨⟨r1, r2, r3, r4⟩, rfl⟩ := of_grd hr
  refine ha [] H F _ fun H1 F1 => ⟨hi, rfl, r3, r4, for_range (lo := 0) (n := hi.toNat) (D := { D with nx := tz D }) (fun i σ' H' => ∃ s, itF m ((rngI 0 hi).drop i) s = some r ∧ J s σ' H') ⟨s0, hm, h0 H1 F1⟩ ?_ ?_⟩
  · rintro i σ' H' hi' ⟨s, hm', hJ⟩
    rw [drop_at (rngI_get (lo := 0) (by rw [Int.sub_zero]; exact hi'))] at hm'
    obtain ⟨r', e1, e2, e3, e4⟩ := itF_at hm'
    exact hs _ _ s r' σ' H' _ rfl e1 hJ e3 e4 hd fun s' σ2 H2 er hJ2 => ⟨s', e2 s' er, hJ2⟩
  · rintro σ' H' ⟨s, hm', hJ⟩
    rw [List.drop_of_length_le (by rw [rngI_length, Int.sub_zero]; exact Nat.le_refl _)] at hm'
    cases hm'
    exact hd s σ' H' rfl hJ
theorem w_rngM1 {tA : TA} {hi : Int} {rs : List Int} {m : Int → S → Option S} {s0 r : S} (hr : rngC 0 hi = some rs) (hm : itM m rs s0 = some r) (J : S → L2.St → Hp → Prop) (F : Fr B cs H) (ha : EaF B cs cs1 tA σ [.int hi]) (h0 : ∀ H1, Fr B cs1 H1 → J s0 σ H1)
    (hd : ∀ σ' H', J r σ' H' → tz D σ' H') (hs : TurnM D tu tz g m J (fun v x => v = .int x)) : tSeq (tFor (iRng1 tA) g tu) tz D σ H := by
  obtain ⟨⟨r1, r2, r3, r4⟩, rfl⟩ := of_grd hr
  refine ha [] H F _ fun H1 F1 => ⟨hi, rfl, r3, r4, for_range (lo := 0) (n := hi.toNat) (D := { D with nx := tz D }) (fun i σ' H' => ∃ s, itM m ((rngI 0 hi).drop i) s = some r ∧ J s σ' H') ⟨s0, hm, h0 H1 F1⟩ ?_ ?_⟩
  · rintro i σ' H' hi' ⟨s, hm', hJ⟩
    rw [drop_at (rngI_get (lo := 0) (by rw [Int.sub_zero]; exact hi'))] at hm'
    obtain ⟨r', e1, e2⟩ := itM_at hm'
    exact hs _ _ s r' σ' H' _ rfl e1 hJ fun σ2 H2 hJ2 => ⟨r', e2, hJ2⟩
  · rintro σ' H' ⟨s, hm', hJ⟩
    rw [List.drop_of_length_le (by rw [rngI_length, Int.sub_zero]; exact Nat.le_refl _)] at hm'
    cases hm'
    exact hd σ' H' hJ
/-- while -/
theorem w_while {t : TT} {c : S → Option Bool} {m : S → Option (Fl S R)} {s0 : S} {r : Fl S R} {n0 : Nat} (hm : whF c m n0 s0 = some r) (J : S → L2.St → Hp → Prop) (h0 : J s0 σ H)
    (hc : ∀ s b σ' H', c s = some b → J s σ' H' → ∀ Q : Bool → Hp → Prop, (∀ H1, J s σ' H1 → Q b H1) → t σ' H' Q) (hd : ∀ s σ' H', r = .nx s → J s σ' H' → tz D σ' H')
    (hs : ∀ s r' σ' H' (N : L2.St → Hp → Prop), m s = some r' → c s = some true → J s σ' H' → (∀ s', r' = .bk s' → r = .nx s') → (∀ q, r' = .rt q → r = .rt q) → (∀ s' σ2 H2, r = .nx s' → J s' σ2 H2 → tz D σ2 H2) → (∀ s' σ2 H2, r' = .nx s' → J s' σ2 H2 → N σ2 H2) → tu { D with nx := N, ct := N, bk := tz D } σ' H') :
    tSeq (tWhile t tu) tz D σ H := by
  refine ⟨fun n σ' H' => ∃ s, whF c m n s = some r ∧ J s σ' H', ⟨n0, s0, hm, h0⟩, ?_⟩
  rintro n σ' H' ⟨s, hw, hj⟩
  cases n with
  | zero => cases hw
  | succ n =>
    obtain ⟨b, hb, hw⟩ := of_bind hw
    refine hc s b σ' H' hb hj _ fun H1 hj1 => ?_
    cases b with
    | true =>
      rw [if_pos rfl] at hw
      obtain ⟨r', hr, hw⟩ := of_bind hw
      show ∃ N : L2.St → Hp → Prop, _
      refine ⟨fun σ2 H2 => ∃ s', r' = .nx s' ∧ J s' σ2 H2, ?_, hs s r' σ' H1 _ hr hb hj1 ?_ ?_ hd fun s' σ2 H2 e2 hj2 => ⟨s', e2, hj2⟩⟩
      · rintro σ2 H2 ⟨s', rfl, hj2⟩
        exact ⟨n, Nat.lt_succ_self n, s', hw, hj2⟩
      · rintro s' rfl
        exact (Option.some.inj hw).symm
      · rintro q rfl
        exact (Option.some.inj hw).symm
    | false =>
      rw [if_neg Bool.false_ne_true] at hw
      show tz D σ' H1
      exact hd s σ' H1 (Option.some.inj hw).symm hj1
end
/-! ### step by step: goals te σ H Q -/
section
variable {K : PySem.W.Frag} {σ σ' : L2.St} {B H H' : Hp} {cs cs' cs1 cs2 : Cs} {ta tb te : TE} {t : TT} {x y z v : V} {D : Ends} {tz tu tw : TS} {i j : Nat} {p a : Addr} {o : HO} {tA tr tK : TA} {Q : VK} {vs zs ws : List V} {r : R2}
theorem st_v (F : Fr B cs H) (h : EvF B cs cs1 te σ v) (k : ∀ H1, Fr B cs1 H1 → Q v H1) : te σ H Q := h [] H F _ k
theorem st_n (F : Fr B cs H) (h : EvN B cs cs1 te σ o) (k : ∀ p H1, Fr B ((p, o) :: cs1) H1 → Q (.ref p) H1) : te σ H Q := h [] H F _ k
theorem st_cons {QA : List V → Hp → Prop} (h : te σ H fun v H1 => tr σ H1 fun vs H2 => QA (v :: vs) H2) : tCons te tr σ H QA := h
theorem st_nil {QA : List V → Hp → Prop} (h : QA [] H) : tNil σ H QA := h
def ST (Q : VK) (vs : List V) (H : Hp) : Prop := vs.length ≤ sizeLine ∧ ∀ p, H p = none → Q (.ref p) (L2.upd H p (.tup vs))
def SL (Q : VK) (vs : List V) (H : Hp) : Prop := vs.length ≤ sizeLine ∧ ∀ p, H p = none → Q (.ref p) (L2.upd H p (.lst vs))
def SC (sp : Sp) (dvs : List V) (E : XK) (Q : VK) (vs : List V) (H : Hp) : Prop := sp (vs ++ dvs) H Q E
def SN (n m : Nat) (sp : Sp) (gV : List V → List V → List V) (E : XK) (Q : VK) (vs zs : List V) (H : Hp) : Prop := vs.length = n ∧ zs.length = m ∧ sp (gV vs zs) H Q E
theorem st_tup (h : tA σ H fun vs H1 => ST Q vs H1) : tTup tA σ H Q := h
theorem st_lst (h : tA σ H fun vs H1 => SL Q vs H1) : tLst tA σ H Q := h
theorem st_call {sp : Sp} {dvs : List V} {E : XK} (h : tA σ H fun vs H1 => SC sp dvs E Q vs H1) : tCall sp dvs E tA σ H Q := h
theorem st_callN {n m : Nat} {sp : Sp} {gV : List V → List V → List V} {E : XK} (h : tA σ H fun vs H1 => tK σ H1 fun zs H2 => SN n m sp gV E Q vs zs H2) : tCallN n m sp gV E tA tK σ H Q := h
theorem st_tupE (F : Fr B cs H) (k : ∀ p H1, Fr B ((p, .tup vs) :: cs) H1 → Q (.ref p) H1) (hl : Nat.ble vs.length 100000 = true := by rfl) : ST Q vs H := ⟨Evl.sz_of (Nat.le_of_ble_eq_true hl), fun p hp => k p _ (F.new1 hp)⟩
theorem st_lstE (F : Fr B cs H) (k : ∀ p H1, Fr B ((p, .lst vs) :: cs) H1 → Q (.ref p) H1) (hl : Nat.ble vs.length 100000 = true := by rfl) : SL Q vs H := ⟨Evl.sz_of (Nat.le_of_ble_eq_true hl), fun p hp => k p _ (F.new1 hp)⟩
theorem st_scE {sp : Sp} {dvs : List V} {E : XK} (h : sp (vs ++ dvs) H Q E) : SC sp dvs E Q vs H := h
theorem st_snE {n m : Nat} {sp : Sp} {gV : List V → List V → List V} {E : XK} (h : sp (gV vs zs) H Q E) (l1 : vs.length = n := by rfl) (l2 : zs.length = m := by rfl) : SN n m sp gV E Q vs zs H := ⟨l1, l2, h⟩
theorem st_op (h : ta σ H fun x H1 => tb σ H1 fun y H2 => r x y H2 Q) : tOp r ta tb σ H Q := h
theorem st_rv (F : Fr B cs H) (hr : RvF B cs r x y z) (k : Q z H) : r x y H Q := hr H F Q k
theorem st_if {b : Bool} (F : Fr B cs H) (h : EtF B cs cs1 t σ b) (h1 : b = true → ∀ H1, Fr B cs1 H1 → ta σ H1 Q) (h2 : b = false → ∀ H1, Fr B cs1 H1 → tb σ H1 Q) : tIf t ta tb σ H Q := h [] H F _ fun H1 F1 => by
  cases b with
  | true =>
    show ta σ H1 Q
    exact h1 rfl H1 F1
  | false =>
    show tb σ H1 Q
    exact h2 rfl H1 F1
theorem ss_asg {g : TG} (h : te σ H fun v H1 => g v σ H1 (tz D)) : tSeq (tAsg te g) tz D σ H := h
theorem ss_ret (h : te σ H D.rt) : tRet te D σ H := h
theorem ss_expr (h : te σ H fun _ H1 => tz D σ H1) : tSeq (tDrop te) tz D σ H := h
def SA (tz : TS) (D : Ends) (σ : L2.St) (p : Addr) (v : V) (H : Hp) : Prop := rAppend (.ref p) [v] H fun _ H1 => tz D σ H1
theorem ss_app (F : Fr B cs H) (ha : EvF B cs cs1 ta σ (.ref p)) (h0 : Rd B cs1 p (.lst vs)) (k : ∀ H1, Fr B cs1 H1 → te σ H1 fun v H2 => SA tz D σ p v H2) : tSeq (tDrop (tBM K "list" rAppend ta (tCons te tNil))) tz D σ H :=
  ha [] H F _ fun H1 F1 => ⟨Or.inl ⟨rfl, vs, Evl.sq_of (h0.at F1)⟩, k H1 F1⟩
theorem ss_appE (i : Nat) (F : Fr B cs H) (hi : cs[i]? = some (p, .lst vs)) (hz : vs.length < 16777216) (k : ∀ H1, Fr B (cs.set i (p, .lst (vs ++ [v]))) H1 → tz D σ H1) : SA tz D σ p v H :=
  ⟨p, vs, v, rfl, rfl, F.get i hi, by rw [sizeLine_eq]; exact hz, k _ (Fr.upd F i hi)⟩
end
/-! ### a value that may be None: two ways -/
def optS {A B : Type} (o : Option A) (n : Option B) (f : A → Option B) : Option B := match o with
  | none => n
  | some x => f x
theorem of_optS {A B : Type} {o : Option A} {n : Option B} {f : A → Option B} {r : B} (h : optS o n f = some r) : (o = none ∧ n = some r) ∨ ∃ y, o = some y ∧ f y = some r := by
  cases o with
  | none => exact .inl ⟨rfl, h⟩
  | some y => exact .inr ⟨y, rfl, h⟩
section
variable {K : PySem.W.Frag} {G : Cl} {B : Hp} {v : V} {vs : List V} {A : Type} {f : A → Mn.D} {o : Option A}
theorem rp_ofN (h : o = none) (r : Rp K G B v (oD f o)) : v = .non := by subst h; exact r.n
theorem rp_ofS {y : A} (h : o = some y) (r : Rp K G B v (oD f o)) : Rp K G B v (f y) := by subst h; exact r
theorem rps_cons {x : A} {xs : List A} (h : Rp K G B v (f x)) (r : Rps K G B vs (xs.map f)) : Rps K G B (v :: vs) ((x :: xs).map f) := by
  rw [List.map_cons]
  simp only [Rps]
  exact ⟨h, r⟩
end
/-! ### comprehensions whose items are data, or whose source is -/
section
variable {K : PySem.W.Frag} {Gc : Cl} {σ : L2.St} {B H : Hp} {cs cs1 : Cs} {tl te : TE} {a : Addr} {A A1 A2 C : Type} {fy : C → Mn.D} {xs : List A} {ys : List C} {g : TG} {vs : List Nat} {Q : VK}
/-- what a turn is asked; N what the item is given to -/
def LcT (K : PySem.W.Frag) (Gc : Cl) (B : Hp) (cs : Cs) (te : TE) (fy : C → Mn.D) (y : C) (B' : Hp) (Dl : Addr) (acc : List V) (N : VK) : Prop := ∀ v B'' H'', Ex B' B'' → Rp K Gc B'' v (fy y) → Fr B'' ((Dl, .lst acc) :: cs) H'' → N v H''
theorem lc_core' {J : It} {n : Nat} {G : Hp → Prop} {Y : Nat → Hp → V → Hp → Prop} (w : Walk J n G Y) (hn : ys.length = n) (hz : n ≤ 16777216) (F : Fr B cs H)
    (hG : ∀ B' Dl acc H', Ex B B' → Fr B' ((Dl, .lst acc) :: cs) H' → G H')
    (hs : ∀ i x y B' H' H2 Dl acc (N : VK), i < n → ys[i]? = some y → Ex B B' → Fr B' ((Dl, .lst acc) :: cs) H' → Y i H' x H2 → LcT K Gc B cs te fy y B' Dl acc N → g x (wipe σ vs) H2 fun σ2 H3 => wipe σ2 vs = wipe σ vs ∧ te σ2 H3 N)
    (k : ∀ p us B' H', Ex B B' → Rps K Gc B' us (ys.map fy) → Fr B' ((p, .lst us) :: cs) H' → Q (.ref p) H') : ∀ Dl, H Dl = none → ∃ W : Nat → Nat → Hp → Prop, (∃ m, W 0 m (L2.upd H Dl (.lst []))) ∧ ∀ i m H, W i m H →
      (J.stop i H ∧ Q (.ref Dl) H) ∨ (J.go i H ∧ ∃ Nx : Hp → Prop, (∀ H', Nx H' → ∃ m', m' < m ∧ W (i + 1) m' H') ∧ ∀ x H', J.yld i H x H' → g x (wipe σ vs) H' fun σ2 H2 => wipe σ2 vs = wipe σ vs ∧ tYes σ2 H2 fun b H3 =>
        if b = true then te σ2 H3 fun y H4 => ∃ acc, H4 Dl = some (.lst acc) ∧ acc.length < sizeLine ∧ Nx (L2.upd H4 Dl (.lst (acc ++ [y]))) else Nx H3) := by
  intro Dl hD
  refine lc_it w (Qd := fun H => Q (.ref Dl) H) (fun i H' => ∃ B' us, Ex B B' ∧ Rps K Gc B' us ((ys.take i).map fy) ∧ Fr B' ((Dl, .lst us) :: cs) H') ⟨B, [], Ex.refl B, by rw [List.take_zero]; exact Rps.nilF, F.new1 hD⟩ ?_ ?_ ?_
  · rintro i H' _ ⟨B', us, e, _, F'⟩
    exact hG B' Dl us H' e F'
  · rintro i x H' H2 hi ⟨B', us, e, r, F'⟩ hy
    have hyi : ys[i]? = some (ys[i]'(by omega)) := List.getElem?_eq_getElem _
    have hlen : us.length = i := by
      rw [r.ln, List.length_take]
      omega
    refine hs i x _ B' H' H2 Dl us _ hi hyi e F' hy fun v B'' H'' e2 r2 F'' => ⟨us, F''.get 0 rfl, by rw [sizeLine_eq, hlen]; omega, B'', us ++ [v], e.trans e2, ?_, Fr.upd F'' 0 rfl⟩
    rw [take_snoc hyi]
    exact Rps.snocF (r.to e2) r2
  · rintro H' ⟨B', us, e, r, F'⟩
    rw [List.take_of_length_le (by omega)] at r
    exact k Dl us B' H' e r F'
theorem st_lcL {ws : List V} {IT : V → A → Prop} {m : A → Option C} (hm : mapO m xs = some ys) (hI : Its IT ws xs) (hz : xs.length ≤ 16777216) (F : Fr B cs H) (ha : EvF B cs cs1 tl σ (.ref a)) (hx : RdS K B cs1 a ws)
    (hs : ∀ x y v B' H' Dl acc (N : VK), IT v x → m x = some y → Ex B B' → Fr B' ((Dl, .lst acc) :: cs1) H' → LcT K Gc B cs1 te fy y B' Dl acc N → g v (wipe σ vs) H' fun σ2 H3 => wipe σ2 vs = wipe σ vs ∧ te σ2 H3 N)
    (k : ∀ p us B' H', Ex B B' → Rps K Gc B' us (ys.map fy) → Fr B' ((p, .lst us) :: cs1) H' → Q (.ref p) H') : tLc (iList K tl) g tYes te vs σ H Q := by
  have hl := (mapO_some hm).1
  refine ha [] H F _ fun H1 F1 => ⟨a, rfl, ⟨ws, hx.at F1⟩, lc_core' (K := K) (Gc := Gc) (fy := fy) walk_list (by rw [hl, hI.1]) (by rw [hI.1]; exact hz) F1 (fun B' Dl acc H' e F' => (hx.to e).at F'.drop1) (fun i x y B' H' H2 Dl acc N hi hy e F' hY hN => ?_) k⟩
  obtain ⟨rfl, hx2⟩ := hY
  obtain ⟨x', h1, h2⟩ := hI.2 i x hx2
  obtain ⟨y', h3, h4⟩ := (mapO_some hm).2 i x' h1
  rw [hy] at h3
  cases h3
  exact hs x' y x B' H2 Dl acc N h2 h4 e F' hN
theorem st_lcR2 {tA : TA} {lo hi : Int} {rs : List Int} {m : Int → Option C} (hr : rngC lo hi = some rs) (hm : mapO m rs = some ys) (hz : rs.length ≤ 16777216) (F : Fr B cs H) (ha : EaF B cs cs1 tA σ [.int lo, .int hi])
    (hs : ∀ x y v B' H' Dl acc (N : VK), v = .int x → m x = some y → Ex B B' → Fr B' ((Dl, .lst acc) :: cs1) H' → LcT K Gc B cs1 te fy y B' Dl acc N → g v (wipe σ vs) H' fun σ2 H3 => wipe σ2 vs = wipe σ vs ∧ te σ2 H3 N)
    (k : ∀ p us B' H', Ex B B' → Rps K Gc B' us (ys.map fy) → Fr B' ((p, .lst us) :: cs1) H' → Q (.ref p) H') : tLc (iRng2 tA) g tYes te vs σ H Q := by
  obtain ⟨⟨r1, r2, r3, r4⟩, rfl⟩ := of_grd hr
  have hl := (mapO_some hm).1
  rw [rngI_length] at hl hz
  refine ha [] H F _ fun H1 F1 => ⟨lo, hi, rfl, ⟨r1, r2, r3, r4⟩, lc_core' (K := K) (Gc := Gc) (fy := fy) walk_range hl hz F1 (fun _ _ _ _ _ _ => trivial) (fun i x y B' H' H2 Dl acc N hi' hy e F' hY hN => ?_) k⟩
  obtain ⟨rfl, rfl⟩ := hY
  obtain ⟨y', h3, h4⟩ := (mapO_some hm).2 i _ (rngI_get hi')
  rw [hy] at h3
  cases h3
  exact hs _ y _ B' H2 Dl acc N rfl h4 e F' hN
theorem st_lcR1 {tA : TA} {hi : Int} {rs : List Int} {m : Int → Option C} (hr : rngC 0 hi = some rs) (hm : mapO m rs = some ys) (hz : rs.length ≤ 16777216) (F : Fr B cs H) (ha : EaF B cs cs1 tA σ [.int hi])
    (hs : ∀ x y v B' H' Dl acc (N : VK), v = .int x → m x = some y → Ex B B' → Fr B' ((Dl, .lst acc) :: cs1) H' → LcT K Gc B cs1 te fy y B' Dl acc N → g v (wipe σ vs) H' fun σ2 H3 => wipe σ2 vs = wipe σ vs ∧ te σ2 H3 N)
    (k : ∀ p us B' H', Ex B B' → Rps K Gc B' us (ys.map fy) → Fr B' ((p, .lst us) :: cs1) H' → Q (.ref p) H') : tLc (iRng1 tA) g tYes te vs σ H Q := by
  obtain ⟨⟨r1, r2, r3, r4⟩, rfl⟩ := of_grd hr
  have hl := (mapO_some hm).1
  rw [rngI_length, Int.sub_zero] at hl hz
  refine ha [] H F _ fun H1 F1 => ⟨hi, rfl, r3, r4, lc_core' (K := K) (Gc := Gc) (fy := fy) walk_range hl hz F1 (fun _ _ _ _ _ _ => trivial) (fun i x y B' H' H2 Dl acc N hi' hy e F' hY hN => ?_) k⟩
  obtain ⟨rfl, rfl⟩ := hY
  obtain ⟨y', h3, h4⟩ := (mapO_some hm).2 i _ (rngI_get (lo := 0) (by rw [Int.sub_zero]; exact hi'))
  rw [hy] at h3
  cases h3
  exact hs _ y _ B' H2 Dl acc N rfl h4 e F' hN
/-- pairs: enumerate, zip -/
def enumI {A : Type} (xs : List A) : List (Int × A) := (rngI 0 (xs.length : Int)).zip xs
theorem enumI_get {A : Type} {xs : List A} {i : Nat} {x : A} (h : xs[i]? = some x) : (enumI xs)[i]? = some ((i : Int), x) := by
  unfold enumI
  have hl := (List.getElem?_eq_some_iff.mp h).1
  rw [List.getElem?_zip_eq_some]
  refine ⟨?_, h⟩
  rw [rngI_get (by omega)]
  congr 1
  omega
theorem enumI_len {A : Type} (xs : List A) : (enumI xs).length = xs.length := by
  unfold enumI
  rw [List.length_zip, rngI_length]
  omega
theorem st_lcZ {tA : TA} {a b : Addr} {xs : List A1} {ys0 : List A2} {w1 w2 : List V} {I1 : V → A1 → Prop} {I2 : V → A2 → Prop} {m : A1 × A2 → Option C} (hm : mapO m (xs.zip ys0) = some ys) (h1 : Its I1 w1 xs) (h2 : Its I2 w2 ys0) (hz : (xs.zip ys0).length ≤ 16777216) (F : Fr B cs H) (ha : EaF B cs cs1 tA σ [.ref a, .ref b]) (hx : RdS K B cs1 a w1) (hy : RdS K B cs1 b w2)
    (hs : ∀ q y v1 v2 T B' H' Dl acc (N : VK), I1 v1 q.1 → I2 v2 q.2 → m q = some y → Ex B B' → Fr B' ((Dl, .lst acc) :: cs1) H' → H' T = none → LcT K Gc B cs1 te fy y B' Dl acc N → g (.ref T) (wipe σ vs) (L2.upd H' T (.tup [v1, v2])) fun σ2 H3 => wipe σ2 vs = wipe σ vs ∧ te σ2 H3 N)
    (k : ∀ p us B' H', Ex B B' → Rps K Gc B' us (ys.map fy) → Fr B' ((p, .lst us) :: cs1) H' → Q (.ref p) H') : tLc (iZip K tA) g tYes te vs σ H Q := by
  have hl := (mapO_some hm).1
  have hzl : (xs.zip ys0).length = min w1.length w2.length := by rw [List.length_zip, h1.1, h2.1]
  refine ha [] H F _ fun H1 F1 => ⟨a, b, w1, w2, rfl, hx.at F1, hy.at F1, lc_core' (K := K) (Gc := Gc) (fy := fy) (walk_zip hzl) hl hz F1 (fun B' Dl acc H' e F' => ⟨(hx.to e).at F'.drop1, (hy.to e).at F'.drop1⟩) (fun i x y B' H' H2 Dl acc N hi hy' e F' hY hN => ?_) k⟩
  obtain ⟨T, v1, v2, rfl, hT, rfl, e1, e2⟩ := hY
  obtain ⟨q1, e3, e4⟩ := h1.2 i v1 e1
  obtain ⟨q2, e5, e6⟩ := h2.2 i v2 e2
  obtain ⟨y', e7, e8⟩ := (mapO_some hm).2 i (q1, q2) (List.getElem?_zip_eq_some.mpr ⟨e3, e5⟩)
  rw [hy'] at e7
  cases e7
  exact hs (q1, q2) y v1 v2 T B' H' Dl acc N e4 e6 e8 e F' hT hN
theorem st_lcE {tA : TA} {a : Addr} {xs : List A} {w1 : List V} {I1 : V → A → Prop} {m : Int × A → Option C} (hm : mapO m (enumI xs) = some ys) (h1 : Its I1 w1 xs) (hz : xs.length ≤ 16777216) (F : Fr B cs H) (ha : EaF B cs cs1 tA σ [.ref a]) (hx : RdS K B cs1 a w1)
    (hs : ∀ q y v1 v2 T B' H' Dl acc (N : VK), v1 = .int q.1 → I1 v2 q.2 → m q = some y → Ex B B' → Fr B' ((Dl, .lst acc) :: cs1) H' → H' T = none → LcT K Gc B cs1 te fy y B' Dl acc N → g (.ref T) (wipe σ vs) (L2.upd H' T (.tup [v1, v2])) fun σ2 H3 => wipe σ2 vs = wipe σ vs ∧ te σ2 H3 N)
    (k : ∀ p us B' H', Ex B B' → Rps K Gc B' us (ys.map fy) → Fr B' ((p, .lst us) :: cs1) H' → Q (.ref p) H') : tLc (iEnum K tA) g tYes te vs σ H Q := by
  have hl := (mapO_some hm).1
  rw [enumI_len] at hl
  refine ha [] H F _ fun H1 F1 => ⟨a, w1, rfl, hx.at F1, lc_core' (K := K) (Gc := Gc) (fy := fy) walk_enum (by rw [hl, h1.1]) (by rw [h1.1]; exact hz) F1 (fun B' Dl acc H' e F' => (hx.to e).at F'.drop1) (fun i x y B' H' H2 Dl acc N hi hy' e F' hY hN => ?_) k⟩
  obtain ⟨T, v1, v2, rfl, hT, rfl, e1, e2⟩ := hY
  cases e1
  obtain ⟨q2, e5, e6⟩ := h1.2 i v2 e2
  obtain ⟨y', e7, e8⟩ := (mapO_some hm).2 i _ (enumI_get e5)
  rw [hy'] at e7
  cases e7
  exact hs ((i : Int), q2) y (.int (i : Nat)) v2 T B' H' Dl acc N rfl e6 e8 e F' hT hN
end
/-! ### loops over pairs -/
section
variable {K : PySem.W.Frag} {σ : L2.St} {B H : Hp} {cs cs1 : Cs} {D : Ends} {tu tz : TS} {g : TG} {a b : Addr} {A1 A2 A S R : Type}
def TurnPF (D : Ends) (tu tz : TS) (g : TG) (m : A1 × A2 → S → Option (Fl S R)) (r : Fl S R) (J : S → L2.St → Hp → Prop) (I1 : V → A1 → Prop) (I2 : V → A2 → Prop) : Prop :=
  ∀ x v1 v2 T s r' σ' H' (N : L2.St → Hp → Prop), I1 v1 x.1 → I2 v2 x.2 → H' T = none → m x s = some r' → J s σ' H' → (∀ s', r' = .bk s' → r = .nx s') → (∀ q, r' = .rt q → r = .rt q) → (∀ s' σ2 H2, r = .nx s' → J s' σ2 H2 → tz D σ2 H2) → (∀ s' σ2 H2, r' = .nx s' → J s' σ2 H2 → N σ2 H2) →
    g (.ref T) σ' (L2.upd H' T (.tup [v1, v2])) fun σ2 H2 => tu { D with nx := N, ct := N, bk := tz D } σ2 H2
def TurnPM (D : Ends) (tu tz : TS) (g : TG) (m : A1 × A2 → S → Option S) (J : S → L2.St → Hp → Prop) (I1 : V → A1 → Prop) (I2 : V → A2 → Prop) : Prop :=
  ∀ x v1 v2 T s r' σ' H' (N : L2.St → Hp → Prop), I1 v1 x.1 → I2 v2 x.2 → H' T = none → m x s = some r' → J s σ' H' → (∀ σ2 H2, J r' σ2 H2 → N σ2 H2) → g (.ref T) σ' (L2.upd H' T (.tup [v1, v2])) fun σ2 H2 => tu { D with nx := N, ct := N, bk := tz D } σ2 H2
theorem wp_F {Jt : It} {n : Nat} {G : Hp → Prop} {f1 f2 : Nat → Option V} {ps : List (A1 × A2)} {m : A1 × A2 → S → Option (Fl S R)} {s0 : S} {r : Fl S R} {I1 : V → A1 → Prop} {I2 : V → A2 → Prop} (w : Walk Jt n G (YPair f1 f2)) (hn : ps.length = n) (hm : itF m ps s0 = some r)
    (hI : ∀ i v1 v2, f1 i = some v1 → f2 i = some v2 → ∃ x, ps[i]? = some x ∧ I1 v1 x.1 ∧ I2 v2 x.2) (J : S → L2.St → Hp → Prop) (h0 : J s0 σ H) (hl : ∀ s σ' H', J s σ' H' → G H') (hd : ∀ s σ' H', r = .nx s → J s σ' H' → tz D σ' H') (hs : TurnPF D tu tz g m r J I1 I2) :
    ∃ W : Nat → Nat → L2.St → Hp → Prop, (∃ m, W 0 m σ H) ∧ ∀ i m σ H, W i m σ H →
      (Jt.stop i H ∧ tz D σ H) ∨ (Jt.go i H ∧ ∃ N : L2.St → Hp → Prop, (∀ σ' H', N σ' H' → ∃ m', m' < m ∧ W (i + 1) m' σ' H') ∧ ∀ x H', Jt.yld i H x H' → g x σ H' fun σ2 H2 => tu { D with nx := N, ct := N, bk := tz D } σ2 H2) := by
  refine for_it w (D := { D with nx := tz D }) (fun i σ' H' => ∃ s, itF m (ps.drop i) s = some r ∧ J s σ' H') ⟨s0, hm, h0⟩ (fun i σ' H' _ ⟨s, _, h⟩ => hl s σ' H' h) ?_ ?_
  · rintro i x σ' H' H2 hi ⟨s, hm', hJ⟩ ⟨T, v1, v2, rfl, hT, rfl, e1, e2⟩
    obtain ⟨y, e3, e4, e5⟩ := hI i v1 v2 e1 e2
    rw [drop_at e3] at hm'
    obtain ⟨r', q1, q2, q3, q4⟩ := itF_at hm'
    exact hs y v1 v2 T s r' σ' H' _ e4 e5 hT q1 hJ q3 q4 hd fun s' σ2 H2 er hJ2 => ⟨s', q2 s' er, hJ2⟩
  · rintro σ' H' ⟨s, hm', hJ⟩
    rw [List.drop_of_length_le (by omega)] at hm'
    cases hm'
    exact hd s σ' H' rfl hJ
theorem wp_M {Jt : It} {n : Nat} {G : Hp → Prop} {f1 f2 : Nat → Option V} {ps : List (A1 × A2)} {m : A1 × A2 → S → Option S} {s0 r : S} {I1 : V → A1 → Prop} {I2 : V → A2 → Prop} (w : Walk Jt n G (YPair f1 f2)) (hn : ps.length = n) (hm : itM m ps s0 = some r)
    (hI : ∀ i v1 v2, f1 i = some v1 → f2 i = some v2 → ∃ x, ps[i]? = some x ∧ I1 v1 x.1 ∧ I2 v2 x.2) (J : S → L2.St → Hp → Prop) (h0 : J s0 σ H) (hl : ∀ s σ' H', J s σ' H' → G H') (hd : ∀ σ' H', J r σ' H' → tz D σ' H') (hs : TurnPM D tu tz g m J I1 I2) :
    ∃ W : Nat → Nat → L2.St → Hp → Prop, (∃ m, W 0 m σ H) ∧ ∀ i m σ H, W i m σ H →
      (Jt.stop i H ∧ tz D σ H) ∨ (Jt.go i H ∧ ∃ N : L2.St → Hp → Prop, (∀ σ' H', N σ' H' → ∃ m', m' < m ∧ W (i + 1) m' σ' H') ∧ ∀ x H', Jt.yld i H x H' → g x σ H' fun σ2 H2 => tu { D with nx := N, ct := N, bk := tz D } σ2 H2) := by
  refine for_it w (D := { D with nx := tz D }) (fun i σ' H' => ∃ s, itM m (ps.drop i) s = some r ∧ J s σ' H') ⟨s0, hm, h0⟩ (fun i σ' H' _ ⟨s, _, h⟩ => hl s σ' H' h) ?_ ?_
  · rintro i x σ' H' H2 hi ⟨s, hm', hJ⟩ ⟨T, v1, v2, rfl, hT, rfl, e1, e2⟩
    obtain ⟨y, e3, e4, e5⟩ := hI i v1 v2 e1 e2
    rw [drop_at e3] at hm'
    obtain ⟨r', q1, q2⟩ := itM_at hm'
    exact hs y v1 v2 T s r' σ' H' _ e4 e5 hT q1 hJ fun σ2 H2 hJ2 => ⟨r', q2, hJ2⟩
  · rintro σ' H' ⟨s, hm', hJ⟩
    rw [List.drop_of_length_le (by omega)] at hm'
    cases hm'
    exact hd σ' H' hJ
theorem hI_zip {xs : List A1} {ys : List A2} {w1 w2 : List V} {I1 : V → A1 → Prop} {I2 : V → A2 → Prop} (h1 : Its I1 w1 xs) (h2 : Its I2 w2 ys) : ∀ (i : Nat) v1 v2, w1[i]? = some v1 → w2[i]? = some v2 → ∃ x : A1 × A2, (xs.zip ys)[i]? = some x ∧ I1 v1 x.1 ∧ I2 v2 x.2 := fun i v1 v2 e1 e2 => by
  obtain ⟨q1, e3, e4⟩ := h1.2 i v1 e1
  obtain ⟨q2, e5, e6⟩ := h2.2 i v2 e2
  exact ⟨(q1, q2), List.getElem?_zip_eq_some.mpr ⟨e3, e5⟩, e4, e6⟩
theorem w_zipF {tA : TA} {xs : List A1} {ys : List A2} {w1 w2 : List V} {m : A1 × A2 → S → Option (Fl S R)} {s0 : S} {r : Fl S R} {I1 : V → A1 → Prop} {I2 : V → A2 → Prop} (hm : itF m (xs.zip ys) s0 = some r) (h1 : Its I1 w1 xs) (h2 : Its I2 w2 ys) (J : S → L2.St → Hp → Prop) (F : Fr B cs H) (ha : EaF B cs cs1 tA σ [.ref a, .ref b]) (hx : RdS K B cs1 a w1) (hy : RdS K B cs1 b w2) (h0 : ∀ H1, Fr B cs1 H1 → J s0 σ H1)
    (hl : ∀ s σ' H', J s σ' H' → SqL K H' a w1 ∧ SqL K H' b w2) (hd : ∀ s σ' H', r = .nx s → J s σ' H' → tz D σ' H') (hs : TurnPF D tu tz g m r J I1 I2) : tSeq (tFor (iZip K tA) g tu) tz D σ H :=
  ha [] H F _ fun H1 F1 => ⟨a, b, w1, w2, rfl, hx.at F1, hy.at F1, wp_F (D := D) (tz := tz) (walk_zip rfl) (by rw [List.length_zip, h1.1, h2.1]) hm (hI_zip h1 h2) J (h0 H1 F1) hl hd hs⟩
theorem w_zipM {tA : TA} {xs : List A1} {ys : List A2} {w1 w2 : List V} {m : A1 × A2 → S → Option S} {s0 r : S} {I1 : V → A1 → Prop} {I2 : V → A2 → Prop} (hm : itM m (xs.zip ys) s0 = some r) (h1 : Its I1 w1 xs) (h2 : Its I2 w2 ys) (J : S → L2.St → Hp → Prop) (F : Fr B cs H) (ha : EaF B cs cs1 tA σ [.ref a, .ref b]) (hx : RdS K B cs1 a w1) (hy : RdS K B cs1 b w2) (h0 : ∀ H1, Fr B cs1 H1 → J s0 σ H1)
    (hl : ∀ s σ' H', J s σ' H' → SqL K H' a w1 ∧ SqL K H' b w2) (hd : ∀ σ' H', J r σ' H' → tz D σ' H') (hs : TurnPM D tu tz g m J I1 I2) : tSeq (tFor (iZip K tA) g tu) tz D σ H :=
  ha [] H F _ fun H1 F1 => ⟨a, b, w1, w2, rfl, hx.at F1, hy.at F1, wp_M (D := D) (tz := tz) (walk_zip rfl) (by rw [List.length_zip, h1.1, h2.1]) hm (hI_zip h1 h2) J (h0 H1 F1) hl hd hs⟩
theorem hI_enum {xs : List A} {w1 : List V} {I1 : V → A → Prop} (h1 : Its I1 w1 xs) : ∀ (i : Nat) (v1 v2 : V), some (.int (i : Nat)) = some v1 → w1[i]? = some v2 → ∃ x, (enumI xs)[i]? = some x ∧ v1 = .int x.1 ∧ I1 v2 x.2 := fun i v1 v2 e1 e2 => by
  cases e1
  obtain ⟨q2, e5, e6⟩ := h1.2 i v2 e2
  exact ⟨((i : Int), q2), enumI_get e5, rfl, e6⟩
theorem w_enumF {tA : TA} {xs : List A} {w1 : List V} {m : Int × A → S → Option (Fl S R)} {s0 : S} {r : Fl S R} {I1 : V → A → Prop} (hm : itF m (enumI xs) s0 = some r) (h1 : Its I1 w1 xs) (J : S → L2.St → Hp → Prop) (F : Fr B cs H) (ha : EaF B cs cs1 tA σ [.ref a]) (hx : RdS K B cs1 a w1) (h0 : ∀ H1, Fr B cs1 H1 → J s0 σ H1)
    (hl : ∀ s σ' H', J s σ' H' → SqL K H' a w1) (hd : ∀ s σ' H', r = .nx s → J s σ' H' → tz D σ' H') (hs : TurnPF D tu tz g m r J (fun v x => v = .int x) I1) : tSeq (tFor (iEnum K tA) g tu) tz D σ H :=
  ha [] H F _ fun H1 F1 => ⟨a, w1, rfl, hx.at F1, wp_F (D := D) (tz := tz) (I1 := fun v (x : Int) => v = .int x) (I2 := I1) walk_enum (by rw [enumI_len, h1.1]) hm (hI_enum h1) J (h0 H1 F1) hl hd hs⟩
theorem w_enumM {tA : TA} {xs : List A} {w1 : List V} {m : Int × A → S → Option S} {s0 r : S} {I1 : V → A → Prop} (hm : itM m (enumI xs) s0 = some r) (h1 : Its I1 w1 xs) (J : S → L2.St → Hp → Prop) (F : Fr B cs H) (ha : EaF B cs cs1 tA σ [.ref a]) (hx : RdS K B cs1 a w1) (h0 : ∀ H1, Fr B cs1 H1 → J s0 σ H1)
    (hl : ∀ s σ' H', J s σ' H' → SqL K H' a w1) (hd : ∀ σ' H', J r σ' H' → tz D σ' H') (hs : TurnPM D tu tz g m J (fun v x => v = .int x) I1) : tSeq (tFor (iEnum K tA) g tu) tz D σ H :=
  ha [] H F _ fun H1 F1 => ⟨a, w1, rfl, hx.at F1, wp_M (D := D) (tz := tz) (I1 := fun v (x : Int) => v = .int x) (I2 := I1) walk_enum (by rw [enumI_len, h1.1]) hm (hI_enum h1) J (h0 H1 F1) hl hd hs⟩
end
/-! ### == of data -/
mutual
def py : Mn.D → PyData
  | .non => .none
  | .int i => .int i
  | .bl b => .bool b
  | .str s => .str s
  | .lst l => .list (pys l)
  | .tup l => .tuple (pys l)
  | .obj _ _ => .none
def pys : List Mn.D → List PyData
  | [] => []
  | d :: l => py d :: pys l
end
mutual
def plainD : Mn.D → Bool
  | .lst l => plainDs l
  | .tup l => plainDs l
  | .obj _ _ => false
  | _ => true
def plainDs : List Mn.D → Bool
  | [] => true
  | d :: l => plainD d && plainDs l
end
section
variable {K : PySem.W.Frag} {G : Cl} {B : Hp}
mutual
theorem dp_of : ∀ (d : Mn.D) {v : V}, plainD d = true → Rp K G B v d → Dp K B v (py d)
  | .non, v, _, h => by rw [h.n, py]; exact .non
  | .int i, v, _, h => by rw [h.i, py]; exact .int i
  | .bl b, v, _, h => by rw [h.b, py]; exact .bl b
  | .str s, v, _, h => by rw [h.s, py]; exact .str s
  | .lst l, v, hp, h => by
    simp only [Rp] at h
    simp only [plainD] at hp
    obtain ⟨a, vs, rfl, h2, h3⟩ := h
    rw [py]
    exact .lst (Evl.sq_of h2) (dps_of l hp h3)
  | .tup l, v, hp, h => by
    simp only [Rp] at h
    simp only [plainD] at hp
    obtain ⟨a, vs, rfl, h2, h3⟩ := h
    rw [py]
    exact .tup h2 (dps_of l hp h3)
  | .obj t l, v, hp, h => by simp only [plainD] at hp; cases hp
theorem dps_of : ∀ (l : List Mn.D) {vs : List V}, plainDs l = true → Rps K G B vs l → DpAll K B vs (pys l)
  | [], [], _, _ => by rw [pys]; exact .nil
  | [], v :: vs, _, h => by simp only [Rps] at h
  | d :: l, [], _, h => by simp only [Rps] at h
  | d :: l, v :: vs, hp, h => by
    simp only [Rps] at h
    simp only [plainDs, Bool.and_eq_true] at hp
    rw [pys]
    exact .cons (dp_of d hp.1 h.1) (dps_of l hp.2 h.2)
end
end
/-- == of data, where the library's rule holds -/
def eqC (d e : Mn.D) : Option Bool := grd (plainD d = true ∧ plainD e = true ∧ SeqAt.shaped (py d) = true ∧ SeqAt.shaped (py e) = true) (PyData.eqv (py d) (py e))
def DpF (K : PySem.W.Frag) (B : Hp) (cs : Cs) (v : V) (d : Mn.D) : Prop := plainD d = true → ∀ H, Fr B cs H → Dp K H v (py d)
section
variable {K : PySem.W.Frag} {G : Cl} {B : Hp} {cs : Cs} {a : Addr} {v v1 v2 v3 v4 : V} {d e : Mn.D} {b : Bool} {A A1 A2 A3 A4 : Type} {f : A → Mn.D} {f1 : A1 → Mn.D} {f2 : A2 → Mn.D} {f3 : A3 → Mn.D} {vs : List V} {c : Addr × HO}
theorem rv_eqC (h : eqC d e = some b) (r1 : DpF K B cs v1 d) (r2 : DpF K B cs v2 e) : RvF B cs (rEqD K) v1 v2 (.bl b) := fun H F Q k => by
  obtain ⟨⟨p1, p2, p3, p4⟩, rfl⟩ := of_grd h
  exact ⟨_, _, r1 p1 H F, r2 p2 H F, p3, p4, k⟩
theorem rv_neC (h : eqC d e = some b) (r1 : DpF K B cs v1 d) (r2 : DpF K B cs v2 e) : RvF B cs (rNeD K) v1 v2 (.bl (!b)) := fun H F Q k => by
  obtain ⟨⟨p1, p2, p3, p4⟩, rfl⟩ := of_grd h
  exact ⟨_, _, r1 p1 H F, r2 p2 H F, p3, p4, k⟩
theorem DpF.more (r : DpF K B cs v d) : DpF K B (c :: cs) v d := fun hp H F => r hp H (F.sub (List.sublist_cons_self _ _))
theorem dpf_rp (r : Rp K G B v d) : DpF K B cs v d := fun hp H F => dp_of d hp (r.to F.base)
theorem dpf_l {xs : List A} (h : RdS K B cs a vs) (r : Rps K G B vs (xs.map f)) : DpF K B cs (.ref a) (lD f xs) := fun hp H F => by
  simp only [lD, plainD] at hp
  rw [lD, py]
  exact .lst (h.at F) (dps_of _ hp (r.to F.base))
theorem dpf_li {xs : List Int} (h : RdS K B cs a (xs.map V.int)) : DpF K B cs (.ref a) (lD D.int xs) := dpf_l (G := G0) h (Rps.ints.mpr rfl)
theorem dpf_lb {xs : List Bool} (h : RdS K B cs a (xs.map V.bl)) : DpF K B cs (.ref a) (lD D.bl xs) := dpf_l (G := G0) h (Rps.bls.mpr rfl)
theorem dpf_t2 {p : A1 × A2} (h : Rd B cs a (.tup [v1, v2])) (r1 : DpF K B cs v1 (f1 p.1)) (r2 : DpF K B cs v2 (f2 p.2)) : DpF K B cs (.ref a) (pD2 f1 f2 p) := fun hp H F => by
  simp only [pD2, plainD, plainDs, Bool.and_eq_true] at hp
  rw [pD2, py]
  exact .tup (Evl.st_of (h.at F)) (by rw [pys, pys, pys]; exact .cons (r1 hp.1 H F) (.cons (r2 hp.2.1 H F) .nil))
theorem dpf_t3 {p : A1 × A2 × A3} (h : Rd B cs a (.tup [v1, v2, v3])) (r1 : DpF K B cs v1 (f1 p.1)) (r2 : DpF K B cs v2 (f2 p.2.1)) (r3 : DpF K B cs v3 (f3 p.2.2)) : DpF K B cs (.ref a) (pD3 f1 f2 f3 p) := fun hp H F => by
  simp only [pD3, plainD, plainDs, Bool.and_eq_true] at hp
  rw [pD3, py]
  exact .tup (Evl.st_of (h.at F)) (by rw [pys, pys, pys, pys]; exact .cons (r1 hp.1 H F) (.cons (r2 hp.2.1 H F) (.cons (r3 hp.2.2.1 H F) .nil)))
end
/-! ### defs with defaults -/
structure CalD (K : PySem.W.Frag) (mg : Str → Option Value) (x : Str) (f : Addr) : Prop where
  g : mg x = some (.ref f)
  k : PySem.W.keepIn K (.ref f) = true
section
variable {P : Program} {w : World} {K : PySem.W.Frag} {mg : Str → Option Value} {base : Heap} {x : Str} {st : Stmt} {dvs : List V} {kws : List (Str × V)} {f : Addr} {fd : FuncData}
theorem fund_mk {oc : Value} {od an : Option Addr} {osl : Array (Option Value)} {dV kV doc pm cdv ct : Value} (l : K.lookup f = some ⟨oc, od, .func (PySem.W.fnOf x x (defArgs st) (defBody st) (defScope st) dV kV doc pm an cdv ct), osl⟩)
    (c : PySem.W.codeIn K cdv x = true) (k : PySem.W.keepIn K (.ref f) = true) (hd : DflV K dV dvs) (hk : KwdV K kV kws) : FunD K x x (defArgs st) (defBody st) (defScope st) dvs kws f (PySem.W.fnOf x x (defArgs st) (defBody st) (defScope st) dV kV doc pm an cdv ct) :=
  ⟨⟨oc, od, dV, kV, doc, pm, an, cdv, ct, osl, rfl, l, c, hd, hk⟩, k⟩
theorem fund_ok {N ps : List Str} {k : Nat} {sp : Sp} (F : FunD K x x (defArgs st) (defBody st) (defScope st) dvs kws f fd) (S : FnScope N ps (defScope st)) (len : ∀ vs H Q E, sp vs H Q E → vs.length = ps.length)
    (hbody : ∀ (cdv : Value) (A : Around) (outer : List Env) (s : Shared) (H : Hp) (vs : List V) (Q : VK) (E : XK), Room k (A.deeper (PyProof.Rows.envOfC x (defScope st) s.heap.objs.size f cdv)) → sp vs H Q E →
      ∃ t, PSs (cxOf CX0 P w K mg base N x (defScope st) f cdv A outer s H E).nox (defBody st) t ∧ t { nx := fun _ H' => Q .non H', rt := Q } (start N vs) H) : FnOk P w K mg base CX0 (k + 1) f fd ps sp :=
  F.ok S len fun cdv A outer s H vs Q E hr hsp => by
    obtain ⟨t, h, q⟩ := hbody cdv A outer s H vs Q E hr hsp
    exact ⟨t, h.nox, q⟩
theorem dfl0 {K : PySem.W.Frag} : DflV K .none [] := .inl ⟨rfl, rfl⟩
theorem dfl1 {K : PySem.W.Frag} {T : Addr} {o : Obj} {its : List Value} {n : Nat} {dvs : List V} (h : dvs ≠ []) (l : K.lookup T = some o) (d : o.data = .seq its.toArray n) (v : Vals dvs its) : DflV K (.ref T) dvs := .inr ⟨h, T, o, its, n, rfl, l, d, v⟩
theorem kwd1 {K : PySem.W.Frag} {D : Addr} {kws : List (Str × V)} (h : ∀ q ∈ kws, ∃ u, PySem.W.nsIn K D q.1 = some (some u) ∧ RelV q.2 u) : KwdV K (.ref D) kws := .inr ⟨D, rfl, h⟩
variable {ps ks : List Str} {n : Nat}
/-- f(e, .., k = v, ..), defaults stand; none is taken -/
theorem kb1 (F : FunD K x x (defArgs st) (defBody st) (defScope st) dvs kws f fd) (hd : dvs ≠ [])
    (h : ∀ (T : Addr) (kV doc pm : Value) (an : Option Addr) (cdv ct : Value) (us its ws : List Value), us.length = n → its.length = dvs.length → ws.length = ks.length →
      ∃ k, bindArgs (PySem.W.fnOf x x (defArgs st) (defBody st) (defScope st) (.ref T) kV doc pm an cdv ct) ⟨us, ks.zip ws⟩ = seqItems? (.ref T) >>= k ∧ k (some its.toArray) = pure (ps.zip (us ++ ws))) : KBn K fd ps n ks (fun us ws => us ++ ws) (fun vs zs => vs ++ zs) := by
  obtain ⟨oc, od, dV, kV, doc, pm, an, cdv, ct, osl, rfl, lk, hcd, hD, hK⟩ := F.ex
  rcases hD with ⟨e, _⟩ | ⟨_, T, o, its, m, rfl, lT, oT, rT⟩
  · exact absurd e hd
  · refine ⟨fun s us ws X l1 l2 => ?_, fun r1 r2 => r1.append r2⟩
    obtain ⟨k, e1, e2⟩ := h T kV doc pm an cdv ct us its ws l1 rT.length.symm l2
    refine BindsTo.of_looks fun M => ?_
    rw [e1]
    exact looks_items X lT oT (.of_pure e2)
theorem kb0 (F : FunD K x x (defArgs st) (defBody st) (defScope st) [] kws f fd)
    (h : ∀ (kV doc pm : Value) (an : Option Addr) (cdv ct : Value) (us ws : List Value), us.length = n → ws.length = ks.length →
      bindArgs (PySem.W.fnOf x x (defArgs st) (defBody st) (defScope st) .none kV doc pm an cdv ct) ⟨us, ks.zip ws⟩ = pure (ps.zip (us ++ ws))) : KBn K fd ps n ks (fun us ws => us ++ ws) (fun vs zs => vs ++ zs) := by
  obtain ⟨oc, od, dV, kV, doc, pm, an, cdv, ct, osl, rfl, lk, hcd, hD, hK⟩ := F.ex
  rcases hD with ⟨_, rfl⟩ | ⟨e, _⟩
  · exact ⟨fun s us ws X l1 l2 => BindsTo.of_looks fun M => .of_pure (h kV doc pm an cdv ct us ws l1 l2), fun r1 r2 => r1.append r2⟩
  · exact absurd rfl e
end
section
variable {σ : L2.St} {B H : Hp} {cs cs1 cs2 cs3 : Cs} {v : V} {o : HO} {vs zs : List V} {n m : Nat} {sp : Sp} {gV : List V → List V → List V} {E : XK} {tA tK : TA}
theorem ev_callN (ha : EaF B cs cs1 tA σ vs) (hk : EaF B cs1 cs2 tK σ zs) (l1 : vs.length = n) (l2 : zs.length = m) (hs : ∀ (ys : Cs) (H : Hp), Fr B (ys ++ cs2) H → ∀ Q : VK, (∀ H', Fr B (ys ++ cs3) H' → Q v H') → sp (gV vs zs) H Q E) : EvF B cs cs3 (tCallN n m sp gV E tA tK) σ v := fun ys H F Q q => ha ys H F _ fun H1 F1 => hk ys H1 F1 _ fun H2 F2 => ⟨l1, l2, hs ys H2 F2 Q q⟩
theorem en_callN (ha : EaF B cs cs1 tA σ vs) (hk : EaF B cs1 cs2 tK σ zs) (l1 : vs.length = n) (l2 : zs.length = m) (hs : ∀ (ys : Cs) (H : Hp), Fr B (ys ++ cs2) H → ∀ Q : VK, (∀ p H', Fr B ((p, o) :: (ys ++ cs3)) H' → Q (.ref p) H') → sp (gV vs zs) H Q E) : EvN B cs cs3 (tCallN n m sp gV E tA tK) σ o := fun ys H F Q q => ha ys H F _ fun H1 F1 => hk ys H1 F1 _ fun H2 F2 => ⟨l1, l2, hs ys H2 F2 Q q⟩
end
/-- a def that is called by its name -/
structure Cal (K : PySem.W.Frag) (mg : Str → Option Value) (x : Str) (f : Addr) (fd : FuncData) (ps : List Str) : Prop where
  g : mg x = some (.ref f)
  k : PySem.W.keepIn K (.ref f) = true
  b : Binds K fd ps []
end Mn
/-! Cm: the mirrors' combinators in plain Lean -/
namespace Mn
open PySem L2
section
variable {A B C S R : Type}
theorem bind_ok {m : Option A} {f : A → Option B} {x : A} {r : Option B} (h : m = some x) (h2 : f x = r) : m.bind f = r := by subst h; exact h2
theorem itM_inv {f : A → S → Option S} (P : Nat → S → Prop) : ∀ (xs : List A) (s : S) (n : Nat), P n s → (∀ i x s, xs[i]? = some x → P (n + i) s → ∃ s', f x s = some s' ∧ P (n + i + 1) s') → ∃ s', itM f xs s = some s' ∧ P (n + xs.length) s'
  | [], s, n, h0, _ => ⟨s, rfl, h0⟩
  | x :: l, s, n, h0, hs => by
    obtain ⟨s1, h1, p1⟩ := hs 0 x s rfl h0
    obtain ⟨s2, h2, p2⟩ := itM_inv P l s1 (n + 1) p1 (fun i y t hy pt => by
      have e : n + 1 + i = n + (i + 1) := by omega
      rw [e] at pt
      obtain ⟨t', q1, q2⟩ := hs (i + 1) y t hy pt
      exact ⟨t', q1, by rw [e]; exact q2⟩)
    refine ⟨s2, bind_ok h1 h2, ?_⟩
    have e : n + (x :: l).length = n + 1 + l.length := by rw [List.length_cons]; omega
    rw [e]
    exact p2
theorem itM_ok {f : A → S → Option S} (P : Nat → S → Prop) {xs : List A} {s : S} (h0 : P 0 s) (hs : ∀ i x s, xs[i]? = some x → P i s → ∃ s', f x s = some s' ∧ P (i + 1) s') : ∃ s', itM f xs s = some s' ∧ P xs.length s' := by
  have := itM_inv (f := f) P xs s 0 h0 (fun i x s hx hp => by rw [Nat.zero_add] at hp ⊢; exact hs i x s hx hp)
  rw [Nat.zero_add] at this
  exact this
/-- a loop whose turn is a plain function -/
theorem itM_fold {f : A → S → Option S} {g : S → A → S} : ∀ {xs : List A} {s : S}, (∀ x s, x ∈ xs → f x s = some (g s x)) → itM f xs s = some (xs.foldl g s)
  | [], _, _ => rfl
  | x :: l, s, h => bind_ok (h x s List.mem_cons_self) (itM_fold fun y t hy => h y t (List.mem_cons_of_mem _ hy))
theorem itF_inv {f : A → S → Option (Fl S R)} (P : Nat → S → Prop) : ∀ (xs : List A) (s : S) (n : Nat), P n s → (∀ i x s, xs[i]? = some x → P (n + i) s → ∃ s', f x s = some (.nx s') ∧ P (n + i + 1) s') → ∃ s', itF f xs s = some (.nx s') ∧ P (n + xs.length) s'
  | [], s, n, h0, _ => ⟨s, rfl, h0⟩
  | x :: l, s, n, h0, hs => by
    obtain ⟨s1, h1, p1⟩ := hs 0 x s rfl h0
    obtain ⟨s2, h2, p2⟩ := itF_inv P l s1 (n + 1) p1 (fun i y t hy pt => by
      have e : n + 1 + i = n + (i + 1) := by omega
      rw [e] at pt
      obtain ⟨t', q1, q2⟩ := hs (i + 1) y t hy pt
      exact ⟨t', q1, by rw [e]; exact q2⟩)
    refine ⟨s2, bind_ok h1 h2, ?_⟩
    have e : n + (x :: l).length = n + 1 + l.length := by rw [List.length_cons]; omega
    rw [e]
    exact p2
theorem itF_ok {f : A → S → Option (Fl S R)} (P : Nat → S → Prop) {xs : List A} {s : S} (h0 : P 0 s) (hs : ∀ i x s, xs[i]? = some x → P i s → ∃ s', f x s = some (.nx s') ∧ P (i + 1) s') : ∃ s', itF f xs s = some (.nx s') ∧ P xs.length s' := by
  have := itF_inv (f := f) P xs s 0 h0 (fun i x s hx hp => by rw [Nat.zero_add] at hp ⊢; exact hs i x s hx hp)
  rw [Nat.zero_add] at this
  exact this
/-- a loop that may leave: told by what holds at its end -/
theorem itF_way {f : A → S → Option (Fl S R)} (P : Nat → S → Prop) (Q : Fl S R → Prop) : ∀ (xs : List A) (s : S) (n : Nat), P n s → (∀ i x s, xs[i]? = some x → P (n + i) s → ∃ r, f x s = some r ∧ match r with | .nx s' => P (n + i + 1) s' | .bk s' => Q (.nx s') | .rt q => Q (.rt q)) →
    (∀ s, P (n + xs.length) s → Q (.nx s)) → ∃ r, itF f xs s = some r ∧ Q r
  | [], s, n, h0, _, hd => ⟨.nx s, rfl, hd s h0⟩
  | x :: l, s, n, h0, hs, hd => by
    obtain ⟨r, h1, p1⟩ := hs 0 x s rfl h0
    cases r with
    | bk s' => exact ⟨.nx s', bind_ok h1 rfl, p1⟩
    | rt q => exact ⟨.rt q, bind_ok h1 rfl, p1⟩
    | nx s1 =>
      obtain ⟨r2, h2, p2⟩ := itF_way P Q l s1 (n + 1) p1 (fun i y t hy pt => by
        have e : n + 1 + i = n + (i + 1) := by omega
        rw [e] at pt
        obtain ⟨t', q1, q2⟩ := hs (i + 1) y t hy pt
        exact ⟨t', q1, by rw [e]; exact q2⟩) (fun t ht => hd t (by rw [List.length_cons]; have e : n + (l.length + 1) = n + 1 + l.length := by omega
                                                                   rw [e]; exact ht))
      exact ⟨r2, bind_ok h1 h2, p2⟩
theorem whF_inv {c : S → Option Bool} {f : S → Option (Fl S R)} (P : S → Prop) (μ : S → Nat) (Q : S → Prop) : ∀ (n : Nat) (s : S), μ s < n → P s → (∀ s, P s → (c s = some false ∧ Q s) ∨ (c s = some true ∧ ∃ s', f s = some (.nx s') ∧ P s' ∧ μ s' < μ s)) → ∃ s', whF c f n s = some (.nx s') ∧ Q s'
  | 0, s, h, _, _ => absurd h (Nat.not_lt_zero _)
  | n + 1, s, h, hp, hs => by
    rcases hs s hp with ⟨h1, h2⟩ | ⟨h1, s1, h2, h3, h4⟩
    · exact ⟨s, bind_ok h1 (if_neg Bool.false_ne_true), h2⟩
    · obtain ⟨s2, h5, h6⟩ := whF_inv P μ Q n s1 (by omega) h3 hs
      exact ⟨s2, bind_ok h1 ((if_pos rfl).trans (bind_ok h2 h5)), h6⟩
theorem fuel_eq : fuel = 1000000 := rfl
theorem mapO_ok {f : A → Option B} {g : A → B} : ∀ {xs : List A}, (∀ x ∈ xs, f x = some (g x)) → mapO f xs = some (xs.map g)
  | [], _ => rfl
  | x :: l, h => bind_ok (h x List.mem_cons_self) (bind_ok (mapO_ok fun y hy => h y (List.mem_cons_of_mem _ hy)) rfl)
theorem mapO_all {f : A → Option B} {Q : B → Prop} : ∀ {xs : List A}, (∀ x ∈ xs, ∃ y, f x = some y ∧ Q y) → ∃ ys, mapO f xs = some ys ∧ ys.length = xs.length ∧ ∀ y ∈ ys, Q y
  | [], _ => ⟨[], rfl, rfl, fun _ h => (nomatch h)⟩
  | x :: l, h => by
    obtain ⟨y, h1, h2⟩ := h x List.mem_cons_self
    obtain ⟨ys, h3, h4, h5⟩ := mapO_all (Q := Q) fun z hz => h z (List.mem_cons_of_mem _ hz)
    refine ⟨y :: ys, bind_ok h1 (bind_ok h3 rfl), by rw [List.length_cons, List.length_cons, h4], fun z hz => ?_⟩
    rcases List.mem_cons.mp hz with rfl | hz
    · exact h2
    · exact h5 z hz
theorem itM_congr {f g : A → S → Option S} : ∀ {xs : List A} {s : S}, (∀ x s, x ∈ xs → f x s = g x s) → itM f xs s = itM g xs s
  | [], _, _ => rfl
  | x :: l, s, h => by
    show (f x s).bind _ = (g x s).bind _
    rw [h x s List.mem_cons_self]
    congr 1
    funext t
    exact itM_congr fun y u hy => h y u (List.mem_cons_of_mem _ hy)
theorem ex_itF_way {f : A → S → Option (Fl S R)} {g : Fl S R → Option B} {xs : List A} {s : S} {Q : B → Prop} (P : Nat → S → Prop) (W : Fl S R → Prop) (h0 : P 0 s) (hs : ∀ i x s, xs[i]? = some x → P i s → ∃ r, f x s = some r ∧ match r with | .nx s' => P (i + 1) s' | .bk s' => W (.nx s') | .rt q => W (.rt q)) (he : ∀ s, P xs.length s → W (.nx s)) (hd : ∀ r, W r → ∃ y, g r = some y ∧ Q y) : ∃ y, (itF f xs s).bind g = some y ∧ Q y := by
  obtain ⟨r, h1, h2⟩ := itF_way (f := f) P W xs s 0 h0 (fun i x s hx hp => by rw [Nat.zero_add] at hp ⊢; exact hs i x s hx hp) (fun s h => he s (by rw [Nat.zero_add] at h; exact h))
  obtain ⟨y, h3, h4⟩ := hd r h2
  exact ⟨y, bind_ok h1 h3, h4⟩
theorem rngI_mem {lo hi x : Int} : x ∈ rngI lo hi ↔ lo ≤ x ∧ x < hi := by
  unfold rngI
  rw [List.mem_map]
  constructor
  · rintro ⟨i, hi', rfl⟩
    rw [List.mem_range] at hi'
    omega
  · rintro ⟨h1, h2⟩
    exact ⟨(x - lo).toNat, by rw [List.mem_range]; omega, by omega⟩
theorem rngC_ok {lo hi : Int} (h1 : -(2 ^ 62) ≤ lo) (h2 : lo < 2 ^ 62) (h3 : -(2 ^ 62) ≤ hi) (h4 : hi < 2 ^ 62) : rngC lo hi = some (rngI lo hi) := grd_ok ⟨h1, h2, h3, h4⟩
theorem modC_ok {i j : Int} (h : 0 < j) : modC i j = some (i % j) := grd_ok h
theorem divC_ok {i j : Int} (n : Nat) (h : 0 < j) (h2 : j.natAbs < 2 ^ n) (hn : n ≤ 9000 := by decide) : divC i j = some (i / j) := by
  refine grd_ok ⟨h, ?_⟩
  have := (Nat.log2_lt (by omega : j.natAbs ≠ 0)).mpr h2
  omega
theorem intBits_le {i : Int} {n : Nat} (h : i.natAbs < 2 ^ n) : Builtin.Int.intBits i ≤ n := by
  unfold Builtin.Int.intBits
  split
  · exact Nat.zero_le _
  · next h0 =>
    have e : i.natAbs ≠ 0 := by
      intro e
      apply h0
      have : i = 0 := by omega
      rw [this]; rfl
    have := (Nat.log2_lt e).mpr h
    omega
theorem intBits_iff {i : Int} {n : Nat} : Builtin.Int.intBits i ≤ n ↔ i.natAbs < 2 ^ n := by
  refine ⟨fun h => ?_, intBits_le⟩
  by_cases h0 : i = 0
  · subst h0
    exact Nat.two_pow_pos n
  · unfold Builtin.Int.intBits at h
    rw [if_neg (by simpa using h0)] at h
    exact (Nat.log2_lt (by omega)).mp (by omega)
theorem shlC_ok {i j : Int} (n : Nat) (h0 : 0 ≤ j) (hi : i.natAbs < 2 ^ n) (hj : (n : Int) + j ≤ 2 ^ 27) : shlC i j = some (i * 2 ^ j.toNat) := by
  refine grd_ok ⟨h0, ?_⟩
  have := intBits_le hi
  omega
theorem shrC_ok {i j : Int} (h0 : 0 ≤ j) : shrC i j = some (i / 2 ^ j.toNat) := grd_ok h0
theorem mulC_ok {i j : Int} (h : i.natAbs < 2 ^ 64 ∨ j.natAbs < 2 ^ 64) : mulC i j = some (i * j) := by
  refine grd_ok ?_
  rcases h with h | h
  · exact IntMulOk.of_left (intBits_le h)
  · exact IntMulOk.of_right (intBits_le h)
theorem appC_ok {xs : List A} {x : A} (h : xs.length < 16777216) : appC xs x = some (xs ++ [x]) := grd_ok h
theorem catC_ok {xs ys : List A} (h : xs.length + ys.length ≤ 16777216) : catC xs ys = some (xs ++ ys) := grd_ok h
theorem repC_ok {xs : List A} {k : Int} (h1 : -(2 ^ 63) ≤ k) (h2 : k < 2 ^ 63) (h3 : xs.length * k.toNat ≤ 16777216) : repC xs k = some (List.replicate k.toNat xs).flatten := grd_ok ⟨h1, h2, h3⟩
theorem rep1 {x : A} (n : Nat) : (List.replicate n [x]).flatten = List.replicate n x := by
  induction n with
  | zero => rfl
  | succ n ih => rw [List.replicate_succ, List.flatten_cons, ih]; rfl
theorem repC1_ok {x : A} {k : Int} (h1 : -(2 ^ 63) ≤ k) (h2 : k ≤ 16777216) : repC [x] k = some (List.replicate k.toNat x) := by
  rw [repC_ok h1 (by omega) (by show 1 * k.toNat ≤ _; omega), rep1]
theorem atI_ok {xs : List A} {i : Int} (h0 : 0 ≤ i) (h : i < xs.length) : atI xs i = some (xs[i.toNat]'(by omega)) := by
  have e : i = ((i.toNat : Nat) : Int) := by omega
  have h2 : i.toNat < xs.length := by omega
  have := atI_nat (xs := xs) (j := i.toNat) (v := xs[i.toNat]) (List.getElem?_eq_getElem h2)
  rw [← e] at this
  exact this
theorem atI_get? {xs : List A} {i : Int} (h0 : 0 ≤ i) : atI xs i = xs[i.toNat]? := by
  by_cases h : i < xs.length
  · rw [atI_ok h0 h, List.getElem?_eq_getElem]
  · rw [List.getElem?_eq_none (by omega)]
    unfold atI ixN
    rw [if_pos h0, if_neg h]
    rfl
theorem setC_ok {xs : List A} {i : Int} {x : A} (h0 : 0 ≤ i) (h : i < xs.length) : setC xs i x = some (xs.set i.toNat x) := by
  unfold setC ixN
  rw [if_pos h0, if_pos h]
  rfl
theorem cut_to {xs : List A} {k : Int} (h : 0 ≤ k) : cut xs none (some k) = xs.take k.toNat := by
  unfold cut
  rw [HT.sIx_none]
  have e : k = ((k.toNat : Nat) : Int) := by omega
  rw [e, HT.sIx_nat, List.drop_zero, Nat.sub_zero]
  have : ((k.toNat : Nat) : Int).toNat = k.toNat := by omega
  rw [this]
  by_cases h2 : k.toNat ≤ xs.length
  · rw [Nat.min_eq_left h2]
  · rw [Nat.min_eq_right (by omega), List.take_of_length_le (Nat.le_refl _), List.take_of_length_le (by omega)]
theorem cut_from {xs : List A} {k : Int} (h : 0 ≤ k) : cut xs (some k) none = xs.drop k.toNat := by
  unfold cut
  have e : k = ((k.toNat : Nat) : Int) := by omega
  rw [e, HT.sIx_nat, HT.sIx_none]
  have : ((k.toNat : Nat) : Int).toNat = k.toNat := by omega
  rw [this]
  by_cases h2 : k.toNat ≤ xs.length
  · rw [Nat.min_eq_left h2, List.take_of_length_le (by rw [List.length_drop]; exact Nat.le_refl _)]
  · rw [Nat.min_eq_right (by omega), List.drop_of_length_le (Nat.le_refl _), List.drop_of_length_le (by omega), List.take_nil]
theorem cut_mid {xs : List A} {i j : Int} (h : 0 ≤ i) (h2 : i ≤ j) : cut xs (some i) (some j) = (xs.drop i.toNat).take (j - i).toNat := by
  unfold cut
  have e : i = ((i.toNat : Nat) : Int) := by omega
  have e' : j = ((j.toNat : Nat) : Int) := by omega
  have e3 : (j - i).toNat = j.toNat - i.toNat := by omega
  rw [e3]
  rw [e, e', HT.sIx_nat, HT.sIx_nat]
  have q1 : ((i.toNat : Nat) : Int).toNat = i.toNat := by omega
  have q2 : ((j.toNat : Nat) : Int).toNat = j.toNat := by omega
  rw [q1, q2]
  by_cases h3 : i.toNat ≤ xs.length
  · rw [Nat.min_eq_left h3]
    by_cases h4 : j.toNat ≤ xs.length
    · rw [Nat.min_eq_left h4]
    · rw [Nat.min_eq_right (by omega), List.take_of_length_le (by rw [List.length_drop]; omega), List.take_of_length_le (by rw [List.length_drop]; omega)]
  · have q3 : min i.toNat xs.length = xs.length := by omega
    rw [q3, List.drop_of_length_le (Nat.le_refl _), List.drop_of_length_le (by omega), List.take_nil, List.take_nil]
theorem ex_bind {m : Option A} {f : A → Option B} {x : A} {Q : B → Prop} (h : m = some x) (h2 : ∃ r, f x = some r ∧ Q r) : ∃ r, m.bind f = some r ∧ Q r := by
  subst h
  exact h2
theorem ex_some {x : A} {Q : A → Prop} (h : Q x) : ∃ r, some x = some r ∧ Q r := ⟨x, rfl, h⟩
theorem ex_if {b : Bool} {m1 m2 : Option A} {Q : A → Prop} (h1 : b = true → ∃ r, m1 = some r ∧ Q r) (h2 : b = false → ∃ r, m2 = some r ∧ Q r) : ∃ r, (if b = true then m1 else m2) = some r ∧ Q r := by
  cases b with
  | true => exact h1 rfl
  | false => exact h2 rfl
theorem ex_ifP {p : Prop} [Decidable p] {m1 m2 : Option A} {Q : A → Prop} (h1 : p → ∃ r, m1 = some r ∧ Q r) (h2 : ¬ p → ∃ r, m2 = some r ∧ Q r) : ∃ r, (if decide p = true then m1 else m2) = some r ∧ Q r := by
  by_cases h : p
  · rw [if_pos (decide_eq_true h)]
    exact h1 h
  · rw [if_neg (by simp [h])]
    exact h2 h
theorem ex_itM {f : A → S → Option S} {g : S → Option B} {xs : List A} {s : S} {Q : B → Prop} (P : Nat → S → Prop) (h0 : P 0 s) (hs : ∀ i x s, xs[i]? = some x → P i s → ∃ s', f x s = some s' ∧ P (i + 1) s') (hd : ∀ s', P xs.length s' → ∃ r, g s' = some r ∧ Q r) : ∃ r, (itM f xs s).bind g = some r ∧ Q r := by
  obtain ⟨s', h1, h2⟩ := itM_ok P h0 hs
  exact ex_bind h1 (hd s' h2)
theorem ex_itF {f : A → S → Option (Fl S R)} {g : Fl S R → Option B} {xs : List A} {s : S} {Q : B → Prop} (P : Nat → S → Prop) (h0 : P 0 s) (hs : ∀ i x s, xs[i]? = some x → P i s → ∃ s', f x s = some (.nx s') ∧ P (i + 1) s') (hd : ∀ s', P xs.length s' → ∃ r, g (.nx s') = some r ∧ Q r) : ∃ r, (itF f xs s).bind g = some r ∧ Q r := by
  obtain ⟨s', h1, h2⟩ := itF_ok P h0 hs
  exact ex_bind h1 (hd s' h2)
/-- a turn that goes on -/
def IsN (P : S → Prop) : Fl S R → Prop
  | .nx s => P s
  | _ => False
theorem ex_itN {f : A → S → Option (Fl S R)} {g : Fl S R → Option B} {xs : List A} {s : S} {Q : B → Prop} (P : Nat → S → Prop) (h0 : P 0 s) (hs : ∀ i x s, xs[i]? = some x → P i s → ∃ r, f x s = some r ∧ IsN (P (i + 1)) r) (hd : ∀ s', P xs.length s' → ∃ r, g (.nx s') = some r ∧ Q r) : ∃ r, (itF f xs s).bind g = some r ∧ Q r :=
  ex_itF P h0 (fun i x s hx hp => by
    obtain ⟨r, h1, h2⟩ := hs i x s hx hp
    cases r with
    | nx s' => exact ⟨s', h1, h2⟩
    | bk _ => exact h2.elim
    | rt _ => exact h2.elim) hd
theorem ex_mapO {f : A → Option C} {h : List C → Option B} {xs : List A} {Q : B → Prop} {R : C → Prop} (hs : ∀ x ∈ xs, ∃ y, f x = some y ∧ R y) (hd : ∀ ys, ys.length = xs.length → (∀ y ∈ ys, R y) → ∃ r, h ys = some r ∧ Q r) : ∃ r, (mapO f xs).bind h = some r ∧ Q r := by
  obtain ⟨ys, h1, h2, h3⟩ := mapO_all hs
  exact ex_bind h1 (hd ys h2 h3)
theorem ex_mapG {f : A → Option C} (g : A → C) {h : List C → Option B} {xs : List A} {Q : B → Prop} (hs : ∀ x ∈ xs, f x = some (g x)) (hd : ∃ r, h (xs.map g) = some r ∧ Q r) : ∃ r, (mapO f xs).bind h = some r ∧ Q r := ex_bind (mapO_ok hs) hd
/-- a call whose answer is told by what holds of it -/
theorem ex_call {m : Option A} {f : A → Option B} {R : A → Prop} {Q : B → Prop} (h : ∃ x, m = some x ∧ R x) (h2 : ∀ x, R x → ∃ r, f x = some r ∧ Q r) : ∃ r, m.bind f = some r ∧ Q r := by
  obtain ⟨x, h1, h3⟩ := h
  exact ex_bind h1 (h2 x h3)
theorem of_ex {m : Option A} {x : A} (h : ∃ r, m = some r ∧ r = x) : m = some x := by
  obtain ⟨r, h1, rfl⟩ := h
  exact h1
theorem ex_grd {p : Prop} [Decidable p] {x : A} {f : A → Option B} {Q : B → Prop} (hp : p) (h2 : ∃ r, f x = some r ∧ Q r) : ∃ r, (grd p x).bind f = some r ∧ Q r := ex_bind (grd_ok hp) h2
theorem maxI_eq (i j : Int) : maxI i j = max i j := by unfold maxI; split <;> omega
theorem minI_eq (i j : Int) : minI i j = min i j := by unfold minI; split <;> omega
theorem absI_eq (i : Int) : absI i = (i.natAbs : Int) := by unfold absI; split <;> omega
theorem all_true {l : List A} {p : A → Bool} : (l.map p).all id = true ↔ ∀ x ∈ l, p x = true := by
  rw [List.all_map, List.all_eq_true]
  rfl
end
end Mn
/-! Bt: the bit operators on ints -/
namespace Bt
open PySem PySem.Builtin
theorem not_half (x : Int) : bitNot (x / 2) = bitNot x / 2 := by unfold bitNot; omega
theorem not_mod (x : Int) : bitNot x % 2 = 1 - x % 2 := by unfold bitNot; omega
theorem nand_half (a b : Nat) : (a &&& b) / 2 = a / 2 &&& b / 2 := Nat.and_div_two
theorem nand_mod (a b : Nat) : (a &&& b) % 2 = if a % 2 = 1 ∧ b % 2 = 1 then 1 else 0 := by
  split
  · next h => exact Nat.and_mod_two_eq_one.mpr h
  · next h =>
    have : ¬ (a &&& b) % 2 = 1 := fun e => h (Nat.and_mod_two_eq_one.mp e)
    omega
theorem and_nn {x y : Int} (hx : 0 ≤ x) (hy : 0 ≤ y) : bitAnd x y = ((x.toNat &&& y.toNat : Nat) : Int) := by
  unfold bitAnd
  rw [decide_eq_true hx, decide_eq_true hy]
theorem and_np {x y : Int} (hx : 0 ≤ x) (hy : ¬ 0 ≤ y) : bitAnd x y = x - ((x.toNat &&& (bitNot y).toNat : Nat) : Int) := by
  unfold bitAnd
  rw [decide_eq_true hx, decide_eq_false hy]
theorem and_pn {x y : Int} (hx : ¬ 0 ≤ x) (hy : 0 ≤ y) : bitAnd x y = y - ((y.toNat &&& (bitNot x).toNat : Nat) : Int) := by
  unfold bitAnd
  rw [decide_eq_false hx, decide_eq_true hy]
theorem and_pp {x y : Int} (hx : ¬ 0 ≤ x) (hy : ¬ 0 ≤ y) : bitAnd x y = bitNot (((bitNot x).toNat ||| (bitNot y).toNat : Nat) : Int) := by
  unfold bitAnd
  rw [decide_eq_false hx, decide_eq_false hy]
theorem nor_half (a b : Nat) : (a ||| b) / 2 = a / 2 ||| b / 2 := Nat.or_div_two
theorem nor_mod (a b : Nat) : (a ||| b) % 2 = if a % 2 = 1 ∨ b % 2 = 1 then 1 else 0 := by
  split
  · next h => exact Nat.or_mod_two_eq_one.mpr h
  · next h =>
    have : ¬ (a ||| b) % 2 = 1 := fun e => h (Nat.or_mod_two_eq_one.mp e)
    omega
theorem and_half (x y : Int) : bitAnd x y / 2 = bitAnd (x / 2) (y / 2) := by
  by_cases hx : 0 ≤ x <;> by_cases hy : 0 ≤ y
  · rw [and_nn hx hy, and_nn (by omega) (by omega)]
    have e1 : (x / 2).toNat = x.toNat / 2 := by omega
    have e2 : (y / 2).toNat = y.toNat / 2 := by omega
    rw [e1, e2, ← nand_half]
    omega
  · rw [and_np hx hy, and_np (by omega) (by omega), not_half]
    have e1 : (x / 2).toNat = x.toNat / 2 := by omega
    have e2 : (bitNot y / 2).toNat = (bitNot y).toNat / 2 := by unfold bitNot; omega
    rw [e1, e2, ← nand_half]
    have h1 := nand_mod x.toNat (bitNot y).toNat
    have h2 : (x.toNat &&& (bitNot y).toNat) ≤ x.toNat := Nat.and_le_left
    split at h1 <;> omega
  · rw [and_pn hx hy, and_pn (by omega) (by omega), not_half]
    have e1 : (y / 2).toNat = y.toNat / 2 := by omega
    have e2 : (bitNot x / 2).toNat = (bitNot x).toNat / 2 := by unfold bitNot; omega
    rw [e1, e2, ← nand_half]
    have h1 := nand_mod y.toNat (bitNot x).toNat
    split at h1 <;> omega
  · rw [and_pp hx hy, and_pp (by omega) (by omega), not_half, not_half]
    have e1 : (bitNot x / 2).toNat = (bitNot x).toNat / 2 := by unfold bitNot; omega
    have e2 : (bitNot y / 2).toNat = (bitNot y).toNat / 2 := by unfold bitNot; omega
    rw [e1, e2, ← nor_half]
    generalize (bitNot x).toNat ||| (bitNot y).toNat = z
    unfold bitNot
    omega
theorem and_mod (x y : Int) : bitAnd x y % 2 = if x % 2 = 1 ∧ y % 2 = 1 then 1 else 0 := by
  by_cases hx : 0 ≤ x <;> by_cases hy : 0 ≤ y
  · rw [and_nn hx hy]
    have h1 := nand_mod x.toNat y.toNat
    split at h1 <;> split <;> omega
  · rw [and_np hx hy]
    have h1 := nand_mod x.toNat (bitNot y).toNat
    have h2 : (x.toNat &&& (bitNot y).toNat) ≤ x.toNat := Nat.and_le_left
    have h3 : ((bitNot y).toNat : Int) = -y - 1 := by unfold bitNot; omega
    split at h1 <;> split <;> omega
  · rw [and_pn hx hy]
    have h1 := nand_mod y.toNat (bitNot x).toNat
    have h3 : ((bitNot x).toNat : Int) = -x - 1 := by unfold bitNot; omega
    split at h1 <;> split <;> omega
  · rw [and_pp hx hy]
    have h1 := nor_mod (bitNot x).toNat (bitNot y).toNat
    have h3 : ((bitNot x).toNat : Int) = -x - 1 := by unfold bitNot; omega
    have h4 : ((bitNot y).toNat : Int) = -y - 1 := by unfold bitNot; omega
    rw [not_mod]
    split at h1 <;> split <;> omega
theorem or_half (x y : Int) : bitOr x y / 2 = bitOr (x / 2) (y / 2) := by
  unfold bitOr
  rw [← not_half, and_half, ← not_half, ← not_half]
theorem or_mod (x y : Int) : bitOr x y % 2 = if x % 2 = 1 ∨ y % 2 = 1 then 1 else 0 := by
  unfold bitOr
  rw [not_mod, and_mod, not_mod, not_mod]
  split <;> split <;> omega
theorem xor_half (x y : Int) : bitXor x y / 2 = bitXor (x / 2) (y / 2) := by
  unfold bitXor
  rw [← or_half, ← and_half]
  have h1 := or_mod x y
  have h2 := and_mod x y
  split at h1 <;> split at h2 <;> omega
theorem xor_mod (x y : Int) : bitXor x y % 2 = (x + y) % 2 := by
  unfold bitXor
  have h1 := or_mod x y
  have h2 := and_mod x y
  split at h1 <;> split at h2 <;> omega
theorem or_nn {x y : Int} (hx : 0 ≤ x) (hy : 0 ≤ y) : bitOr x y = ((x.toNat ||| y.toNat : Nat) : Int) := L2.bitOr_nn hx hy
/-- what divides -/
theorem dvd_succ (k : Nat) (x : Int) : (2 : Int) ^ (k + 1) ∣ x ↔ x % 2 = 0 ∧ (2 : Int) ^ k ∣ x / 2 := by
  have e : (2 : Int) ^ (k + 1) = 2 ^ k * 2 := Int.pow_succ 2 k
  rw [e]
  constructor
  · rintro ⟨c, rfl⟩
    have h1 : 2 ^ k * 2 * c = 2 * (2 ^ k * c) := by rw [Int.mul_comm (2 ^ k) 2, Int.mul_assoc]
    rw [h1]
    refine ⟨by omega, ⟨c, by omega⟩⟩
  · rintro ⟨h, c, hc⟩
    refine ⟨c, ?_⟩
    have h1 : 2 ^ k * 2 * c = 2 * (2 ^ k * c) := by rw [Int.mul_comm (2 ^ k) 2, Int.mul_assoc]
    rw [h1, ← hc]
    omega
theorem dvd_or (k : Nat) (x y : Int) : (2 : Int) ^ k ∣ bitOr x y ↔ (2 : Int) ^ k ∣ x ∧ (2 : Int) ^ k ∣ y := by
  induction k generalizing x y with
  | zero => simp
  | succ k ih =>
    rw [dvd_succ, dvd_succ, dvd_succ, or_half, ih, or_mod]
    split
    · constructor
      · intro h; omega
      · intro h; omega
    · constructor
      · intro h; exact ⟨⟨by omega, h.2.1⟩, ⟨by omega, h.2.2⟩⟩
      · intro h; exact ⟨rfl, h.1.2, h.2.2⟩
/-- the lowest bit -/
theorem low_nat : ∀ (n : Nat), 0 < n → ∃ v : Nat, n - (n &&& (n - 1)) = 2 ^ v ∧ 2 ^ v ∣ n ∧ ¬ 2 ^ (v + 1) ∣ n := by
  intro n
  induction n using Nat.strongRecOn with
  | _ n ih =>
    intro hn
    have hh := nand_half n (n - 1)
    have hm := nand_mod n (n - 1)
    by_cases h : n % 2 = 1
    · refine ⟨0, ?_, by simp, by rw [Nat.pow_succ]; omega⟩
      have e : (n - 1) / 2 = n / 2 := by omega
      rw [e, Nat.and_self] at hh
      have : ¬ (n % 2 = 1 ∧ (n - 1) % 2 = 1) := by omega
      rw [if_neg this] at hm
      show _ = 1
      omega
    · obtain ⟨v, h1, h2, h3⟩ := ih (n / 2) (by omega) (by omega)
      have e : (n - 1) / 2 = n / 2 - 1 := by omega
      rw [e] at hh
      have : ¬ (n % 2 = 1 ∧ (n - 1) % 2 = 1) := by omega
      rw [if_neg this] at hm
      have hle : (n / 2 &&& (n / 2 - 1)) ≤ n / 2 := Nat.and_le_left
      refine ⟨v + 1, ?_, ?_, ?_⟩
      · rw [Nat.pow_succ]; omega
      · obtain ⟨c, hc⟩ := h2
        exact ⟨c, by rw [Nat.pow_succ, Nat.mul_assoc, Nat.mul_comm 2 c, ← Nat.mul_assoc, ← hc]; omega⟩
      · rintro ⟨c, hc⟩
        apply h3
        refine ⟨c, ?_⟩
        rw [Nat.pow_succ, Nat.mul_assoc, Nat.mul_comm 2 c, ← Nat.mul_assoc] at hc
        omega
theorem low_int {t : Int} (ht : t ≠ 0) : ∃ v : Nat, bitAnd t (-t) = 2 ^ v ∧ (2 : Int) ^ v ∣ t ∧ ¬ (2 : Int) ^ (v + 1) ∣ t := by
  obtain ⟨v, h1, h2, h3⟩ := low_nat t.natAbs (by omega)
  refine ⟨v, ?_, ?_, ?_⟩
  · have hle : (t.natAbs &&& (t.natAbs - 1)) ≤ t.natAbs := Nat.and_le_left
    have e : ((2 : Int) ^ v) = ((2 ^ v : Nat) : Int) := by simp
    rw [e, ← h1]
    by_cases hp : 0 ≤ t
    · rw [and_np hp (by omega)]
      have e1 : t.toNat = t.natAbs := by omega
      have e2 : (bitNot (-t)).toNat = t.natAbs - 1 := by unfold bitNot; omega
      rw [e1, e2]
      omega
    · rw [and_pn hp (by omega)]
      have e1 : (-t).toNat = t.natAbs := by omega
      have e2 : (bitNot t).toNat = t.natAbs - 1 := by unfold bitNot; omega
      rw [e1, e2]
      omega
  · rw [← Int.natAbs_dvd_natAbs]
    simpa [Int.natAbs_pow] using h2
  · rw [← Int.natAbs_dvd_natAbs]
    simpa [Int.natAbs_pow] using h3
theorem bits_pow (v : Nat) : Mn.bitsI (2 ^ v) = (v : Int) + 1 := by
  unfold Mn.bitsI Builtin.Int.intBits
  have h : (2 : Int) ^ v ≠ 0 := by
    have : 0 < (2 : Int) ^ v := Int.pow_pos (by decide)
    omega
  rw [if_neg (by simpa using h)]
  have e : ((2 : Int) ^ v).natAbs = 2 ^ v := by simp [Int.natAbs_pow]
  rw [e, Nat.log2_two_pow]
  omega
end Bt
/-! Ls: lists by place -/
namespace Mn
open PySem L2
section
variable {A : Type}
def ls (m : Nat) (f : Nat → A) : List A := (List.range m).map f
theorem ls_len (m : Nat) (f : Nat → A) : (ls m f).length = m := by unfold ls; rw [List.length_map, List.length_range]
theorem ls_congr {m : Nat} {f g : Nat → A} (h : ∀ i, i < m → f i = g i) : ls m f = ls m g := by
  unfold ls
  apply List.map_congr_left
  intro i hi
  exact h i (List.mem_range.mp hi)
theorem ls_get {m : Nat} {f : Nat → A} {k : Nat} (h : k < m) : (ls m f)[k]? = some (f k) := by
  unfold ls
  rw [List.getElem?_map, List.getElem?_range h]
  rfl
theorem ls_at {m : Nat} {f : Nat → A} {k : Nat} (h : k < m) : atI (ls m f) (k : Int) = some (f k) := by
  rw [atI_get? (by omega), Int.toNat_natCast, ls_get h]
theorem ls_set {m : Nat} {f : Nat → A} {k : Nat} {c : A} (h : k < m) : setC (ls m f) (k : Int) c = some (ls m fun i => if i = k then c else f i) := by
  rw [setC_ok (by omega) (by rw [ls_len]; omega)]
  congr 1
  unfold ls
  apply List.ext_getElem?
  intro i
  rw [List.getElem?_set, List.getElem?_map, List.getElem?_map, Int.toNat_natCast]
  by_cases hi : i < m
  · rw [List.getElem?_range hi, List.length_map, List.length_range]
    by_cases e : k = i
    · subst e
      simp [h]
    · have : ¬ i = k := fun z => e z.symm
      simp [e, this]
  · rw [List.getElem?_eq_none (by rw [List.length_range]; omega)]
    by_cases e : k = i
    · omega
    · simp [e]
theorem ls_snoc (m : Nat) (f : Nat → A) : ls m f ++ [f m] = ls (m + 1) f := by
  unfold ls
  rw [List.range_succ, List.map_append]
  rfl
theorem ls_zero (f : Nat → A) : ls 0 f = [] := rfl
theorem ls_of (xs : List A) (d : A) : xs = ls xs.length fun i => xs.getD i d := by
  apply List.ext_getElem?
  intro i
  by_cases hi : i < xs.length
  · rw [ls_get hi, List.getElem?_eq_getElem hi]
    simp [List.getD, hi]
  · rw [List.getElem?_eq_none (by omega), List.getElem?_eq_none (by rw [ls_len]; omega)]
theorem ls_map {B : Type} (m : Nat) (f : Nat → A) (g : A → B) : (ls m f).map g = ls m fun i => g (f i) := by
  unfold ls
  rw [List.map_map]
  rfl
theorem ls_rep (m : Nat) (x : A) : List.replicate m x = ls m fun _ => x := by
  apply List.ext_getElem?
  intro i
  by_cases hi : i < m
  · rw [ls_get hi, List.getElem?_replicate, if_pos hi]
  · rw [List.getElem?_eq_none (by rw [List.length_replicate]; omega), List.getElem?_eq_none (by rw [ls_len]; omega)]
theorem at_D {xs : List A} {k : Nat} (d : A) (h : k < xs.length) : atI xs (k : Int) = some (xs.getD k d) := by
  rw [atI_ok (by omega) (by omega)]
  simp [List.getD, h]
theorem getD_ls {m : Nat} {f : Nat → A} {k : Nat} (d : A) (h : k < m) : (ls m f).getD k d = f k := by
  rw [List.getD_eq_getElem?_getD, ls_get h]
  rfl
theorem getD_mem {xs : List A} {k : Nat} (d : A) (h : k < xs.length) : xs.getD k d ∈ xs := by
  have : xs.getD k d = xs[k] := by simp [List.getD, h]
  rw [this]
  exact List.getElem_mem h
theorem mapO_ls {B : Type} {m : A → Option B} {xs : List A} {g : Nat → B} (h : ∀ (i : Nat) x, xs[i]? = some x → m x = some (g i)) : mapO m xs = some (ls xs.length g) := by
  have key : ∀ (l : List A) (g : Nat → B), (∀ (i : Nat) x, l[i]? = some x → m x = some (g i)) → mapO m l = some (ls l.length g) := by
    intro l
    induction l with
    | nil => intro g _; rfl
    | cons x l ih =>
      intro g h
      refine bind_ok (h 0 x rfl) (bind_ok (ih (fun i => g (i + 1)) fun i y hy => h (i + 1) y hy) ?_)
      unfold ls
      rw [List.length_cons, List.range_succ_eq_map, List.map_cons, List.map_map]
      rfl
  exact key xs g h
end
end Mn
/-! Eqd: == of data -/
namespace Mn
open PySem L2
structure EqT {A : Type} (f : A → D) (n : Nat) (P : A → Prop) : Prop where
  plain : ∀ x, plainD (f x) = true
  lay : ∀ x, P x → PyData.canLay0 (py (f x)) = true
  dep : ∀ x, PyData.depth (py (f x)) ≤ n
  eq : ∀ x y, PyData.eqv (py (f x)) (py (f y)) = true ↔ x = y
section
variable {A A1 A2 A3 A4 : Type} {f : A → D} {f1 : A1 → D} {f2 : A2 → D} {f3 : A3 → D} {f4 : A4 → D} {n n1 n2 n3 n4 : Nat} {P : A → Prop} {P1 : A1 → Prop} {P2 : A2 → Prop} {P3 : A3 → Prop} {P4 : A4 → Prop}
theorem eqC_ok [DecidableEq A] (h : EqT f n P) (hn : n ≤ 64) {x y : A} (hx : P x) (hy : P y) : eqC (f x) (f y) = some (decide (x = y)) := by
  unfold eqC SeqAt.shaped
  rw [grd_ok ⟨h.plain x, h.plain y, by rw [h.lay x hx]; simp; exact Nat.le_trans (h.dep x) hn, by rw [h.lay y hy]; simp; exact Nat.le_trans (h.dep y) hn⟩]
  congr 1
  rw [Bool.eq_iff_iff, h.eq, decide_eq_true_iff]
theorem eqT_int : EqT D.int 1 (fun _ => True) := ⟨fun _ => by simp only [plainD], fun _ _ => by simp only [py, PyData.canLay0], fun _ => by simp only [py, PyData.depth]; decide, fun x y => by simp only [py, PyData.eqv]; exact beq_iff_eq⟩
theorem eqT_bl : EqT D.bl 1 (fun _ => True) := ⟨fun _ => by simp only [plainD], fun _ _ => by simp only [py, PyData.canLay0], fun _ => by simp only [py, PyData.depth]; decide, fun x y => by simp only [py, PyData.eqv]; exact beq_iff_eq⟩
theorem eqT_str : EqT D.str 1 (fun s => PyData.strOk s = true) := ⟨fun _ => by simp only [plainD], fun _ h => by simp only [py, PyData.canLay0]; exact h, fun _ => by simp only [py, PyData.depth]; decide, fun x y => by simp only [py, PyData.eqv]; exact beq_iff_eq⟩
theorem plains (h : EqT f n P) : ∀ xs : List A, plainDs (xs.map f) = true
  | [] => by simp only [List.map_nil, plainDs]
  | x :: l => by rw [List.map_cons]; simp only [plainDs]; rw [h.plain x, plains h l]; rfl
theorem lays (h : EqT f n P) : ∀ xs : List A, (∀ x ∈ xs, P x) → PyData.canLayAll0 (pys (xs.map f)) = true
  | [], _ => by simp only [List.map_nil, pys, PyData.canLayAll0]
  | x :: l, hp => by rw [List.map_cons]; simp only [pys, PyData.canLayAll0]; rw [h.lay x (hp x List.mem_cons_self), lays h l fun y hy => hp y (List.mem_cons_of_mem _ hy)]; rfl
theorem deps (h : EqT f n P) : ∀ xs : List A, PyData.depthAll (pys (xs.map f)) ≤ n
  | [] => by simp only [List.map_nil, pys, PyData.depthAll]; omega
  | x :: l => by
    rw [List.map_cons]
    simp only [pys, PyData.depthAll]
    have := h.dep x
    have := deps h l
    omega
theorem eqs (h : EqT f n P) : ∀ xs ys : List A, PyData.eqvAll (pys (xs.map f)) (pys (ys.map f)) = true ↔ xs = ys
  | [], [] => by simp [pys, PyData.eqvAll]
  | [], y :: ys => by simp [pys, PyData.eqvAll]
  | x :: xs, [] => by simp [pys, PyData.eqvAll]
  | x :: xs, y :: ys => by
    rw [List.map_cons, List.map_cons]
    simp only [pys, PyData.eqvAll, Bool.and_eq_true]
    rw [h.eq, eqs h]
    simp
theorem eqT_l (h : EqT f n P) : EqT (lD f) (n + 1) (fun xs => ∀ x ∈ xs, P x) := ⟨fun xs => by simp only [lD, plainD]; exact plains h xs, fun xs hp => by simp only [lD, py, PyData.canLay0]; exact lays h xs hp, fun xs => by
  simp only [lD, py, PyData.depth]
  have := deps h xs
  omega, fun xs ys => by simp only [lD, py, PyData.eqv]; exact eqs h xs ys⟩
theorem eqT_t2 (h1 : EqT f1 n P1) (h2 : EqT f2 n P2) : EqT (pD2 f1 f2) (n + 1) (fun p => P1 p.1 ∧ P2 p.2) := ⟨fun p => by simp only [pD2, plainD, plainDs]; rw [h1.plain, h2.plain]; rfl, fun p hp => by simp only [pD2, py, pys, PyData.canLay0, PyData.canLayAll0]; rw [h1.lay _ hp.1, h2.lay _ hp.2]; rfl, fun p => by
  simp only [pD2, py, pys, PyData.depth, PyData.depthAll]
  have := h1.dep p.1
  have := h2.dep p.2
  omega, fun p q => by
  simp only [pD2, py, pys, PyData.eqv, PyData.eqvAll, Bool.and_eq_true, Bool.and_true]
  rw [h1.eq, h2.eq, Prod.ext_iff]⟩
theorem eqT_t3 (h1 : EqT f1 n P1) (h2 : EqT f2 n P2) (h3 : EqT f3 n P3) : EqT (pD3 f1 f2 f3) (n + 1) (fun p => P1 p.1 ∧ P2 p.2.1 ∧ P3 p.2.2) := ⟨fun p => by simp only [pD3, plainD, plainDs]; rw [h1.plain, h2.plain, h3.plain]; rfl, fun p hp => by simp only [pD3, py, pys, PyData.canLay0, PyData.canLayAll0]; rw [h1.lay _ hp.1, h2.lay _ hp.2.1, h3.lay _ hp.2.2]; rfl, fun p => by
  simp only [pD3, py, pys, PyData.depth, PyData.depthAll]
  have := h1.dep p.1
  have := h2.dep p.2.1
  have := h3.dep p.2.2
  omega, fun p q => by
  simp only [pD3, py, pys, PyData.eqv, PyData.eqvAll, Bool.and_eq_true, Bool.and_true]
  rw [h1.eq, h2.eq, h3.eq, Prod.ext_iff, Prod.ext_iff]⟩
theorem eqT_t4 (h1 : EqT f1 n P1) (h2 : EqT f2 n P2) (h3 : EqT f3 n P3) (h4 : EqT f4 n P4) : EqT (pD4 f1 f2 f3 f4) (n + 1) (fun p => P1 p.1 ∧ P2 p.2.1 ∧ P3 p.2.2.1 ∧ P4 p.2.2.2) := ⟨fun p => by simp only [pD4, plainD, plainDs]; rw [h1.plain, h2.plain, h3.plain, h4.plain]; rfl, fun p hp => by simp only [pD4, py, pys, PyData.canLay0, PyData.canLayAll0]; rw [h1.lay _ hp.1, h2.lay _ hp.2.1, h3.lay _ hp.2.2.1, h4.lay _ hp.2.2.2]; rfl, fun p => by
  simp only [pD4, py, pys, PyData.depth, PyData.depthAll]
  have := h1.dep p.1
  have := h2.dep p.2.1
  have := h3.dep p.2.2.1
  have := h4.dep p.2.2.2
  omega, fun p q => by
  simp only [pD4, py, pys, PyData.eqv, PyData.eqvAll, Bool.and_eq_true, Bool.and_true]
  rw [h1.eq, h2.eq, h3.eq, h4.eq, Prod.ext_iff, Prod.ext_iff, Prod.ext_iff]⟩
theorem EqT.up (h : EqT f n P) {m : Nat} (hm : n ≤ m) : EqT f m P := ⟨h.plain, h.lay, fun x => Nat.le_trans (h.dep x) hm, h.eq⟩
/-- optional data: the values are not None -/
theorem eqT_o (h : EqT f n P) (h0 : ∀ x, PyData.eqv .none (py (f x)) = false ∧ PyData.eqv (py (f x)) .none = false) (hn : 1 ≤ n) : EqT (oD f) n (fun o => ∀ x, o = some x → P x) := ⟨fun o => by
  cases o with
  | none => simp only [oD, plainD]
  | some x => simp only [oD]; exact h.plain x, fun o hp => by
  cases o with
  | none => simp only [oD, py, PyData.canLay0]
  | some x => simp only [oD]; exact h.lay x (hp x rfl), fun o => by
  cases o with
  | none => simp only [oD, py, PyData.depth]; omega
  | some x => simp only [oD]; exact h.dep x, fun o o' => by
  cases o with
  | none =>
    cases o' with
    | none => simp only [oD, py, PyData.eqv]
    | some y => simp only [oD, py]; rw [(h0 y).1]; simp
  | some x =>
    cases o' with
    | none => simp only [oD, py]; rw [(h0 x).2]; simp
    | some y => simp only [oD]; rw [h.eq]; simp⟩
theorem h0_int (x : Int) : PyData.eqv .none (py (D.int x)) = false ∧ PyData.eqv (py (D.int x)) .none = false := by simp only [py, PyData.eqv]; exact ⟨trivial, trivial⟩
theorem h0_t2 (x : A1 × A2) : PyData.eqv .none (py (pD2 f1 f2 x)) = false ∧ PyData.eqv (py (pD2 f1 f2 x)) .none = false := by simp only [pD2, py, PyData.eqv]; exact ⟨trivial, trivial⟩
theorem h0_l (x : List A) : PyData.eqv .none (py (lD f x)) = false ∧ PyData.eqv (py (lD f x)) .none = false := by simp only [lD, py, PyData.eqv]; exact ⟨trivial, trivial⟩
end
end Mn
namespace K61
open PySem L2 Mn
open Evl (Ex)
def m_l_cell (script_ : List Int) (k_ : Int) : Option Int :=
  if (decide (k_ < (script_.length : Int))) = true then (
  (atI script_ k_).bind fun x3 =>
  some x3
  ) else (
  some 0
  )
def m_l_row (cell_here_ : Int) (count_ : Int) (bound_ : Int) : Option (List Int) :=
  bnd ((absI cell_here_) : Int) fun rest_1 =>
  bnd (((cell_here_ % 1000003) + 1) : Int) fun mixed_3 =>
  (rngC 0 count_).bind fun r7 =>
  (itM (fun (k_8 : Int) (s9 : Int × Int × (List Int)) => (if (decide (bound_ ≤ s9.1)) = true then ( (modC s9.1 bound_).bind fun n1022 => (appC s9.2.2 n1022).bind fun l1023 => (divC s9.1 bound_).bind fun n1025 => some (n1025, s9.2.1, l1023) ) else ( bnd (((((s9.2.1 * 48271) + (11 * k_8)) + 7) % 2147483647) : Int) fun mixed_1028 => (modC ((mixed_1028 * 2862933555777941757) / 1024) bound_).bind fun n1030 => (appC s9.2.2 n1030).bind fun l1031 => some (s9.1, mixed_1028, l1031) ) : Option (Int × Int × (List Int)))) r7 (rest_1, mixed_3, ([] : List Int))).bind fun r10 =>
  some r10.2.2
def m_nearest (a_ : Int) (b_ : Int) : Option Int :=
  if (decide (0 ≤ a_)) = true then (
  (divC ((2 * a_) + b_) (2 * b_)).bind fun n3 =>
  some n3
  ) else (
  (divC (b_ - (2 * a_)) (2 * b_)).bind fun n6 =>
  bnd ((-n6) : Int) fun x_7 =>
  some x_7
  )
def m_quantize (numerators_ : List Int) (denominator_ : Int) (precision_ : Int) : Option (Option ((List Int) × Int)) :=
  (shlC 1 (precision_ - 1)).bind fun n1 =>
  bnd ((n1 - 1) : Int) fun limit_2 =>
  (rngC 0 (15 + 1)).bind fun r4 =>
  (itF (fun (step_5 : Int) (s6 : Unit) => (bnd ((15 - step_5) : Int) fun shift_1017 => (grd (numerators_.length ≤ 16777216) ()).bind fun z1021 => (mapO (fun x_1019 => ((shlC x_1019 shift_1017).bind fun n1022 => (m_nearest n1022 denominator_).bind fun c1023 => some c1023)) numerators_).bind fun l1020 => (grd (l1020.length ≤ 16777216) ()).bind fun z1028 => (mapO (fun c_1026 => (some (absI c_1026))) l1020).bind fun l1027 => (maxL l1027).bind fun m1029 => if (decide (m1029 ≤ limit_2)) = true then ( if (decide (m1029 = 0)) = true then ( some (.rt (none : Option ((List Int) × Int))) ) else ( some (.rt (some (l1020, shift_1017))) ) ) else ( some (.nx ()) ) : Option (Fl (Unit) (Option ((List Int) × Int))))) r4 ()).bind fun r7 => match r7 with
  | .bk _ => none | .rt q1055 => some q1055 | .nx s1054 =>
  some (none : Option ((List Int) × Int))
def m_l_rounded (numerator_ : Int) (denominator_ : Int) (moved_ : Int) : Option Int :=
  (shlC 1 moved_).bind fun n1 =>
  (mulC (absI numerator_) n1).bind fun n2 =>
  (divC ((n2 * 2) + denominator_) (denominator_ * 2)).bind fun n3 =>
  if (decide (numerator_ < 0)) = true then (
  bnd ((-n3) : Int) fun x_7 =>
  some x_7
  ) else (
  some n3
  )
def m_l_expected (numerators_ : List Int) (denominator_ : Int) (digits_ : Int) : Option (Option ((List Int) × Int)) :=
  (shlC 1 (digits_ - 1)).bind fun n1 =>
  bnd ((n1 - 1) : Int) fun bound_2 =>
  (itF (fun (moved_4 : Int) (s5 : Unit) => ((grd (numerators_.length ≤ 16777216) ()).bind fun z1018 => (mapO (fun x_1016 => ((m_l_rounded x_1016 denominator_ moved_4).bind fun c1019 => some c1019)) numerators_).bind fun l1017 => (grd (l1017.length ≤ 16777216) ()).bind fun z1024 => (mapO (fun x_1022 => (some (absI x_1022))) l1017).bind fun l1023 => (maxL l1023).bind fun m1025 => if (decide (m1025 ≤ bound_2)) = true then ( if (decide (m1025 = 0)) = true then ( some (.rt (none : Option ((List Int) × Int))) ) else ( some (.rt (some (l1017, moved_4))) ) ) else ( some (.nx ()) ) : Option (Fl (Unit) (Option ((List Int) × Int))))) [15, 14, 13, 12, 11, 10, 9, 8, 7, 6, 5, 4, 3, 2, 1, 0] ()).bind fun r6 => match r6 with
  | .bk _ => none | .rt q1051 => some q1051 | .nx s1050 =>
  some (none : Option ((List Int) × Int))
def m_l_integer (value_ : Int) : Option Bool :=
  bnd ((true && (!false)) : Bool) fun x_1 =>
  some x_1
def m_l_integers (values_ : List Int) : Option Bool :=
  (grd (values_.length ≤ 16777216) ()).bind fun z4 =>
  (mapO (fun value_2 => ((m_l_integer value_2).bind fun c5 => some c5)) values_).bind fun l3 =>
  bnd ((l3.all id) : Bool) fun x_6 =>
  some x_6
def m_law (script_ : List Int) : Option Bool :=
  (m_l_cell script_ 0).bind fun c1 =>
  (atI [3, 1000, 1000000000000] ((c1 / 8) % 3)).bind fun x3 =>
  bnd (((1 + (c1 % 8)) + (24 * (b2 (decide (((c1 / 96) % 6) = 1))))) : Int) fun count_5 =>
  (m_l_cell script_ 1).bind fun c10 =>
  (m_l_row c10 count_5 ((2 * x3) + 1)).bind fun c11 =>
  (grd (c11.length ≤ 16777216) ()).bind fun z9 =>
  (mapO (fun x_7 => (some (x_7 - x3))) c11).bind fun l8 =>
  (m_l_cell script_ 2).bind fun c14 =>
  bnd ((1 + (c14 % 1000000000)) : Int) fun denominator_15 =>
  (if (decide (((c1 / 24) % 4) = 1)) = true then ((m_l_cell script_ 2).bind fun c1020 => bnd ((1 + (c1020 % 8)) : Int) fun denominator_1021 => some (denominator_1021)) else (some (denominator_15)) : Option (Int)).bind fun s1018 =>
  (m_l_cell script_ 3).bind fun c1026 =>
  bnd ((2 + (c1026 % 14)) : Int) fun digits_1027 =>
  (m_quantize l8 s1018 digits_1027).bind fun c1037 =>
  (m_l_expected l8 s1018 digits_1027).bind fun c1049 =>
  if (!decide (l8 = l8)) = true then (
  some false
  ) else (
  (optS (c1049) (
  (optS (c1037) (
  some true
  ) (fun y1065 =>
  some false
  ))
  ) (fun y1060 =>
  (optS (c1037) (
  some false
  ) (fun y1088 =>
  if (false || (!decide (2 = 2))) = true then (
  some false
  ) else (
  (m_l_integers y1088.1).bind fun c1105 =>
  (andC c1105 ((m_l_integer y1088.2).bind fun c1106 => (andC c1106 ((eqC ((pD2 (lD D.int) D.int) y1088) ((pD2 (lD D.int) D.int) y1060)).bind fun q1107 => some q1107)).bind fun b1108 => some b1108)).bind fun b1109 =>
  some b1109
  )
  ))
  ))
  )
end K61
-- COMMON: Cm Bt Ls Eqd
namespace K61
open PySem L2 Mn
theorem cell_ok (ns : List Int) {k : Int} (h : 0 ≤ k) : ∃ c, m_l_cell ns k = some c ∧ True := by
  unfold m_l_cell
  refine ex_ifP (fun hk => ?_) (fun _ => ex_some trivial)
  exact ex_bind (atI_ok h hk) (ex_some trivial)
theorem row_ok (c : Int) {n b : Int} (h0 : 0 ≤ n) (h1 : n ≤ 1000) (hb : 0 < b) (hb2 : b < 2 ^ 60) : ∃ xs, m_l_row c n b = some xs ∧ xs.length = n.toNat ∧ ∀ x ∈ xs, 0 ≤ x ∧ x < b := by
  unfold m_l_row
  simp only [bnd_eq]
  refine ex_bind (rngC_ok (by omega) (by omega) (by omega) (by omega)) ?_
  refine ex_itM (fun i (s : Int × Int × List Int) => s.2.2.length = i ∧ ∀ x ∈ s.2.2, 0 ≤ x ∧ x < b) ⟨rfl, fun _ h => (nomatch h)⟩ (fun i x s hx hp => ?_) (fun s p => ex_some ⟨?_, p.2⟩)
  · have hi := (rngI_at hx).2
    have hm : ∀ y : Int, 0 ≤ y % b ∧ y % b < b := fun y => ⟨Int.emod_nonneg _ (by omega), Int.emod_lt_of_pos _ hb⟩
    have ha : ∀ y : Int, ∀ x ∈ s.2.2 ++ [y % b], 0 ≤ x ∧ x < b := by
      intro y x hx
      rcases List.mem_append.mp hx with h | h
      · exact hp.2 x h
      · rcases List.mem_singleton.mp h with rfl
        exact hm y
    refine ex_ifP (fun _ => ?_) (fun _ => ?_)
    · refine ex_bind (modC_ok hb) (ex_bind (appC_ok (by omega)) (ex_bind (divC_ok 64 hb (by omega)) (ex_some ⟨?_, ha _⟩)))
      rw [List.length_append, hp.1]; rfl
    · refine ex_bind (modC_ok hb) (ex_bind (appC_ok (by omega)) (ex_some ⟨?_, ha _⟩))
      rw [List.length_append, hp.1]; rfl
  · rw [p.1, rngI_length, Int.sub_zero]

def rd (d x : Int) (mv : Nat) : Int := if 0 ≤ x then (2 * (x * 2 ^ mv) + d) / (2 * d) else -((d - 2 * (x * 2 ^ mv)) / (2 * d))
theorem pow0 (n : Nat) : (0 : Int) < 2 ^ n := Int.pow_pos (by decide)
theorem nearest_ok {d x : Int} {mv : Nat} (hd : 0 < d) (hd2 : d < 2 ^ 40) (hx : x.natAbs < 2 ^ 64) (hm : mv ≤ 15) : ((shlC x (mv : Int)).bind fun n => (m_nearest n d).bind fun c => some c) = some (rd d x mv) := by
  refine bind_ok (shlC_ok 64 (by omega) hx (by omega)) ?_
  rw [Int.toNat_natCast]
  unfold m_nearest rd
  simp only [bnd_eq]
  have hp := pow0 mv
  by_cases h : 0 ≤ x
  · have h2 : 0 ≤ x * 2 ^ mv := Int.mul_nonneg h (by omega)
    rw [if_pos (decide_eq_true h2), if_pos h]
    refine bind_ok (bind_ok (divC_ok 64 (by omega) (by omega)) rfl) rfl
  · have h2 : ¬ 0 ≤ x * 2 ^ mv := by
      have : x * 2 ^ mv < 0 := Int.mul_neg_of_neg_of_pos (by omega) hp
      omega
    rw [if_neg (by simp [h2]), if_neg h]
    refine bind_ok (bind_ok (divC_ok 64 (by omega) (by omega)) rfl) rfl
theorem rounded_ok {d x : Int} {mv : Nat} (hd : 0 < d) (hd2 : d < 2 ^ 40) (hx : x.natAbs < 2 ^ 64) (hm : mv ≤ 15) : m_l_rounded x d (mv : Int) = some (rd d x mv) := by
  unfold m_l_rounded rd
  simp only [bnd_eq]
  have hp := pow0 mv
  refine of_ex (ex_bind (shlC_ok 1 (by omega) (by decide) (by omega)) ?_)
  rw [Int.toNat_natCast, Int.one_mul, absI_eq]
  refine ex_bind (mulC_ok (.inl (by omega))) (ex_bind (divC_ok 64 (by omega) (by omega)) ?_)
  by_cases h : 0 ≤ x
  · rw [if_neg (by simp; omega), if_pos h]
    refine ex_some ?_
    have : (x.natAbs : Int) = x := by omega
    rw [this, Int.mul_comm d 2, Int.mul_comm (x * 2 ^ mv) 2]
  · rw [if_pos (by simp; omega), if_neg h]
    refine ex_some ?_
    have : (x.natAbs : Int) = -x := by omega
    rw [this, Int.mul_comm d 2]
    congr 2
    have : -x * 2 ^ mv = -(x * 2 ^ mv) := Int.neg_mul _ _
    rw [this]
    omega
abbrev Res := Option (List Int × Int)
def row (d : Int) (xs : List Int) (mv : Nat) : List Int := xs.map fun x => rd d x mv
def turn (d : Int) (xs : List Int) (b : Int) (mv : Int) (_ : Unit) : Option (Fl Unit Res) := (maxL ((row d xs mv.toNat).map absI)).bind fun m => if decide (m ≤ b) = true then (if decide (m = 0) = true then some (.rt none) else some (.rt (some (row d xs mv.toNat, mv)))) else some (.nx ())
theorem itF_cg {A S R : Type} {f g : A → S → Option (Fl S R)} : ∀ {xs : List A} {s : S}, (∀ x ∈ xs, ∀ s, f x s = g x s) → itF f xs s = itF g xs s
  | [], _, _ => rfl
  | x :: l, s, h => by
    show (f x s).bind _ = (g x s).bind _
    rw [h x List.mem_cons_self s]
    congr 1
    funext r
    cases r with
    | nx s' => exact itF_cg fun y hy => h y (List.mem_cons_of_mem _ hy)
    | bk _ => rfl
    | rt _ => rfl
theorem itF_mp {A B S R : Type} {g : B → S → Option (Fl S R)} (h : A → B) : ∀ (xs : List A) (s : S), itF (fun x s => g (h x) s) xs s = itF g (xs.map h) s
  | [], _ => rfl
  | x :: l, s => by
    show (g (h x) s).bind _ = (g (h x) s).bind _
    congr 1
    funext r
    cases r with
    | nx s' => exact itF_mp h l s'
    | bk _ => rfl
    | rt _ => rfl
def down : List Int := [15, 14, 13, 12, 11, 10, 9, 8, 7, 6, 5, 4, 3, 2, 1, 0]
theorem down_eq : (rngI 0 16).map (fun k => 15 - k) = down := by decide
theorem down_mem {x : Int} (h : x ∈ down) : ∃ n : Nat, x = (n : Int) ∧ n ≤ 15 := by
  rw [← down_eq] at h
  obtain ⟨k, hk, rfl⟩ := List.mem_map.mp h
  rw [rngI_mem] at hk
  exact ⟨(15 - k).toNat, by omega, by omega⟩
theorem turn_some (d : Int) {xs : List Int} (h : xs ≠ []) (b mv : Int) : ∃ r, turn d xs b mv () = some r ∧ (∀ y, r = .rt (some y) → y.1.length = xs.length) := by
  unfold turn
  obtain ⟨x, l, rfl⟩ := List.exists_cons_of_ne_nil h
  refine ex_bind (x := _) rfl ?_
  refine ex_if (fun _ => ex_if (fun _ => ex_some fun y e => ?_) (fun _ => ex_some fun y e => ?_)) (fun _ => ex_some fun y e => ?_)
  · cases e
  · cases e
    exact List.length_map _
  · cases e
theorem loop_some (d : Int) {xs : List Int} (h : xs ≠ []) (b : Int) : ∀ l : List Int, ∃ r, itF (turn d xs b) l () = some r ∧ (∀ s, r ≠ .bk s) ∧ (∀ y, r = .rt (some y) → y.1.length = xs.length)
  | [] => ⟨.nx (), rfl, fun _ e => (by cases e), fun _ e => (by cases e)⟩
  | x :: l => by
    obtain ⟨r, h1, h2⟩ := turn_some d h b x
    obtain ⟨r2, h3, h4, h5⟩ := loop_some d h b l
    cases r with
    | nx s => exact ⟨r2, bind_ok h1 h3, h4, h5⟩
    | bk s => exact ⟨.nx s, bind_ok h1 rfl, fun _ e => (by cases e), fun _ e => (by cases e)⟩
    | rt q => exact ⟨.rt q, bind_ok h1 rfl, fun _ e => (by cases e), fun y e => h2 y e⟩
theorem both_ok {d p : Int} {xs : List Int} (hd : 0 < d) (hd2 : d < 2 ^ 40) (hx : ∀ x ∈ xs, x.natAbs < 2 ^ 64) (hl : xs.length ≤ 1000) (h0 : xs ≠ []) (hp : 2 ≤ p) (hp2 : p ≤ 40) : ∃ v, m_quantize xs d p = some v ∧ m_l_expected xs d p = some v ∧ ∀ y, v = some y → y.1.length = xs.length := by
  obtain ⟨r, h1, h2, h3⟩ := loop_some d h0 (1 * 2 ^ (p - 1).toNat - 1) down
  refine ⟨match r with | .rt q => q | _ => none, ?_, ?_, ?_⟩
  · unfold m_quantize
    simp only [bnd_eq]
    refine bind_ok (shlC_ok 1 (by omega) (by decide) (by omega)) ?_
    refine bind_ok (rngC_ok (by decide) (by decide) (by decide) (by decide)) ?_
    refine bind_ok (x := r) ?_ (by cases r with | nx _ => rfl | rt _ => rfl | bk s => exact absurd rfl (h2 s))
    have e1 : (15 + 1 : Int) = 16 := rfl
    rw [← h1, ← down_eq, ← itF_mp, e1]
    refine itF_cg fun k hk s => ?_
    rw [rngI_mem] at hk
    refine bind_ok (grd_ok (by omega)) ?_
    obtain ⟨n, hn⟩ : ∃ n : Nat, 15 - k = (n : Int) := ⟨(15 - k).toNat, by omega⟩
    rw [hn]
    refine bind_ok (mapO_ok (g := fun x => rd d x n) fun x hx' => nearest_ok hd hd2 (hx x hx') (by omega)) ?_
    refine bind_ok (grd_ok (by rw [List.length_map]; omega)) ?_
    refine bind_ok (mapO_ok (g := absI) fun x _ => rfl) ?_
    unfold turn row
    rw [Int.toNat_natCast]
  · unfold m_l_expected
    simp only [bnd_eq]
    refine bind_ok (shlC_ok 1 (by omega) (by decide) (by omega)) ?_
    refine bind_ok (x := r) ?_ (by cases r with | nx _ => rfl | rt _ => rfl | bk s => exact absurd rfl (h2 s))
    rw [← h1]
    refine itF_cg fun k hk s => ?_
    obtain ⟨n, rfl, hn⟩ := down_mem hk
    refine bind_ok (grd_ok (by omega)) ?_
    refine bind_ok (mapO_ok (g := fun x => rd d x n) fun x hx' => bind_ok (rounded_ok hd hd2 (hx x hx') hn) rfl) ?_
    refine bind_ok (grd_ok (by rw [List.length_map]; omega)) ?_
    refine bind_ok (mapO_ok (g := absI) fun x _ => rfl) ?_
    unfold turn row
    rw [Int.toNat_natCast]
  · intro y hy
    cases r with
    | nx _ => cases hy
    | bk _ => cases hy
    | rt q =>
      have hy : q = some y := hy
      exact h3 y (by rw [hy])
theorem integers_ok (xs : List Int) (h : xs.length ≤ 16777216) : m_l_integers xs = some true := by
  unfold m_l_integers
  simp only [bnd_eq]
  refine of_ex (ex_grd h (ex_mapG (fun _ => true) (fun x _ => rfl) (ex_some ?_)))
  rw [all_true]
  intro _ _
  rfl
theorem law_true (ns : List Int) (hl : ns.length ≤ 63) (hb : ∀ z ∈ ns, Builtin.Int.intBits z ≤ 1048576) : m_law ns = some true := by
  unfold m_law
  simp only [bnd_eq]
  refine of_ex (ex_call (cell_ok ns (by decide)) fun c1 _ => ?_)
  have hbound : ∃ b, atI [3, 1000, 1000000000000] ((c1 / 8) % 3) = some b ∧ 0 < b ∧ b ≤ (1000000000000 : Int) := by
    have : c1 / 8 % 3 = 0 ∨ c1 / 8 % 3 = 1 ∨ c1 / 8 % 3 = 2 := by omega
    rcases this with e | e | e <;> rw [e]
    · exact ⟨3, rfl, by decide, by decide⟩
    · exact ⟨1000, rfl, by decide, by decide⟩
    · exact ⟨1000000000000, rfl, by decide, by decide⟩
  refine ex_call hbound fun b ⟨hb0, hb1⟩ => ?_
  have hcnt : 1 ≤ 1 + c1 % 8 + 24 * b2 (decide (c1 / 96 % 6 = 1)) ∧ 1 + c1 % 8 + 24 * b2 (decide (c1 / 96 % 6 = 1)) ≤ 32 := by
    have : b2 (decide (c1 / 96 % 6 = 1)) = 0 ∨ b2 (decide (c1 / 96 % 6 = 1)) = 1 := by
      unfold b2
      split
      · exact .inr rfl
      · exact .inl rfl
    omega
  generalize 1 + c1 % 8 + 24 * b2 (decide (c1 / 96 % 6 = 1)) = cnt at *
  refine ex_call (cell_ok ns (by decide)) fun c2 _ => ?_
  refine ex_call (row_ok c2 (by omega) (by omega) (by omega) (by omega)) fun rw_ ⟨hrl, hr⟩ => ?_
  refine ex_grd (by omega) ?_
  refine ex_mapO (R := fun x => x.natAbs < 2 ^ 64) (fun x hx => ex_some (by have := hr x hx; omega)) fun xs hxl hx => ?_
  refine ex_call (cell_ok ns (by decide)) fun c3 _ => ?_
  refine ex_call (R := fun d => 0 < d ∧ d < 2 ^ 40) (ex_if (fun _ => ex_call (cell_ok ns (by decide)) fun c4 _ => ex_some (by omega)) (fun _ => ex_some (by omega))) fun d hd => ?_
  refine ex_call (cell_ok ns (by decide)) fun c5 _ => ?_
  have h0 : xs ≠ [] := by
    intro e
    rw [e, List.length_nil] at hxl
    omega
  obtain ⟨v, h1, h2, h3⟩ := both_ok (p := 2 + c5 % 14) hd.1 hd.2 hx (by omega) h0 (by omega) (by omega)
  refine ex_bind h1 (ex_bind h2 ?_)
  rw [if_neg (by simp)]
  cases v with
  | none => exact ex_some rfl
  | some y =>
    show ∃ r, (if (false || (!decide ((2 : Int) = 2))) = true then some false else _) = some r ∧ _
    rw [if_neg (by decide)]
    refine ex_bind (integers_ok _ (by rw [h3 y rfl]; omega)) ?_
    refine ex_bind (x := true) ?_ (ex_some rfl)
    rw [eqC_ok (eqT_t2 (n := 2) (eqT_l eqT_int) (eqT_int.up (by decide))) (by decide) ⟨fun _ _ => trivial, trivial⟩ ⟨fun _ _ => trivial, trivial⟩]
    simp [andC, m_l_integer]
end K61
namespace K61
open PySem L2 Mn
open Evl (Ex)
def topS (i : Nat) : Stmt := PySem.Challenge.pw_monochord_k61_quantized_coefficients.main.body.getD i (.Pass ⟨0, 0, 0, 0⟩)
structure Txt (K : PySem.W.Frag) (mg : Str → Option Value) : Prop where
  b_abs : mg "abs" = none
  b_all : mg "all" = none
  b_bool : mg "bool" = none
  b_int : mg "int" = none
  b_isinstance : mg "isinstance" = none
  b_len : mg "len" = none
  b_list : mg "list" = none
  b_max : mg "max" = none
  b_range : mg "range" = none
  b_tuple : mg "tuple" = none
  c_HIGHEST_SHIFT : ∃ t, mg "HIGHEST_SHIFT" = some (.int 15 t)
def sp_l_cell (K : PySem.W.Frag) (G : Cl) : Sp := fun vs H Q _ => ∃ (B : Hp) (cs : Cs) (a_script_ : Addr) (script_ : List Int) (k_ : Int) (res : Int), vs = [.ref a_script_, .int k_] ∧ Fr B cs H ∧ RdS K B cs a_script_ (List.map V.int script_) ∧ m_l_cell script_ k_ = some res ∧ ∀ H', Fr B cs H' → Q (.int res) H'
abbrev s_l_cell : Stmt := topS 5
theorem sc_l_cell : FnScope ["_law_script", "_law_k"] ["_law_script", "_law_k"] (defScope s_l_cell) := ⟨rfl, rfl, rfl, by decide +kernel, rfl, by decide +kernel, by decide +kernel⟩
theorem ok_l_cell {P : Program} {w : World} {K : PySem.W.Frag} {G : Cl} {mg : Str → Option Value} {base : Heap} {fa : Addr} {fd : FuncData} (F : Fun K "_law_cell" "_law_cell" s_l_cell fa fd) (T : Txt K mg) : FnOk P w K mg base CX0 1 fa fd ["_law_script", "_law_k"] (sp_l_cell K G) := by
  refine F.ok sc_l_cell (fun vs H Q E h => ?_) (fun cdv A outer s HB vs Q E hr h => ?_)
  · obtain ⟨B, cs, a_script_, script_, k_, res, rfl, _⟩ := h
    rfl
  · obtain ⟨B, cs, a_script_, script_, k_, res, rfl, F0, b_script_, hm, k⟩ := h
    unfold m_l_cell at hm
    refine ⟨_, (pss_cons (ps_if (pt_cmpR op_lt (pv 1) (pe_callB (kLen (K := K)) (by rfl) T.b_len (by decide +kernel) (pa_cons (pv 0) pa_nil)) (nomark _)) (pss_one (ps_ret (pe_ix (kIx (K := K)) (pv 0) (pv 1) (fun _ _ => rfl)))) pss_nil)
    (pss_one (ps_ret pe_int))), ?_⟩
    refine sl (σ' := [some (.ref a_script_), some (.int k_)]) rfl ?_
    refine g_when F0 (et_test (ev_op (ev_var (n := 1) rfl) (ev_cb (ea_cons (ev_var (n := 0) rfl) ea_nil) (rc_len (f := V.int) b_script_)) rv_I0)) (fun hb1 H F => ?_) (fun hb1 H F => ?_)
    · have F2 := F
      replace hm := of_ifT hb1 hm
      refine ss_ret ?_
      obtain ⟨x3, hx3, hm⟩ := of_bind hm
      refine st_v (v := .int x3) F2 (ev_op (ev_var (n := 0) rfl) (ev_var (n := 1) rfl) (rv_ix (f := V.int) hx3 b_script_)) fun H F4 => ?_
      obtain rfl := Option.some.inj hm
      exact k _ F4
    · have F5 := F
      replace hm := of_ifF hb1 hm
      refine ss_ret ?_
      refine st_v (v := .int 0) F5 ev_c fun H F6 => ?_
      obtain rfl := Option.some.inj hm
      exact k _ F6

def sp_l_row (K : PySem.W.Frag) (G : Cl) : Sp := fun vs H Q _ => ∃ (B : Hp) (cs : Cs) (cell_here_ : Int) (count_ : Int) (bound_ : Int) (res : List Int), vs = [.int cell_here_, .int count_, .int bound_] ∧ Fr B cs H ∧ m_l_row cell_here_ count_ bound_ = some res ∧ ∀ p H', Fr B ((p, .lst (List.map V.int res)) :: cs) H' → Q (.ref p) H'
abbrev s_l_row : Stmt := topS 8
theorem sc_l_row : FnScope ["_law_cell_here", "_law_count", "_law_bound", "_law_rest", "_law_mixed", "_law_row_here", "_law_k"] ["_law_cell_here", "_law_count", "_law_bound"] (defScope s_l_row) := ⟨rfl, rfl, rfl, by decide +kernel, rfl, by decide +kernel, by decide +kernel⟩
theorem ok_l_row {P : Program} {w : World} {K : PySem.W.Frag} {G : Cl} {mg : Str → Option Value} {base : Heap} {fa : Addr} {fd : FuncData} (F : Fun K "_law_row" "_law_row" s_l_row fa fd) (T : Txt K mg) : FnOk P w K mg base CX0 1 fa fd ["_law_cell_here", "_law_count", "_law_bound"] (sp_l_row K G) := by
  refine F.ok sc_l_row (fun vs H Q E h => ?_) (fun cdv A outer s HB vs Q E hr h => ?_)
  · obtain ⟨B, cs, cell_here_, count_, bound_, res, rfl, _⟩ := h
    rfl
  · obtain ⟨B, cs, cell_here_, count_, bound_, res, rfl, F0, hm, k⟩ := h
    unfold m_l_row at hm
    refine ⟨_, (pss_cons (ps_set (i := 3) sc_l_row.nd rfl (Or.inl rfl) (pe_callB cr_abs (by rfl) T.b_abs (by decide +kernel) (pa_cons (pe_callTy cr_int (by rfl) T.b_int (by decide +kernel) (pa_cons (pv 0) pa_nil)) pa_nil)))
    (pss_cons (ps_set (i := 4) sc_l_row.nd rfl (Or.inl rfl) (pe_op op_add (pe_op op_mod (pe_callTy cr_int (by rfl) T.b_int (by decide +kernel) (pa_cons (pv 0) pa_nil)) pe_int) pe_int))
    (pss_cons (ps_set (i := 5) sc_l_row.nd rfl (Or.inl rfl) (pe_lst pa_nil))
    (pss_cons (ps_for PassesOwn.never rfl (pi_range1 rfl T.b_range (pa_cons (pv 1) pa_nil)) (pg_name (i := 6) sc_l_row.nd rfl (Or.inl rfl))
      (pss_one (ps_if (pt_cmpR op_ge (pv 3) (pv 2) (nomark _)) (pss_cons (ps_expr (pe_bm PySem.F.plainAttrs_list PySem.F.slot_list_append PySem.F.type_list_append mt_append (pv 5) (pa_cons (pe_op op_mod (pe_callTy cr_int (by rfl) T.b_int (by decide +kernel) (pa_cons (pv 3) pa_nil)) (pv 2)) pa_nil)))
    (pss_cons (ps_set (i := 3) sc_l_row.nd rfl (Or.inl rfl) (pe_op op_fdivW (pv 3) (pv 2)))
    pss_nil)) (pss_cons (ps_set (i := 4) sc_l_row.nd rfl (Or.inl rfl) (pe_op op_mod (pe_callTy cr_int (by rfl) T.b_int (by decide +kernel) (pa_cons (pe_op op_add (pe_op op_add (pe_op op_mul (pv 4) pe_int) (pe_op op_mul pe_int (pv 6))) pe_int) pa_nil)) pe_int))
    (pss_cons (ps_expr (pe_bm PySem.F.plainAttrs_list PySem.F.slot_list_append PySem.F.type_list_append mt_append (pv 5) (pa_cons (pe_op op_mod (pe_callTy cr_int (by rfl) T.b_int (by decide +kernel) (pa_cons (pe_op op_fdiv (pe_op op_mul (pv 4) pe_int) pe_int) pa_nil)) (pv 2)) pa_nil)))
    pss_nil)))))
    (pss_one (ps_ret (pv 5))))))), ?_⟩
    refine sl (σ' := [some (.int cell_here_), some (.int count_), some (.int bound_), none, none, none, none]) rfl ?_
    obtain ⟨rest_1, hrest_1, hm⟩ := of_bnd hm
    refine g_asg (i := 3) (v := .int rest_1) (σ' := [some (.int cell_here_), some (.int count_), some (.int bound_), some (.int rest_1), none, none, none]) F0 (ev_cg (f := V.int) (ev_abs (ev_int (ev_var (n := 0) rfl))) hrest_1) rfl fun H F2 => ?_
    obtain ⟨mixed_3, hmixed_3, hm⟩ := of_bnd hm
    refine g_asg (i := 4) (v := .int mixed_3) (σ' := [some (.int cell_here_), some (.int count_), some (.int bound_), some (.int rest_1), some (.int mixed_3), none, none]) F2 (ev_cg (f := V.int) (ev_op (ev_op (ev_int (ev_var (n := 0) rfl)) ev_c (rv_modK _)) ev_c rv_I0) hmixed_3) rfl fun H F4 => ?_
    refine g_asgN (i := 5) (o := .lst (List.map V.int ([] : List Int))) F4 (en_lst ea_nil) fun p5 H F6 => ?_
    refine sl (σ' := [some (.int cell_here_), some (.int count_), some (.int bound_), some (.int rest_1), some (.int mixed_3), some (.ref p5), none]) rfl ?_
    obtain ⟨r7, hr7, hm⟩ := of_bind hm
    obtain ⟨r10, hl1033, hm⟩ := of_bind hm
    refine w_rngM1 hr7 hl1033 (fun s9 σ H => ∃ (u_k_ : Option V), σ = [some (.int cell_here_), some (.int count_), some (.int bound_), some (.int s9.1), some (.int s9.2.1), some (.ref p5), u_k_] ∧ Fr B ((p5, .lst (List.map V.int s9.2.2)) :: cs) H) F6 (ea_cons (ev_var (n := 1) rfl) ea_nil) (fun H F => ?_) ?_ ?_
    · exact ⟨_, rfl, F⟩
    · rintro _ H ⟨u_k_, rfl, F1034⟩
      refine ss_ret ?_
      refine st_v F1034 (ev_var (n := 5) rfl) fun H F1035 => ?_
      obtain rfl := Option.some.inj hm
      exact k _ _ F1035
    · rintro k_8 iv18 s9 r' _ H N hi17 hb ⟨u_k_, rfl, F1019⟩ hN12
      have ho16 := hm; clear hm; have hm := hb; clear hb
      obtain rfl := hi17
      refine gn (σ' := [some (.int cell_here_), some (.int count_), some (.int bound_), some (.int s9.1), some (.int s9.2.1), some (.ref p5), some (.int k_8)]) rfl ?_
      refine s_if F1019 (et_test (ev_op (ev_var (n := 3) rfl) (ev_var (n := 2) rfl) rv_I0)) (fun hb1020 H F => ?_) (fun hb1020 H F => ?_)
      · have F1021 := F
        replace hm := of_ifT hb1020 hm
        obtain ⟨n1022, hn1022, hm⟩ := of_bind hm
        obtain ⟨l1023, hl1023, hm⟩ := of_bind hm
        refine g_app (f := V.int) (i := 0) F1021 hl1023 (ev_var (n := 5) rfl) (ev_op (ev_int (ev_var (n := 3) rfl)) (ev_var (n := 2) rfl) (rv_mod hn1022)) (Rd.own 0 rfl) rfl rfl fun H F1024 => ?_
        obtain ⟨n1025, hn1025, hm⟩ := of_bind hm
        refine g_asg (i := 3) (v := .int n1025) (σ' := [some (.int cell_here_), some (.int count_), some (.int bound_), some (.int n1025), some (.int s9.2.1), some (.ref p5), some (.int k_8)]) F1024 (ev_op (ev_var (n := 3) rfl) (ev_var (n := 2) rfl) (rv_div hn1025)) rfl fun H F1026 => ?_
        obtain rfl := Option.some.inj hm
        exact hN12 _ _ ⟨_, rfl, F1026⟩
      · have F1027 := F
        replace hm := of_ifF hb1020 hm
        obtain ⟨mixed_1028, hmixed_1028, hm⟩ := of_bnd hm
        refine g_asg (i := 4) (v := .int mixed_1028) (σ' := [some (.int cell_here_), some (.int count_), some (.int bound_), some (.int s9.1), some (.int mixed_1028), some (.ref p5), some (.int k_8)]) F1027 (ev_cg (f := V.int) (ev_op (ev_int (ev_op (ev_op (ev_op (ev_var (n := 4) rfl) ev_c (rv_mulR _)) (ev_op ev_c (ev_var (n := 6) rfl) (rv_mulL _)) rv_I0) ev_c rv_I0)) ev_c (rv_modK _)) hmixed_1028) rfl fun H F1029 => ?_
        obtain ⟨n1030, hn1030, hm⟩ := of_bind hm
        obtain ⟨l1031, hl1031, hm⟩ := of_bind hm
        refine g_app (f := V.int) (i := 0) F1029 hl1031 (ev_var (n := 5) rfl) (ev_op (ev_int (ev_op (ev_op (ev_var (n := 4) rfl) ev_c (rv_mulR _)) ev_c (rv_divK _))) (ev_var (n := 2) rfl) (rv_mod hn1030)) (Rd.own 0 rfl) rfl rfl fun H F1032 => ?_
        obtain rfl := Option.some.inj hm
        exact hN12 _ _ ⟨_, rfl, F1032⟩

def sp_nearest (K : PySem.W.Frag) (G : Cl) : Sp := fun vs H Q _ => ∃ (B : Hp) (cs : Cs) (a_ : Int) (b_ : Int) (res : Int), vs = [.int a_, .int b_] ∧ Fr B cs H ∧ m_nearest a_ b_ = some res ∧ ∀ H', Fr B cs H' → Q (.int res) H'
abbrev s_nearest : Stmt := topS 2
theorem sc_nearest : FnScope ["a", "b"] ["a", "b"] (defScope s_nearest) := ⟨rfl, rfl, rfl, by decide +kernel, rfl, by decide +kernel, by decide +kernel⟩
theorem ok_nearest {P : Program} {w : World} {K : PySem.W.Frag} {G : Cl} {mg : Str → Option Value} {base : Heap} {fa : Addr} {fd : FuncData} (F : Fun K "_nearest" "_nearest" s_nearest fa fd) (T : Txt K mg) : FnOk P w K mg base CX0 1 fa fd ["a", "b"] (sp_nearest K G) := by
  refine F.ok sc_nearest (fun vs H Q E h => ?_) (fun cdv A outer s HB vs Q E hr h => ?_)
  · obtain ⟨B, cs, a_, b_, res, rfl, _⟩ := h
    rfl
  · obtain ⟨B, cs, a_, b_, res, rfl, F0, hm, k⟩ := h
    unfold m_nearest at hm
    refine ⟨_, (pss_cons (ps_if (pt_cmpR op_ge (pv 0) pe_int (nomark _)) (pss_one (ps_ret (pe_op op_fdivW (pe_op op_add (pe_op op_mul pe_int (pv 0)) (pv 1)) (pe_op op_mul pe_int (pv 1))))) pss_nil)
    (pss_one (ps_ret (pe_un un_neg (pe_op op_fdivW (pe_op op_sub (pv 1) (pe_op op_mul pe_int (pv 0))) (pe_op op_mul pe_int (pv 1))))))), ?_⟩
    refine sl (σ' := [some (.int a_), some (.int b_)]) rfl ?_
    refine g_when F0 (et_test (ev_op (ev_var (n := 0) rfl) ev_c rv_I0)) (fun hb1 H F => ?_) (fun hb1 H F => ?_)
    · have F2 := F
      replace hm := of_ifT hb1 hm
      refine ss_ret ?_
      obtain ⟨n3, hn3, hm⟩ := of_bind hm
      refine st_v (v := .int n3) F2 (ev_op (ev_op (ev_op ev_c (ev_var (n := 0) rfl) (rv_mulL _)) (ev_var (n := 1) rfl) rv_I0) (ev_op ev_c (ev_var (n := 1) rfl) (rv_mulL _)) (rv_div hn3)) fun H F4 => ?_
      obtain rfl := Option.some.inj hm
      exact k _ F4
    · have F5 := F
      replace hm := of_ifF hb1 hm
      refine ss_ret ?_
      obtain ⟨n6, hn6, hm⟩ := of_bind hm
      obtain ⟨x_7, hx_7, hm⟩ := of_bnd hm
      refine st_v (v := .int x_7) F5 (ev_cg (f := V.int) (ev_neg (ev_op (ev_op (ev_var (n := 1) rfl) (ev_op ev_c (ev_var (n := 0) rfl) (rv_mulL _)) rv_I0) (ev_op ev_c (ev_var (n := 1) rfl) (rv_mulL _)) (rv_div hn6))) hx_7) fun H F8 => ?_
      obtain rfl := Option.some.inj hm
      exact k _ F8

def sp_quantize (K : PySem.W.Frag) (G : Cl) : Sp := fun vs H Q _ => ∃ (B : Hp) (cs : Cs) (a_numerators_ : Addr) (numerators_ : List Int) (denominator_ : Int) (precision_ : Int) (res : Option ((List Int) × Int)), vs = [.ref a_numerators_, .int denominator_, .int precision_] ∧ Fr B cs H ∧ Rd B cs a_numerators_ (.lst (List.map V.int numerators_)) ∧ m_quantize numerators_ denominator_ precision_ = some res ∧ ∀ v B' H', Ex B B' → Rp K G B' v ((oD (pD2 (lD D.int) D.int)) res) → Fr B' cs H' → Q v H'
abbrev s_quantize : Stmt := topS 3
theorem sc_quantize : FnScope ["numerators", "denominator", "precision", "limit", "step", "shift", "coefficients", "x", "largest", "c"] ["numerators", "denominator", "precision"] (defScope s_quantize) := ⟨rfl, rfl, rfl, by decide +kernel, rfl, by decide +kernel, by decide +kernel⟩
theorem ok_quantize {P : Program} {w : World} {K : PySem.W.Frag} {G : Cl} {mg : Str → Option Value} {base : Heap} {fa : Addr} {fd : FuncData} (F : Fun K "quantize" "quantize" s_quantize fa fd) (T : Txt K mg) {f_nearest : Addr} {fd_nearest : FuncData} (G_nearest : FnOk P w K mg base CX0 1 f_nearest fd_nearest ["a", "b"] (sp_nearest K G)) (C_nearest : Cal K mg "_nearest" f_nearest fd_nearest ["a", "b"]) : FnOk P w K mg base CX0 2 fa fd ["numerators", "denominator", "precision"] (sp_quantize K G) := by
  refine F.ok sc_quantize (fun vs H Q E h => ?_) (fun cdv A outer s HB vs Q E hr h => ?_)
  · obtain ⟨B, cs, a_numerators_, numerators_, denominator_, precision_, res, rfl, _⟩ := h
    rfl
  · obtain ⟨B, cs, a_numerators_, numerators_, denominator_, precision_, res, rfl, F0, b_numerators_, hm, k⟩ := h
    obtain ⟨t_HIGHEST_SHIFT, g_HIGHEST_SHIFT⟩ := T.c_HIGHEST_SHIFT
    unfold m_quantize at hm
    refine ⟨_, (pss_cons (ps_set (i := 3) sc_quantize.nd rfl (Or.inl rfl) (pe_op op_sub (pe_op op_shlW pe_int (pe_op op_sub (pv 2) pe_int)) pe_int))
    (pss_cons (ps_for PassesOwn.never rfl (pi_range1 rfl T.b_range (pa_cons (pe_op op_add (pe_glob (v := .int 15) rfl g_HIGHEST_SHIFT ⟨_, rfl⟩) pe_int) pa_nil)) (pg_name (i := 4) sc_quantize.nd rfl (Or.inl rfl))
      (pss_cons (ps_set (i := 5) sc_quantize.nd rfl (Or.inr rfl) (pe_op op_sub (pe_glob (v := .int 15) rfl g_HIGHEST_SHIFT ⟨_, rfl⟩) (pv 4)))
    (pss_cons (ps_setLc (i := 6) (own := [("x", 7)]) (g := gName 7) (tt := tYes) rfl sc_quantize.nd rfl rfl (sw_true rfl rfl rfl (by decide +kernel)) (kpi_list (K := K) (pv 0)) (blkOk_by (N := ["numerators", "denominator", "precision", "limit", "step", "shift", "coefficients", "x", "largest", "c"]) (sc := defScope s_quantize) (by decide +kernel)) (fun _ _ _ _ _ => pg_name (i := 7) sc_quantize.nd rfl (Or.inl rfl)) (fun _ _ _ _ _ => pts_nil) (fun _ _ _ _ _ => (pe_call G_nearest (hr.mono (by decide)) rfl C_nearest.g C_nearest.k C_nearest.b .nil pass0 (pa_cons (pe_op op_shlW (pv 7) (pv 5)) (pa_cons (pv 1) pa_nil)))))
    (pss_cons (ps_set (i := 8) sc_quantize.nd rfl (Or.inl rfl) (pe_callB (kMax (K := K) rfl) (by rfl) T.b_max (by decide +kernel) (pa_cons (pe_lc (own := [("c", 9)]) (g := gName 9) (tt := tYes) rfl sc_quantize.nd (kpi_list (K := K) (pv 6)) (blkOk_by (N := ["numerators", "denominator", "precision", "limit", "step", "shift", "coefficients", "x", "largest", "c"]) (sc := defScope s_quantize) (by decide +kernel)) (fun _ _ _ _ _ => pg_name (i := 9) sc_quantize.nd rfl (Or.inl rfl)) (fun _ _ _ _ _ => pts_nil) (fun _ _ _ _ _ => (pe_callB cr_abs (by rfl) T.b_abs (by decide +kernel) (pa_cons (pv 9) pa_nil)))) pa_nil)))
    (pss_one (ps_if (pt_cmpR op_le (pv 8) (pv 3) (nomark _)) (pss_one (ps_ret (pe_ifExp (pt_cmpR op_eq (pv 8) pe_int (nomark _)) pe_non (pe_tup (pa_cons (pv 6) (pa_cons (pv 5) pa_nil)))))) pss_nil))))))
    (pss_one (ps_ret pe_non)))), ?_⟩
    refine sl (σ' := [some (.ref a_numerators_), some (.int denominator_), some (.int precision_), none, none, none, none, none, none, none]) rfl ?_
    obtain ⟨n1, hn1, hm⟩ := of_bind hm
    obtain ⟨limit_2, hlimit_2, hm⟩ := of_bnd hm
    refine g_asg (i := 3) (v := .int limit_2) (σ' := [some (.ref a_numerators_), some (.int denominator_), some (.int precision_), some (.int limit_2), none, none, none, none, none, none]) F0 (ev_cg (f := V.int) (ev_op (ev_op ev_c (ev_op (ev_var (n := 2) rfl) ev_c rv_I0) (rv_shl hn1)) ev_c rv_I0) hlimit_2) rfl fun H F3 => ?_
    obtain ⟨r4, hr4, hm⟩ := of_bind hm
    obtain ⟨r7, hl1053, hm⟩ := of_bind hm
    refine w_rngF1 hr4 hl1053 (fun s6 σ H => ∃ (u_step_ : Option V) (u_shift_ : Option V) (u_coefficients_ : Option V) (u_largest_ : Option V), σ = [some (.ref a_numerators_), some (.int denominator_), some (.int precision_), some (.int limit_2), u_step_, u_shift_, u_coefficients_, none, u_largest_, none] ∧ Fr B (cs) H) F3 (ea_cons (ev_op ev_c ev_c rv_I0) ea_nil) (fun H F => ?_) ?_ ?_
    · exact ⟨_, _, _, _, rfl, F⟩
    · rintro s1054 _ H rfl ⟨u_step_, u_shift_, u_coefficients_, u_largest_, rfl, F1056⟩
      dsimp only at hm
      refine ss_ret ?_
      refine st_v (v := .non) F1056 ev_c fun H F1057 => ?_
      obtain rfl := Option.some.inj hm
      exact k _ _ _ (Ex.refl _) (show Rp K G _ _ ((oD (pD2 (lD D.int) D.int)) (none : Option ((List Int) × Int))) from (rp_none)) F1057
    · rintro step_5 iv15 s6 r' _ H N hi14 hb ⟨u_step_, u_shift_, u_coefficients_, u_largest_, rfl, F1016⟩ hk10 hq11 hd12 hN9
      have ho13 := hm; clear hm; have hm := hb; clear hb
      obtain rfl := hi14
      refine gn (σ' := [some (.ref a_numerators_), some (.int denominator_), some (.int precision_), some (.int limit_2), some (.int step_5), u_shift_, u_coefficients_, none, u_largest_, none]) rfl ?_
      obtain ⟨shift_1017, hshift_1017, hm⟩ := of_bnd hm
      refine g_asg (i := 5) (v := .int shift_1017) (σ' := [some (.ref a_numerators_), some (.int denominator_), some (.int precision_), some (.int limit_2), some (.int step_5), some (.int shift_1017), u_coefficients_, none, u_largest_, none]) F1016 (ev_cg (f := V.int) (ev_op ev_c (ev_var (n := 4) rfl) rv_I0) hshift_1017) rfl fun H F1018 => ?_
      obtain ⟨z1021, hz1021, hm⟩ := of_bind hm
      obtain ⟨l1020, hl1020, hm⟩ := of_bind hm
      refine g_asgN (i := 6) (o := .lst (List.map V.int l1020)) F1018 (en_lcL (ws := List.map V.int numerators_) (zs := List.map V.int l1020) (ev_var (n := 0) rfl) (Or.inl b_numerators_) (by rw [List.length_map]; exact (of_grd hz1021).1) (mlen hl1020) (fun _ => rfl) (lcok_map (f := V.int) (g := V.int) hl1020 fun x_1019 y hy => by obtain ⟨n1022, hn1022, hy⟩ := of_bind hy; obtain ⟨c1023, hc1023, hy⟩ := of_bind hy; obtain rfl := Option.some.inj hy; exact (ev_call (ea_cons (ev_op (ev_var (n := 7) rfl) (ev_var (n := 5) rfl) (rv_shl hn1022)) (ea_cons (ev_var (n := 1) rfl) ea_nil)) (fun ys H F Q q => ⟨_, _, n1022, denominator_, c1023, rfl, F, hc1023, q⟩)))) fun p1024 H F1025 => ?_
      refine sl (σ' := [some (.ref a_numerators_), some (.int denominator_), some (.int precision_), some (.int limit_2), some (.int step_5), some (.int shift_1017), some (.ref p1024), none, u_largest_, none]) rfl ?_
      obtain ⟨z1028, hz1028, hm⟩ := of_bind hm
      obtain ⟨l1027, hl1027, hm⟩ := of_bind hm
      obtain ⟨m1029, hm1029, hm⟩ := of_bind hm
      refine g_asg (i := 8) (v := .int m1029) (σ' := [some (.ref a_numerators_), some (.int denominator_), some (.int precision_), some (.int limit_2), some (.int step_5), some (.int shift_1017), some (.ref p1024), none, some (.int m1029), none]) F1025 (ev_cbN (en_lcL (ws := List.map V.int l1020) (zs := List.map V.int l1027) (ev_var (n := 6) rfl) (Or.inl (Rd.own 0 rfl)) (by rw [List.length_map]; exact (of_grd hz1028).1) (mlen hl1027) (fun _ => rfl) (lcok_map (f := V.int) (g := V.int) hl1027 fun c_1026 y hy => by obtain rfl := Option.some.inj hy; exact (ev_abs (ev_var (n := 9) rfl)))) (fun p => (rc_max hm1029 (Or.inl (Rd.own 0 rfl))))) rfl fun H F1030 => ?_
      refine s_when F1030 (et_test (ev_op (ev_var (n := 8) rfl) (ev_var (n := 3) rfl) rv_I0)) (fun hb1031 H F => ?_) (fun hb1031 H F => ?_)
      · have F1032 := F
        replace hm := of_ifT hb1031 hm
        refine ss_ret ?_
        refine st_if F1032 (et_test (ev_op (ev_var (n := 8) rfl) ev_c rv_eqI)) (fun hb1033 H F => ?_) (fun hb1033 H F => ?_)
        · have F1034 := F
          replace hm := of_ifT hb1033 hm
          refine st_v (v := .non) F1034 ev_c fun H F1035 => ?_
          obtain rfl := Option.some.inj hm
          obtain rfl := hq11 _ rfl
          replace hm := ho13
          obtain rfl := Option.some.inj hm
          exact k _ _ _ (Ex.refl _) (show Rp K G _ _ ((oD (pD2 (lD D.int) D.int)) (none : Option ((List Int) × Int))) from (rp_none)) (Fr.pickT (ds := []) 1 F1035 [] (by decide) (by decide) rfl)
        · have F1036 := F
          replace hm := of_ifF hb1033 hm
          refine st_tup ?_
          refine st_cons ?_
          refine st_v F1036 (ev_var (n := 6) rfl) fun H F1037 => ?_
          refine st_cons ?_
          refine st_v (v := .int shift_1017) F1037 (ev_var (n := 5) rfl) fun H F1039 => ?_
          refine st_nil ?_
          refine st_tupE (vs := [.ref p1024, .int shift_1017]) F1039 (fun p1041 H F1042 => ?_)
          obtain ⟨B1043, e1044, hB1045, F1046⟩ := Fr.fzAt 1 rfl F1042
          replace b_numerators_ := Rd.to b_numerators_ e1044
          replace F1046 : Fr B1043 ((p1041, .tup [.ref p1024, .int shift_1017]) :: cs) _ := F1046
          obtain ⟨B1047, e1048, hB1049, F1050⟩ := Fr.fzAt 0 rfl F1046
          replace b_numerators_ := Rd.to b_numerators_ e1048
          replace hB1045 := e1048 _ _ hB1045
          replace e1044 := Ex.trans e1044 e1048
          replace F1050 : Fr B1047 (cs) _ := F1050
          have hT1051 : SqT K B1047 p1041 [.ref p1024, .int shift_1017] := Evl.st_of hB1049
          obtain rfl := Option.some.inj hm
          obtain rfl := hq11 _ rfl
          replace hm := ho13
          obtain rfl := Option.some.inj hm
          exact k _ _ _ e1044 (show Rp K G _ _ ((oD (pD2 (lD D.int) D.int)) (some (l1020, shift_1017))) from (rp_some (rp_t2 hT1051 (rp_li hB1045) rp_i))) F1050
      · have F1052 := F
        replace hm := of_ifF hb1031 hm
        obtain rfl := Option.some.inj hm
        exact hN9 _ _ _ rfl ⟨_, _, _, _, rfl, (Fr.pickT (ds := []) 1 F1052 [] (by decide) (by decide) rfl)⟩

def sp_l_rounded (K : PySem.W.Frag) (G : Cl) : Sp := fun vs H Q _ => ∃ (B : Hp) (cs : Cs) (numerator_ : Int) (denominator_ : Int) (moved_ : Int) (res : Int), vs = [.int numerator_, .int denominator_, .int moved_] ∧ Fr B cs H ∧ m_l_rounded numerator_ denominator_ moved_ = some res ∧ ∀ H', Fr B cs H' → Q (.int res) H'
abbrev s_l_rounded : Stmt := topS 9
theorem sc_l_rounded : FnScope ["_law_numerator", "_law_denominator", "_law_moved", "_law_magnitude"] ["_law_numerator", "_law_denominator", "_law_moved"] (defScope s_l_rounded) := ⟨rfl, rfl, rfl, by decide +kernel, rfl, by decide +kernel, by decide +kernel⟩
theorem ok_l_rounded {P : Program} {w : World} {K : PySem.W.Frag} {G : Cl} {mg : Str → Option Value} {base : Heap} {fa : Addr} {fd : FuncData} (F : Fun K "_law_rounded" "_law_rounded" s_l_rounded fa fd) (T : Txt K mg) : FnOk P w K mg base CX0 1 fa fd ["_law_numerator", "_law_denominator", "_law_moved"] (sp_l_rounded K G) := by
  refine F.ok sc_l_rounded (fun vs H Q E h => ?_) (fun cdv A outer s HB vs Q E hr h => ?_)
  · obtain ⟨B, cs, numerator_, denominator_, moved_, res, rfl, _⟩ := h
    rfl
  · obtain ⟨B, cs, numerator_, denominator_, moved_, res, rfl, F0, hm, k⟩ := h
    unfold m_l_rounded at hm
    refine ⟨_, (pss_cons (ps_set (i := 3) sc_l_rounded.nd rfl (Or.inl rfl) (pe_op op_fdivW (pe_op op_add (pe_op op_mul (pe_op op_mulA (pe_callB cr_abs (by rfl) T.b_abs (by decide +kernel) (pa_cons (pv 0) pa_nil)) (pe_op op_shlW pe_int (pv 2))) pe_int) (pv 1)) (pe_op op_mul (pv 1) pe_int)))
    (pss_cons (ps_if (pt_cmpR op_lt (pv 0) pe_int (nomark _)) (pss_one (ps_ret (pe_un un_neg (pv 3)))) pss_nil)
    (pss_one (ps_ret (pv 3))))), ?_⟩
    refine sl (σ' := [some (.int numerator_), some (.int denominator_), some (.int moved_), none]) rfl ?_
    obtain ⟨n1, hn1, hm⟩ := of_bind hm
    obtain ⟨n2, hn2, hm⟩ := of_bind hm
    obtain ⟨n3, hn3, hm⟩ := of_bind hm
    refine g_asg (i := 3) (v := .int n3) (σ' := [some (.int numerator_), some (.int denominator_), some (.int moved_), some (.int n3)]) F0 (ev_op (ev_op (ev_op (ev_op (ev_abs (ev_var (n := 0) rfl)) (ev_op ev_c (ev_var (n := 2) rfl) (rv_shl hn1)) (rv_mul hn2)) ev_c (rv_mulR _)) (ev_var (n := 1) rfl) rv_I0) (ev_op (ev_var (n := 1) rfl) ev_c (rv_mulR _)) (rv_div hn3)) rfl fun H F4 => ?_
    refine g_when F4 (et_test (ev_op (ev_var (n := 0) rfl) ev_c rv_I0)) (fun hb5 H F => ?_) (fun hb5 H F => ?_)
    · have F6 := F
      replace hm := of_ifT hb5 hm
      refine ss_ret ?_
      obtain ⟨x_7, hx_7, hm⟩ := of_bnd hm
      refine st_v (v := .int x_7) F6 (ev_cg (f := V.int) (ev_neg (ev_var (n := 3) rfl)) hx_7) fun H F8 => ?_
      obtain rfl := Option.some.inj hm
      exact k _ F8
    · have F9 := F
      replace hm := of_ifF hb5 hm
      refine ss_ret ?_
      refine st_v (v := .int n3) F9 (ev_var (n := 3) rfl) fun H F10 => ?_
      obtain rfl := Option.some.inj hm
      exact k _ F10

def sp_l_expected (K : PySem.W.Frag) (G : Cl) : Sp := fun vs H Q _ => ∃ (B : Hp) (cs : Cs) (a_numerators_ : Addr) (numerators_ : List Int) (denominator_ : Int) (digits_ : Int) (res : Option ((List Int) × Int)), vs = [.ref a_numerators_, .int denominator_, .int digits_] ∧ Fr B cs H ∧ Rd B cs a_numerators_ (.lst (List.map V.int numerators_)) ∧ m_l_expected numerators_ denominator_ digits_ = some res ∧ ∀ v B' H', Ex B B' → Rp K G B' v ((oD (pD2 (lD D.int) D.int)) res) → Fr B' cs H' → Q v H'
abbrev s_l_expected : Stmt := topS 10
theorem sc_l_expected : FnScope ["_law_numerators", "_law_denominator", "_law_digits", "_law_bound", "_law_moved", "_law_row_here", "_law_x", "_law_largest"] ["_law_numerators", "_law_denominator", "_law_digits"] (defScope s_l_expected) := ⟨rfl, rfl, rfl, by decide +kernel, rfl, by decide +kernel, by decide +kernel⟩
theorem ok_l_expected {P : Program} {w : World} {K : PySem.W.Frag} {G : Cl} {mg : Str → Option Value} {base : Heap} {fa : Addr} {fd : FuncData} (F : Fun K "_law_expected" "_law_expected" s_l_expected fa fd) (T : Txt K mg) {f_l_rounded : Addr} {fd_l_rounded : FuncData} (G_l_rounded : FnOk P w K mg base CX0 1 f_l_rounded fd_l_rounded ["_law_numerator", "_law_denominator", "_law_moved"] (sp_l_rounded K G)) (C_l_rounded : Cal K mg "_law_rounded" f_l_rounded fd_l_rounded ["_law_numerator", "_law_denominator", "_law_moved"]) : FnOk P w K mg base CX0 2 fa fd ["_law_numerators", "_law_denominator", "_law_digits"] (sp_l_expected K G) := by
  refine F.ok sc_l_expected (fun vs H Q E h => ?_) (fun cdv A outer s HB vs Q E hr h => ?_)
  · obtain ⟨B, cs, a_numerators_, numerators_, denominator_, digits_, res, rfl, _⟩ := h
    rfl
  · obtain ⟨B, cs, a_numerators_, numerators_, denominator_, digits_, res, rfl, F0, b_numerators_, hm, k⟩ := h
    unfold m_l_expected at hm
    refine ⟨_, (pss_cons (ps_set (i := 3) sc_l_expected.nd rfl (Or.inl rfl) (pe_op op_sub (pe_op op_shlW pe_int (pe_op op_sub (pv 2) pe_int)) pe_int))
    (pss_cons (ps_for PassesOwn.never rfl (kpi_list (K := K) (pe_lst (pa_cons pe_int (pa_cons pe_int (pa_cons pe_int (pa_cons pe_int (pa_cons pe_int (pa_cons pe_int (pa_cons pe_int (pa_cons pe_int (pa_cons pe_int (pa_cons pe_int (pa_cons pe_int (pa_cons pe_int (pa_cons pe_int (pa_cons pe_int (pa_cons pe_int (pa_cons pe_int pa_nil)))))))))))))))))) (pg_name (i := 4) sc_l_expected.nd rfl (Or.inr rfl))
      (pss_cons (ps_setLc (i := 5) (own := [("_law_x", 6)]) (g := gName 6) (tt := tYes) rfl sc_l_expected.nd rfl rfl (sw_true rfl rfl rfl (by decide +kernel)) (kpi_list (K := K) (pv 0)) (blkOk_by (N := ["_law_numerators", "_law_denominator", "_law_digits", "_law_bound", "_law_moved", "_law_row_here", "_law_x", "_law_largest"]) (sc := defScope s_l_expected) (by decide +kernel)) (fun _ _ _ _ _ => pg_name (i := 6) sc_l_expected.nd rfl (Or.inl rfl)) (fun _ _ _ _ _ => pts_nil) (fun _ _ _ _ _ => (pe_call G_l_rounded (hr.mono (by decide)) rfl C_l_rounded.g C_l_rounded.k C_l_rounded.b .nil pass0 (pa_cons (pv 6) (pa_cons (pv 1) (pa_cons (pv 4) pa_nil))))))
    (pss_cons (ps_set (i := 7) sc_l_expected.nd rfl (Or.inl rfl) (pe_callB (kMax (K := K) rfl) (by rfl) T.b_max (by decide +kernel) (pa_cons (pe_lc (own := [("_law_x", 6)]) (g := gName 6) (tt := tYes) rfl sc_l_expected.nd (kpi_list (K := K) (pv 5)) (blkOk_by (N := ["_law_numerators", "_law_denominator", "_law_digits", "_law_bound", "_law_moved", "_law_row_here", "_law_x", "_law_largest"]) (sc := defScope s_l_expected) (by decide +kernel)) (fun _ _ _ _ _ => pg_name (i := 6) sc_l_expected.nd rfl (Or.inl rfl)) (fun _ _ _ _ _ => pts_nil) (fun _ _ _ _ _ => (pe_callB cr_abs (by rfl) T.b_abs (by decide +kernel) (pa_cons (pv 6) pa_nil)))) pa_nil)))
    (pss_one (ps_if (pt_cmpR op_le (pv 7) (pv 3) (nomark _)) (pss_cons (ps_if (pt_cmpR op_eq (pv 7) pe_int (nomark _)) (pss_one (ps_ret pe_non)) pss_nil)
    (pss_one (ps_ret (pe_tup (pa_cons (pv 5) (pa_cons (pv 4) pa_nil)))))) pss_nil)))))
    (pss_one (ps_ret pe_non)))), ?_⟩
    refine sl (σ' := [some (.ref a_numerators_), some (.int denominator_), some (.int digits_), none, none, none, none, none]) rfl ?_
    obtain ⟨n1, hn1, hm⟩ := of_bind hm
    obtain ⟨bound_2, hbound_2, hm⟩ := of_bnd hm
    refine g_asg (i := 3) (v := .int bound_2) (σ' := [some (.ref a_numerators_), some (.int denominator_), some (.int digits_), some (.int bound_2), none, none, none, none]) F0 (ev_cg (f := V.int) (ev_op (ev_op ev_c (ev_op (ev_var (n := 2) rfl) ev_c rv_I0) (rv_shl hn1)) ev_c rv_I0) hbound_2) rfl fun H F3 => ?_
    obtain ⟨r6, hl1049, hm⟩ := of_bind hm
    refine w_forFN hl1049 (its_map V.int [15, 14, 13, 12, 11, 10, 9, 8, 7, 6, 5, 4, 3, 2, 1, 0]) (fun p7 => fun s5 σ H => ∃ (u_moved_ : Option V) (u_row_here_ : Option V) (u_largest_ : Option V), σ = [some (.ref a_numerators_), some (.int denominator_), some (.int digits_), some (.int bound_2), u_moved_, u_row_here_, none, u_largest_] ∧ Fr B ((p7, .lst (List.map V.int [15, 14, 13, 12, 11, 10, 9, 8, 7, 6, 5, 4, 3, 2, 1, 0])) :: cs) H) F3 (en_lst (ea_cons ev_c (ea_cons ev_c (ea_cons ev_c (ea_cons ev_c (ea_cons ev_c (ea_cons ev_c (ea_cons ev_c (ea_cons ev_c (ea_cons ev_c (ea_cons ev_c (ea_cons ev_c (ea_cons ev_c (ea_cons ev_c (ea_cons ev_c (ea_cons ev_c (ea_cons ev_c ea_nil))))))))))))))))) (fun p7 H F => ?_) ?_ ?_ ?_
    · exact ⟨_, _, _, rfl, F⟩
    · rintro p7 s5 _ H ⟨_, _, _, rfl, F⟩
      exact Evl.sq_of (F.get 0 rfl)
    · rintro p7 s1050 _ H rfl ⟨u_moved_, u_row_here_, u_largest_, rfl, F1052⟩
      dsimp only at hm
      refine ss_ret ?_
      refine st_v (v := .non) F1052 ev_c fun H F1053 => ?_
      obtain rfl := Option.some.inj hm
      exact k _ _ _ (Ex.refl _) (show Rp K G _ _ ((oD (pD2 (lD D.int) D.int)) (none : Option ((List Int) × Int))) from (rp_none)) (Fr.pickT (ds := []) 1 F1053 [] (by decide) (by decide) rfl)
    · rintro p7 moved_4 iv14 s5 r' _ H N hi13 hb ⟨u_moved_, u_row_here_, u_largest_, rfl, F1015⟩ hk9 hq10 hd11 hN8
      have ho12 := hm; clear hm; have hm := hb; clear hb
      obtain rfl := hi13
      refine gn (σ' := [some (.ref a_numerators_), some (.int denominator_), some (.int digits_), some (.int bound_2), some (.int moved_4), u_row_here_, none, u_largest_]) rfl ?_
      obtain ⟨z1018, hz1018, hm⟩ := of_bind hm
      obtain ⟨l1017, hl1017, hm⟩ := of_bind hm
      refine g_asgN (i := 5) (o := .lst (List.map V.int l1017)) F1015 (en_lcL (ws := List.map V.int numerators_) (zs := List.map V.int l1017) (ev_var (n := 0) rfl) (Or.inl (Rd.dn 1 b_numerators_)) (by rw [List.length_map]; exact (of_grd hz1018).1) (mlen hl1017) (fun _ => rfl) (lcok_map (f := V.int) (g := V.int) hl1017 fun x_1016 y hy => by obtain ⟨c1019, hc1019, hy⟩ := of_bind hy; obtain rfl := Option.some.inj hy; exact (ev_call (ea_cons (ev_var (n := 6) rfl) (ea_cons (ev_var (n := 1) rfl) (ea_cons (ev_var (n := 4) rfl) ea_nil))) (fun ys H F Q q => ⟨_, _, x_1016, denominator_, moved_4, c1019, rfl, F, hc1019, q⟩)))) fun p1020 H F1021 => ?_
      refine sl (σ' := [some (.ref a_numerators_), some (.int denominator_), some (.int digits_), some (.int bound_2), some (.int moved_4), some (.ref p1020), none, u_largest_]) rfl ?_
      obtain ⟨z1024, hz1024, hm⟩ := of_bind hm
      obtain ⟨l1023, hl1023, hm⟩ := of_bind hm
      obtain ⟨m1025, hm1025, hm⟩ := of_bind hm
      refine g_asg (i := 7) (v := .int m1025) (σ' := [some (.ref a_numerators_), some (.int denominator_), some (.int digits_), some (.int bound_2), some (.int moved_4), some (.ref p1020), none, some (.int m1025)]) F1021 (ev_cbN (en_lcL (ws := List.map V.int l1017) (zs := List.map V.int l1023) (ev_var (n := 5) rfl) (Or.inl (Rd.own 0 rfl)) (by rw [List.length_map]; exact (of_grd hz1024).1) (mlen hl1023) (fun _ => rfl) (lcok_map (f := V.int) (g := V.int) hl1023 fun x_1022 y hy => by obtain rfl := Option.some.inj hy; exact (ev_abs (ev_var (n := 6) rfl)))) (fun p => (rc_max hm1025 (Or.inl (Rd.own 0 rfl))))) rfl fun H F1026 => ?_
      refine s_when F1026 (et_test (ev_op (ev_var (n := 7) rfl) (ev_var (n := 3) rfl) rv_I0)) (fun hb1027 H F => ?_) (fun hb1027 H F => ?_)
      · have F1028 := F
        replace hm := of_ifT hb1027 hm
        refine g_when F1028 (et_test (ev_op (ev_var (n := 7) rfl) ev_c rv_eqI)) (fun hb1029 H F => ?_) (fun hb1029 H F => ?_)
        · have F1030 := F
          replace hm := of_ifT hb1029 hm
          refine ss_ret ?_
          refine st_v (v := .non) F1030 ev_c fun H F1031 => ?_
          obtain rfl := Option.some.inj hm
          obtain rfl := hq10 _ rfl
          replace hm := ho12
          obtain rfl := Option.some.inj hm
          exact k _ _ _ (Ex.refl _) (show Rp K G _ _ ((oD (pD2 (lD D.int) D.int)) (none : Option ((List Int) × Int))) from (rp_none)) (Fr.pickT (ds := []) 2 F1031 [] (by decide) (by decide) rfl)
        · have F1032 := F
          replace hm := of_ifF hb1029 hm
          refine ss_ret ?_
          refine st_tup ?_
          refine st_cons ?_
          refine st_v F1032 (ev_var (n := 5) rfl) fun H F1033 => ?_
          refine st_cons ?_
          refine st_v (v := .int moved_4) F1033 (ev_var (n := 4) rfl) fun H F1035 => ?_
          refine st_nil ?_
          refine st_tupE (vs := [.ref p1020, .int moved_4]) F1035 (fun p1037 H F1038 => ?_)
          obtain ⟨B1039, e1040, hB1041, F1042⟩ := Fr.fzAt 1 rfl F1038
          replace b_numerators_ := Rd.to b_numerators_ e1040
          replace F1042 : Fr B1039 ((p1037, .tup [.ref p1020, .int moved_4]) :: (p7, .lst (List.map V.int [15, 14, 13, 12, 11, 10, 9, 8, 7, 6, 5, 4, 3, 2, 1, 0])) :: cs) _ := F1042
          obtain ⟨B1043, e1044, hB1045, F1046⟩ := Fr.fzAt 0 rfl F1042
          replace b_numerators_ := Rd.to b_numerators_ e1044
          replace hB1041 := e1044 _ _ hB1041
          replace e1040 := Ex.trans e1040 e1044
          replace F1046 : Fr B1043 ((p7, .lst (List.map V.int [15, 14, 13, 12, 11, 10, 9, 8, 7, 6, 5, 4, 3, 2, 1, 0])) :: cs) _ := F1046
          have hT1047 : SqT K B1043 p1037 [.ref p1020, .int moved_4] := Evl.st_of hB1045
          obtain rfl := Option.some.inj hm
          obtain rfl := hq10 _ rfl
          replace hm := ho12
          obtain rfl := Option.some.inj hm
          exact k _ _ _ e1040 (show Rp K G _ _ ((oD (pD2 (lD D.int) D.int)) (some (l1017, moved_4))) from (rp_some (rp_t2 hT1047 (rp_li hB1041) rp_i))) (Fr.pickT (ds := []) 1 F1046 [] (by decide) (by decide) rfl)
      · have F1048 := F
        replace hm := of_ifF hb1027 hm
        obtain rfl := Option.some.inj hm
        exact hN8 _ _ _ rfl ⟨_, _, _, rfl, (Fr.pickT (ds := [(p7, .lst (List.map V.int [15, 14, 13, 12, 11, 10, 9, 8, 7, 6, 5, 4, 3, 2, 1, 0]))]) 2 F1048 [1] (by decide) (by decide) rfl)⟩

def sp_l_integer (K : PySem.W.Frag) (G : Cl) : Sp := fun vs H Q _ => ∃ (B : Hp) (cs : Cs) (value_ : Int) (res : Bool), vs = [.int value_] ∧ Fr B cs H ∧ m_l_integer value_ = some res ∧ ∀ H', Fr B cs H' → Q (.bl res) H'
abbrev s_l_integer : Stmt := topS 6
theorem sc_l_integer : FnScope ["_law_value"] ["_law_value"] (defScope s_l_integer) := ⟨rfl, rfl, rfl, by decide +kernel, rfl, by decide +kernel, by decide +kernel⟩
theorem ok_l_integer {P : Program} {w : World} {K : PySem.W.Frag} {G : Cl} {mg : Str → Option Value} {base : Heap} {fa : Addr} {fd : FuncData} (F : Fun K "_law_integer" "_law_integer" s_l_integer fa fd) (T : Txt K mg) : FnOk P w K mg base CX0 1 fa fd ["_law_value"] (sp_l_integer K G) := by
  refine F.ok sc_l_integer (fun vs H Q E h => ?_) (fun cdv A outer s HB vs Q E hr h => ?_)
  · obtain ⟨B, cs, value_, res, rfl, _⟩ := h
    rfl
  · obtain ⟨B, cs, value_, res, rfl, F0, hm, k⟩ := h
    unfold m_l_integer at hm
    refine ⟨_, (pss_one (ps_ret (pe_and (pe_callB (kIsi (K := K)) (by rfl) T.b_isinstance (by decide +kernel) (pa_cons (pv 0) (pa_cons (pe_bltn (v := .ty "int") (by rfl) T.b_int (by decide +kernel) rfl) pa_nil))) (pe_one (pe_not (pe_callB (kIsi (K := K)) (by rfl) T.b_isinstance (by decide +kernel) (pa_cons (pv 0) (pa_cons (pe_bltn (v := .ty "bool") (by rfl) T.b_bool (by decide +kernel) rfl) pa_nil)))))))), ?_⟩
    refine sl (σ' := [some (.int value_)]) rfl ?_
    refine ss_ret ?_
    obtain ⟨x_1, hx_1, hm⟩ := of_bnd hm
    refine st_v (v := .bl x_1) F0 (ev_cg (f := V.bl) (ev_andV (ev_cb (ea_cons (ev_var (n := 0) rfl) (ea_cons ev_c ea_nil)) (rc_isi (b := true) ty_int (kit_ty (by decide +kernel)))) (fun _ => (ev_notV (ev_cb (ea_cons (ev_var (n := 0) rfl) (ea_cons ev_c ea_nil)) (rc_isi (b := false) ty_int (kit_ty (by decide +kernel))))))) hx_1) fun H F2 => ?_
    obtain rfl := Option.some.inj hm
    exact k _ F2

def sp_l_integers (K : PySem.W.Frag) (G : Cl) : Sp := fun vs H Q _ => ∃ (B : Hp) (cs : Cs) (a_values_ : Addr) (values_ : List Int) (res : Bool), vs = [.ref a_values_] ∧ Fr B cs H ∧ Rd B cs a_values_ (.lst (List.map V.int values_)) ∧ m_l_integers values_ = some res ∧ ∀ H', Fr B cs H' → Q (.bl res) H'
abbrev s_l_integers : Stmt := topS 7
theorem sc_l_integers : FnScope ["_law_values", "_law_value"] ["_law_values"] (defScope s_l_integers) := ⟨rfl, rfl, rfl, by decide +kernel, rfl, by decide +kernel, by decide +kernel⟩
theorem ok_l_integers {P : Program} {w : World} {K : PySem.W.Frag} {G : Cl} {mg : Str → Option Value} {base : Heap} {fa : Addr} {fd : FuncData} (F : Fun K "_law_integers" "_law_integers" s_l_integers fa fd) (T : Txt K mg) {f_l_integer : Addr} {fd_l_integer : FuncData} (G_l_integer : FnOk P w K mg base CX0 1 f_l_integer fd_l_integer ["_law_value"] (sp_l_integer K G)) (C_l_integer : Cal K mg "_law_integer" f_l_integer fd_l_integer ["_law_value"]) : FnOk P w K mg base CX0 2 fa fd ["_law_values"] (sp_l_integers K G) := by
  refine F.ok sc_l_integers (fun vs H Q E h => ?_) (fun cdv A outer s HB vs Q E hr h => ?_)
  · obtain ⟨B, cs, a_values_, values_, res, rfl, _⟩ := h
    rfl
  · obtain ⟨B, cs, a_values_, values_, res, rfl, F0, b_values_, hm, k⟩ := h
    unfold m_l_integers at hm
    refine ⟨_, (pss_cons (ps_if (pt_not (pt_val (pe_callB (kIsi (K := K)) (by rfl) T.b_isinstance (by decide +kernel) (pa_cons (pv 0) (pa_cons (pe_bltn (v := .ty "list") (by rfl) T.b_list (by decide +kernel) rfl) pa_nil))))) (pss_one (ps_ret pe_bl)) pss_nil)
    (pss_one (ps_ret (pe_callB (kAll (K := K) rfl) (by rfl) T.b_all (by decide +kernel) (pa_cons (pe_lc (own := [("_law_value", 1)]) (g := gName 1) (tt := tYes) rfl sc_l_integers.nd (kpi_list (K := K) (pv 0)) (blkOk_by (N := ["_law_values", "_law_value"]) (sc := defScope s_l_integers) (by decide +kernel)) (fun _ _ _ _ _ => pg_name (i := 1) sc_l_integers.nd rfl (Or.inl rfl)) (fun _ _ _ _ _ => pts_nil) (fun _ _ _ _ _ => (pe_call G_l_integer (hr.mono (by decide)) rfl C_l_integer.g C_l_integer.k C_l_integer.b .nil pass0 (pa_cons (pv 1) pa_nil)))) pa_nil))))), ?_⟩
    refine sl (σ' := [some (.ref a_values_), none]) rfl ?_
    refine g_when F0 (et_cg (et_not (et_B (ev_cb (ea_cons (ev_var (n := 0) rfl) (ea_cons ev_c ea_nil)) (rc_isi (b := true) (ty_lst b_values_) (kit_ty (by decide +kernel)))))) rfl) (fun q => absurd q (by decide)) (fun _ H F1 => ?_)
    refine ss_ret ?_
    obtain ⟨z4, hz4, hm⟩ := of_bind hm
    obtain ⟨l3, hl3, hm⟩ := of_bind hm
    obtain ⟨x_6, hx_6, hm⟩ := of_bnd hm
    refine st_v (v := .bl x_6) F1 (ev_cg (f := V.bl) (ev_cbN (en_lcL (ws := List.map V.int values_) (zs := List.map V.bl l3) (ev_var (n := 0) rfl) (Or.inl b_values_) (by rw [List.length_map]; exact (of_grd hz4).1) (mlen hl3) (fun _ => rfl) (lcok_map (f := V.int) (g := V.bl) hl3 fun value_2 y hy => by obtain ⟨c5, hc5, hy⟩ := of_bind hy; obtain rfl := Option.some.inj hy; exact (ev_call (ea_cons (ev_var (n := 1) rfl) ea_nil) (fun ys H F Q q => ⟨_, _, value_2, c5, rfl, F, hc5, q⟩)))) (fun p => rc_allN p)) hx_6) fun H F7 => ?_
    obtain rfl := Option.some.inj hm
    exact k _ F7

def sp_law (K : PySem.W.Frag) (G : Cl) : Sp := fun vs H Q _ => ∃ (B : Hp) (cs : Cs) (a_script_ : Addr) (script_ : List Int) (res : Bool), vs = [.ref a_script_] ∧ Fr B cs H ∧ RdS K B cs a_script_ (List.map V.int script_) ∧ m_law script_ = some res ∧ ∀ H', Fr B cs H' → Q (.bl res) H'
abbrev s_law : Stmt := topS 11
theorem sc_law : FnScope ["_law_script", "_law_first", "_law_bound", "_law_count", "_law_numerators", "_law_x", "_law_denominator", "_law_digits", "_law_given", "_law_actual", "_law_expected_here"] ["_law_script"] (defScope s_law) := ⟨rfl, rfl, rfl, by decide +kernel, rfl, by decide +kernel, by decide +kernel⟩
theorem ok_law {P : Program} {w : World} {K : PySem.W.Frag} {G : Cl} {mg : Str → Option Value} {base : Heap} {fa : Addr} {fd : FuncData} (F : Fun K "law" "law" s_law fa fd) (T : Txt K mg) {f_l_cell : Addr} {fd_l_cell : FuncData} (G_l_cell : FnOk P w K mg base CX0 1 f_l_cell fd_l_cell ["_law_script", "_law_k"] (sp_l_cell K G)) (C_l_cell : Cal K mg "_law_cell" f_l_cell fd_l_cell ["_law_script", "_law_k"]) {f_l_row : Addr} {fd_l_row : FuncData} (G_l_row : FnOk P w K mg base CX0 1 f_l_row fd_l_row ["_law_cell_here", "_law_count", "_law_bound"] (sp_l_row K G)) (C_l_row : Cal K mg "_law_row" f_l_row fd_l_row ["_law_cell_here", "_law_count", "_law_bound"]) {f_quantize : Addr} {fd_quantize : FuncData} (G_quantize : FnOk P w K mg base CX0 2 f_quantize fd_quantize ["numerators", "denominator", "precision"] (sp_quantize K G)) (C_quantize : Cal K mg "quantize" f_quantize fd_quantize ["numerators", "denominator", "precision"]) {f_l_expected : Addr} {fd_l_expected : FuncData} (G_l_expected : FnOk P w K mg base CX0 2 f_l_expected fd_l_expected ["_law_numerators", "_law_denominator", "_law_digits"] (sp_l_expected K G)) (C_l_expected : Cal K mg "_law_expected" f_l_expected fd_l_expected ["_law_numerators", "_law_denominator", "_law_digits"]) {f_l_integers : Addr} {fd_l_integers : FuncData} (G_l_integers : FnOk P w K mg base CX0 2 f_l_integers fd_l_integers ["_law_values"] (sp_l_integers K G)) (C_l_integers : Cal K mg "_law_integers" f_l_integers fd_l_integers ["_law_values"]) {f_l_integer : Addr} {fd_l_integer : FuncData} (G_l_integer : FnOk P w K mg base CX0 1 f_l_integer fd_l_integer ["_law_value"] (sp_l_integer K G)) (C_l_integer : Cal K mg "_law_integer" f_l_integer fd_l_integer ["_law_value"]) : FnOk P w K mg base CX0 3 fa fd ["_law_script"] (sp_law K G) := by
  refine F.ok sc_law (fun vs H Q E h => ?_) (fun cdv A outer s HB vs Q E hr h => ?_)
  · obtain ⟨B, cs, a_script_, script_, res, rfl, _⟩ := h
    rfl
  · obtain ⟨B, cs, a_script_, script_, res, rfl, F0, b_script_, hm, k⟩ := h
    unfold m_law at hm
    refine ⟨_, (pss_cons (ps_set (i := 1) sc_law.nd rfl (Or.inl rfl) (pe_call G_l_cell (hr.mono (by decide)) rfl C_l_cell.g C_l_cell.k C_l_cell.b .nil pass0 (pa_cons (pv 0) (pa_cons pe_int pa_nil))))
    (pss_cons (ps_set (i := 2) sc_law.nd rfl (Or.inr rfl) (pe_ix (kIx (K := K)) (pe_lst (pa_cons pe_int (pa_cons pe_int (pa_cons pe_int pa_nil)))) (pe_op op_mod (pe_op op_fdiv (pe_callTy cr_int (by rfl) T.b_int (by decide +kernel) (pa_cons (pv 1) pa_nil)) pe_int) pe_int) (fun _ _ => rfl)))
    (pss_cons (ps_set (i := 3) sc_law.nd rfl (Or.inl rfl) (pe_op op_add (pe_op op_add pe_int (pe_op op_mod (pe_callTy cr_int (by rfl) T.b_int (by decide +kernel) (pa_cons (pv 1) pa_nil)) pe_int)) (pe_op op_mul pe_int (pe_callTy cr_int (by rfl) T.b_int (by decide +kernel) (pa_cons (pe_cmpR op_eq (pe_op op_mod (pe_op op_fdiv (pe_callTy cr_int (by rfl) T.b_int (by decide +kernel) (pa_cons (pv 1) pa_nil)) pe_int) pe_int) pe_int (nomark _)) pa_nil)))))
    (pss_cons (ps_setLc (i := 4) (own := [("_law_x", 5)]) (g := gName 5) (tt := tYes) rfl sc_law.nd rfl rfl (sw_true rfl rfl rfl (by decide +kernel)) (kpi_list (K := K) (pe_call G_l_row (hr.mono (by decide)) rfl C_l_row.g C_l_row.k C_l_row.b .nil pass0 (pa_cons (pe_call G_l_cell (hr.mono (by decide)) rfl C_l_cell.g C_l_cell.k C_l_cell.b .nil pass0 (pa_cons (pv 0) (pa_cons pe_int pa_nil))) (pa_cons (pv 3) (pa_cons (pe_op op_add (pe_op op_mul pe_int (pv 2)) pe_int) pa_nil))))) (blkOk_by (N := ["_law_script", "_law_first", "_law_bound", "_law_count", "_law_numerators", "_law_x", "_law_denominator", "_law_digits", "_law_given", "_law_actual", "_law_expected_here"]) (sc := defScope s_law) (by decide +kernel)) (fun _ _ _ _ _ => pg_name (i := 5) sc_law.nd rfl (Or.inl rfl)) (fun _ _ _ _ _ => pts_nil) (fun _ _ _ _ _ => (pe_op op_sub (pv 5) (pv 2))))
    (pss_cons (ps_set (i := 6) sc_law.nd rfl (Or.inl rfl) (pe_op op_add pe_int (pe_op op_mod (pe_callTy cr_int (by rfl) T.b_int (by decide +kernel) (pa_cons (pe_call G_l_cell (hr.mono (by decide)) rfl C_l_cell.g C_l_cell.k C_l_cell.b .nil pass0 (pa_cons (pv 0) (pa_cons pe_int pa_nil))) pa_nil)) pe_int)))
    (Evl.pss_cut (ps_if (pt_cmpR op_eq (pe_op op_mod (pe_op op_fdiv (pe_callTy cr_int (by rfl) T.b_int (by decide +kernel) (pa_cons (pv 1) pa_nil)) pe_int) pe_int) pe_int (nomark _)) (pss_cons (ps_set (i := 6) sc_law.nd rfl (Or.inl rfl) (pe_op op_add pe_int (pe_op op_mod (pe_callTy cr_int (by rfl) T.b_int (by decide +kernel) (pa_cons (pe_call G_l_cell (hr.mono (by decide)) rfl C_l_cell.g C_l_cell.k C_l_cell.b .nil pass0 (pa_cons (pv 0) (pa_cons pe_int pa_nil))) pa_nil)) pe_int)))
    pss_nil) pss_nil)
    (pss_cons (ps_set (i := 7) sc_law.nd rfl (Or.inl rfl) (pe_op op_add pe_int (pe_op op_mod (pe_callTy cr_int (by rfl) T.b_int (by decide +kernel) (pa_cons (pe_call G_l_cell (hr.mono (by decide)) rfl C_l_cell.g C_l_cell.k C_l_cell.b .nil pass0 (pa_cons (pv 0) (pa_cons pe_int pa_nil))) pa_nil)) pe_int)))
    (pss_cons (ps_set (i := 8) sc_law.nd rfl (Or.inl rfl) (pe_callTy (kLst (K := K)) (by rfl) T.b_list (by decide +kernel) (pa_cons (pv 4) pa_nil)))
    (pss_cons (ps_set (i := 9) sc_law.nd rfl (Or.inl rfl) (pe_call G_quantize (hr.mono (by decide)) rfl C_quantize.g C_quantize.k C_quantize.b .nil pass0 (pa_cons (pv 8) (pa_cons (pv 6) (pa_cons (pv 7) pa_nil)))))
    (pss_cons (ps_set (i := 10) sc_law.nd rfl (Or.inl rfl) (pe_call G_l_expected (hr.mono (by decide)) rfl C_l_expected.g C_l_expected.k C_l_expected.b .nil pass0 (pa_cons (pv 4) (pa_cons (pv 6) (pa_cons (pv 7) pa_nil)))))
    (pss_cons (ps_if (pt_cmpR (kNe (K := K) hr.units) (pv 8) (pv 4) (nomark _)) (pss_one (ps_ret pe_bl)) pss_nil)
    (pss_cons (ps_if (pt_cmpR op_isN (pv 10) pe_non (nomark _)) (pss_one (ps_ret (pe_cmpR op_isN (pv 9) pe_non (nomark _)))) pss_nil)
    (pss_cons (ps_if (PW.pt (pw_or (pt_not (pt_val (pe_callB (kIsi (K := K)) (by rfl) T.b_isinstance (by decide +kernel) (pa_cons (pv 9) (pa_cons (pe_bltn (v := .ty "tuple") (by rfl) T.b_tuple (by decide +kernel) rfl) pa_nil))))) (pw_or1 (pt_cmpR op_ne (pe_callB (kLen (K := K)) (by rfl) T.b_len (by decide +kernel) (pa_cons (pv 9) pa_nil)) pe_int (nomark _))))) (pss_one (ps_ret pe_bl)) pss_nil)
    (pss_one (ps_ret (pe_and (pe_call G_l_integers (hr.mono (by decide)) rfl C_l_integers.g C_l_integers.k C_l_integers.b .nil pass0 (pa_cons (pe_ix (kIxT (K := K)) (pv 9) pe_int (fun _ _ => rfl)) pa_nil)) (pe_and (pe_call G_l_integer (hr.mono (by decide)) rfl C_l_integer.g C_l_integer.k C_l_integer.b .nil pass0 (pa_cons (pe_ix (kIxT (K := K)) (pv 9) pe_int (fun _ _ => rfl)) pa_nil)) (pe_one (pe_cmpR (kEq (K := K) hr.units) (pv 9) (pv 10) (nomark _)))))))))))))))))))), ?_⟩
    refine sl (σ' := [some (.ref a_script_), none, none, none, none, none, none, none, none, none, none]) rfl ?_
    obtain ⟨c1, hc1, hm⟩ := of_bind hm
    refine g_asg (i := 1) (v := .int c1) (σ' := [some (.ref a_script_), some (.int c1), none, none, none, none, none, none, none, none, none]) F0 (ev_call (ea_cons (ev_var (n := 0) rfl) (ea_cons ev_c ea_nil)) (fun ys H F Q q => ⟨_, _, _, script_, 0, c1, rfl, F, (RdS.app b_script_), hc1, q⟩)) rfl fun H F2 => ?_
    obtain ⟨x3, hx3, hm⟩ := of_bind hm
    refine g_asg (i := 2) (v := .int x3) (σ' := [some (.ref a_script_), some (.int c1), some (.int x3), none, none, none, none, none, none, none, none]) F2 (ev_opN1 (en_lst (ea_cons ev_c (ea_cons ev_c (ea_cons ev_c ea_nil)))) (ev_op (ev_op (ev_int (ev_var (n := 1) rfl)) ev_c (rv_divK _)) ev_c (rv_modK _)) (rv_ixN (f := V.int) hx3)) rfl fun H F4 => ?_
    obtain ⟨count_5, hcount_5, hm⟩ := of_bnd hm
    refine g_asg (i := 3) (v := .int count_5) (σ' := [some (.ref a_script_), some (.int c1), some (.int x3), some (.int count_5), none, none, none, none, none, none, none]) F4 (ev_cg (f := V.int) (ev_op (ev_op ev_c (ev_op (ev_int (ev_var (n := 1) rfl)) ev_c (rv_modK _)) rv_I0) (ev_op ev_c (ev_intB (ev_op (ev_op (ev_op (ev_int (ev_var (n := 1) rfl)) ev_c (rv_divK _)) ev_c (rv_modK _)) ev_c rv_eqI)) (rv_mulL _)) rv_I0) hcount_5) rfl fun H F6 => ?_
    obtain ⟨c10, hc10, hm⟩ := of_bind hm
    obtain ⟨c11, hc11, hm⟩ := of_bind hm
    obtain ⟨z9, hz9, hm⟩ := of_bind hm
    obtain ⟨l8, hl8, hm⟩ := of_bind hm
    refine g_asgN (i := 4) (o := .lst (List.map V.int l8)) F6 (en_lcN (ws := List.map V.int c11) (zs := List.map V.int l8) (en_call (ea_cons (ev_call (ea_cons (ev_var (n := 0) rfl) (ea_cons ev_c ea_nil)) (fun ys H F Q q => ⟨_, _, _, script_, 1, c10, rfl, F, (RdS.app b_script_), hc10, q⟩)) (ea_cons (ev_var (n := 3) rfl) (ea_cons (ev_op (ev_op ev_c (ev_var (n := 2) rfl) (rv_mulL _)) ev_c rv_I0) ea_nil))) (fun ys H F Q q => ⟨_, _, c10, count_5, ((2 * x3) + 1), c11, rfl, F, hc11, q⟩)) (by rw [List.length_map]; exact (of_grd hz9).1) (mlen hl8) (fun _ => rfl) (lcok_map (f := V.int) (g := V.int) hl8 fun x_7 y hy => by obtain rfl := Option.some.inj hy; exact (ev_op (ev_var (n := 5) rfl) (ev_var (n := 2) rfl) rv_I0))) fun p12 H F13 => ?_
    refine sl (σ' := [some (.ref a_script_), some (.int c1), some (.int x3), some (.int count_5), some (.ref p12), none, none, none, none, none, none]) rfl ?_
    obtain ⟨c14, hc14, hm⟩ := of_bind hm
    obtain ⟨denominator_15, hdenominator_15, hm⟩ := of_bnd hm
    refine g_asg (i := 6) (v := .int denominator_15) (σ' := [some (.ref a_script_), some (.int c1), some (.int x3), some (.int count_5), some (.ref p12), none, some (.int denominator_15), none, none, none, none]) F13 (ev_cg (f := V.int) (ev_op ev_c (ev_op (ev_int (ev_call (ea_cons (ev_var (n := 0) rfl) (ea_cons ev_c ea_nil)) (fun ys H F Q q => ⟨_, _, _, script_, 2, c14, rfl, F, (RdS.app (RdS.dn 1 b_script_)), hc14, q⟩))) ev_c (rv_modK _)) rv_I0) hdenominator_15) rfl fun H F16 => ?_
    obtain ⟨s1018, hj1024, hm⟩ := of_bind hm
    refine Evl.q_cut (M := fun σ H => σ = [some (.ref a_script_), some (.int c1), some (.int x3), some (.int count_5), some (.ref p12), none, some (.int s1018), none, none, none, none] ∧ Fr B ((p12, .lst (List.map V.int l8)) :: cs) H) ?_ ?_
    · clear hm; have hm := hj1024
      refine s_when F16 (et_test (ev_op (ev_op (ev_op (ev_int (ev_var (n := 1) rfl)) ev_c (rv_divK _)) ev_c (rv_modK _)) ev_c rv_eqI)) (fun hb17 H F => ?_) (fun hb17 H F => ?_)
      · have F1019 := F
        replace hm := of_ifT hb17 hm
        obtain ⟨c1020, hc1020, hm⟩ := of_bind hm
        obtain ⟨denominator_1021, hdenominator_1021, hm⟩ := of_bnd hm
        refine g_asg (i := 6) (v := .int denominator_1021) (σ' := [some (.ref a_script_), some (.int c1), some (.int x3), some (.int count_5), some (.ref p12), none, some (.int denominator_1021), none, none, none, none]) F1019 (ev_cg (f := V.int) (ev_op ev_c (ev_op (ev_int (ev_call (ea_cons (ev_var (n := 0) rfl) (ea_cons ev_c ea_nil)) (fun ys H F Q q => ⟨_, _, _, script_, 2, c1020, rfl, F, (RdS.app (RdS.dn 1 b_script_)), hc1020, q⟩))) ev_c (rv_modK _)) rv_I0) hdenominator_1021) rfl fun H F1022 => ?_
        obtain rfl := Option.some.inj hm
        exact ⟨rfl, F1022⟩
      · have F1023 := F
        replace hm := of_ifF hb17 hm
        obtain rfl := Option.some.inj hm
        exact ⟨rfl, F1023⟩
    · rintro _ H ⟨rfl, F1025⟩
      obtain ⟨c1026, hc1026, hm⟩ := of_bind hm
      obtain ⟨digits_1027, hdigits_1027, hm⟩ := of_bnd hm
      refine g_asg (i := 7) (v := .int digits_1027) (σ' := [some (.ref a_script_), some (.int c1), some (.int x3), some (.int count_5), some (.ref p12), none, some (.int s1018), some (.int digits_1027), none, none, none]) F1025 (ev_cg (f := V.int) (ev_op ev_c (ev_op (ev_int (ev_call (ea_cons (ev_var (n := 0) rfl) (ea_cons ev_c ea_nil)) (fun ys H F Q q => ⟨_, _, _, script_, 3, c1026, rfl, F, (RdS.app (RdS.dn 1 b_script_)), hc1026, q⟩))) ev_c (rv_modK _)) rv_I0) hdigits_1027) rfl fun H F1028 => ?_
      refine g_asgN (i := 8) (o := .lst (List.map V.int l8)) F1028 (en_cb (ea_cons (ev_var (n := 4) rfl) ea_nil) (rc_list (vs := List.map V.int l8) (Or.inl (Rd.own 0 rfl)))) fun p1029 H F1030 => ?_
      refine sl (σ' := [some (.ref a_script_), some (.int c1), some (.int x3), some (.int count_5), some (.ref p12), none, some (.int s1018), some (.int digits_1027), some (.ref p1029), none, none]) rfl ?_
      refine ss_asg ?_
      refine st_call ?_
      refine st_cons ?_
      refine st_v F1030 (ev_var (n := 8) rfl) fun H F1031 => ?_
      refine st_cons ?_
      refine st_v (v := .int s1018) F1031 (ev_var (n := 6) rfl) fun H F1033 => ?_
      refine st_cons ?_
      refine st_v (v := .int digits_1027) F1033 (ev_var (n := 7) rfl) fun H F1035 => ?_
      refine st_nil ?_
      obtain ⟨c1037, hc1037, hm⟩ := of_bind hm
      refine st_scE ⟨_, _, _, l8, s1018, digits_1027, c1037, rfl, F1035, (Rd.own 0 rfl), hc1037, fun v1039 B1040 H e1041 r1042 F1038 => ?_⟩
      replace b_script_ := RdS.to b_script_ e1041
      refine gn (σ' := [some (.ref a_script_), some (.int c1), some (.int x3), some (.int count_5), some (.ref p12), none, some (.int s1018), some (.int digits_1027), some (.ref p1029), some (v1039), none]) rfl ?_
      refine ss_asg ?_
      refine st_call ?_
      refine st_cons ?_
      refine st_v F1038 (ev_var (n := 4) rfl) fun H F1043 => ?_
      refine st_cons ?_
      refine st_v (v := .int s1018) F1043 (ev_var (n := 6) rfl) fun H F1045 => ?_
      refine st_cons ?_
      refine st_v (v := .int digits_1027) F1045 (ev_var (n := 7) rfl) fun H F1047 => ?_
      refine st_nil ?_
      obtain ⟨c1049, hc1049, hm⟩ := of_bind hm
      refine st_scE ⟨_, _, _, l8, s1018, digits_1027, c1049, rfl, F1047, (Rd.own 1 rfl), hc1049, fun v1051 B1052 H e1053 r1054 F1050 => ?_⟩
      replace b_script_ := RdS.to b_script_ e1053
      replace r1042 := Rp.to r1042 e1053
      replace e1041 := Ex.trans e1041 e1053
      refine gn (σ' := [some (.ref a_script_), some (.int c1), some (.int x3), some (.int count_5), some (.ref p12), none, some (.int s1018), some (.int digits_1027), some (.ref p1029), some (v1039), some (v1051)]) rfl ?_
      refine g_when F1050 (et_test (ev_op (ev_var (n := 8) rfl) (ev_var (n := 4) rfl) (rv_neL (xs := l8) (ys := l8) (Or.inl (Rd.own 0 rfl)) (Or.inl (Rd.own 1 rfl))))) (fun hb1055 H F => ?_) (fun hb1055 H F => ?_)
      · have F1056 := F
        replace hm := of_ifT hb1055 hm
        refine ss_ret ?_
        refine st_v (v := .bl false) F1056 ev_c fun H F1057 => ?_
        obtain rfl := Option.some.inj hm
        exact k _ ((Fr.pickT (ds := []) 2 F1057 [] (by decide) (by decide) rfl).weak e1041)
      · have F1058 := F
        replace hm := of_ifF hb1055 hm
        rcases of_optS hm with ⟨ho1059, hm⟩ | ⟨y1060, ho1061, hm⟩
        · obtain rfl := rp_ofN ho1059 r1054
          refine g_when F1058 (et_test (ev_op (ev_var (n := 10) rfl) ev_c rv_isT)) (fun _ H F1063 => ?_) (fun q => absurd q (by decide))
          rcases of_optS hm with ⟨ho1064, hm⟩ | ⟨y1065, ho1066, hm⟩
          · obtain rfl := rp_ofN ho1064 r1042
            refine ss_ret ?_
            refine st_v (v := .bl true) F1063 (ev_op (ev_var (n := 9) rfl) ev_c rv_isT) fun H F1068 => ?_
            obtain rfl := Option.some.inj hm
            exact k _ ((Fr.pickT (ds := []) 2 F1068 [] (by decide) (by decide) rfl).weak e1041)
          · have r1067 := rp_ofS ho1066 r1042
            obtain ⟨a_actual_1069, v1071, v1072, rfl, hT1070, r1073, r1074⟩ := r1067.t2
            obtain ⟨a_actual_1075, rfl, hB1076⟩ := r1073.li
            obtain rfl := r1074.i
            refine sl (σ' := [some (.ref a_script_), some (.int c1), some (.int x3), some (.int count_5), some (.ref p12), none, some (.int s1018), some (.int digits_1027), some (.ref p1029), some (.ref a_actual_1069), some (.non)]) rfl ?_
            refine ss_ret ?_
            refine st_v (v := .bl false) F1063 (ev_op (ev_var (n := 9) rfl) ev_c (rv_isF (fun h => nomatch h))) fun H F1077 => ?_
            obtain rfl := Option.some.inj hm
            exact k _ ((Fr.pickT (ds := []) 2 F1077 [] (by decide) (by decide) rfl).weak e1041)
        · have r1062 := rp_ofS ho1061 r1054
          obtain ⟨a_expected_here_1078, v1080, v1081, rfl, hT1079, r1082, r1083⟩ := r1062.t2
          obtain ⟨a_expected_here_1084, rfl, hB1085⟩ := r1082.li
          obtain rfl := r1083.i
          refine sl (σ' := [some (.ref a_script_), some (.int c1), some (.int x3), some (.int count_5), some (.ref p12), none, some (.int s1018), some (.int digits_1027), some (.ref p1029), some (v1039), some (.ref a_expected_here_1078)]) rfl ?_
          refine g_when F1058 (et_test (ev_op (ev_var (n := 10) rfl) ev_c (rv_isF (fun h => nomatch h)))) (fun q => absurd q (by decide)) (fun _ H F1086 => ?_)
          rcases of_optS hm with ⟨ho1087, hm⟩ | ⟨y1088, ho1089, hm⟩
          · obtain rfl := rp_ofN ho1087 r1042
            refine g_when F1086 (et_cg (c := true) (et_or (c := true) (et_cg (et_not (et_B (ev_cb (ea_cons (ev_var (n := 9) rfl) (ea_cons ev_c ea_nil)) (rc_isi (b := false) ty_non (kit_ty (by decide +kernel)))))) rfl) (fun q => absurd q (by decide))) rfl) (fun _ H F1091 => ?_) (fun q => absurd q (by decide))
            refine ss_ret ?_
            refine st_v (v := .bl false) F1091 ev_c fun H F1092 => ?_
            obtain rfl := Option.some.inj hm
            exact k _ ((Fr.pickT (ds := []) 2 F1092 [] (by decide) (by decide) rfl).weak e1041)
          · have r1090 := rp_ofS ho1089 r1042
            obtain ⟨a_actual_1093, v1095, v1096, rfl, hT1094, r1097, r1098⟩ := r1090.t2
            obtain ⟨a_actual_1099, rfl, hB1100⟩ := r1097.li
            obtain rfl := r1098.i
            refine sl (σ' := [some (.ref a_script_), some (.int c1), some (.int x3), some (.int count_5), some (.ref p12), none, some (.int s1018), some (.int digits_1027), some (.ref p1029), some (.ref a_actual_1093), some (.ref a_expected_here_1078)]) rfl ?_
            refine g_when F1086 (et_or (et_cg (et_not (et_B (ev_cb (ea_cons (ev_var (n := 9) rfl) (ea_cons ev_c ea_nil)) (rc_isiT (b := true) hT1094 (kit_ty (by decide +kernel)))))) rfl) (fun _ => (et_test (ev_op (ev_cb (ea_cons (ev_var (n := 9) rfl) ea_nil) (rc_lenT (n := 2) hT1094 rfl)) ev_c rv_neI)))) (fun hb1101 H F => ?_) (fun hb1101 H F => ?_)
            · have F1102 := F
              replace hm := of_ifT hb1101 hm
              refine ss_ret ?_
              refine st_v (v := .bl false) F1102 ev_c fun H F1103 => ?_
              obtain rfl := Option.some.inj hm
              exact k _ ((Fr.pickT (ds := []) 2 F1103 [] (by decide) (by decide) rfl).weak e1041)
            · have F1104 := F
              replace hm := of_ifF hb1101 hm
              refine ss_ret ?_
              obtain ⟨c1105, hc1105, hm⟩ := of_bind hm
              obtain ⟨b1109, hb1109, hm⟩ := of_bind hm
              refine st_v (v := .bl b1109) F1104 (ev_andVO hb1109 (ev_call (ea_cons (ev_op (ev_var (n := 9) rfl) ev_c (rv_ixTV (n := 0) hT1094 rfl)) ea_nil) (fun ys H F Q q => ⟨_, _, _, y1088.1, c1105, rfl, F, (Rd.app (Or.inl hB1100)), hc1105, q⟩)) (fun y hy => by obtain ⟨c1106, hc1106, hy⟩ := of_bind hy; obtain ⟨b1108, hb1108, hy⟩ := of_bind hy; obtain rfl := Option.some.inj hy; exact (ev_andVO hb1108 (ev_call (ea_cons (ev_op (ev_var (n := 9) rfl) ev_c (rv_ixTV (n := 1) hT1094 rfl)) ea_nil) (fun ys H F Q q => ⟨_, _, y1088.2, c1106, rfl, F, hc1106, q⟩)) (fun y hy => by obtain ⟨q1107, hq1107, hy⟩ := of_bind hy; obtain rfl := Option.some.inj hy; exact (ev_op (ev_var (n := 9) rfl) (ev_var (n := 10) rfl) (rv_eqC hq1107 (dpf_rp (G := G) (show Rp K G _ _ ((pD2 (lD D.int) D.int) y1088) from (rp_t2 hT1094 (rp_li hB1100) rp_i))) (dpf_rp (G := G) (show Rp K G _ _ ((pD2 (lD D.int) D.int) y1060) from (rp_t2 hT1079 (rp_li hB1085) rp_i))))))))) fun H F1110 => ?_
              obtain rfl := Option.some.inj hm
              exact k _ ((Fr.pickT (ds := []) 2 F1110 [] (by decide) (by decide) rfl).weak e1041)

theorem all_mk {l : PySem.W.OpenLaw} {w : World} {K : PySem.W.Frag} {h : Heap} {mg : Str → Option Value} {fa : Addr} {f_l_cell : Addr} {f_l_row : Addr} {f_nearest : Addr} {f_quantize : Addr} {f_l_rounded : Addr} {f_l_expected : Addr} {f_l_integer : Addr} {f_l_integers : Addr} {f_law : Addr} (X : K.In h) (G : h.Ns mainGlobals mg) (hfa : mg "law" = some (.ref fa))
    {od_l_cell an_l_cell : Option Addr} {sl_l_cell : Array (Option Value)} {oc_l_cell kV_l_cell dc_l_cell pm_l_cell cd_l_cell ct_l_cell : Value}
    {od_l_row an_l_row : Option Addr} {sl_l_row : Array (Option Value)} {oc_l_row kV_l_row dc_l_row pm_l_row cd_l_row ct_l_row : Value}
    {od_nearest an_nearest : Option Addr} {sl_nearest : Array (Option Value)} {oc_nearest kV_nearest dc_nearest pm_nearest cd_nearest ct_nearest : Value}
    {od_quantize an_quantize : Option Addr} {sl_quantize : Array (Option Value)} {oc_quantize kV_quantize dc_quantize pm_quantize cd_quantize ct_quantize : Value}
    {od_l_rounded an_l_rounded : Option Addr} {sl_l_rounded : Array (Option Value)} {oc_l_rounded kV_l_rounded dc_l_rounded pm_l_rounded cd_l_rounded ct_l_rounded : Value}
    {od_l_expected an_l_expected : Option Addr} {sl_l_expected : Array (Option Value)} {oc_l_expected kV_l_expected dc_l_expected pm_l_expected cd_l_expected ct_l_expected : Value}
    {od_l_integer an_l_integer : Option Addr} {sl_l_integer : Array (Option Value)} {oc_l_integer kV_l_integer dc_l_integer pm_l_integer cd_l_integer ct_l_integer : Value}
    {od_l_integers an_l_integers : Option Addr} {sl_l_integers : Array (Option Value)} {oc_l_integers kV_l_integers dc_l_integers pm_l_integers cd_l_integers ct_l_integers : Value}
    {od_law an_law : Option Addr} {sl_law : Array (Option Value)} {oc_law kV_law dc_law pm_law cd_law ct_law : Value}
    {t_HIGHEST_SHIFT : Tok}
    (a_l_cell : PySem.W.nsIn K mainGlobals "_law_cell" = some (some (.ref f_l_cell))) (l_l_cell : K.lookup f_l_cell = some ⟨oc_l_cell, od_l_cell, .func (PySem.W.fnOf "_law_cell" "_law_cell" (defArgs s_l_cell) (defBody s_l_cell) (defScope s_l_cell) .none kV_l_cell dc_l_cell pm_l_cell an_l_cell cd_l_cell ct_l_cell), sl_l_cell⟩) (c_l_cell : PySem.W.codeIn K cd_l_cell "_law_cell" = true) (k_l_cell : PySem.W.keepIn K (.ref f_l_cell) = true)
    (a_l_row : PySem.W.nsIn K mainGlobals "_law_row" = some (some (.ref f_l_row))) (l_l_row : K.lookup f_l_row = some ⟨oc_l_row, od_l_row, .func (PySem.W.fnOf "_law_row" "_law_row" (defArgs s_l_row) (defBody s_l_row) (defScope s_l_row) .none kV_l_row dc_l_row pm_l_row an_l_row cd_l_row ct_l_row), sl_l_row⟩) (c_l_row : PySem.W.codeIn K cd_l_row "_law_row" = true) (k_l_row : PySem.W.keepIn K (.ref f_l_row) = true)
    (a_nearest : PySem.W.nsIn K mainGlobals "_nearest" = some (some (.ref f_nearest))) (l_nearest : K.lookup f_nearest = some ⟨oc_nearest, od_nearest, .func (PySem.W.fnOf "_nearest" "_nearest" (defArgs s_nearest) (defBody s_nearest) (defScope s_nearest) .none kV_nearest dc_nearest pm_nearest an_nearest cd_nearest ct_nearest), sl_nearest⟩) (c_nearest : PySem.W.codeIn K cd_nearest "_nearest" = true) (k_nearest : PySem.W.keepIn K (.ref f_nearest) = true)
    (a_quantize : PySem.W.nsIn K mainGlobals "quantize" = some (some (.ref f_quantize))) (l_quantize : K.lookup f_quantize = some ⟨oc_quantize, od_quantize, .func (PySem.W.fnOf "quantize" "quantize" (defArgs s_quantize) (defBody s_quantize) (defScope s_quantize) .none kV_quantize dc_quantize pm_quantize an_quantize cd_quantize ct_quantize), sl_quantize⟩) (c_quantize : PySem.W.codeIn K cd_quantize "quantize" = true) (k_quantize : PySem.W.keepIn K (.ref f_quantize) = true)
    (a_l_rounded : PySem.W.nsIn K mainGlobals "_law_rounded" = some (some (.ref f_l_rounded))) (l_l_rounded : K.lookup f_l_rounded = some ⟨oc_l_rounded, od_l_rounded, .func (PySem.W.fnOf "_law_rounded" "_law_rounded" (defArgs s_l_rounded) (defBody s_l_rounded) (defScope s_l_rounded) .none kV_l_rounded dc_l_rounded pm_l_rounded an_l_rounded cd_l_rounded ct_l_rounded), sl_l_rounded⟩) (c_l_rounded : PySem.W.codeIn K cd_l_rounded "_law_rounded" = true) (k_l_rounded : PySem.W.keepIn K (.ref f_l_rounded) = true)
    (a_l_expected : PySem.W.nsIn K mainGlobals "_law_expected" = some (some (.ref f_l_expected))) (l_l_expected : K.lookup f_l_expected = some ⟨oc_l_expected, od_l_expected, .func (PySem.W.fnOf "_law_expected" "_law_expected" (defArgs s_l_expected) (defBody s_l_expected) (defScope s_l_expected) .none kV_l_expected dc_l_expected pm_l_expected an_l_expected cd_l_expected ct_l_expected), sl_l_expected⟩) (c_l_expected : PySem.W.codeIn K cd_l_expected "_law_expected" = true) (k_l_expected : PySem.W.keepIn K (.ref f_l_expected) = true)
    (a_l_integer : PySem.W.nsIn K mainGlobals "_law_integer" = some (some (.ref f_l_integer))) (l_l_integer : K.lookup f_l_integer = some ⟨oc_l_integer, od_l_integer, .func (PySem.W.fnOf "_law_integer" "_law_integer" (defArgs s_l_integer) (defBody s_l_integer) (defScope s_l_integer) .none kV_l_integer dc_l_integer pm_l_integer an_l_integer cd_l_integer ct_l_integer), sl_l_integer⟩) (c_l_integer : PySem.W.codeIn K cd_l_integer "_law_integer" = true) (k_l_integer : PySem.W.keepIn K (.ref f_l_integer) = true)
    (a_l_integers : PySem.W.nsIn K mainGlobals "_law_integers" = some (some (.ref f_l_integers))) (l_l_integers : K.lookup f_l_integers = some ⟨oc_l_integers, od_l_integers, .func (PySem.W.fnOf "_law_integers" "_law_integers" (defArgs s_l_integers) (defBody s_l_integers) (defScope s_l_integers) .none kV_l_integers dc_l_integers pm_l_integers an_l_integers cd_l_integers ct_l_integers), sl_l_integers⟩) (c_l_integers : PySem.W.codeIn K cd_l_integers "_law_integers" = true) (k_l_integers : PySem.W.keepIn K (.ref f_l_integers) = true)
    (a_law : PySem.W.nsIn K mainGlobals "law" = some (some (.ref f_law))) (l_law : K.lookup f_law = some ⟨oc_law, od_law, .func (PySem.W.fnOf "law" "law" (defArgs s_law) (defBody s_law) (defScope s_law) .none kV_law dc_law pm_law an_law cd_law ct_law), sl_law⟩) (c_law : PySem.W.codeIn K cd_law "law" = true) (k_law : PySem.W.keepIn K (.ref f_law) = true)
    (z_abs : PySem.W.nsIn K mainGlobals "abs" = some none)
    (z_all : PySem.W.nsIn K mainGlobals "all" = some none)
    (z_bool : PySem.W.nsIn K mainGlobals "bool" = some none)
    (z_int : PySem.W.nsIn K mainGlobals "int" = some none)
    (z_isinstance : PySem.W.nsIn K mainGlobals "isinstance" = some none)
    (z_len : PySem.W.nsIn K mainGlobals "len" = some none)
    (z_list : PySem.W.nsIn K mainGlobals "list" = some none)
    (z_max : PySem.W.nsIn K mainGlobals "max" = some none)
    (z_range : PySem.W.nsIn K mainGlobals "range" = some none)
    (z_tuple : PySem.W.nsIn K mainGlobals "tuple" = some none)
    (y_HIGHEST_SHIFT : PySem.W.nsIn K mainGlobals "HIGHEST_SHIFT" = some (some (.int 15 t_HIGHEST_SHIFT))) :
    ∃ fd : FuncData, (∀ (s : Shared) (v : Value), BindsTo s fd ⟨[v], []⟩ [("_law_script", v)]) ∧ ∀ base : Heap, K.In base → base.Ns mainGlobals mg → FnOk l.prog w K mg base CX0 3 fa fd ["_law_script"] (sp_law K G0) := by
  have e := hfa.symm.trans (PySem.W.mg_of X G a_law)
  cases e
  have T : Txt K mg := ⟨PySem.W.mg_none_of X G z_abs, PySem.W.mg_none_of X G z_all, PySem.W.mg_none_of X G z_bool, PySem.W.mg_none_of X G z_int, PySem.W.mg_none_of X G z_isinstance, PySem.W.mg_none_of X G z_len, PySem.W.mg_none_of X G z_list, PySem.W.mg_none_of X G z_max, PySem.W.mg_none_of X G z_range, PySem.W.mg_none_of X G z_tuple, ⟨_, PySem.W.mg_of X G y_HIGHEST_SHIFT⟩⟩
  have F_l_cell := fun_mk (st := s_l_cell) l_l_cell c_l_cell k_l_cell
  have b_l_cell := F_l_cell.binds (ps := ["_law_script", "_law_k"]) fun _ _ _ _ _ _ us hl => match us, hl with | [_, _], _ => rfl
  have C_l_cell : Cal K mg "_law_cell" f_l_cell _ _ := ⟨PySem.W.mg_of X G a_l_cell, k_l_cell, b_l_cell⟩
  have F_l_row := fun_mk (st := s_l_row) l_l_row c_l_row k_l_row
  have b_l_row := F_l_row.binds (ps := ["_law_cell_here", "_law_count", "_law_bound"]) fun _ _ _ _ _ _ us hl => match us, hl with | [_, _, _], _ => rfl
  have C_l_row : Cal K mg "_law_row" f_l_row _ _ := ⟨PySem.W.mg_of X G a_l_row, k_l_row, b_l_row⟩
  have F_nearest := fun_mk (st := s_nearest) l_nearest c_nearest k_nearest
  have b_nearest := F_nearest.binds (ps := ["a", "b"]) fun _ _ _ _ _ _ us hl => match us, hl with | [_, _], _ => rfl
  have C_nearest : Cal K mg "_nearest" f_nearest _ _ := ⟨PySem.W.mg_of X G a_nearest, k_nearest, b_nearest⟩
  have F_quantize := fun_mk (st := s_quantize) l_quantize c_quantize k_quantize
  have b_quantize := F_quantize.binds (ps := ["numerators", "denominator", "precision"]) fun _ _ _ _ _ _ us hl => match us, hl with | [_, _, _], _ => rfl
  have C_quantize : Cal K mg "quantize" f_quantize _ _ := ⟨PySem.W.mg_of X G a_quantize, k_quantize, b_quantize⟩
  have F_l_rounded := fun_mk (st := s_l_rounded) l_l_rounded c_l_rounded k_l_rounded
  have b_l_rounded := F_l_rounded.binds (ps := ["_law_numerator", "_law_denominator", "_law_moved"]) fun _ _ _ _ _ _ us hl => match us, hl with | [_, _, _], _ => rfl
  have C_l_rounded : Cal K mg "_law_rounded" f_l_rounded _ _ := ⟨PySem.W.mg_of X G a_l_rounded, k_l_rounded, b_l_rounded⟩
  have F_l_expected := fun_mk (st := s_l_expected) l_l_expected c_l_expected k_l_expected
  have b_l_expected := F_l_expected.binds (ps := ["_law_numerators", "_law_denominator", "_law_digits"]) fun _ _ _ _ _ _ us hl => match us, hl with | [_, _, _], _ => rfl
  have C_l_expected : Cal K mg "_law_expected" f_l_expected _ _ := ⟨PySem.W.mg_of X G a_l_expected, k_l_expected, b_l_expected⟩
  have F_l_integer := fun_mk (st := s_l_integer) l_l_integer c_l_integer k_l_integer
  have b_l_integer := F_l_integer.binds (ps := ["_law_value"]) fun _ _ _ _ _ _ us hl => match us, hl with | [_], _ => rfl
  have C_l_integer : Cal K mg "_law_integer" f_l_integer _ _ := ⟨PySem.W.mg_of X G a_l_integer, k_l_integer, b_l_integer⟩
  have F_l_integers := fun_mk (st := s_l_integers) l_l_integers c_l_integers k_l_integers
  have b_l_integers := F_l_integers.binds (ps := ["_law_values"]) fun _ _ _ _ _ _ us hl => match us, hl with | [_], _ => rfl
  have C_l_integers : Cal K mg "_law_integers" f_l_integers _ _ := ⟨PySem.W.mg_of X G a_l_integers, k_l_integers, b_l_integers⟩
  have F_law := fun_mk (st := s_law) l_law c_law k_law
  refine ⟨PySem.W.fnOf "law" "law" (defArgs s_law) (defBody s_law) (defScope s_law) .none kV_law dc_law pm_law an_law cd_law ct_law, fun s v => .of_eq rfl, fun base _ _ => ?_⟩
  have G_l_cell := ok_l_cell (P := l.prog) (w := w) (base := base) (G := G0) F_l_cell T
  have G_l_row := ok_l_row (P := l.prog) (w := w) (base := base) (G := G0) F_l_row T
  have G_nearest := ok_nearest (P := l.prog) (w := w) (base := base) (G := G0) F_nearest T
  have G_quantize := ok_quantize (P := l.prog) (w := w) (base := base) (G := G0) F_quantize T G_nearest C_nearest
  have G_l_rounded := ok_l_rounded (P := l.prog) (w := w) (base := base) (G := G0) F_l_rounded T
  have G_l_expected := ok_l_expected (P := l.prog) (w := w) (base := base) (G := G0) F_l_expected T G_l_rounded C_l_rounded
  have G_l_integer := ok_l_integer (P := l.prog) (w := w) (base := base) (G := G0) F_l_integer T
  have G_l_integers := ok_l_integers (P := l.prog) (w := w) (base := base) (G := G0) F_l_integers T G_l_integer C_l_integer
  exact ok_law F_law T G_l_cell C_l_cell G_l_row C_l_row G_quantize C_quantize G_l_expected C_l_expected G_l_integers C_l_integers G_l_integer C_l_integer
theorem walk {l : PySem.W.OpenLaw} {q : Program} {loose : List Str} {XP : (Str → Option Value) → Heap → Prop} {YP : World → Heap → Prop} {d : DefRec} {K : Params → PySem.W.Frag} (hn : l.most = some 63) (hdf : d.params.defaults = [])
    (true_ : ∀ ns : List Int, ns.length ≤ 63 → (∀ z ∈ ns, Builtin.Int.intBits z ≤ 1048576) → m_law ns = some true)
    (hY : ∀ (w : World) (h : Heap), YP w h → (K w.params).In h)
    (F : ∀ (w : World) (mg : Str → Option Value) (fa : Addr) (h : Heap), (K w.params).In h → h.Ns mainGlobals mg → mg d.name = some (.ref fa) →
      ∃ fd : FuncData, (∀ (s : Shared) (u : Value), BindsTo s fd ⟨[u], []⟩ [("_law_script", u)]) ∧ ∀ base : Heap, (K w.params).In base → base.Ns mainGlobals mg → FnOk l.prog w (K w.params) mg base CX0 3 fa fd ["_law_script"] (sp_law (K w.params) G0)) :
    PySem.W.WalkO q loose XP YP l.row.toRowW d [] (fun f vs => PySem.call f vs) :=
  L2.walk_ofB (n := 63) (k := 3) (x := "_law_script") (CX := fun _ => CX0) (sp := fun w => sp_law (K w.params) G0) hn (by decide) hdf ⟨rfl, by decide, by decide⟩ hY F (fun _ H a ns hl hb _ hS => ⟨H, [], a, ns, true, rfl, Fr.refl H, Or.inr hS, true_ ns hl hb, fun _ _ => rfl⟩) fun _ _ _ _ _ z => z
end K61
open PySem PySem.W PyProof.Rows
set_option maxRecDepth 100000 in
set_option maxHeartbeats 0 in
theorem PySem.Challenge.cw_monochord_k61_quantized_coefficients_holds : PySem.Challenge.rw_monochord_k61_quantized_coefficients.Holds := by
  w_on; o_law; k_head; (case hw => w_witness2)
  k_fill
  refine K61.walk (l := PySem.Challenge.rw_monochord_k61_quantized_coefficients) rfl rfl K61.law_true (fun w h Y => PySem.W.kIn_of Y) ?F
  case F =>
    intro w mg fa h KX G hmg
    refine' K61.all_mk KX G hmg ?a_l_cell ?l_l_cell ?c_l_cell ?k_l_cell ?a_l_row ?l_l_row ?c_l_row ?k_l_row ?a_nearest ?l_nearest ?c_nearest ?k_nearest ?a_quantize ?l_quantize ?c_quantize ?k_quantize ?a_l_rounded ?l_l_rounded ?c_l_rounded ?k_l_rounded ?a_l_expected ?l_l_expected ?c_l_expected ?k_l_expected ?a_l_integer ?l_l_integer ?c_l_integer ?k_l_integer ?a_l_integers ?l_l_integers ?c_l_integers ?k_l_integers ?a_law ?l_law ?c_law ?k_law ?z_abs ?z_all ?z_bool ?z_int ?z_isinstance ?z_len ?z_list ?z_max ?z_range ?z_tuple ?y_HIGHEST_SHIFT
    (case a_l_cell => k_is)
    (case l_l_cell => k_is)
    (case c_l_cell => k_is)
    (case k_l_cell => k_is)
    (case a_l_row => k_is)
    (case l_l_row => k_is)
    (case c_l_row => k_is)
    (case k_l_row => k_is)
    (case a_nearest => k_is)
    (case l_nearest => k_is)
    (case c_nearest => k_is)
    (case k_nearest => k_is)
    (case a_quantize => k_is)
    (case l_quantize => k_is)
    (case c_quantize => k_is)
    (case k_quantize => k_is)
    (case a_l_rounded => k_is)
    (case l_l_rounded => k_is)
    (case c_l_rounded => k_is)
    (case k_l_rounded => k_is)
    (case a_l_expected => k_is)
    (case l_l_expected => k_is)
    (case c_l_expected => k_is)
    (case k_l_expected => k_is)
    (case a_l_integer => k_is)
    (case l_l_integer => k_is)
    (case c_l_integer => k_is)
    (case k_l_integer => k_is)
    (case a_l_integers => k_is)
    (case l_l_integers => k_is)
    (case c_l_integers => k_is)
    (case k_l_integers => k_is)
    (case a_law => k_is)
    (case l_law => k_is)
    (case c_law => k_is)
    (case k_law => k_is)
    (case z_abs => k_is)
    (case z_all => k_is)
    (case z_bool => k_is)
    (case z_int => k_is)
    (case z_isinstance => k_is)
    (case z_len => k_is)
    (case z_list => k_is)
    (case z_max => k_is)
    (case z_range => k_is)
    (case z_tuple => k_is)
    (case y_HIGHEST_SHIFT => k_is)
