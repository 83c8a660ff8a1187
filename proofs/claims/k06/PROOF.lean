import PyProof.Rows.All
import Wide.All
import OpenK.AllK
import Wide.FinOn
import HandS.ForMost
import HandS.Evl
import HandS.IsInst
import HandS.Wide
import HandS.WideBits
import HandS.Flow
import HandS.EndBits
import HandS.Defaults
import PySem.Challenge.RW_monochord_k06_checksums_tell_bursts
set_option Elab.async false
set_option linter.all false
set_option maxRecDepth 100000
set_option maxHeartbeats 4000000
/-! Mn: mirrors in the option monad, and how a reading of a def meets its mirror -/
namespace Mn
open PySem L2
open Evl (Ex)
/-! ### mirrors -/
theorem of_bind {A B : Type} {m : Option A} {f : A → Option B} {r : B} (h : m.bind f = some r) : ∃ x, m = some x ∧ f x = some r := by
  cases m with
  | none => cases h
  | some x => exact ⟨x, rfl, h⟩
def mapS {A C S : Type} (f : A → S → Option (C × S)) : List A → S → Option (List C × S)
  | [], s => some ([], s)
  | x :: l, s => (f x s).bind fun p => (mapS f l p.2).bind fun q => some (p.1 :: q.1, q.2)
def bnd {A B : Type} (e : A) (f : A → B) : B := f e
theorem of_bnd {A B : Type} {e : A} {f : A → B} {r : B} (h : bnd e f = r) : ∃ x, e = x ∧ f x = r := ⟨e, rfl, h⟩
@[simp] theorem bnd_eq {A B : Type} (e : A) (f : A → B) : bnd e f = f e := by exact (fun (h : bnd e f = f e) => h) rfl
@[simp] theorem some_bind' {A B : Type} (e : A) (f : A → Option B) : (some e).bind f = f e := by exact (fun (h : (some e).bind f = f e) => h) rfl
inductive Fl (S R : Type) where
  | nx (s : S) | bk (s : S) | rt (r : R)
def itM {A S : Type} (f : A → S → Option S) : List A → S → Option S
  | [], s => some s
  | x :: l, s => (f x s).bind fun s' => itM f l s'
def itF {A S R : Type} (f : A → S → Option (Fl S R)) : List A → S → Option (Fl S R)
  | [], s => some (.nx s)
  | x :: l, s => (f x s).bind fun r => match r with
    | .nx s' => itF f l s'
    | .bk s' => some (.nx s')
    | .rt q => some (.rt q)
/-- while, in at most so many turns -/
def whF {S R : Type} (c : S → Option Bool) (f : S → Option (Fl S R)) : Nat → S → Option (Fl S R)
  | 0, _ => none
  | n + 1, s => (c s).bind fun b => if b = true then (f s).bind fun r => match r with
      | .nx s' => whF c f n s'
      | .bk s' => some (.nx s')
      | .rt q => some (.rt q)
    else some (.nx s)
def mapO {A B : Type} (f : A → Option B) : List A → Option (List B)
  | [] => some []
  | x :: l => (f x).bind fun y => (mapO f l).bind fun r => some (y :: r)
/-- [e for x in xs if c] -/
def fmO {A B : Type} (c : A → Option Bool) (f : A → Option B) : List A → Option (List B)
  | [] => some []
  | x :: l => (c x).bind fun b => if b = true then (f x).bind fun y => (fmO c f l).bind fun r => some (y :: r) else fmO c f l
def rngI (lo hi : Int) : List Int := (List.range (hi - lo).toNat).map fun (i : Nat) => lo + (i : Int)
instance {i j : Int} : Decidable (IntMulOk i j) := by unfold IntMulOk; infer_instance
instance {i j : Int} : Decidable (CShl i j) := by unfold CShl; infer_instance
instance {i j : Int} : Decidable (CPow i j) := by unfold CPow; infer_instance
def grd {A : Type} (p : Prop) [Decidable p] (e : A) : Option A := if p then some e else none
theorem of_grd {A : Type} {p : Prop} [Decidable p] {e r : A} (h : grd p e = some r) : p ∧ e = r := by
  unfold grd at h
  split at h
  · next hp => exact ⟨hp, Option.some.inj h⟩
  · cases h
theorem grd_ok {A : Type} {p : Prop} [Decidable p] {e : A} (h : p) : grd p e = some e := if_pos h
def modC (i j : Int) : Option Int := grd (0 < j) (i % j)
def divC (i j : Int) : Option Int := grd (0 < j ∧ j.natAbs.log2 < 9000) (i / j)
def mulC (i j : Int) : Option Int := grd (IntMulOk i j) (i * j)
def shlC (i j : Int) : Option Int := grd (CShl i j) (i * 2 ^ j.toNat)
def shrC (i j : Int) : Option Int := grd (0 ≤ j) (i / 2 ^ j.toNat)
def powC (i j : Int) : Option Int := grd (CPow i j) (i ^ j.toNat)
def sizeC : Nat := 16777216
theorem sizeC_eq : sizeC = sizeLine := by rw [sizeLine_eq]; rfl
def appC {A : Type} (xs : List A) (x : A) : Option (List A) := grd (xs.length < 16777216) (xs ++ [x])
def catC {A : Type} (xs ys : List A) : Option (List A) := grd (xs.length + ys.length ≤ 16777216) (xs ++ ys)
def repC {A : Type} (xs : List A) (k : Int) : Option (List A) := grd (-(2 ^ 63) ≤ k ∧ k < 2 ^ 63 ∧ xs.length * k.toNat ≤ 16777216) (List.replicate k.toNat xs).flatten
def setC {A : Type} (xs : List A) (i : Int) (x : A) : Option (List A) := (ixN xs.length i).map fun j => xs.set j x
def cut {A : Type} (xs : List A) (lo hi : Option Int) : List A := (xs.drop (HT.sIx xs.length 0 lo)).take (HT.sIx xs.length xs.length hi - HT.sIx xs.length 0 lo)
/-- a range's ends -/
def rngC (lo hi : Int) : Option (List Int) := grd (-(2 ^ 62) ≤ lo ∧ lo < 2 ^ 62 ∧ -(2 ^ 62) ≤ hi ∧ hi < 2 ^ 62) (rngI lo hi)
def andC (a : Bool) (b : Option Bool) : Option Bool := if a = true then b else some false
def orC (a : Bool) (b : Option Bool) : Option Bool := if a = true then some true else b
def maxI (i j : Int) : Int := if j > i then j else i
def minI (i j : Int) : Int := if j < i then j else i
def absI (i : Int) : Int := if i < 0 then -i else i
def b2 (b : Bool) : Int := if b then 1 else 0
def bitsI (i : Int) : Int := (Builtin.Int.intBits i : Nat)
/-- max and min of a list -/
def maxL (xs : List Int) : Option Int := match xs with
  | [] => none
  | x :: r => some (r.foldl (fun a b => if b > a then b else a) x)
def minL (xs : List Int) : Option Int := match xs with
  | [] => none
  | x :: r => some (r.foldl (fun a b => if b < a then b else a) x)

theorem of_ifT {A : Type} {b : Bool} {x y r : A} (hb : b = true) (h : (if b = true then x else y) = r) : x = r := by
  rw [if_pos hb] at h
  exact h
theorem of_ifF {A : Type} {b : Bool} {x y r : A} (hb : b = false) (h : (if b = true then x else y) = r) : y = r := by
  rw [if_neg (by rw [hb]; exact Bool.false_ne_true)] at h
  exact h
def optG {A B : Type} (o : Option A) (f : A → Option B) : Option B := o.bind f
theorem of_opt {A B : Type} {o : Option A} {y : A} {f : A → Option B} {r : B} (h : o = some y) (hm : optG o f = some r) : f y = some r := by
  subst h
  exact hm
def fuel : Nat := 1000000

structure Fr (B : Hp) (cs : List (Addr × HO)) (H : Hp) : Prop where
  base : Ex B H
  own : ∀ c ∈ cs, H c.1 = some c.2
  new : ∀ c ∈ cs, B c.1 = none
  nd : (cs.map (·.1)).Nodup
section
variable {B H H' : Hp} {cs ds : List (Addr × HO)} {p : Addr} {o : HO} {K : PySem.W.Frag}
theorem Fr.refl (H : Hp) : Fr H [] H := ⟨Ex.refl H, fun _ h => (nomatch h), fun _ h => (nomatch h), List.nodup_nil⟩
theorem Fr.of (e : Ex H H') : Fr H [] H' := ⟨e, fun _ h => (nomatch h), fun _ h => (nomatch h), List.nodup_nil⟩
theorem Fr.ex (F : Fr B cs H) (e : Ex H H') : Fr B cs H' := ⟨F.base.trans e, fun c h => e _ _ (F.own c h), F.new, F.nd⟩
theorem Fr.get (F : Fr B cs H) (i : Nat) {c : Addr × HO} (h : cs[i]? = some c) : H c.1 = some c.2 := F.own c (List.mem_of_getElem? h)
theorem Fr.fresh (F : Fr B cs H) (i : Nat) {c : Addr × HO} (h : cs[i]? = some c) : B c.1 = none := F.new c (List.mem_of_getElem? h)
theorem Fr.app (F : Fr B cs H) (G : Fr H ds H') : Fr B (cs ++ ds) H' where
  base := F.base.trans G.base
  own := fun c hc => by
    rcases List.mem_append.mp hc with q | q
    · exact G.base _ _ (F.own c q)
    · exact G.own c q
  new := fun c hc => by
    rcases List.mem_append.mp hc with q | q
    · exact F.new c q
    · exact Evl.fresh_back F.base (G.new c q)
  nd := by
    rw [List.map_append, List.nodup_append]
    refine ⟨F.nd, G.nd, fun a ha b hb => ?_⟩
    rcases List.mem_map.mp ha with ⟨c, hc, rfl⟩
    rcases List.mem_map.mp hb with ⟨d, hd, rfl⟩
    intro e2
    have h1 := F.own c hc
    have h2 := G.new d hd
    rw [← e2, h1] at h2
    cases h2
theorem Fr.upd (F : Fr B cs H) (i : Nat) {o' : HO} (h : cs[i]? = some (p, o)) : Fr B (cs.set i (p, o')) (upd H p o') where
  base := fun a u ha => by
    have hb := F.fresh i h
    have : a ≠ p := by
      intro e
      subst e
      rw [ha] at hb
      cases hb
    rw [upd_ne this]
    exact F.base a u ha
  own := fun c hc => by
    obtain ⟨j, hj⟩ := List.mem_iff_getElem?.mp hc
    rw [List.getElem?_set] at hj
    by_cases e : i = j
    · subst e
      rw [if_pos rfl] at hj
      split at hj
      · cases hj
        exact upd_same
      · cases hj
    · rw [if_neg e] at hj
      have hne : c.1 ≠ p := by
        intro e2
        have e3 : (cs.map (·.1))[i]? = some p := by rw [List.getElem?_map, h]; rfl
        have e4 : (cs.map (·.1))[j]? = some p := by rw [List.getElem?_map, hj]; exact congrArg some e2
        exact e (nd_ix F.nd e3 e4)
      rw [upd_ne hne]
      exact F.own c (List.mem_of_getElem? hj)
  new := fun c hc => by
    rcases List.mem_or_eq_of_mem_set hc with q | q
    · exact F.new c q
    · subst q
      exact F.new (p, o) (List.mem_of_getElem? h)
  nd := by
    have : (cs.set i (p, o')).map (·.1) = cs.map (·.1) := by
      rw [List.map_set]
      apply List.ext_getElem?
      intro j
      rw [List.getElem?_set]
      split
      · next e =>
        subst e
        split
        · rw [List.getElem?_map, h]; rfl
        · next hl =>
          rw [List.getElem?_eq_none (by omega)]
      · rfl
    rw [this]
    exact F.nd
theorem Fr.sub (F : Fr B cs H) (h : List.Sublist ds cs) : Fr B ds H := ⟨F.base, fun c hc => F.own c (h.subset hc), fun c hc => F.new c (h.subset hc), (h.map _).nodup F.nd⟩
/-- an order of the cells -/
theorem Fr.perm (F : Fr B cs H) (h : ds.Perm cs) : Fr B ds H := ⟨F.base, fun c hc => F.own c (h.mem_iff.mp hc), fun c hc => F.new c (h.mem_iff.mp hc), ((h.map (·.1)).nodup_iff).mpr F.nd⟩
theorem Fr.add (F : Fr B cs H) (hp : H p = none) (e : Ex H H') (h : H' p = some o) : Fr B ((p, o) :: cs) H' where
  base := F.base.trans e
  own := fun c hc => by
    rcases List.mem_cons.mp hc with rfl | q
    · exact h
    · exact e _ _ (F.own c q)
  new := fun c hc => by
    rcases List.mem_cons.mp hc with rfl | q
    · exact Evl.fresh_back F.base hp
    · exact F.new c q
  nd := by
    rw [List.map_cons, List.nodup_cons]
    refine ⟨fun hm => ?_, F.nd⟩
    rcases List.mem_map.mp hm with ⟨c, hc, e2⟩
    have := F.own c hc
    rw [e2, hp] at this
    cases this
/-- a new object -/
theorem Fr.new1 (F : Fr B cs H) (hp : H p = none) : Fr B ((p, o) :: cs) (L2.upd H p o) := F.add hp (Evl.Ex.new hp) upd_same
theorem Fr.weak {B0 : Hp} (F : Fr B cs H) (e : Ex B0 B) : Fr B0 cs H := ⟨e.trans F.base, F.own, fun c hc => Evl.fresh_back e (F.new c hc), F.nd⟩
theorem Fr.drop1 (F : Fr B ((p, o) :: cs) H) : Fr B cs H := F.sub (List.sublist_cons_self _ _)
theorem erase_perm {A : Type} : ∀ {l : List A} {i : Nat} {a : A}, l[i]? = some a → List.Perm (a :: l.eraseIdx i) l
  | [], _, _, h => by simp at h
  | b :: l, 0, _, h => by cases h; exact .refl _
  | b :: l, i + 1, a, h => (List.Perm.swap b a _).trans (.cons b (erase_perm (l := l) (i := i) h))
theorem Fr.out {xs : List (Addr × HO)} (i : Nat) (F : Fr B (xs ++ cs) H) (h : cs[i]? = some (p, o)) : Fr B ((p, o) :: (xs ++ cs.eraseIdx i)) H := by
  refine F.perm ?_
  have h1 : List.Perm ((p, o) :: cs.eraseIdx i) cs := by
    exact erase_perm h
  refine List.perm_middle.symm.trans ?_
  exact List.Perm.append_left xs h1
theorem Fr.back {xs : List (Addr × HO)} {o' : HO} (i : Nat) (h : cs[i]? = some (p, o)) (F : Fr B ((p, o') :: (xs ++ cs.eraseIdx i)) H) : Fr B (xs ++ cs.set i (p, o')) H := by
  refine F.perm ?_
  have h1 : List.Perm (cs.set i (p, o')) ((p, o') :: cs.eraseIdx i) := by
    obtain ⟨hl, he⟩ := List.getElem?_eq_some_iff.mp h
    have h2 := erase_perm (l := cs.set i (p, o')) (i := i) (a := (p, o')) (by rw [List.getElem?_set]; simp; exact hl)
    rw [List.eraseIdx_set_eq] at h2
    exact h2.symm
  exact (List.Perm.append_left xs h1).trans List.perm_middle
theorem Fr.pick (F : Fr B cs H) (ix : List Nat) (hn : ix.Nodup) (h : (ix.map fun i => cs[i]?) = ds.map some) : Fr B ds H := by
  have mem : ∀ (k : Nat) (d : Addr × HO), ds[k]? = some d → ∃ i, ix[k]? = some i ∧ cs[i]? = some d := by
    intro k d hd
    have e : (ds.map some)[k]? = some (some d) := by rw [List.getElem?_map, hd]; rfl
    rw [← h, List.getElem?_map] at e
    cases hi : ix[k]? with
    | none => rw [hi] at e; cases e
    | some i =>
      rw [hi] at e
      exact ⟨i, rfl, Option.some.inj e⟩
  refine ⟨F.base, fun c hc => ?_, fun c hc => ?_, ?_⟩
  · obtain ⟨k, hk⟩ := List.mem_iff_getElem?.mp hc
    obtain ⟨i, _, hi⟩ := mem k c hk
    exact F.get i hi
  · obtain ⟨k, hk⟩ := List.mem_iff_getElem?.mp hc
    obtain ⟨i, _, hi⟩ := mem k c hk
    exact F.fresh i hi
  · rw [List.nodup_iff_pairwise_ne, List.pairwise_iff_getElem]
    intro k1 k2 h1 h2 hlt e
    rw [List.length_map] at h1 h2
    rw [List.getElem_map, List.getElem_map] at e
    obtain ⟨i1, hi1, hc1⟩ := mem k1 _ (List.getElem?_eq_getElem h1)
    obtain ⟨i2, hi2, hc2⟩ := mem k2 _ (List.getElem?_eq_getElem h2)
    have e1 : (cs.map (·.1))[i1]? = some (ds[k1]).1 := by rw [List.getElem?_map, hc1]; rfl
    have e2 : (cs.map (·.1))[i2]? = some (ds[k1]).1 := by rw [List.getElem?_map, hc2, e]; rfl
    have := nd_ix F.nd e1 e2
    subst this
    have := nd_ix hn hi1 hi2
    omega
theorem Fr.pickT (n : Nat) (F : Fr B cs H) (ix : List Nat) (hn : ix.Nodup) (hl : ∀ i ∈ ix, i < n) (h : (ix.map fun i => cs[i]?) = ds.map some) : Fr B (ds ++ cs.drop n) H := by
  have F1 : Fr B ds H := F.pick ix hn h
  have F2 : Fr B (cs.drop n) H := F.sub (List.drop_sublist n cs)
  refine ⟨F.base, fun c hc => ?_, fun c hc => ?_, ?_⟩
  · rcases List.mem_append.mp hc with q | q
    · exact F1.own c q
    · exact F2.own c q
  · rcases List.mem_append.mp hc with q | q
    · exact F1.new c q
    · exact F2.new c q
  · rw [List.map_append, List.nodup_append]
    refine ⟨F1.nd, F2.nd, fun a ha b hb e => ?_⟩
    obtain ⟨c, hc, rfl⟩ := List.mem_map.mp ha
    obtain ⟨d, hd, rfl⟩ := List.mem_map.mp hb
    obtain ⟨k, hk⟩ := List.mem_iff_getElem?.mp hc
    obtain ⟨j, hj⟩ := List.mem_iff_getElem?.mp hd
    rw [List.getElem?_drop] at hj
    have e0 : (ds.map some)[k]? = some (some c) := by rw [List.getElem?_map, hk]; rfl
    rw [← h, List.getElem?_map] at e0
    cases hi : ix[k]? with
    | none => rw [hi] at e0; cases e0
    | some i =>
      rw [hi] at e0
      have e1 : cs[i]? = some c := Option.some.inj e0
      have l1 := hl i (List.mem_of_getElem? hi)
      have g1 : (cs.map (·.1))[i]? = some c.1 := by rw [List.getElem?_map, e1]; rfl
      have g2 : (cs.map (·.1))[n + j]? = some c.1 := by rw [List.getElem?_map, hj, e]; rfl
      have := nd_ix F.nd g1 g2
      omega
/-- an own cell is laid to what stands -/
theorem Fr.rest (F : Fr B ((p, o) :: cs) H) : Fr (L2.upd B p o) cs H where
  base := fun a u ha => by
    by_cases e : a = p
    · subst e
      rw [upd_same] at ha
      cases ha
      exact F.own _ List.mem_cons_self
    · rw [upd_ne e] at ha
      exact F.base a u ha
  own := fun c hc => F.own c (List.mem_cons_of_mem _ hc)
  new := fun c hc => by
    have hn := F.nd
    rw [List.map_cons, List.nodup_cons] at hn
    have : c.1 ≠ p := fun e => hn.1 (List.mem_map.mpr ⟨c, hc, e⟩)
    rw [upd_ne this]
    exact F.new c (List.mem_cons_of_mem _ hc)
  nd := by
    have hn := F.nd
    rw [List.map_cons, List.nodup_cons] at hn
    exact hn.2
theorem Ex.upd_new (h : B p = none) : Ex B (L2.upd B p o) := Evl.Ex.new h
end
/-! ### values -/
abbrev LI (xs : List Int) : HO := .lst (xs.map V.int)
abbrev LB (xs : List Bool) : HO := .lst (xs.map V.bl)
theorem atI_map {A C : Type} (f : A → C) (xs : List A) (i : Int) : atI (xs.map f) i = (atI xs i).map f := by
  unfold atI
  rw [List.length_map]
  cases ixN xs.length i with
  | none => rfl
  | some j =>
    show (xs.map f)[j]? = (xs[j]?).map f
    rw [List.getElem?_map]
theorem cut_map {A : Type} (f : A → V) (xs : List A) (lo hi : Option Int) : cutV (xs.map f) lo hi = (cut xs lo hi).map f := by
  unfold cutV cut
  rw [List.length_map, List.drop_map_comm, List.take_map_comm]
where
  List.drop_map_comm : ∀ {n : Nat} {l : List A}, (l.map f).drop n = (l.drop n).map f := by intros; rw [List.map_drop]
  List.take_map_comm : ∀ {n : Nat} {l : List A}, (l.map f).take n = (l.take n).map f := by intros; rw [List.map_take]
/-! ### what evaluates to what: from any heap in the state (B, cs), beside any other own cells xs -/
abbrev Cs := List (Addr × HO)
def EvF (B : Hp) (cs cs' : Cs) (te : TE) (σ : L2.St) (v : V) : Prop := ∀ (xs : Cs) (H : Hp), Fr B (xs ++ cs) H → ∀ Q : VK, (∀ H', Fr B (xs ++ cs') H' → Q v H') → te σ H Q
def EtF (B : Hp) (cs cs' : Cs) (t : TT) (σ : L2.St) (b : Bool) : Prop := ∀ (xs : Cs) (H : Hp), Fr B (xs ++ cs) H → ∀ Q : Bool → Hp → Prop, (∀ H', Fr B (xs ++ cs') H' → Q b H') → t σ H Q
def EaF (B : Hp) (cs cs' : Cs) (ta : TA) (σ : L2.St) (vs : List V) : Prop := ∀ (xs : Cs) (H : Hp), Fr B (xs ++ cs) H → ∀ Q : List V → Hp → Prop, (∀ H', Fr B (xs ++ cs') H' → Q vs H') → ta σ H Q
def EoF (B : Hp) (cs cs' : Cs) (to : TO) (σ : L2.St) (o : Option Int) : Prop := ∀ (xs : Cs) (H : Hp), Fr B (xs ++ cs) H → ∀ Q : Option Int → Hp → Prop, (∀ H', Fr B (xs ++ cs') H' → Q o H') → to σ H Q
/-- a new object at p -/
def EvN (B : Hp) (cs cs' : Cs) (te : TE) (σ : L2.St) (o : HO) : Prop := ∀ (xs : Cs) (H : Hp), Fr B (xs ++ cs) H → ∀ Q : VK, (∀ p H', Fr B ((p, o) :: (xs ++ cs')) H' → Q (.ref p) H') → te σ H Q
def RvF (B : Hp) (cs : Cs) (r : R2) (x y z : V) : Prop := ∀ H, Fr B cs H → ∀ Q : VK, Q z H → r x y H Q
def RnF (B : Hp) (cs : Cs) (r : R2) (x y : V) (o : HO) : Prop := ∀ H, Fr B cs H → ∀ Q : VK, (∀ p, H p = none → Q (.ref p) (L2.upd H p o)) → r x y H Q
def RcF (B : Hp) (cs : Cs) (r : List V → Hp → VK → Prop) (vs : List V) (z : V) : Prop := ∀ H, Fr B cs H → ∀ Q : VK, Q z H → r vs H Q
def RcN (B : Hp) (cs : Cs) (r : List V → Hp → VK → Prop) (vs : List V) (o : HO) : Prop := ∀ H, Fr B cs H → ∀ Q : VK, (∀ p, H p = none → Q (.ref p) (L2.upd H p o)) → r vs H Q
/-- what stands, or is own -/
def Rd (B : Hp) (cs : Cs) (a : Addr) (o : HO) : Prop := B a = some o ∨ (a, o) ∈ cs
def RdS (K : PySem.W.Frag) (B : Hp) (cs : Cs) (a : Addr) (vs : List V) : Prop := Rd B cs a (.lst vs) ∨ SqL K B a vs
theorem Rd.own {B : Hp} {cs : Cs} (i : Nat) {a : Addr} {o : HO} (h : cs[i]? = some (a, o)) : Rd B cs a o := .inr (List.mem_of_getElem? h)
theorem Rd.at {B H : Hp} {cs : Cs} {a : Addr} {o : HO} (r : Rd B cs a o) (F : Fr B cs H) : H a = some o := by
  rcases r with h | h
  · exact F.base _ _ h
  · exact F.own _ h
theorem RdS.at {K : PySem.W.Frag} {B H : Hp} {cs : Cs} {a : Addr} {vs : List V} (r : RdS K B cs a vs) (F : Fr B cs H) : SqL K H a vs := by
  rcases r with h | h
  · exact Evl.sq_of (h.at F)
  · exact Evl.ex_l F.base h
theorem Rd.more {B : Hp} {cs : Cs} {a : Addr} {o : HO} {c : Addr × HO} (r : Rd B cs a o) : Rd B (c :: cs) a o := by
  rcases r with h | h
  · exact .inl h
  · exact .inr (List.mem_cons_of_mem _ h)
theorem RdS.more {K : PySem.W.Frag} {B : Hp} {cs : Cs} {a : Addr} {vs : List V} {c : Addr × HO} (r : RdS K B cs a vs) : RdS K B (c :: cs) a vs := by
  rcases r with h | h
  · exact .inl h.more
  · exact .inr h
theorem Fr.xs {B H : Hp} {xs cs : Cs} (F : Fr B (xs ++ cs) H) : Fr B cs H := F.sub (List.sublist_append_right xs cs)
theorem Fr.cxs {B H : Hp} {xs cs : Cs} {c : Addr × HO} (F : Fr B (c :: (xs ++ cs)) H) : Fr B (c :: cs) H := F.sub (.cons₂ _ (List.sublist_append_right xs cs))
section
variable {K : PySem.W.Frag} {σ σ' : L2.St} {H H' B : Hp} {cs cs1 cs2 cs3 cs4 : Cs} {ta tb te tx : TE} {t u : TT} {x y z v : V} {r : R2} {i j m : Int} {a p q : Addr} {A : Type} {f : A → V} {xs ys : List A} {b c : Bool} {o o1 o2 : HO}
theorem ev_cg {e e' : A} (h : EvF B cs cs1 te σ (f e)) (hx : e = e') : EvF B cs cs1 te σ (f e') := hx ▸ h
theorem en_cg {e e' : List A} (h : EvN B cs cs1 te σ (.lst (e.map f))) (hx : e = e') : EvN B cs cs1 te σ (.lst (e'.map f)) := hx ▸ h
theorem et_cg (h : EtF B cs cs1 t σ b) (hx : b = c) : EtF B cs cs1 t σ c := hx ▸ h
theorem ev_var {n : Nat} (h : σ[n]? = some (some v)) : EvF B cs cs (tVar n) σ v := fun _ H F _ q => ⟨v, h, q H F⟩
theorem ev_c : EvF B cs cs (tC v) σ v := fun _ H F _ q => q H F
theorem ev_op (ha : EvF B cs cs1 ta σ x) (hb : EvF B cs1 cs2 tb σ y) (hr : RvF B cs2 r x y z) : EvF B cs cs2 (tOp r ta tb) σ z := fun ys H F Q q =>
  ha ys H F _ fun H1 F1 => hb ys H1 F1 _ fun H2 F2 => hr H2 F2.xs Q (q H2 F2)
theorem ev_opN1 (ha : EvN B cs cs1 ta σ o) (hb : EvF B cs1 cs2 tb σ y) (hr : ∀ p, RvF B ((p, o) :: cs2) r (.ref p) y z) : EvF B cs cs2 (tOp r ta tb) σ z := fun ys H F Q q =>
  ha ys H F _ fun p H1 F1 => hb ((p, o) :: ys) H1 F1 _ fun H2 F2 => hr p H2 F2.cxs Q (q H2 F2.drop1)
theorem ev_opN2 (ha : EvF B cs cs1 ta σ x) (hb : EvN B cs1 cs2 tb σ o) (hr : ∀ p, RvF B ((p, o) :: cs2) r x (.ref p) z) : EvF B cs cs2 (tOp r ta tb) σ z := fun ys H F Q q =>
  ha ys H F _ fun H1 F1 => hb ys H1 F1 _ fun p H2 F2 => hr p H2 F2.cxs Q (q H2 F2.drop1)
theorem ev_opNN (ha : EvN B cs cs1 ta σ o1) (hb : EvN B cs1 cs2 tb σ o2) (hr : ∀ p q, RvF B ((q, o2) :: (p, o1) :: cs2) r (.ref p) (.ref q) z) : EvF B cs cs2 (tOp r ta tb) σ z := fun ys H F Q q =>
  ha ys H F _ fun p H1 F1 => hb ((p, o1) :: ys) H1 F1 _ fun p2 H2 F2 => hr p p2 H2 (F2.sub (.cons₂ _ (.cons₂ _ (List.sublist_append_right ys cs2)))) Q (q H2 F2.drop1.drop1)
theorem en_op (ha : EvF B cs cs1 ta σ x) (hb : EvF B cs1 cs2 tb σ y) (hr : RnF B cs2 r x y o) : EvN B cs cs2 (tOp r ta tb) σ o := fun ys H F Q q =>
  ha ys H F _ fun H1 F1 => hb ys H1 F1 _ fun H2 F2 => hr H2 F2.xs Q fun p hp => q p _ (F2.new1 hp)
theorem en_opN1 (ha : EvN B cs cs1 ta σ o1) (hb : EvF B cs1 cs2 tb σ y) (hr : ∀ p, RnF B ((p, o1) :: cs2) r (.ref p) y o) : EvN B cs cs2 (tOp r ta tb) σ o := fun ys H F Q q =>
  ha ys H F _ fun p H1 F1 => hb ((p, o1) :: ys) H1 F1 _ fun H2 F2 => hr p H2 F2.cxs Q fun p2 hp => q p2 _ (F2.drop1.new1 hp)
theorem en_opN2 (ha : EvF B cs cs1 ta σ x) (hb : EvN B cs1 cs2 tb σ o2) (hr : ∀ p, RnF B ((p, o2) :: cs2) r x (.ref p) o) : EvN B cs cs2 (tOp r ta tb) σ o := fun ys H F Q q =>
  ha ys H F _ fun H1 F1 => hb ys H1 F1 _ fun p H2 F2 => hr p H2 F2.cxs Q fun p2 hp => q p2 _ (F2.drop1.new1 hp)
theorem en_opNN (ha : EvN B cs cs1 ta σ o1) (hb : EvN B cs1 cs2 tb σ o2) (hr : ∀ p q, RnF B ((q, o2) :: (p, o1) :: cs2) r (.ref p) (.ref q) o) : EvN B cs cs2 (tOp r ta tb) σ o := fun ys H F Q q =>
  ha ys H F _ fun p H1 F1 => hb ((p, o1) :: ys) H1 F1 _ fun p2 H2 F2 => hr p p2 H2 (F2.sub (.cons₂ _ (.cons₂ _ (List.sublist_append_right ys cs2)))) Q fun p3 hp => q p3 _ (F2.drop1.drop1.new1 hp)
/-- arguments -/
theorem ea_nil : EaF B cs cs tNil σ [] := fun _ H F _ q => q H F
theorem ea_cons {tr : TA} {vs : List V} (h : EvF B cs cs1 te σ v) (hr : EaF B cs1 cs2 tr σ vs) : EaF B cs cs2 (tCons te tr) σ (v :: vs) := fun ys H F _ q =>
  h ys H F _ fun H1 F1 => hr ys H1 F1 _ fun H2 F2 => q H2 F2
/-- a new list among the arguments: what follows is told at (p, o) :: cs -/
def EaN (B : Hp) (cs : Cs) (ta : TA) (σ : L2.St) (P : List V → Cs → Prop) : Prop := ∀ (xs : Cs) (H : Hp), Fr B (xs ++ cs) H → ∀ Q : List V → Hp → Prop, (∀ vs cs' H', P vs cs' → Fr B (xs ++ cs') H' → Q vs H') → ta σ H Q
/-- displays -/
theorem en_lst {tA : TA} {vs : List V} (h : EaF B cs cs1 tA σ vs) (hl : Nat.ble vs.length 100000 = true := by rfl) : EvN B cs cs1 (tLst tA) σ (.lst vs) := fun ys H F _ q =>
  h ys H F _ fun H1 F1 => ⟨Evl.sz_of (Nat.le_of_ble_eq_true hl), fun p hp => q p _ (F1.new1 hp)⟩
theorem en_tup {tA : TA} {vs : List V} (h : EaF B cs cs1 tA σ vs) (hl : Nat.ble vs.length 100000 = true := by rfl) : EvN B cs cs1 (tTup tA) σ (.tup vs) := fun ys H F _ q =>
  h ys H F _ fun H1 F1 => ⟨Evl.sz_of (Nat.le_of_ble_eq_true hl), fun p hp => q p _ (F1.new1 hp)⟩
/-- built-ins called -/
theorem ev_cb {rc : List V → Hp → VK → Prop} {tA : TA} {vs : List V} (h : EaF B cs cs1 tA σ vs) (hr : RcF B cs1 rc vs z) : EvF B cs cs1 (tCB rc tA) σ z := fun ys H F Q q => h ys H F _ fun H1 F1 => hr H1 F1.xs Q (q H1 F1)
theorem ev_cbN {rc : List V → Hp → VK → Prop} (h : EvN B cs cs1 te σ o) (hr : ∀ p, RcF B ((p, o) :: cs1) rc [.ref p] z) : EvF B cs cs1 (tCB rc (tCons te tNil)) σ z := fun ys H F Q q => h ys H F _ fun p H1 F1 => hr p H1 F1.cxs Q (q H1 F1.drop1)
theorem en_cb {rc : List V → Hp → VK → Prop} {tA : TA} {vs : List V} (h : EaF B cs cs1 tA σ vs) (hr : RcN B cs1 rc vs o) : EvN B cs cs1 (tCB rc tA) σ o := fun ys H F Q q => h ys H F _ fun H1 F1 => hr H1 F1.xs Q fun p hp => q p _ (F1.new1 hp)
theorem en_cbN {rc : List V → Hp → VK → Prop} (h : EvN B cs cs1 te σ o1) (hr : ∀ p, RcN B ((p, o1) :: cs1) rc [.ref p] o) : EvN B cs cs1 (tCB rc (tCons te tNil)) σ o := fun ys H F Q q => h ys H F _ fun p H1 F1 => hr p H1 F1.cxs Q fun p2 hp => q p2 _ (F1.drop1.new1 hp)
theorem ev_cb1 {rc : List V → Hp → VK → Prop} (h : EvF B cs cs1 te σ v) (hr : RcF B cs1 rc [v] z) : EvF B cs cs1 (tCB rc (tCons te tNil)) σ z := ev_cb (ea_cons h ea_nil) hr
theorem ev_un {ru : V → Hp → VK → Prop} (h : EvF B cs cs1 ta σ x) (hr : ∀ H (Q : VK), Q z H → ru x H Q) : EvF B cs cs1 (tUn ru ta) σ z := fun ys H F Q q => h ys H F _ fun H1 F1 => hr H1 Q (q H1 F1)
/-- numbers -/
def rMulA : R2 := rI IntMulOk fun i j => .int (i * j)
theorem op_mulA {X : Cx} : OpR X (binaryOp .Mult) rMulA := opI fun _ _ _ _ _ _ _ hc q => PyProof.Rows.mul_int q hc
theorem iop_mulA {X : Cx} : OpR X (inplaceOp .Mult) (rI CMul fun i j => .int (i * j)) := iop_mul
theorem rv_I0 {g : Int → Int → V} : RvF B cs (rI0 g) (.int i) (.int j) (g i j) := fun _ _ _ q => ⟨i, j, rfl, rfl, q⟩
theorem rv_I {C : Int → Int → Prop} {g : Int → Int → V} (hc : C i j) : RvF B cs (rI C g) (.int i) (.int j) (g i j) := fun _ _ _ q => ⟨i, j, rfl, rfl, hc, q⟩
theorem rv_mod (h : modC i j = some m) : RvF B cs (rI (fun _ j => 0 < j) fun i j => .int (i % j)) (.int i) (.int j) (.int m) := by
  obtain ⟨hc, rfl⟩ := of_grd h
  exact rv_I hc
theorem rv_div (h : divC i j = some m) : RvF B cs (rI CDivW fun i j => .int (i / j)) (.int i) (.int j) (.int m) := by
  obtain ⟨hc, rfl⟩ := of_grd h
  exact rv_I hc
theorem rv_mul (h : mulC i j = some m) : RvF B cs rMulA (.int i) (.int j) (.int m) := by
  obtain ⟨hc, rfl⟩ := of_grd h
  exact rv_I hc
theorem rv_shl (h : shlC i j = some m) : RvF B cs (rI CShl fun i j => .int (i * 2 ^ j.toNat)) (.int i) (.int j) (.int m) := by
  obtain ⟨hc, rfl⟩ := of_grd h
  exact rv_I hc
theorem rv_shr (h : shrC i j = some m) : RvF B cs (rI (fun _ j => 0 ≤ j) fun i j => .int (i / 2 ^ j.toNat)) (.int i) (.int j) (.int m) := by
  obtain ⟨hc, rfl⟩ := of_grd h
  exact rv_I hc
theorem rv_pow (h : powC i j = some m) : RvF B cs (rI CPow fun i j => .int (i ^ j.toNat)) (.int i) (.int j) (.int m) := by
  obtain ⟨hc, rfl⟩ := of_grd h
  exact rv_I hc
theorem rv_mulL (k : Int) (hk : -(2 ^ 64) < k ∧ k < 2 ^ 64 := by decide) : RvF B cs (rI CMul fun i j => .int (i * j)) (.int k) (.int j) (.int (k * j)) := rv_I (Or.inl hk)
theorem rv_mulR (k : Int) (hk : -(2 ^ 64) < k ∧ k < 2 ^ 64 := by decide) : RvF B cs (rI CMul fun i j => .int (i * j)) (.int i) (.int k) (.int (i * k)) := rv_I (Or.inr hk)
theorem rv_modK (k : Int) (hk : 0 < k := by decide) : RvF B cs (rI (fun _ j => 0 < j) fun i j => .int (i % j)) (.int i) (.int k) (.int (i % k)) := rv_I hk
theorem rv_divK (k : Int) (hk : 0 < k ∧ k < 1073741824 := by decide) : RvF B cs (rI CDiv fun i j => .int (i / j)) (.int i) (.int k) (.int (i / k)) := rv_I hk
theorem rv_shrK (k : Int) (n : Nat) (hk : 0 ≤ k := by decide) (hn : k.toNat = n := by rfl) : RvF B cs (rI (fun _ j => 0 ≤ j) fun i j => .int (i / 2 ^ j.toNat)) (.int i) (.int k) (.int (i / 2 ^ n)) := by
  subst hn
  exact rv_I hk
theorem rv_shlK (k : Int) (n : Int) {d : Nat} (hk : CPow k n := by decide) (hd : n.toNat = d := by rfl) : RvF B cs (rI CPow fun i j => .int (i * 2 ^ j.toNat)) (.int k) (.int n) (.int (k * 2 ^ d)) := by
  subst hd
  exact rv_I hk
theorem rv_powK (k : Int) (n : Int) {d : Nat} (hk : CPow k n := by decide) (hd : n.toNat = d := by rfl) : RvF B cs (rI CPow fun i j => .int (i ^ j.toNat)) (.int k) (.int n) (.int (k ^ d)) := by
  subst hd
  exact rv_I hk
theorem rv_cg {e e' : Int} (hx : e = e') (h : RvF B cs r x y (.int e)) : RvF B cs r x y (.int e') := hx ▸ h
theorem rv_cgB {e e' : Bool} (hx : e = e') (h : RvF B cs r x y (.bl e)) : RvF B cs r x y (.bl e') := hx ▸ h
theorem rv_isN (h : decide (x = .non) = b) : RvF B cs (fun x y H Q => y = .non ∧ Q (.bl (decide (x = .non))) H) x .non (.bl b) := fun _ _ _ q => ⟨rfl, by rw [h]; exact q⟩
theorem rv_notN (h : (!decide (x = .non)) = b) : RvF B cs (fun x y H Q => y = .non ∧ Q (.bl (!decide (x = .non))) H) x .non (.bl b) := fun _ _ _ q => ⟨rfl, by rw [h]; exact q⟩
/-- tests -/
theorem rv_eqI : RvF B cs rEq (.int i) (.int j) (.bl (decide (i = j))) := fun _ _ Q q => ⟨rfl, by
  have h : (.bl (decide (V.int i = V.int j)) : V) = .bl (decide (i = j)) := by congr 1; simp
  rw [h]; exact q⟩
theorem rv_neI : RvF B cs rNe (.int i) (.int j) (.bl (!decide (i = j))) := fun _ _ Q q => ⟨rfl, by
  have h : (.bl (!decide (V.int i = V.int j)) : V) = .bl (!decide (i = j)) := by congr 2; simp
  rw [h]; exact q⟩
theorem rv_eqB : RvF B cs rEq (.bl b) (.bl c) (.bl (decide (b = c))) := fun _ _ Q q => ⟨rfl, by
  have h : (.bl (decide (V.bl b = V.bl c)) : V) = .bl (decide (b = c)) := by congr 1; simp
  rw [h]; exact q⟩
theorem rv_neB : RvF B cs rNe (.bl b) (.bl c) (.bl (!decide (b = c))) := fun _ _ Q q => ⟨rfl, by
  have h : (.bl (!decide (V.bl b = V.bl c)) : V) = .bl (!decide (b = c)) := by congr 2; simp
  rw [h]; exact q⟩
theorem rv_eqS {s1 s2 : Str} : RvF B cs rEq (.str s1) (.str s2) (.bl (decide (s1 = s2))) := fun _ _ Q q => ⟨rfl, by
  have h : (.bl (decide (V.str s1 = V.str s2)) : V) = .bl (decide (s1 = s2)) := by congr 1; simp
  rw [h]; exact q⟩
theorem rv_neS {s1 s2 : Str} : RvF B cs rNe (.str s1) (.str s2) (.bl (!decide (s1 = s2))) := fun _ _ Q q => ⟨rfl, by
  have h : (.bl (!decide (V.str s1 = V.str s2)) : V) = .bl (!decide (s1 = s2)) := by congr 2; simp
  rw [h]; exact q⟩
theorem et_test (h : EvF B cs cs1 te σ (.bl b)) : EtF B cs cs1 (tTest te) σ b := fun ys H F _ q => h ys H F _ fun H1 F1 => ⟨b, rfl, q H1 F1⟩
theorem et_B (h : EvF B cs cs1 te σ (.bl b)) : EtF B cs cs1 (tB te) σ b := fun ys H F _ q => h ys H F _ fun H1 F1 => ⟨b, rfl, q H1 F1⟩
theorem et_not (h : EtF B cs cs1 t σ b) : EtF B cs cs1 (tNot t) σ (!b) := fun ys H F _ q => h ys H F _ fun H1 F1 => q H1 F1
theorem et_and (h1 : EtF B cs cs1 t σ b) (h2 : b = true → EtF B cs1 cs1 u σ c) : EtF B cs cs1 (tAnd t u) σ (b && c) := fun ys H F Q q => h1 ys H F _ fun H1 F1 => by
  cases b with
  | true => exact h2 rfl ys H1 F1 Q q
  | false => exact q H1 F1
theorem et_or (h1 : EtF B cs cs1 t σ b) (h2 : b = false → EtF B cs1 cs1 u σ c) : EtF B cs cs1 (tOr t u) σ (b || c) := fun ys H F Q q => h1 ys H F _ fun H1 F1 => by
  cases b with
  | true => exact q H1 F1
  | false => exact h2 rfl ys H1 F1 Q q
theorem et_andO {m : Option Bool} (hm : andC b m = some c) (h1 : EtF B cs cs1 t σ b) (h2 : ∀ y, m = some y → EtF B cs1 cs1 u σ y) : EtF B cs cs1 (tAnd t u) σ c := by
  unfold andC at hm
  cases b with
  | true =>
    have := et_and h1 (fun _ => h2 c hm)
    exact this
  | false =>
    cases hm
    exact et_and (b := false) (c := false) h1 (fun q => (nomatch q))
theorem et_orO {m : Option Bool} (hm : orC b m = some c) (h1 : EtF B cs cs1 t σ b) (h2 : ∀ y, m = some y → EtF B cs1 cs1 u σ y) : EtF B cs cs1 (tOr t u) σ c := by
  unfold orC at hm
  cases b with
  | true =>
    cases hm
    exact et_or (b := true) (c := true) h1 (fun q => (nomatch q))
  | false =>
    have := et_or h1 (fun _ => h2 c hm)
    exact this
theorem ev_andV (h1 : EvF B cs cs1 ta σ (.bl b)) (h2 : b = true → EvF B cs1 cs1 tb σ (.bl c)) : EvF B cs cs1 (tAndV ta tb) σ (.bl (b && c)) := fun ys H F Q q => h1 ys H F _ fun H1 F1 => ⟨b, rfl, by
  cases b with
  | true => exact h2 rfl ys H1 F1 Q q
  | false => exact q H1 F1⟩
theorem ev_orV (h1 : EvF B cs cs1 ta σ (.bl b)) (h2 : b = false → EvF B cs1 cs1 tb σ (.bl c)) : EvF B cs cs1 (tOrV ta tb) σ (.bl (b || c)) := fun ys H F Q q => h1 ys H F _ fun H1 F1 => ⟨b, rfl, by
  cases b with
  | true => exact q H1 F1
  | false => exact h2 rfl ys H1 F1 Q q⟩
theorem ev_notV (h1 : EvF B cs cs1 ta σ (.bl b)) : EvF B cs cs1 (tNotV ta) σ (.bl (!b)) := fun ys H F _ q => h1 ys H F _ fun H1 F1 => ⟨b, rfl, q H1 F1⟩
theorem ev_andVO {m : Option Bool} (hm : andC b m = some c) (h1 : EvF B cs cs1 ta σ (.bl b)) (h2 : ∀ y, m = some y → EvF B cs1 cs1 tb σ (.bl y)) : EvF B cs cs1 (tAndV ta tb) σ (.bl c) := by
  unfold andC at hm
  cases b with
  | true =>
    have := ev_andV h1 (fun _ => h2 c hm)
    exact this
  | false =>
    cases hm
    exact ev_andV (b := false) (c := false) h1 (fun q => (nomatch q))
theorem ev_orVO {m : Option Bool} (hm : orC b m = some c) (h1 : EvF B cs cs1 ta σ (.bl b)) (h2 : ∀ y, m = some y → EvF B cs1 cs1 tb σ (.bl y)) : EvF B cs cs1 (tOrV ta tb) σ (.bl c) := by
  unfold orC at hm
  cases b with
  | true =>
    cases hm
    exact ev_orV (b := true) (c := true) h1 (fun q => (nomatch q))
  | false =>
    have := ev_orV h1 (fun _ => h2 c hm)
    exact this
theorem ev_chain {r r' : R2} {tc : TE} {w : V} (ha : EvF B cs cs1 ta σ x) (hb : EvF B cs1 cs2 tb σ y) (hc : EvF B cs2 cs2 tc σ w) (h1 : RvF B cs2 r x y (.bl b)) (h2 : RvF B cs2 r' y w (.bl c)) : EvF B cs cs2 (tChain r r' ta tb tc) σ (.bl (b && c)) := fun ys H F Q q =>
  ha ys H F _ fun H1 F1 => hb ys H1 F1 _ fun H2 F2 => h1 H2 F2.xs _ ⟨b, rfl, by
    cases b with
    | true =>
      show tc σ H2 _
      exact hc ys H2 F2 _ fun H3 F3 => h2 H3 F3.xs _ (q H3 F3)
    | false =>
      show Q (.bl false) H2
      exact q H2 F2⟩
/-- a if c else b -/
theorem ev_ifV {w : A} {m1 m2 : Option A} (hm : (if b = true then m1 else m2) = some w) (h : EtF B cs cs1 t σ b) (h1 : ∀ y, m1 = some y → EvF B cs1 cs1 ta σ (f y)) (h2 : ∀ y, m2 = some y → EvF B cs1 cs1 tb σ (f y)) : EvF B cs cs1 (tIf t ta tb) σ (f w) := fun ys H F Q q => h ys H F _ fun H1 F1 => by
  cases b with
  | true =>
    show ta σ H1 Q
    exact h1 w hm ys H1 F1 Q q
  | false =>
    show tb σ H1 Q
    exact h2 w (by rw [if_neg Bool.false_ne_true] at hm; exact hm) ys H1 F1 Q q
/-- len -/
def rLen (K : PySem.W.Frag) : List V → Hp → VK → Prop := fun xs H Q => ∃ p ys, xs = [.ref p] ∧ (SqL K H p ys ∨ SqT K H p ys) ∧ Q (.int ys.length) H
theorem cr_len {X : Cx} : CallR X (.builtin "len") (rLen X.K) := call_len_seq
theorem rc_len (h : RdS K B cs a (xs.map f)) : RcF B cs (rLen K) [.ref a] (.int (xs.length : Int)) := fun H F Q q => ⟨a, xs.map f, rfl, Or.inl (h.at F), by rw [List.length_map]; exact q⟩
theorem rc_lenV {vs : List V} {n : Nat} (h : RdS K B cs a vs) (hn : vs.length = n) : RcF B cs (rLen K) [.ref a] (.int (n : Int)) := fun H F Q q => ⟨a, vs, rfl, Or.inl (h.at F), by rw [hn]; exact q⟩
theorem rc_lenN : RcF B ((p, .lst (xs.map f)) :: cs) (rLen K) [.ref p] (.int (xs.length : Int)) := rc_len (.inl (.own 0 rfl))
/-- items -/
theorem rv_ix {w : A} (hv : atI xs i = some w) (h : RdS K B cs a (xs.map f)) : RvF B cs (rIxL K) (.ref a) (.int i) (f w) := fun H F Q q => ⟨a, xs.map f, i, f w, rfl, rfl, h.at F, by rw [atI_map, hv]; rfl, q⟩
theorem rv_ixV {vs : List V} (hv : atI vs i = some v) (h : RdS K B cs a vs) : RvF B cs (rIxL K) (.ref a) (.int i) v := fun H F Q q => ⟨a, vs, i, v, rfl, rfl, h.at F, hv, q⟩
theorem rv_ixN {w : A} (hv : atI xs i = some w) (p : Addr) : RvF B ((p, .lst (xs.map f)) :: cs) (rIxL K) (.ref p) (.int i) (f w) := rv_ix hv (.inl (.own 0 rfl))
/-- list(..) -/
def rLst (K : PySem.W.Frag) : List V → Hp → VK → Prop := fun xs H Q => ∃ p ys, xs = [.ref p] ∧ (SqL K H p ys ∨ SqT K H p ys) ∧ ∀ l, H l = none → Q (.ref l) (L2.upd H l (.lst ys))
theorem cr_list {X : Cx} : CallR X (.type "list") (rLst X.K) := call_list_of
theorem rc_list {vs : List V} (h : RdS K B cs a vs) : RcN B cs (rLst K) [.ref a] (.lst vs) := fun H F Q q => ⟨a, vs, rfl, Or.inl (h.at F), q⟩
theorem rc_listN {vs : List V} (p : Addr) : RcN B ((p, .lst vs) :: cs) (rLst K) [.ref p] (.lst vs) := rc_list (.inl (.own 0 rfl))
/-- slices -/
theorem eo_none : EoF B cs cs tNoPart σ none := fun _ H F _ q => q H F
theorem eo_some (h : EvF B cs cs1 te σ (.int i)) : EoF B cs cs1 (tPart te) σ (some i) := fun ys H F _ q => h ys H F _ fun H1 F1 => ⟨i, rfl, q H1 F1⟩
theorem en_sl {tl th : TO} {lo hi : Option Int} (ha : EvF B cs cs1 ta σ (.ref a)) (h1 : EoF B cs1 cs2 tl σ lo) (h2 : EoF B cs2 cs3 th σ hi) (h : RdS K B cs3 a (xs.map f)) : EvN B cs cs3 (tSl (rSlL K) ta tl th) σ (.lst ((cut xs lo hi).map f)) := by
  rw [← cut_map]
  exact fun ys H F _ q => ha ys H F _ fun H1 F1 => h1 ys H1 F1 _ fun H2 F2 => h2 ys H2 F2 _ fun H3 F3 => ⟨a, xs.map f, rfl, h.at F3.xs, fun p hp => q p _ (F3.new1 hp)⟩
theorem en_slN {tl th : TO} {lo hi : Option Int} (ha : EvN B cs cs1 ta σ (.lst (xs.map f))) (h1 : EoF B cs1 cs2 tl σ lo) (h2 : EoF B cs2 cs3 th σ hi) : EvN B cs cs3 (tSl (rSlL K) ta tl th) σ (.lst ((cut xs lo hi).map f)) := by
  rw [← cut_map]
  exact fun ys H F _ q => ha ys H F _ fun a H1 F1 => h1 ((a, _) :: ys) H1 F1 _ fun H2 F2 => h2 ((a, _) :: ys) H2 F2 _ fun H3 F3 => ⟨a, xs.map f, rfl, Evl.sq_of (F3.get 0 rfl), fun p hp => q p _ (F3.drop1.new1 hp)⟩
/-- + and * of lists -/
theorem rn_cat {zs : List A} (hm : catC xs ys = some zs) (h1 : Rd B cs p (.lst (xs.map f))) (h2 : Rd B cs q (.lst (ys.map f))) : RnF B cs rCat (.ref p) (.ref q) (.lst (zs.map f)) := by
  obtain ⟨hc, rfl⟩ := of_grd hm
  exact fun H F Q k => ⟨p, q, xs.map f, ys.map f, rfl, rfl, h1.at F, h2.at F, by rw [List.length_map, List.length_map, sizeLine_eq]; exact hc, fun l hl => by
    have := k l hl
    rw [List.map_append] at this
    exact this⟩
theorem map_flat (f : A → V) (xs : List A) (n : Nat) : (List.replicate n (xs.map f)).flatten = ((List.replicate n xs).flatten).map f := by
  induction n with
  | zero => rfl
  | succ n ih => rw [List.replicate_succ, List.replicate_succ, List.flatten_cons, List.flatten_cons, ih, List.map_append]
theorem rn_rep {zs : List A} {k : Int} (hm : repC xs k = some zs) (h1 : Rd B cs p (.lst (xs.map f))) : RnF B cs rRep (.ref p) (.int k) (.lst (zs.map f)) := by
  obtain ⟨hc, rfl⟩ := of_grd hm
  exact fun H F Q kk => ⟨p, k, xs.map f, rfl, rfl, h1.at F, hc.1, hc.2.1, by rw [List.length_map, sizeLine_eq]; exact hc.2.2, fun l hl => by
    have := kk l hl
    rw [← map_flat] at this
    exact this⟩
/-- == of lists of numbers -/
theorem dp_ints {xs : List Int} (h : SqL K H a (xs.map V.int)) : Dp K H (.ref a) (.list (xs.map PyData.int)) := by
  refine .lst h ?_
  clear h
  induction xs with
  | nil => exact .nil
  | cons n l ih => exact .cons (.int n) ih
theorem lay_ints : ∀ xs : List Int, PyData.canLayAll0 (xs.map PyData.int) = true
  | [] => rfl
  | x :: l => by
    show (PyData.canLay0 (.int x) && PyData.canLayAll0 (l.map PyData.int)) = true
    rw [lay_ints l]
    rfl
theorem depth_ints : ∀ xs : List Int, PyData.depthAll (xs.map PyData.int) ≤ 1
  | [] => by decide
  | x :: l => by
    have := depth_ints l
    simp only [List.map_cons, PyData.depthAll, PyData.depth]
    omega
theorem shaped_ints (xs : List Int) : SeqAt.shaped (.list (xs.map PyData.int)) = true := by
  unfold SeqAt.shaped
  rw [Bool.and_eq_true]
  refine ⟨lay_ints xs, decide_eq_true ?_⟩
  have := depth_ints xs
  simp only [PyData.depth]
  omega
theorem eqvAll_ints : ∀ xs ys : List Int, PyData.eqvAll (xs.map PyData.int) (ys.map PyData.int) = decide (xs = ys)
  | [], [] => by simp [PyData.eqvAll]
  | [], _ :: _ => by simp [PyData.eqvAll]
  | _ :: _, [] => by simp [PyData.eqvAll]
  | x :: l, y :: r => by
    rw [List.map_cons, List.map_cons, PyData.eqvAll, eqvAll_ints l r]
    by_cases h : x = y <;> by_cases h2 : l = r <;> simp [h, h2, PyData.eqv]
theorem eqv_ints (xs ys : List Int) : PyData.eqv (.list (xs.map PyData.int)) (.list (ys.map PyData.int)) = decide (xs = ys) := by
  rw [← eqvAll_ints]
  simp [PyData.eqv]
theorem rv_eqL {xs ys : List Int} (h1 : RdS K B cs p (xs.map V.int)) (h2 : RdS K B cs q (ys.map V.int)) : RvF B cs (rEqD K) (.ref p) (.ref q) (.bl (decide (xs = ys))) := fun H F Q k =>
  ⟨_, _, dp_ints (h1.at F), dp_ints (h2.at F), shaped_ints _, shaped_ints _, by rw [eqv_ints]; exact k⟩
theorem rv_neL {xs ys : List Int} (h1 : RdS K B cs p (xs.map V.int)) (h2 : RdS K B cs q (ys.map V.int)) : RvF B cs (rNeD K) (.ref p) (.ref q) (.bl (!decide (xs = ys))) := fun H F Q k =>
  ⟨_, _, dp_ints (h1.at F), dp_ints (h2.at F), shaped_ints _, shaped_ints _, by rw [eqv_ints]; exact k⟩
/-- built-ins of numbers -/
def rAbs : List V → Hp → VK → Prop := fun xs H Q => ∃ i, xs = [.int i] ∧ Q (.int (if i < 0 then -i else i)) H
theorem cr_abs {X : Cx} : CallR X (.builtin "abs") rAbs := call_abs
theorem ev_abs (h : EvF B cs cs1 ta σ (.int i)) : EvF B cs cs1 (tCB rAbs (tCons ta tNil)) σ (.int (absI i)) := ev_cb1 h fun _ _ _ q => ⟨i, rfl, q⟩
def rMax2 : List V → Hp → VK → Prop := fun xs H Q => ∃ i j, xs = [.int i, .int j] ∧ Q (.int (if j > i then j else i)) H
def rMin2 : List V → Hp → VK → Prop := fun xs H Q => ∃ i j, xs = [.int i, .int j] ∧ Q (.int (if j < i then j else i)) H
theorem cr_max2 {X : Cx} (hc : X.calm = true) : CallR X (.builtin "max") rMax2 := call_max2 hc
theorem cr_min2 {X : Cx} (hc : X.calm = true) : CallR X (.builtin "min") rMin2 := call_min2 hc
theorem ev_max2 (ha : EvF B cs cs1 ta σ (.int i)) (hb : EvF B cs1 cs2 tb σ (.int j)) : EvF B cs cs2 (tCB rMax2 (tCons ta (tCons tb tNil))) σ (.int (maxI i j)) := ev_cb (ea_cons ha (ea_cons hb ea_nil)) fun _ _ _ q => ⟨i, j, rfl, q⟩
theorem ev_min2 (ha : EvF B cs cs1 ta σ (.int i)) (hb : EvF B cs1 cs2 tb σ (.int j)) : EvF B cs cs2 (tCB rMin2 (tCons ta (tCons tb tNil))) σ (.int (minI i j)) := ev_cb (ea_cons ha (ea_cons hb ea_nil)) fun _ _ _ q => ⟨i, j, rfl, q⟩
def rInt : List V → Hp → VK → Prop := fun xs H Q => (∃ i, xs = [.int i] ∧ Q (.int i) H) ∨ ∃ k, xs = [.bl k] ∧ Q (.int (if k then 1 else 0)) H
theorem cr_int {X : Cx} : CallR X (.type "int") rInt := call_int1
theorem ev_int (h : EvF B cs cs1 ta σ (.int i)) : EvF B cs cs1 (tCB rInt (tCons ta tNil)) σ (.int i) := ev_cb1 h fun _ _ _ q => Or.inl ⟨i, rfl, q⟩
theorem ev_intB (h : EvF B cs cs1 ta σ (.bl b)) : EvF B cs cs1 (tCB rInt (tCons ta tNil)) σ (.int (b2 b)) := ev_cb1 h fun _ _ _ q => Or.inr ⟨b, rfl, q⟩
theorem ev_bits (h : EvF B cs cs1 ta σ (.int i)) : EvF B cs cs1 (tBits ta) σ (.int (bitsI i)) := fun ys H F _ q => h ys H F _ fun H1 F1 => ⟨i, rfl, q H1 F1⟩
theorem ev_neg (h : EvF B cs cs1 ta σ (.int i)) : EvF B cs cs1 (tUn (rU fun i => .int (-i)) ta) σ (.int (-i)) := ev_un h fun _ _ q => ⟨i, rfl, q⟩
theorem ev_inv (h : EvF B cs cs1 ta σ (.int i)) : EvF B cs cs1 (tUn (rU fun i => .int (Builtin.bitNot i)) ta) σ (.int (Builtin.bitNot i)) := ev_un h fun _ _ q => ⟨i, rfl, q⟩
/-- isinstance -/
theorem rc_isi {w : Value} {n : String} (ty : ∀ H1, Fr B cs H1 → TyX K H1 x w) (hk : PySem.W.kitOne K w (.type n) = some b) : RcF B cs (rIsi K) [x, .ty n] (.bl b) := fun H F _ q => ⟨x, .ty n, w, .type n, b, rfl, .ty n, ty H F, hk, q⟩
theorem ty_int {i : Int} (H1 : Hp) (_ : Fr B cs H1) : TyX K H1 (.int i) (.type "int") := .base (.int i)
theorem ty_bl {k : Bool} (H1 : Hp) (_ : Fr B cs H1) : TyX K H1 (.bl k) (.type "bool") := .base (.bl k)
theorem ty_non (H1 : Hp) (_ : Fr B cs H1) : TyX K H1 .non (.type "NoneType") := .base .non
theorem ty_str {s : Str} (H1 : Hp) (_ : Fr B cs H1) : TyX K H1 (.str s) (.type "str") := .base (.str s)
theorem ty_lst {vs : List V} (h : Rd B cs a (.lst vs)) (H1 : Hp) (F : Fr B cs H1) : TyX K H1 (.ref a) (.type "list") := .base (.lst (h.at F))
theorem ty_tup {vs : List V} (h : Rd B cs a (.tup vs)) (H1 : Hp) (F : Fr B cs H1) : TyX K H1 (.ref a) (.type "tuple") := .base (.tup (h.at F))
/-- sum, all, any -/
theorem rc_sum {xs : List Int} (h : RdS K B cs a (xs.map V.int)) : RcF B cs (rSum K) [.ref a] (.int xs.sum) := fun H F _ q => ⟨a, xs, rfl, h.at F, q⟩
theorem rc_sumN {xs : List Int} (p : Addr) : RcF B ((p, .lst (xs.map V.int)) :: cs) (rSum K) [.ref p] (.int xs.sum) := rc_sum (.inl (.own 0 rfl))
theorem rc_allN {xs : List Bool} (p : Addr) : RcF B ((p, .lst (xs.map V.bl)) :: cs) (rAll K) [.ref p] (.bl (xs.all id)) := fun H F _ q => ⟨p, xs, rfl, Evl.sq_of (F.get 0 rfl), q⟩
theorem rc_anyN {xs : List Bool} (p : Addr) : RcF B ((p, .lst (xs.map V.bl)) :: cs) (rAny K) [.ref p] (.bl (xs.any id)) := fun H F _ q => ⟨p, xs, rfl, Evl.sq_of (F.get 0 rfl), q⟩
/-- max, min of a list: any that is in it and not less -/
def maxP (xs : List Int) (m : Int) : Prop := m ∈ xs ∧ ∀ y ∈ xs, y ≤ m
theorem maxL_of {xs : List Int} {m : Int} (h : m ∈ xs) (h2 : ∀ y, y ∈ xs → y ≤ m) : maxL xs = some m := by
  have key : ∀ (l : List Int) (a : Int), (∀ y, y ∈ l → y ≤ l.foldl (fun a b => if b > a then b else a) a) ∧ a ≤ l.foldl (fun a b => if b > a then b else a) a ∧ (l.foldl (fun a b => if b > a then b else a) a = a ∨ l.foldl (fun a b => if b > a then b else a) a ∈ l) := by
    intro l
    induction l with
    | nil => intro a; exact ⟨fun _ h => (nomatch h), Int.le_refl _, Or.inl rfl⟩
    | cons b l ih =>
      intro a
      obtain ⟨h1, h2, h3⟩ := ih (if b > a then b else a)
      rw [List.foldl_cons]
      have hb : b ≤ (if b > a then b else a) ∧ a ≤ (if b > a then b else a) := by split <;> omega
      refine ⟨fun y hy => ?_, by omega, ?_⟩
      · rcases List.mem_cons.mp hy with rfl | hy
        · omega
        · exact h1 y hy
      · rcases h3 with h3 | h3
        · rw [h3]
          split
          · exact Or.inr List.mem_cons_self
          · exact Or.inl rfl
        · exact Or.inr (List.mem_cons_of_mem _ h3)
  cases xs with
  | nil => cases h
  | cons x l =>
    obtain ⟨h3, h4, h5⟩ := key l x
    show some _ = some m
    congr 1
    have h6 : m ≤ l.foldl (fun a b => if b > a then b else a) x := by
      rcases List.mem_cons.mp h with rfl | h
      · exact h4
      · exact h3 m h
    have h7 : l.foldl (fun a b => if b > a then b else a) x ≤ m := by
      rcases h5 with h5 | h5
      · rw [h5]; exact h2 x List.mem_cons_self
      · exact h2 _ (List.mem_cons_of_mem _ h5)
    omega
theorem minL_of {xs : List Int} {m : Int} (h : m ∈ xs) (h2 : ∀ y, y ∈ xs → m ≤ y) : minL xs = some m := by
  have key : ∀ (l : List Int) (a : Int), (∀ y, y ∈ l → l.foldl (fun a b => if b < a then b else a) a ≤ y) ∧ l.foldl (fun a b => if b < a then b else a) a ≤ a ∧ (l.foldl (fun a b => if b < a then b else a) a = a ∨ l.foldl (fun a b => if b < a then b else a) a ∈ l) := by
    intro l
    induction l with
    | nil => intro a; exact ⟨fun _ h => (nomatch h), Int.le_refl _, Or.inl rfl⟩
    | cons b l ih =>
      intro a
      obtain ⟨h1, h2, h3⟩ := ih (if b < a then b else a)
      rw [List.foldl_cons]
      have hb : (if b < a then b else a) ≤ b ∧ (if b < a then b else a) ≤ a := by split <;> omega
      refine ⟨fun y hy => ?_, by omega, ?_⟩
      · rcases List.mem_cons.mp hy with rfl | hy
        · omega
        · exact h1 y hy
      · rcases h3 with h3 | h3
        · rw [h3]
          split
          · exact Or.inr List.mem_cons_self
          · exact Or.inl rfl
        · exact Or.inr (List.mem_cons_of_mem _ h3)
  cases xs with
  | nil => cases h
  | cons x l =>
    obtain ⟨h3, h4, h5⟩ := key l x
    show some _ = some m
    congr 1
    have h6 : l.foldl (fun a b => if b < a then b else a) x ≤ m := by
      rcases List.mem_cons.mp h with rfl | h
      · exact h4
      · exact h3 m h
    have h7 : m ≤ l.foldl (fun a b => if b < a then b else a) x := by
      rcases h5 with h5 | h5
      · rw [h5]; exact h2 x List.mem_cons_self
      · exact h2 _ (List.mem_cons_of_mem _ h5)
    omega
theorem maxL_pos {xs : List Int} {m : Int} (h : maxL xs = some m) : 0 < xs.length := by
  cases xs with
  | nil => cases h
  | cons x l => exact Nat.succ_pos _
theorem minL_pos {xs : List Int} {m : Int} (h : minL xs = some m) : 0 < xs.length := by
  cases xs with
  | nil => cases h
  | cons x l => exact Nat.succ_pos _
theorem rc_max {xs : List Int} {m : Int} (hm : maxL xs = some m) (h : RdS K B cs a (xs.map V.int)) : RcF B cs (rMax K) [.ref a] (.int m) := fun H F Q q => ⟨a, xs, rfl, h.at F, maxL_pos hm, fun m' h1 h2 => by
  have := maxL_of h1 h2
  rw [hm] at this
  cases this
  exact q⟩
theorem rc_min {xs : List Int} {m : Int} (hm : minL xs = some m) (h : RdS K B cs a (xs.map V.int)) : RcF B cs (rMin K) [.ref a] (.int m) := fun H F Q q => ⟨a, xs, rfl, h.at F, minL_pos hm, fun m' h1 h2 => by
  have := minL_of h1 h2
  rw [hm] at this
  cases this
  exact q⟩
end
/-! ### data that stand: what a value is worth -/
inductive D where
  | non | int (i : Int) | bl (b : Bool) | str (s : Str) | lst (l : List D) | tup (l : List D) | obj (t : Nat) (l : List D)
/-- the classes: where each stands, its attributes in order -/
abbrev Cl := Nat → Addr × List Str
mutual
def Rp (K : PySem.W.Frag) (G : Cl) (H : Hp) : V → D → Prop
  | v, .non => v = .non
  | v, .int i => v = .int i
  | v, .bl b => v = .bl b
  | v, .str s => v = .str s
  | v, .lst l => ∃ a vs, v = .ref a ∧ H a = some (.lst vs) ∧ Rps K G H vs l
  | v, .tup l => ∃ a vs, v = .ref a ∧ SqT K H a vs ∧ Rps K G H vs l
  | v, .obj t l => ∃ a dx vs, v = .ref a ∧ H a = some (.ins (G t).1 dx ((G t).2.zip vs)) ∧ vs.length = (G t).2.length ∧ Rps K G H vs l
def Rps (K : PySem.W.Frag) (G : Cl) (H : Hp) : List V → List D → Prop
  | [], [] => True
  | v :: vs, d :: ds => Rp K G H v d ∧ Rps K G H vs ds
  | [], _ :: _ => False
  | _ :: _, [] => False
end
section
variable {K : PySem.W.Frag} {G : Cl} {H H' : Hp}
mutual
theorem Rp.mono (e : Ex H H') : ∀ (d : D) {v : V}, Rp K G H v d → Rp K G H' v d
  | .non, v, h => by simpa only [Rp] using h
  | .int i, v, h => by simpa only [Rp] using h
  | .bl b, v, h => by simpa only [Rp] using h
  | .str s, v, h => by simpa only [Rp] using h
  | .lst l, v, h => by
    simp only [Rp] at h ⊢
    obtain ⟨a, vs, h1, h2, h3⟩ := h
    exact ⟨a, vs, h1, e _ _ h2, Rps.mono e l h3⟩
  | .tup l, v, h => by
    simp only [Rp] at h ⊢
    obtain ⟨a, vs, h1, h2, h3⟩ := h
    exact ⟨a, vs, h1, Evl.ex_t e h2, Rps.mono e l h3⟩
  | .obj t l, v, h => by
    simp only [Rp] at h ⊢
    obtain ⟨a, dx, vs, h1, h2, h3, h4⟩ := h
    exact ⟨a, dx, vs, h1, e _ _ h2, h3, Rps.mono e l h4⟩
theorem Rps.mono (e : Ex H H') : ∀ (ds : List D) {vs : List V}, Rps K G H vs ds → Rps K G H' vs ds
  | [], [], h => by simp only [Rps]
  | [], v :: vs, h => by simp only [Rps] at h
  | d :: ds, [], h => by simp only [Rps] at h
  | d :: ds, v :: vs, h => by
    simp only [Rps] at h ⊢
    exact ⟨Rp.mono e d h.1, Rps.mono e ds h.2⟩
end
theorem Rp.to {d : D} {v : V} (h : Rp K G H v d) (e : Ex H H') : Rp K G H' v d := Rp.mono e d h
theorem Rps.to {ds : List D} {vs : List V} (h : Rps K G H vs ds) (e : Ex H H') : Rps K G H' vs ds := Rps.mono e ds h
theorem Rps.len : ∀ {vs : List V} {ds : List D}, Rps K G H vs ds → vs.length = ds.length
  | [], [], _ => rfl
  | [], _ :: _, h => by simp only [Rps] at h
  | _ :: _, [], h => by simp only [Rps] at h
  | v :: vs, d :: ds, h => by
    simp only [Rps] at h
    rw [List.length_cons, List.length_cons, Rps.len h.2]
theorem Rps.get : ∀ {vs : List V} {ds : List D} {i : Nat} {d : D}, Rps K G H vs ds → ds[i]? = some d → ∃ v, vs[i]? = some v ∧ Rp K G H v d
  | [], [], _, _, _, hd => by simp at hd
  | [], _ :: _, _, _, h, _ => by simp only [Rps] at h
  | _ :: _, [], _, _, h, _ => by simp only [Rps] at h
  | v :: vs, d :: ds, 0, d', h, hd => by
    simp only [Rps] at h
    cases hd
    exact ⟨v, rfl, h.1⟩
  | v :: vs, d :: ds, i + 1, d', h, hd => by
    simp only [Rps] at h
    exact Rps.get (i := i) h.2 hd
theorem Rps.snoc : ∀ {vs : List V} {ds : List D} {v : V} {d : D}, Rps K G H vs ds → Rp K G H v d → Rps K G H (vs ++ [v]) (ds ++ [d])
  | [], [], _, _, _, h => by
    show Rps K G H [_] [_]
    simp only [Rps]
    exact ⟨h, trivial⟩
  | [], _ :: _, _, _, h, _ => by simp only [Rps] at h
  | _ :: _, [], _, _, h, _ => by simp only [Rps] at h
  | v :: vs, d :: ds, _, _, h, h2 => by
    show Rps K G H (v :: (vs ++ [_])) (d :: (ds ++ [_]))
    simp only [Rps] at h ⊢
    exact ⟨h.1, Rps.snoc h.2 h2⟩
theorem Rps.set : ∀ {vs : List V} {ds : List D} {v : V} {d : D} (i : Nat), Rps K G H vs ds → Rp K G H v d → Rps K G H (vs.set i v) (ds.set i d)
  | [], [], _, _, _, _, _ => by simp only [List.set_nil, Rps]
  | [], _ :: _, _, _, _, h, _ => by simp only [Rps] at h
  | _ :: _, [], _, _, _, h, _ => by simp only [Rps] at h
  | v :: vs, d :: ds, _, _, 0, h, h2 => by
    simp only [Rps] at h
    show Rps K G H (_ :: vs) (_ :: ds)
    simp only [Rps]
    exact ⟨h2, h.2⟩
  | v :: vs, d :: ds, _, _, i + 1, h, h2 => by
    simp only [Rps] at h
    show Rps K G H (v :: vs.set i _) (d :: ds.set i _)
    simp only [Rps]
    exact ⟨h.1, Rps.set i h.2 h2⟩
theorem Rps.take : ∀ {vs : List V} {ds : List D} (n : Nat), Rps K G H vs ds → Rps K G H (vs.take n) (ds.take n)
  | _, _, 0, _ => by simp only [List.take_zero, Rps]
  | [], [], n + 1, _ => by simp only [List.take_nil, Rps]
  | [], _ :: _, _, h => by simp only [Rps] at h
  | _ :: _, [], _, h => by simp only [Rps] at h
  | v :: vs, d :: ds, n + 1, h => by
    simp only [Rps] at h
    show Rps K G H (v :: vs.take n) (d :: ds.take n)
    simp only [Rps]
    exact ⟨h.1, Rps.take n h.2⟩
theorem Rps.drop : ∀ {vs : List V} {ds : List D} (n : Nat), Rps K G H vs ds → Rps K G H (vs.drop n) (ds.drop n)
  | _, _, 0, h => h
  | [], [], n + 1, _ => by simp only [List.drop_nil, Rps]
  | [], _ :: _, _, h => by simp only [Rps] at h
  | _ :: _, [], _, h => by simp only [Rps] at h
  | v :: vs, d :: ds, n + 1, h => by
    simp only [Rps] at h
    exact Rps.drop n h.2
theorem Rps.app : ∀ {vs ws : List V} {ds es : List D}, Rps K G H vs ds → Rps K G H ws es → Rps K G H (vs ++ ws) (ds ++ es)
  | [], _, [], _, _, h => h
  | [], _, _ :: _, _, h, _ => by simp only [Rps] at h
  | _ :: _, _, [], _, h, _ => by simp only [Rps] at h
  | v :: vs, ws, d :: ds, es, h, h2 => by
    simp only [Rps] at h
    show Rps K G H (v :: (vs ++ ws)) (d :: (ds ++ es))
    simp only [Rps]
    exact ⟨h.1, Rps.app h.2 h2⟩
theorem Rps.ints : ∀ {xs : List Int} {vs : List V}, Rps K G H vs (xs.map D.int) ↔ vs = xs.map V.int
  | [], [] => by simp only [List.map_nil, Rps]
  | [], v :: vs => by simp only [List.map_nil, Rps]; simp
  | x :: xs, [] => by simp only [List.map_cons, Rps]; simp
  | x :: xs, v :: vs => by
    simp only [List.map_cons, Rps, Rp]
    rw [Rps.ints]
    simp
theorem Rps.bls : ∀ {xs : List Bool} {vs : List V}, Rps K G H vs (xs.map D.bl) ↔ vs = xs.map V.bl
  | [], [] => by simp only [List.map_nil, Rps]
  | [], v :: vs => by simp only [List.map_nil, Rps]; simp
  | x :: xs, [] => by simp only [List.map_cons, Rps]; simp
  | x :: xs, v :: vs => by
    simp only [List.map_cons, Rps, Rp]
    rw [Rps.bls]
    simp
end
/-- the data of typed values -/
def lD {A : Type} (f : A → D) (xs : List A) : D := .lst (xs.map f)
def oD {A : Type} (f : A → D) : Option A → D
  | none => .non
  | some x => f x
def uD (_ : Unit) : D := .non
def pD2 {A1 A2 : Type} (f1 : A1 → D) (f2 : A2 → D) (p : A1 × A2) : D := .tup [f1 p.1, f2 p.2]
def pD3 {A1 A2 A3 : Type} (f1 : A1 → D) (f2 : A2 → D) (f3 : A3 → D) (p : A1 × A2 × A3) : D := .tup [f1 p.1, f2 p.2.1, f3 p.2.2]
def pD4 {A1 A2 A3 A4 : Type} (f1 : A1 → D) (f2 : A2 → D) (f3 : A3 → D) (f4 : A4 → D) (p : A1 × A2 × A3 × A4) : D := .tup [f1 p.1, f2 p.2.1, f3 p.2.2.1, f4 p.2.2.2]
section
variable {K : PySem.W.Frag} {G : Cl} {H B : Hp} {cs : Cs} {A A1 A2 A3 A4 : Type} {f : A → D} {f1 : A1 → D} {f2 : A2 → D} {f3 : A3 → D} {f4 : A4 → D} {v : V} {vs : List V}
theorem Rp.i {i : Int} (h : Rp K G H v (.int i)) : v = .int i := by simpa only [Rp] using h
theorem Rp.b {b : Bool} (h : Rp K G H v (.bl b)) : v = .bl b := by simpa only [Rp] using h
theorem Rp.s {s : Str} (h : Rp K G H v (.str s)) : v = .str s := by simpa only [Rp] using h
theorem Rp.n (h : Rp K G H v .non) : v = .non := by simpa only [Rp] using h
theorem rp_i {i : Int} : Rp K G H (.int i) (.int i) := by simp only [Rp]
theorem rp_b {i : Bool} : Rp K G H (.bl i) (.bl i) := by simp only [Rp]
theorem rp_s {i : Str} : Rp K G H (.str i) (.str i) := by simp only [Rp]
theorem rp_n : Rp K G H .non .non := by simp only [Rp]
theorem rp_u {u : Unit} : Rp K G H .non (uD u) := by simp only [Rp, uD]
theorem Rp.l {xs : List A} (h : Rp K G H v (lD f xs)) : ∃ a vs, v = .ref a ∧ H a = some (.lst vs) ∧ Rps K G H vs (xs.map f) := by simpa only [Rp, lD] using h
theorem Rp.li {xs : List Int} (h : Rp K G H v (lD D.int xs)) : ∃ a, v = .ref a ∧ H a = some (.lst (xs.map V.int)) := by
  obtain ⟨a, vs, h1, h2, h3⟩ := h.l
  rw [Rps.ints] at h3
  subst h3
  exact ⟨a, h1, h2⟩
theorem Rp.lb {xs : List Bool} (h : Rp K G H v (lD D.bl xs)) : ∃ a, v = .ref a ∧ H a = some (.lst (xs.map V.bl)) := by
  obtain ⟨a, vs, h1, h2, h3⟩ := h.l
  rw [Rps.bls] at h3
  subst h3
  exact ⟨a, h1, h2⟩
theorem rp_l {xs : List A} {a : Addr} (h : H a = some (.lst vs)) (r : Rps K G H vs (xs.map f)) : Rp K G H (.ref a) (lD f xs) := by
  simp only [Rp, lD]
  exact ⟨a, vs, rfl, h, r⟩
theorem rp_li {xs : List Int} {a : Addr} (h : H a = some (.lst (xs.map V.int))) : Rp K G H (.ref a) (lD D.int xs) := rp_l h (Rps.ints.mpr rfl)
theorem rp_lb {xs : List Bool} {a : Addr} (h : H a = some (.lst (xs.map V.bl))) : Rp K G H (.ref a) (lD D.bl xs) := rp_l h (Rps.bls.mpr rfl)
theorem Rp.t2 {p : A1 × A2} (h : Rp K G H v (pD2 f1 f2 p)) : ∃ a v1 v2, v = .ref a ∧ SqT K H a [v1, v2] ∧ Rp K G H v1 (f1 p.1) ∧ Rp K G H v2 (f2 p.2) := by
  simp only [Rp, pD2] at h
  obtain ⟨a, vs, h1, h2, h3⟩ := h
  match vs, h3 with
  | [v1, v2], h3 =>
    simp only [Rps] at h3
    exact ⟨a, v1, v2, h1, h2, h3.1, h3.2.1⟩
  | [], h3 => simp only [Rps] at h3
  | [_], h3 => simp only [Rps] at h3; exact h3.2.elim
  | _ :: _ :: _ :: _, h3 => simp only [Rps] at h3; exact h3.2.2.elim
theorem rp_t2 {p : A1 × A2} {a : Addr} {v1 v2 : V} (h : SqT K H a [v1, v2]) (r1 : Rp K G H v1 (f1 p.1)) (r2 : Rp K G H v2 (f2 p.2)) : Rp K G H (.ref a) (pD2 f1 f2 p) := by
  simp only [Rp, pD2]
  exact ⟨a, _, rfl, h, by simp only [Rps]; exact ⟨r1, r2, trivial⟩⟩
theorem Rp.t3 {p : A1 × A2 × A3} (h : Rp K G H v (pD3 f1 f2 f3 p)) : ∃ a v1 v2 v3, v = .ref a ∧ SqT K H a [v1, v2, v3] ∧ Rp K G H v1 (f1 p.1) ∧ Rp K G H v2 (f2 p.2.1) ∧ Rp K G H v3 (f3 p.2.2) := by
  simp only [Rp, pD3] at h
  obtain ⟨a, vs, h1, h2, h3⟩ := h
  match vs, h3 with
  | [v1, v2, v3], h3 =>
    simp only [Rps] at h3
    exact ⟨a, v1, v2, v3, h1, h2, h3.1, h3.2.1, h3.2.2.1⟩
  | [], h3 => simp only [Rps] at h3
  | [_], h3 => simp only [Rps] at h3; exact h3.2.elim
  | [_, _], h3 => simp only [Rps] at h3; exact h3.2.2.elim
  | _ :: _ :: _ :: _ :: _, h3 => simp only [Rps] at h3; exact h3.2.2.2.elim
theorem rp_t3 {p : A1 × A2 × A3} {a : Addr} {v1 v2 v3 : V} (h : SqT K H a [v1, v2, v3]) (r1 : Rp K G H v1 (f1 p.1)) (r2 : Rp K G H v2 (f2 p.2.1)) (r3 : Rp K G H v3 (f3 p.2.2)) : Rp K G H (.ref a) (pD3 f1 f2 f3 p) := by
  simp only [Rp, pD3]
  exact ⟨a, _, rfl, h, by simp only [Rps]; exact ⟨r1, r2, r3, trivial⟩⟩
theorem Rp.t4 {p : A1 × A2 × A3 × A4} (h : Rp K G H v (pD4 f1 f2 f3 f4 p)) : ∃ a v1 v2 v3 v4, v = .ref a ∧ SqT K H a [v1, v2, v3, v4] ∧ Rp K G H v1 (f1 p.1) ∧ Rp K G H v2 (f2 p.2.1) ∧ Rp K G H v3 (f3 p.2.2.1) ∧ Rp K G H v4 (f4 p.2.2.2) := by
  simp only [Rp, pD4] at h
  obtain ⟨a, vs, h1, h2, h3⟩ := h
  match vs, h3 with
  | [v1, v2, v3, v4], h3 =>
    simp only [Rps] at h3
    exact ⟨a, v1, v2, v3, v4, h1, h2, h3.1, h3.2.1, h3.2.2.1, h3.2.2.2.1⟩
  | [], h3 => simp only [Rps] at h3
  | [_], h3 => simp only [Rps] at h3; exact h3.2.elim
  | [_, _], h3 => simp only [Rps] at h3; exact h3.2.2.elim
  | [_, _, _], h3 => simp only [Rps] at h3; exact h3.2.2.2.elim
  | _ :: _ :: _ :: _ :: _ :: _, h3 => simp only [Rps] at h3; exact h3.2.2.2.2.elim
theorem rp_t4 {p : A1 × A2 × A3 × A4} {a : Addr} {v1 v2 v3 v4 : V} (h : SqT K H a [v1, v2, v3, v4]) (r1 : Rp K G H v1 (f1 p.1)) (r2 : Rp K G H v2 (f2 p.2.1)) (r3 : Rp K G H v3 (f3 p.2.2.1)) (r4 : Rp K G H v4 (f4 p.2.2.2)) : Rp K G H (.ref a) (pD4 f1 f2 f3 f4 p) := by
  simp only [Rp, pD4]
  exact ⟨a, _, rfl, h, by simp only [Rps]; exact ⟨r1, r2, r3, r4, trivial⟩⟩
theorem Rps.at {xs : List A} {i : Int} {y : A} (r : Rps K G H vs (xs.map f)) (h : atI xs i = some y) : ∃ v, atI vs i = some v ∧ Rp K G H v (f y) := by
  have hl : vs.length = xs.length := by rw [r.len, List.length_map]
  unfold atI at h ⊢
  rw [hl]
  cases hj : ixN xs.length i with
  | none => rw [hj] at h; cases h
  | some j =>
    rw [hj] at h
    have h' : xs[j]? = some y := h
    obtain ⟨v, h1, h2⟩ := r.get (i := j) (d := f y) (by rw [List.getElem?_map, h']; rfl)
    exact ⟨v, h1, h2⟩
theorem Rps.gt {xs : List A} {i : Nat} {y : A} (r : Rps K G H vs (xs.map f)) (h : xs[i]? = some y) : ∃ v, vs[i]? = some v ∧ Rp K G H v (f y) := r.get (by rw [List.getElem?_map, h]; rfl)
theorem Rps.ln {xs : List A} (r : Rps K G H vs (xs.map f)) : vs.length = xs.length := by rw [r.len, List.length_map]
theorem Rps.snocF {xs : List A} {y : A} (r : Rps K G H vs (xs.map f)) (h : Rp K G H v (f y)) : Rps K G H (vs ++ [v]) ((xs ++ [y]).map f) := by
  rw [List.map_append]
  exact r.snoc h
theorem Rps.nilF : Rps K G H [] (([] : List A).map f) := by simp only [List.map_nil, Rps]
theorem Rps.cutF {xs : List A} (r : Rps K G H vs (xs.map f)) (lo hi : Option Int) : Rps K G H (cutV vs lo hi) ((cut xs lo hi).map f) := by
  unfold cutV cut
  rw [r.ln, List.map_take, List.map_drop]
  exact (r.drop _).take _
end
/-! ### rules whose written part K is told -/
section
variable {X : Cx} {K : PySem.W.Frag}
theorem kLen (h : X.K = K := by rfl) : CallR X (.builtin "len") (rLen K) := h ▸ cr_len
theorem kLst (h : X.K = K := by rfl) : CallR X (.type "list") (rLst K) := h ▸ cr_list
theorem kIx (h : X.K = K := by rfl) : IxR X (rIxL K) := h ▸ ix_list
theorem kIxT (h : X.K = K := by rfl) : IxR X (rIxT K) := h ▸ ix_tup
theorem kSl (h : X.K = K := by rfl) : SlR X (rSlL K) := h ▸ sl_list
theorem kEq (hu : X.A.units + 64 < cLine) (h : X.K = K := by rfl) : OpR X (compareOp .Eq) (rEqD K) := h ▸ op_eqD hu
theorem kNe (hu : X.A.units + 64 < cLine) (h : X.K = K := by rfl) : OpR X (compareOp .NotEq) (rNeD K) := h ▸ op_neD hu
theorem kIsi (h : X.K = K := by rfl) : CallR X (.builtin "isinstance") (rIsi K) := h ▸ call_isi
theorem kSum (hc : X.calm = true) (h : X.K = K := by rfl) : CallR X (.builtin "sum") (rSum K) := h ▸ cr_sum hc
theorem kAll (hc : X.calm = true) (h : X.K = K := by rfl) : CallR X (.builtin "all") (rAll K) := h ▸ cr_all hc
theorem kAny (hc : X.calm = true) (h : X.K = K := by rfl) : CallR X (.builtin "any") (rAny K) := h ▸ cr_any hc
theorem kMax (hc : X.calm = true) (h : X.K = K := by rfl) : CallR X (.builtin "max") (rMax K) := h ▸ cr_max hc
theorem kMin (hc : X.calm = true) (h : X.K = K := by rfl) : CallR X (.builtin "min") (rMin K) := h ▸ cr_min hc
theorem kpi_list {tg l : Expr} {tl : TE} (hl : PE X l tl) (h : X.K = K := by rfl) : PI X tg l (iList K tl) := h ▸ pi_list hl
theorem kpi_tup {tg l : Expr} {tl : TE} (hl : PE X l tl) (h : X.K = K := by rfl) : PI X tg l (iTup K tl) := h ▸ pi_tup hl
end
/-- a reading at slots told otherwise -/
theorem sl {t : L2.St → Hp → Prop} {σ σ' : L2.St} {H : Hp} (e : σ = σ') (h : t σ' H) : t σ H := e ▸ h
theorem Rd.dn (n : Nat) {B : Hp} {cs : Cs} {a : Addr} {o : HO} (r : Rd B (cs.drop n) a o) : Rd B cs a o := by
  rcases r with h | h
  · exact .inl h
  · exact .inr ((List.drop_sublist n cs).subset h)
theorem RdS.dn (n : Nat) {K : PySem.W.Frag} {B : Hp} {cs : Cs} {a : Addr} {vs : List V} (r : RdS K B (cs.drop n) a vs) : RdS K B cs a vs := by
  rcases r with h | h
  · exact .inl (h.dn n)
  · exact .inr h
theorem Rd.to {B B' : Hp} {cs : Cs} {a : Addr} {o : HO} (r : Rd B cs a o) (e : Ex B B') : Rd B' cs a o := by
  rcases r with h | h
  · exact .inl (e _ _ h)
  · exact .inr h
theorem RdS.to {K : PySem.W.Frag} {B B' : Hp} {cs : Cs} {a : Addr} {vs : List V} (r : RdS K B cs a vs) (e : Ex B B') : RdS K B' cs a vs := by
  rcases r with h | h
  · exact .inl (h.to e)
  · exact .inr (Evl.ex_l e h)
theorem Rd.app {B : Hp} {xs cs : Cs} {a : Addr} {o : HO} (r : Rd B cs a o) : Rd B (xs ++ cs) a o := by
  rcases r with h | h
  · exact .inl h
  · exact .inr (List.mem_append_right _ h)
theorem RdS.app {K : PySem.W.Frag} {B : Hp} {xs cs : Cs} {a : Addr} {vs : List V} (r : RdS K B cs a vs) : RdS K B (xs ++ cs) a vs := by
  rcases r with h | h
  · exact .inl h.app
  · exact .inr h
theorem Fr.fz {B H : Hp} {cs : Cs} {p : Addr} {o : HO} (F : Fr B ((p, o) :: cs) H) : ∃ B', Ex B B' ∧ B' p = some o ∧ Fr B' cs H := ⟨_, Evl.Ex.new (F.fresh 0 rfl), upd_same, F.rest⟩
theorem Fr.fzAt (i : Nat) {B H : Hp} {cs : Cs} {p : Addr} {o : HO} (h : cs[i]? = some (p, o)) (F : Fr B cs H) : ∃ B', Ex B B' ∧ B' p = some o ∧ Fr B' (cs.eraseIdx i) H := by
  have F1 : Fr B ((p, o) :: cs.eraseIdx i) H := F.perm (erase_perm h)
  exact F1.fz
theorem gn {i : Nat} {v : V} {σ σ' : L2.St} {H : Hp} {Q : L2.St → Hp → Prop} (e : σ.set i (some v) = σ') (q : Q σ' H) : gName i v σ H Q := by
  subst e
  exact q
def G0 : Cl := fun _ => (0, [])
theorem sqT_of {K : PySem.W.Frag} {H : Hp} {q : Addr} {xs : List Int} {od : Option Addr} {its : List Value} {n : Nat} {sl : Array (Option Value)} (l : K.lookup q = some ⟨.type "tuple", od, .seq its.toArray n, sl⟩) (hv : Vals (xs.map V.int) its) (hz : xs.length ≤ 1000) : SqT K H q (xs.map V.int) := by
  refine Or.inr ⟨_, its.toArray, n, l, rfl, rfl, ?_, hv⟩
  have := hv.length
  rw [List.length_map] at this
  rw [List.size_toArray, sizeLine_eq]
  omega
section
variable {K : PySem.W.Frag} {G : Cl} {B : Hp} {cs cs1 cs2 : Cs} {v : V} {A : Type} {f : A → D} {o : Option A} {σ : L2.St} {i : Int} {ta : TE}
theorem rp_none : Rp K G B .non (oD f none) := by simp only [Rp, oD]
theorem rp_some {y : A} (h : Rp K G B v (f y)) : Rp K G B v (oD f (some y)) := h
/-- a type whose values are not None -/
theorem opt_none (hb : o.isNone = true) (r : Rp K G B v (oD f o)) : o = none ∧ v = .non := by
  cases o with
  | none => exact ⟨rfl, r.n⟩
  | some y => cases hb
theorem opt_noneN (hb : (!o.isNone) = false) (r : Rp K G B v (oD f o)) : o = none ∧ v = .non := opt_none (by simpa using hb) r
theorem opt_some (hb : o.isNone = false) (r : Rp K G B v (oD f o)) : ∃ y, o = some y ∧ Rp K G B v (f y) := by
  cases o with
  | none => cases hb
  | some y => exact ⟨y, rfl, r⟩
theorem opt_someN (hb : (!o.isNone) = true) (r : Rp K G B v (oD f o)) : ∃ y, o = some y ∧ Rp K G B v (f y) := opt_some (by simpa using hb) r
def NotNon (f : A → D) : Prop := ∀ (K : PySem.W.Frag) (G : Cl) (B : Hp) (x : A), ¬ Rp K G B .non (f x)
theorem rv_isNO (r : Rp K G B v (oD f o)) (hn : NotNon f) : RvF B cs (fun x y H Q => y = .non ∧ Q (.bl (decide (x = .non))) H) v .non (.bl o.isNone) := rv_isN (by
  cases o with
  | none => rw [r.n]; rfl
  | some y =>
    have : v ≠ .non := by
      rintro rfl
      exact hn K G B y r
    simp [this])
theorem rv_notNO (r : Rp K G B v (oD f o)) (hn : NotNon f) : RvF B cs (fun x y H Q => y = .non ∧ Q (.bl (!decide (x = .non))) H) v .non (.bl (!o.isNone)) := rv_notN (by
  cases o with
  | none => rw [r.n]; rfl
  | some y =>
    have : v ≠ .non := by
      rintro rfl
      exact hn K G B y r
    simp [this])
theorem nn_int : NotNon D.int := fun _ _ _ _ h => by simp only [Rp] at h; cases h
theorem nn_l {B : Type} {f : B → D} : NotNon (lD f) := fun _ _ _ _ h => by
  obtain ⟨_, _, h, _⟩ := h.l
  cases h
theorem nn_t2 {A B : Type} {f : A → D} {g : B → D} : NotNon (pD2 f g) := fun _ _ _ _ h => by
  obtain ⟨_, _, _, h, _⟩ := h.t2
  cases h
theorem nn_t3 {A B C : Type} {f : A → D} {g : B → D} {k : C → D} : NotNon (pD3 f g k) := fun _ _ _ _ h => by
  obtain ⟨_, _, _, _, h, _⟩ := h.t3
  cases h
theorem nn_t4 {A B C E : Type} {f : A → D} {g : B → D} {k : C → D} {l : E → D} : NotNon (pD4 f g k l) := fun _ _ _ _ h => by
  obtain ⟨_, _, _, _, _, h, _⟩ := h.t4
  cases h
theorem Rp.u {x : Unit} (h : Rp K G B v (uD x)) : v = .non := by simpa only [Rp, uD] using h
theorem rv_ixK {q : Addr} {A : Type} {f : A → V} {xs : List A} {w : A} (hv : atI xs i = some w) (h : ∀ H, SqT K H q (List.map f xs)) : RvF B cs (rIxT K) (.ref q) (.int i) (f w) := fun H _ _ k => ⟨q, xs.map f, i, f w, rfl, rfl, h H, by rw [atI_map, hv]; rfl, k⟩
theorem rv_ixTV {q : Addr} {vs : List V} {w : V} (n : Nat) (h : SqT K B q vs) (hv : vs[n]? = some w) : RvF B cs (rIxT K) (.ref q) (.int (n : Int)) w := fun H F _ k => ⟨q, vs, (n : Int), w, rfl, rfl, Evl.ex_t F.base h, atI_nat hv, k⟩
theorem rc_lenT {q : Addr} {vs : List V} {n : Nat} (h : SqT K B q vs) (hn : vs.length = n) : RcF B cs (rLen K) [.ref q] (.int (n : Int)) := fun H F _ k => ⟨q, vs, rfl, Or.inr (Evl.ex_t F.base h), by rw [hn]; exact k⟩
theorem ty_sqt {q : Addr} {vs : List V} {H : Hp} (h : SqT K H q vs) : TyX K H (.ref q) (.type "tuple") := by
  rcases h with (h | ⟨o, h⟩) | ⟨o, its, n, h1, h2, h3, h4, h5⟩
  · exact .base (.tup h)
  · exact .fTuple h
  · exact .kTuple h1 h2
theorem rc_isiT {q : Addr} {vs : List V} {n : String} {b : Bool} (h : SqT K B q vs) (hk : PySem.W.kitOne K (.type "tuple") (.type n) = some b) : RcF B cs (rIsi K) [.ref q, .ty n] (.bl b) := rc_isi (fun _ F => ty_sqt (Evl.ex_t F.base h)) hk
theorem et_trL {q : Addr} {A : Type} {f : A → V} {xs : List A} (ha : EvF B cs cs1 ta σ (.ref q)) (h : RdS K B cs1 q (xs.map f)) : EtF B cs cs1 (fun σ H Q => ta σ H fun x H' => ∃ k, TruV K x H' k ∧ Q k H') σ (!xs.isEmpty) := fun ys H F Q k => ha ys H F _ fun H1 F1 => ⟨!xs.isEmpty, Or.inl ⟨xs.map f, h.at F1.xs, by rw [List.isEmpty_map]⟩, k H1 F1⟩
theorem ev_chainO {r r' : R2} {tb tc : TE} {x y : V} {m : Option Bool} {b c : Bool} (hm : andC b m = some c) (ha : EvF B cs cs1 ta σ x) (hb : EvF B cs1 cs2 tb σ y) (h1 : RvF B cs2 r x y (.bl b)) (h2 : ∀ z, m = some z → ∃ w, EvF B cs2 cs2 tc σ w ∧ RvF B cs2 r' y w (.bl z)) : EvF B cs cs2 (tChain r r' ta tb tc) σ (.bl c) := fun ys H F Q q =>
  ha ys H F _ fun H1 F1 => hb ys H1 F1 _ fun H2 F2 => h1 H2 F2.xs _ ⟨b, rfl, by
    unfold andC at hm
    cases b with
    | true =>
      obtain ⟨w, e1, e2⟩ := h2 c hm
      show tc σ H2 _
      exact e1 ys H2 F2 _ fun H3 F3 => e2 H3 F3.xs _ (q H3 F3)
    | false =>
      cases hm
      show Q (.bl false) H2
      exact q H2 F2⟩
end
/-! ### statements -/
section
variable {K : PySem.W.Frag} {σ σ' : L2.St} {B H H' : Hp} {cs cs' cs1 cs2 cs3 xs : Cs} {ta tb te tx : TE} {t u : TT} {x y z v : V} {D : Ends} {tu tw tz : TS} {i j k : Nat} {p a : Addr} {A : Type} {f : A → V} {o : HO}
theorem g_asg (F : Fr B cs H) (h : EvF B cs cs1 te σ v) (hσ : σ.set i (some v) = σ') (k : ∀ H1, Fr B cs1 H1 → tz D σ' H1) : tSeq (tAsg te (gName i)) tz D σ H := by
  subst hσ
  exact h [] H F _ fun H1 F1 => k H1 F1
theorem g_asgN (F : Fr B cs H) (h : EvN B cs cs1 te σ o) (k : ∀ p H1, Fr B ((p, o) :: cs1) H1 → tz D (σ.set i (some (.ref p))) H1) : tSeq (tAsg te (gName i)) tz D σ H :=
  h [] H F _ fun p H1 F1 => k p H1 F1
theorem g_ret (F : Fr B cs H) (h : EvF B cs cs1 te σ v) (k : ∀ H1, Fr B cs1 H1 → D.rt v H1) : tRet te D σ H := h [] H F _ k
theorem g_retN (F : Fr B cs H) (h : EvN B cs cs1 te σ o) (k : ∀ p H1, Fr B ((p, o) :: cs1) H1 → D.rt (.ref p) H1) : tRet te D σ H := h [] H F _ k
theorem g_aug {r : R2} (F : Fr B cs H) (hx : σ[i]? = some (some x)) (h : EvF B cs cs1 te σ y) (hr : RvF B cs1 r x y z) (hσ : σ.set i (some z) = σ') (k : ∀ H1, Fr B cs1 H1 → tz D σ' H1) : tSeq (tAug i te r) tz D σ H := by
  subst hσ
  exact ⟨x, hx, h [] H F _ fun H1 F1 => hr H1 F1 _ (k H1 F1)⟩
theorem g_drop (F : Fr B cs H) (h : EvF B cs cs1 te σ v) (k : ∀ H1, Fr B cs1 H1 → tz D σ H1) : tSeq (tDrop te) tz D σ H := h [] H F _ fun H1 F1 => k H1 F1
theorem g_dropN (F : Fr B cs H) (h : EvN B cs cs1 te σ o) (k : ∀ H1, Fr B cs1 H1 → tz D σ H1) : tSeq (tDrop te) tz D σ H := h [] H F _ fun _ H1 F1 => k H1 F1.drop1
/-- xs.append(e) -/
theorem g_appV {vs : List V} (F : Fr B cs H) (hz : vs.length < 16777216) (ha : EvF B cs cs1 ta σ (.ref p)) (h : EvF B cs1 cs2 te σ v) (h0 : Rd B cs1 p (.lst vs)) (hi : cs2[i]? = some (p, .lst vs)) (hcs : cs2.set i (p, .lst (vs ++ [v])) = cs') (k : ∀ H1, Fr B cs' H1 → tz D σ H1) :
    tSeq (tDrop (tBM K "list" rAppend ta (tCons te tNil))) tz D σ H := by
  subst hcs
  refine ha [] H F _ fun H1 F1 => ⟨Or.inl ⟨rfl, vs, Evl.sq_of (h0.at F1)⟩, h [] H1 F1 _ fun H2 F2 => ⟨p, vs, v, rfl, rfl, F2.get i hi, by rw [sizeLine_eq]; exact hz, ?_⟩⟩
  exact k _ (Fr.upd F2 i hi)
theorem g_app {ys zs : List A} {w : A} (F : Fr B cs H) (hm : appC ys w = some zs) (ha : EvF B cs cs1 ta σ (.ref p)) (h : EvF B cs1 cs2 te σ (f w)) (h0 : Rd B cs1 p (.lst (ys.map f))) (hi : cs2[i]? = some (p, .lst (ys.map f))) (hcs : cs2.set i (p, .lst (zs.map f)) = cs') (k : ∀ H1, Fr B cs' H1 → tz D σ H1) :
    tSeq (tDrop (tBM K "list" rAppend ta (tCons te tNil))) tz D σ H := by
  obtain ⟨hz, rfl⟩ := of_grd hm
  rw [List.map_append] at hcs
  exact g_appV F (by rw [List.length_map]; exact hz) ha h h0 hi hcs k
/-- xs.append(a new object) -/
theorem g_appN {vs : List V} (F : Fr B cs H) (hz : vs.length < 16777216) (ha : EvF B cs cs1 ta σ (.ref p)) (h : EvN B cs1 cs2 te σ o) (h0 : Rd B cs1 p (.lst vs)) (hi : cs2[i]? = some (p, .lst vs)) (k : ∀ q H1, Fr B ((q, o) :: cs2.set i (p, .lst (vs ++ [.ref q]))) H1 → tz D σ H1) :
    tSeq (tDrop (tBM K "list" rAppend ta (tCons te tNil))) tz D σ H := by
  refine ha [] H F _ fun H1 F1 => ⟨Or.inl ⟨rfl, vs, Evl.sq_of (h0.at F1)⟩, h [] H1 F1 _ fun q H2 F2 => ⟨p, vs, .ref q, rfl, rfl, F2.get (i + 1) hi, by rw [sizeLine_eq]; exact hz, ?_⟩⟩
  exact k q _ (Fr.upd F2 (i + 1) hi)
theorem g_extN {ys ws zs : List A} (F : Fr B cs H) (hm : catC ys ws = some zs) (ha : EvF B cs cs1 ta σ (.ref p)) (h : EvN B cs1 cs2 te σ (.lst (ws.map f))) (h0 : Rd B cs1 p (.lst (ys.map f))) (hi : cs2[i]? = some (p, .lst (ys.map f))) (hcs : cs2.set i (p, .lst (zs.map f)) = cs') (k : ∀ H1, Fr B cs' H1 → tz D σ H1) :
    tSeq (tDrop (tBM K "list" rExtend ta (tCons te tNil))) tz D σ H := by
  subst hcs
  obtain ⟨hz, rfl⟩ := of_grd hm
  refine ha [] H F _ fun H1 F1 => ⟨Or.inl ⟨rfl, _, Evl.sq_of (h0.at F1)⟩, h [] H1 F1 _ fun q H2 F2 => ⟨p, q, ys.map f, ws.map f, rfl, rfl, F2.get (i + 1) hi, F2.get 0 rfl, by rw [List.length_map, List.length_map, sizeLine_eq]; exact hz, ?_⟩⟩
  rw [List.map_append] at k
  exact k _ (Fr.drop1 (Fr.upd F2 (i + 1) hi))
theorem g_ext {ys ws zs : List A} {q : Addr} (F : Fr B cs H) (hm : catC ys ws = some zs) (ha : EvF B cs cs1 ta σ (.ref p)) (h : EvF B cs1 cs2 te σ (.ref q)) (h0 : Rd B cs1 p (.lst (ys.map f))) (hq : Rd B cs2 q (.lst (ws.map f))) (hi : cs2[i]? = some (p, .lst (ys.map f))) (hcs : cs2.set i (p, .lst (zs.map f)) = cs') (k : ∀ H1, Fr B cs' H1 → tz D σ H1) :
    tSeq (tDrop (tBM K "list" rExtend ta (tCons te tNil))) tz D σ H := by
  subst hcs
  obtain ⟨hz, rfl⟩ := of_grd hm
  refine ha [] H F _ fun H1 F1 => ⟨Or.inl ⟨rfl, _, Evl.sq_of (h0.at F1)⟩, h [] H1 F1 _ fun H2 F2 => ⟨p, q, ys.map f, ws.map f, rfl, rfl, F2.get i hi, hq.at F2, by rw [List.length_map, List.length_map, sizeLine_eq]; exact hz, ?_⟩⟩
  rw [List.map_append] at k
  exact k _ (Fr.upd F2 i hi)
/-- xs[n] = e -/
theorem g_setV {vs : List V} {n : Int} {j : Nat} (F : Fr B cs H) (hj : ixN vs.length n = some j) (h : EvF B cs cs1 te σ v) (ha : EvF B cs1 cs2 ta σ (.ref p)) (hb : EvF B cs2 cs3 tb σ (.int n)) (hi : cs3[i]? = some (p, .lst vs)) (hcs : cs3.set i (p, .lst (vs.set j v)) = cs') (k : ∀ H1, Fr B cs' H1 → tz D σ H1) :
    tSeq (tAsg te (gSub ta tb rSetL)) tz D σ H := by
  subst hcs
  exact h [] H F _ fun H1 F1 => ha [] H1 F1 _ fun H2 F2 => hb [] H2 F2 _ fun H3 F3 => ⟨p, vs, n, j, rfl, rfl, F3.get i hi, hj, k _ (Fr.upd F3 i hi)⟩
theorem g_set {ys zs : List A} {w : A} {n : Int} (F : Fr B cs H) (hm : setC ys n w = some zs) (h : EvF B cs cs1 te σ (f w)) (ha : EvF B cs1 cs2 ta σ (.ref p)) (hb : EvF B cs2 cs3 tb σ (.int n)) (hi : cs3[i]? = some (p, .lst (ys.map f))) (hcs : cs3.set i (p, .lst (zs.map f)) = cs') (k : ∀ H1, Fr B cs' H1 → tz D σ H1) :
    tSeq (tAsg te (gSub ta tb rSetL)) tz D σ H := by
  unfold setC at hm
  cases hj : ixN ys.length n with
  | none => rw [hj] at hm; cases hm
  | some j =>
    rw [hj] at hm
    cases hm
    rw [List.map_set] at hcs
    exact g_setV F (by rw [List.length_map]; exact hj) h ha hb hi hcs k
/-- xs[n] op= e -/
def rGetL (K : PySem.W.Frag) : V → V → Hp → VK → Prop := fun o i H Q => ∃ p vs n v, o = .ref p ∧ i = .int n ∧ SqL K H p vs ∧ atI vs n = some v ∧ Q v H
theorem get_list {X : Cx} {K : PySem.W.Frag} (h : X.K = K := by rfl) : PGet X (rGetL K) := by
  subst h
  intro pins s σ H o i ov iv Q I ro ri t
  obtain ⟨p, vs, n, z, rfl, rfl, hS, hv, q⟩ := t
  cases ro
  obtain ⟨t, rfl⟩ := ri
  obtain ⟨its, r, pl, hz⟩ := I.list hS
  obtain ⟨j, h1, h2, h3, h4, h5⟩ := atI_get hv
  obtain ⟨w, ew, rw'⟩ := r.get h2
  have hl := r.length
  have hn := line63
  have fin : EP X pins σ Q w s := ⟨z, H, I, rw', q⟩
  by_cases h0 : 0 ≤ n
  · have hj : n.toNat = j := by
      rw [seqIndex_of h0 h5] at h1
      exact Option.some.inj h1
    exact wpAny_getItem_list pl.isList h0 (by omega) (by rw [hj]; simpa using ew) fin
  · have hj : (n + (its.toArray.size : Int)).toNat = j := by
      rw [seqIndex_neg (by omega) h4] at h1
      rw [List.size_toArray, ← hl]
      exact Option.some.inj h1
    exact wpAny_getItem_list_neg pl.isList (by omega) (by rw [List.size_toArray] <;> omega) (by omega) (by rw [hj]; simpa using ew) fin
theorem g_augS {ys zs : List A} {w e : A} {n : Int} {y : V} {r : R2} (F : Fr B cs H) (hg : atI ys n = some w) (hm : setC ys n e = some zs) (ha : EvF B cs cs1 ta σ (.ref p)) (hb : EvF B cs1 cs2 tb σ (.int n)) (hp : RdS K B cs2 p (ys.map f)) (h : EvF B cs2 cs3 te σ y) (hr : RvF B cs3 r (f w) y (f e)) (hi : cs3[i]? = some (p, .lst (ys.map f))) (hcs : cs3.set i (p, .lst (zs.map f)) = cs') (k : ∀ H1, Fr B cs' H1 → tz D σ H1) :
    tSeq (tAugS ta tb te (rGetL K) r rSetL) tz D σ H := by
  subst hcs
  unfold setC at hm
  cases hj : ixN ys.length n with
  | none => rw [hj] at hm; cases hm
  | some j =>
    rw [hj] at hm
    cases hm
    rw [List.map_set] at k
    exact ha [] H F _ fun H1 F1 => hb [] H1 F1 _ fun H2 F2 => ⟨p, ys.map f, n, f w, rfl, rfl, hp.at F2, by rw [atI_map, hg]; rfl, h [] H2 F2 _ fun H3 F3 => hr H3 F3 _ ⟨p, ys.map f, n, j, rfl, rfl, F3.get i hi, by rw [List.length_map]; exact hj, k _ (Fr.upd F3 i hi)⟩⟩
/-- if: a way at a time -/
theorem s_if (F : Fr B cs H) {b : Bool} (h : EtF B cs cs1 t σ b) (h1 : b = true → ∀ H1, Fr B cs1 H1 → tu D σ H1) (h2 : b = false → ∀ H1, Fr B cs1 H1 → tw D σ H1) : tIfS t tu tw D σ H := h [] H F _ fun H1 F1 => by
  cases b with
  | true =>
    show tu D σ H1
    exact h1 rfl H1 F1
  | false =>
    show tw D σ H1
    exact h2 rfl H1 F1
theorem g_if (F : Fr B cs H) {b : Bool} (h : EtF B cs cs1 t σ b) (h1 : b = true → ∀ H1, Fr B cs1 H1 → tu { D with nx := tz D } σ H1) (h2 : b = false → ∀ H1, Fr B cs1 H1 → tw { D with nx := tz D } σ H1) : tSeq (tIfS t tu tw) tz D σ H := s_if (D := { D with nx := tz D }) F h h1 h2
theorem g_when (F : Fr B cs H) {b : Bool} (h : EtF B cs cs1 t σ b) (h1 : b = true → ∀ H1, Fr B cs1 H1 → tu { D with nx := tz D } σ H1) (h2 : b = false → ∀ H1, Fr B cs1 H1 → tz D σ H1) : tSeq (tIfS t tu tNext) tz D σ H := s_if (D := { D with nx := tz D }) F h h1 h2
theorem s_when (F : Fr B cs H) {b : Bool} (h : EtF B cs cs1 t σ b) (h1 : b = true → ∀ H1, Fr B cs1 H1 → tu D σ H1) (h2 : b = false → ∀ H1, Fr B cs1 H1 → D.nx σ H1) : tIfS t tu tNext D σ H := s_if F h h1 h2
/-- unpacking -/
theorem gt2 {i j : Nat} {v1 v2 : V} {Q : L2.St → Hp → Prop} (ht : SqT K H a [v1, v2]) (hσ : (σ.set i (some v1)).set j (some v2) = σ') (q : Q σ' H) : gTup K 2 (gCons (gName i) (gCons (gName j) gNil)) (.ref a) σ H Q := by
  subst hσ
  exact ⟨a, _, rfl, ht, rfl, v1, [v2], rfl, v2, [], rfl, rfl, q⟩
theorem gt3 {i j k : Nat} {v1 v2 v3 : V} {Q : L2.St → Hp → Prop} (ht : SqT K H a [v1, v2, v3]) (hσ : ((σ.set i (some v1)).set j (some v2)).set k (some v3) = σ') (q : Q σ' H) : gTup K 3 (gCons (gName i) (gCons (gName j) (gCons (gName k) gNil))) (.ref a) σ H Q := by
  subst hσ
  exact ⟨a, _, rfl, ht, rfl, v1, [v2, v3], rfl, v2, [v3], rfl, v3, [], rfl, rfl, q⟩
theorem gt4 {i j k l : Nat} {v1 v2 v3 v4 : V} {Q : L2.St → Hp → Prop} (ht : SqT K H a [v1, v2, v3, v4]) (hσ : (((σ.set i (some v1)).set j (some v2)).set k (some v3)).set l (some v4) = σ') (q : Q σ' H) : gTup K 4 (gCons (gName i) (gCons (gName j) (gCons (gName k) (gCons (gName l) gNil)))) (.ref a) σ H Q := by
  subst hσ
  exact ⟨a, _, rfl, ht, rfl, v1, [v2, v3, v4], rfl, v2, [v3, v4], rfl, v3, [v4], rfl, v4, [], rfl, rfl, q⟩
theorem g_unpE {g : TG} (F : Fr B cs H) (h : EvF B cs cs1 te σ v) (k : ∀ H1, Fr B cs1 H1 → g v σ H1 (tz D)) : tSeq (tAsg te g) tz D σ H := h [] H F _ fun H1 F1 => k H1 F1
theorem g_unpN {g : TG} (F : Fr B cs H) (h : EvN B cs cs1 te σ o) (k : ∀ p H1, Fr B ((p, o) :: cs1) H1 → g (.ref p) σ H1 (tz D)) : tSeq (tAsg te g) tz D σ H := h [] H F _ fun p H1 F1 => k p H1 F1
/-- calls -/
theorem ev_call {sp : Sp} {dvs vs : List V} {E : XK} {tA : TA} (ha : EaF B cs cs1 tA σ vs) (hs : ∀ (ys : Cs) (H : Hp), Fr B (ys ++ cs1) H → ∀ Q : VK, (∀ H', Fr B (ys ++ cs2) H' → Q v H') → sp (vs ++ dvs) H Q E) : EvF B cs cs2 (tCall sp dvs E tA) σ v := fun ys H F Q q => ha ys H F _ fun H1 F1 => hs ys H1 F1 Q q
theorem en_call {sp : Sp} {dvs vs : List V} {E : XK} {tA : TA} (ha : EaF B cs cs1 tA σ vs) (hs : ∀ (ys : Cs) (H : Hp), Fr B (ys ++ cs1) H → ∀ Q : VK, (∀ p H', Fr B ((p, o) :: (ys ++ cs2)) H' → Q (.ref p) H') → sp (vs ++ dvs) H Q E) : EvN B cs cs2 (tCall sp dvs E tA) σ o := fun ys H F Q q => ha ys H F _ fun H1 F1 => hs ys H1 F1 Q q
theorem ta_val {tr : TA} {Q : List V → Hp → Prop} (F : Fr B (xs ++ cs) H) (h : EvF B cs cs1 te σ v) (k : ∀ H1, Fr B (xs ++ cs1) H1 → tr σ H1 fun vs H2 => Q (v :: vs) H2) : tCons te tr σ H Q := h xs H F _ k
theorem ta_new {tr : TA} {Q : List V → Hp → Prop} (F : Fr B (xs ++ cs) H) (h : EvN B cs cs1 te σ o) (k : ∀ p H1, Fr B (((p, o) :: xs) ++ cs1) H1 → tr σ H1 fun vs H2 => Q (.ref p :: vs) H2) : tCons te tr σ H Q := h xs H F _ k
/-- a statement that calls: the promise asked at the very state -/
theorem g_call {g : TG} {sp : Sp} {dvs vs : List V} {E : XK} {tA : TA} (F : Fr B cs H) (ha : EaF B cs cs1 tA σ vs) (hs : ∀ H1, Fr B cs1 H1 → sp (vs ++ dvs) H1 (fun v H2 => g v σ H2 (tz D)) E) : tSeq (tAsg (tCall sp dvs E tA) g) tz D σ H := ha [] H F _ fun H1 F1 => hs H1 F1
theorem g_callR {sp : Sp} {dvs vs : List V} {E : XK} {tA : TA} (F : Fr B cs H) (ha : EaF B cs cs1 tA σ vs) (hs : ∀ H1, Fr B cs1 H1 → sp (vs ++ dvs) H1 D.rt E) : tRet (tCall sp dvs E tA) D σ H := ha [] H F _ fun H1 F1 => hs H1 F1
end
/-! ### comprehensions -/
theorem mapO_some {A C : Type} {f : A → Option C} : ∀ {xs : List A} {ys : List C}, mapO f xs = some ys → ys.length = xs.length ∧ ∀ (i : Nat) x, xs[i]? = some x → ∃ y, ys[i]? = some y ∧ f x = some y
  | [], ys, h => by
    cases h
    exact ⟨rfl, fun i x hx => by simp at hx⟩
  | x :: l, ys, h => by
    obtain ⟨y, hy, h⟩ := of_bind h
    obtain ⟨r, hr, h⟩ := of_bind h
    cases h
    obtain ⟨h1, h2⟩ := mapO_some hr
    refine ⟨by rw [List.length_cons, List.length_cons, h1], fun i z hz => ?_⟩
    cases i with
    | zero =>
      cases hz
      exact ⟨y, rfl, hy⟩
    | succ i => exact h2 i z hz
theorem rngI_at {lo hi : Int} {i : Nat} {x : Int} (h : (rngI lo hi)[i]? = some x) : x = lo + (i : Int) ∧ i < (hi - lo).toNat := by
  unfold rngI at h
  rw [List.getElem?_map] at h
  cases e : (List.range (hi - lo).toNat)[i]? with
  | none => rw [e] at h; cases h
  | some k =>
    rw [e] at h
    obtain ⟨h1, h2⟩ := List.getElem?_eq_some_iff.mp e
    rw [List.length_range] at h1
    rw [List.getElem_range] at h2
    cases h
    rw [← h2]
    exact ⟨rfl, h1⟩
theorem rngI_get {lo hi : Int} {i : Nat} (h : i < (hi - lo).toNat) : (rngI lo hi)[i]? = some (lo + (i : Int)) := by
  unfold rngI
  rw [List.getElem?_map, List.getElem?_range h]
  rfl
theorem rngI_length (lo hi : Int) : (rngI lo hi).length = (hi - lo).toNat := by
  unfold rngI
  rw [List.length_map, List.length_range]
section
variable {K : PySem.W.Frag} {σ : L2.St} {B H : Hp} {cs cs1 : Cs} {tl te : TE} {tt : TT} {a : Addr} {A C S : Type} {f : A → V} {g : C → V} {xs : List A} {ys : List C} {j : Nat} {vs : List Nat}
/-- the state of a comprehension's turn: the list so far at D, then the others -/
theorem lc_step {F0 : Cs} {H' : Hp} {D : Addr} {acc : List V} {y : V} {σ2 : L2.St} {cs cs' zs : Cs} (hF : Fr B ((D, .lst acc) :: (zs ++ cs)) H') (hz : acc.length < 16777216) (he : EvF B cs cs' te σ2 y) {P1 : Hp → Prop} (hP : ∀ H4, Fr B ((D, .lst (acc ++ [y])) :: (zs ++ cs')) H4 → P1 H4) :
    tYes σ2 H' fun b H3 => if b = true then te σ2 H3 fun y H4 => ∃ acc, H4 D = some (.lst acc) ∧ acc.length < sizeLine ∧ P1 (L2.upd H4 D (.lst (acc ++ [y]))) else P1 H3 := by
  show te σ2 H' fun y H4 => ∃ acc, H4 D = some (.lst acc) ∧ acc.length < sizeLine ∧ P1 (L2.upd H4 D (.lst (acc ++ [y])))
  refine he ((D, .lst acc) :: zs) H' hF _ fun H4 F4 => ⟨acc, F4.get 0 rfl, by rw [sizeLine_eq]; exact hz, hP _ ?_⟩
  exact Fr.upd F4 0 rfl
/-- turns told by a function of the place -/
def LcOk (B : Hp) (cs : Cs) (te : TE) (σt : V → L2.St) (it : Nat → Option V) (ys : List V) : Prop := ∀ (i : Nat) v, it i = some v → ∃ y, ys[i]? = some y ∧ EvF B cs cs te (σt v) y
theorem take_snoc {A : Type} {l : List A} {i : Nat} {y : A} (h : l[i]? = some y) : l.take (i + 1) = l.take i ++ [y] := by rw [List.take_add_one, h]; rfl
theorem lcok_map {m : A → Option C} {σt : V → L2.St} (hm : mapO m xs = some ys) (he : ∀ x y, m x = some y → EvF B cs cs te (σt (f x)) (g y)) : LcOk B cs te σt (fun i => (xs.map f)[i]?) (ys.map g) := by
  intro i v hv
  have hv : (xs.map f)[i]? = some v := hv
  rw [List.getElem?_map] at hv
  cases hx : xs[i]? with
  | none => rw [hx] at hv; cases hv
  | some x =>
    rw [hx] at hv
    cases hv
    obtain ⟨y, hy, hf⟩ := (mapO_some hm).2 i x hx
    exact ⟨g y, by rw [List.getElem?_map, hy]; rfl, he x y hf⟩
theorem en_lcL {ws : List V} {zs : List V} (hx : RdS K B cs1 a ws) (ha : EvF B cs cs1 tl σ (.ref a)) (hz : ws.length ≤ 16777216) (hl : zs.length = ws.length) (hw : ∀ x, wipe ((wipe σ vs).set j (some x)) vs = wipe σ vs)
    (he : LcOk B cs1 te (fun v => (wipe σ vs).set j (some v)) (fun i => ws[i]?) zs) : EvN B cs cs1 (tLc (iList K tl) (gName j) tYes te vs) σ (.lst zs) := by
  refine fun xs' H F Q q => ha xs' H F _ fun H1 F1 => ⟨a, rfl, ⟨ws, (hx.app (xs := xs')).at F1⟩, fun Dl hD =>
    lc_list (xs := ws) (fun i H' => Fr B ((Dl, .lst (zs.take i)) :: (xs' ++ cs1)) H') ?_ (fun i H' _ p => (hx.app (xs := xs')).at p.drop1) (fun i v H' hi p => ⟨hw v, ?_⟩) (fun H' p => q Dl H' ?_)⟩
  · exact F1.new1 hD
  · obtain ⟨y, hy, hf⟩ := he i v hi
    have hlt := (List.getElem?_eq_some_iff.mp hi).1
    refine lc_step (F0 := []) p (by rw [List.length_take]; omega) hf fun H4 F4 => ?_
    rw [take_snoc hy]
    exact F4
  · rw [List.take_of_length_le (by omega)] at p
    exact p
theorem en_lcN {ws : List V} {zs : List V} (ha : EvN B cs cs1 tl σ (.lst ws)) (hz : ws.length ≤ 16777216) (hl : zs.length = ws.length) (hw : ∀ x, wipe ((wipe σ vs).set j (some x)) vs = wipe σ vs)
    (he : LcOk B cs1 te (fun v => (wipe σ vs).set j (some v)) (fun i => ws[i]?) zs) : EvN B cs cs1 (tLc (iList K tl) (gName j) tYes te vs) σ (.lst zs) := by
  refine fun xs' H F Q q => ha xs' H F _ fun a H1 F1 => ⟨a, rfl, ⟨ws, Evl.sq_of (F1.get 0 rfl)⟩, fun Dl hD =>
    lc_list (xs := ws) (fun i H' => Fr B ((Dl, .lst (zs.take i)) :: (((a, .lst ws) :: xs') ++ cs1)) H') ?_ (fun i H' _ p => Evl.sq_of (p.get 1 rfl)) (fun i v H' hi p => ⟨hw v, ?_⟩) (fun H' p => q Dl H' ?_)⟩
  · exact F1.new1 hD
  · obtain ⟨y, hy, hf⟩ := he i v hi
    have hlt := (List.getElem?_eq_some_iff.mp hi).1
    refine lc_step (F0 := []) p (by rw [List.length_take]; omega) hf fun H4 F4 => ?_
    rw [take_snoc hy]
    exact F4
  · rw [List.take_of_length_le (by omega)] at p
    exact p.sub (.cons₂ _ (List.sublist_cons_self _ _))
theorem en_lcR2 {tA : TA} {lo hi : Int} {rs : List Int} {zs : List V} (hr : rngC lo hi = some rs) (ha : EaF B cs cs1 tA σ [.int lo, .int hi]) (hz : rs.length ≤ 16777216) (hl : zs.length = rs.length) (hw : ∀ x, wipe ((wipe σ vs).set j (some x)) vs = wipe σ vs)
    (he : LcOk B cs1 te (fun v => (wipe σ vs).set j (some v)) (fun i => (rs.map V.int)[i]?) zs) : EvN B cs cs1 (tLc (iRng2 tA) (gName j) tYes te vs) σ (.lst zs) := by
  obtain ⟨⟨r1, r2, r3, r4⟩, rfl⟩ := of_grd hr
  rw [rngI_length] at hl hz
  refine fun xs' H F Q q => ha xs' H F _ fun H1 F1 => ⟨lo, hi, rfl, ⟨r1, r2, r3, r4⟩, fun Dl hD =>
    lc_range (lo := lo) (n := (hi - lo).toNat) (fun i H' => Fr B ((Dl, .lst (zs.take i)) :: (xs' ++ cs1)) H') (F1.new1 hD) (fun i H' hi' p => ⟨hw _, ?_⟩) (fun H' p => q Dl H' ?_)⟩
  · obtain ⟨y, hy, hf⟩ := he i (.int (lo + (i : Int))) (by show (List.map V.int _)[i]? = _; rw [List.getElem?_map, rngI_get hi']; rfl)
    refine lc_step (F0 := []) p (by rw [List.length_take]; omega) hf fun H4 F4 => ?_
    rw [take_snoc hy]
    exact F4
  · rw [List.take_of_length_le (by omega)] at p
    exact p
theorem en_lcR1 {tA : TA} {hi : Int} {rs : List Int} {zs : List V} (hr : rngC 0 hi = some rs) (ha : EaF B cs cs1 tA σ [.int hi]) (hz : rs.length ≤ 16777216) (hl : zs.length = rs.length) (hw : ∀ x, wipe ((wipe σ vs).set j (some x)) vs = wipe σ vs)
    (he : LcOk B cs1 te (fun v => (wipe σ vs).set j (some v)) (fun i => (rs.map V.int)[i]?) zs) : EvN B cs cs1 (tLc (iRng1 tA) (gName j) tYes te vs) σ (.lst zs) := by
  obtain ⟨⟨r1, r2, r3, r4⟩, rfl⟩ := of_grd hr
  rw [rngI_length, Int.sub_zero] at hl hz
  refine fun xs' H F Q q => ha xs' H F _ fun H1 F1 => ⟨hi, rfl, r3, r4, fun Dl hD =>
    lc_range (lo := 0) (n := hi.toNat) (fun i H' => Fr B ((Dl, .lst (zs.take i)) :: (xs' ++ cs1)) H') (F1.new1 hD) (fun i H' hi' p => ⟨hw _, ?_⟩) (fun H' p => q Dl H' ?_)⟩
  · obtain ⟨y, hy, hf⟩ := he i (.int (0 + (i : Int))) (by show (List.map V.int _)[i]? = _; rw [List.getElem?_map, rngI_get (by rw [Int.sub_zero]; exact hi')]; rfl)
    refine lc_step (F0 := []) p (by rw [List.length_take]; omega) hf fun H4 F4 => ?_
    rw [take_snoc hy]
    exact F4
  · rw [List.take_of_length_le (by omega)] at p
    exact p
theorem mlen {m : A → Option C} (hm : mapO m xs = some ys) : (ys.map g).length = (xs.map f).length := by rw [List.length_map, List.length_map, (mapO_some hm).1]
theorem mlenR {m : A → Option C} (hm : mapO m xs = some ys) : (ys.map g).length = xs.length := by rw [List.length_map, (mapO_some hm).1]
end
/-! ### loops: the items v of a walked thing, told by R -/
section
variable {K : PySem.W.Frag} {σ : L2.St} {B H : Hp} {cs cs1 : Cs} {tl : TE} {D : Ends} {tu tz : TS} {g : TG} {j : Nat} {a : Addr} {A S R : Type} {f : A → V} {xs : List A}
theorem itF_at {m : A → S → Option (Fl S R)} {r : Fl S R} : ∀ {xs : List A} {x : A} {s : S}, itF m (x :: xs) s = some r → ∃ r', m x s = some r' ∧ (∀ s', r' = .nx s' → itF m xs s' = some r) ∧ (∀ s', r' = .bk s' → r = .nx s') ∧ (∀ q, r' = .rt q → r = .rt q) := by
  intro xs x s h
  obtain ⟨r', h1, h2⟩ := of_bind h
  refine ⟨r', h1, fun s' e => ?_, fun s' e => ?_, fun q e => ?_⟩
  · subst e
    exact h2
  · subst e
    exact (Option.some.inj h2).symm
  · subst e
    exact (Option.some.inj h2).symm
theorem itM_at {m : A → S → Option S} {r : S} {xs : List A} {x : A} {s : S} (h : itM m (x :: xs) s = some r) : ∃ s', m x s = some s' ∧ itM m xs s' = some r := of_bind h
theorem drop_at {A : Type} {xs : List A} {i : Nat} {x : A} (h : xs[i]? = some x) : xs.drop i = x :: xs.drop (i + 1) := by
  obtain ⟨h1, h2⟩ := List.getElem?_eq_some_iff.mp h
  rw [List.drop_eq_getElem_cons h1, h2]
/-- what a loop's turn is asked -/
def TurnF (D : Ends) (tu tz : TS) (g : TG) (m : A → S → Option (Fl S R)) (r : Fl S R) (J : S → L2.St → Hp → Prop) (IT : V → A → Prop) : Prop :=
  ∀ x v s r' σ' H' (N : L2.St → Hp → Prop), IT v x → m x s = some r' → J s σ' H' → (∀ s', r' = .bk s' → r = .nx s') → (∀ q, r' = .rt q → r = .rt q) → (∀ s' σ2 H2, r = .nx s' → J s' σ2 H2 → tz D σ2 H2) → (∀ s' σ2 H2, r' = .nx s' → J s' σ2 H2 → N σ2 H2) →
    g v σ' H' fun σ2 H2 => tu { D with nx := N, ct := N, bk := tz D } σ2 H2
def TurnM (D : Ends) (tu tz : TS) (g : TG) (m : A → S → Option S) (J : S → L2.St → Hp → Prop) (IT : V → A → Prop) : Prop :=
  ∀ x v s r' σ' H' (N : L2.St → Hp → Prop), IT v x → m x s = some r' → J s σ' H' → (∀ σ2 H2, J r' σ2 H2 → N σ2 H2) → g v σ' H' fun σ2 H2 => tu { D with nx := N, ct := N, bk := tz D } σ2 H2
/-- the items of a list vs are those of xs -/
def Its (IT : V → A → Prop) (vs : List V) (xs : List A) : Prop := vs.length = xs.length ∧ ∀ (i : Nat) v, vs[i]? = some v → ∃ x, xs[i]? = some x ∧ IT v x
theorem its_map (f : A → V) (xs : List A) : Its (fun v x => v = f x) (xs.map f) xs := ⟨List.length_map _, fun i v h => by
  rw [List.getElem?_map] at h
  cases hx : xs[i]? with
  | none => rw [hx] at h; cases h
  | some x =>
    rw [hx] at h
    cases h
    exact ⟨x, rfl, rfl⟩⟩
theorem its_rp {A : Type} {K : PySem.W.Frag} {G : Cl} {B : Hp} {f : A → Mn.D} {xs : List A} {vs : List V} (r : Rps K G B vs (xs.map f)) : Its (fun v x => Rp K G B v (f x)) vs xs := ⟨r.ln, fun i v hv => by
  have hl := (List.getElem?_eq_some_iff.mp hv).1
  rw [r.ln] at hl
  obtain ⟨v', h1, h2⟩ := r.gt (i := i) (List.getElem?_eq_getElem hl)
  rw [hv] at h1
  cases h1
  exact ⟨_, List.getElem?_eq_getElem hl, h2⟩⟩
theorem w_forF {vs : List V} {m : A → S → Option (Fl S R)} {s0 : S} {r : Fl S R} {IT : V → A → Prop} (hm : itF m xs s0 = some r) (hI : Its IT vs xs) (J : S → L2.St → Hp → Prop) (F : Fr B cs H) (ha : EvF B cs cs1 tl σ (.ref a)) (hx : RdS K B cs1 a vs) (h0 : ∀ H1, Fr B cs1 H1 → J s0 σ H1)
    (hl : ∀ s σ' H', J s σ' H' → SqL K H' a vs) (hd : ∀ s σ' H', r = .nx s → J s σ' H' → tz D σ' H') (hs : TurnF D tu tz g m r J IT) : tSeq (tFor (iList K tl) g tu) tz D σ H := by
  refine ha [] H F _ fun H1 F1 => ⟨a, rfl, ⟨vs, hx.at F1⟩, for_list (xs := vs) (D := { D with nx := tz D }) (fun i σ' H' => ∃ s, itF m (xs.drop i) s = some r ∧ J s σ' H') ⟨s0, hm, h0 H1 F1⟩ (fun i σ' H' _ ⟨s, _, h⟩ => hl s σ' H' h) ?_ ?_⟩
  · rintro i v σ' H' hi ⟨s, hm', hJ⟩
    obtain ⟨x, hxi, hit⟩ := hI.2 i v hi
    rw [drop_at hxi] at hm'
    obtain ⟨r', e1, e2, e3, e4⟩ := itF_at hm'
    exact hs x v s r' σ' H' _ hit e1 hJ e3 e4 hd fun s' σ2 H2 er hJ2 => ⟨s', e2 s' er, hJ2⟩
  · rintro σ' H' ⟨s, hm', hJ⟩
    rw [hI.1, List.drop_of_length_le (Nat.le_refl _)] at hm'
    cases hm'
    exact hd s σ' H' rfl hJ
theorem w_forM {vs : List V} {m : A → S → Option S} {s0 r : S} {IT : V → A → Prop} (hm : itM m xs s0 = some r) (hI : Its IT vs xs) (J : S → L2.St → Hp → Prop) (F : Fr B cs H) (ha : EvF B cs cs1 tl σ (.ref a)) (hx : RdS K B cs1 a vs) (h0 : ∀ H1, Fr B cs1 H1 → J s0 σ H1)
    (hl : ∀ s σ' H', J s σ' H' → SqL K H' a vs) (hd : ∀ σ' H', J r σ' H' → tz D σ' H') (hs : TurnM D tu tz g m J IT) : tSeq (tFor (iList K tl) g tu) tz D σ H := by
  refine ha [] H F _ fun H1 F1 => ⟨a, rfl, ⟨vs, hx.at F1⟩, for_list (xs := vs) (D := { D with nx := tz D }) (fun i σ' H' => ∃ s, itM m (xs.drop i) s = some r ∧ J s σ' H') ⟨s0, hm, h0 H1 F1⟩ (fun i σ' H' _ ⟨s, _, h⟩ => hl s σ' H' h) ?_ ?_⟩
  · rintro i v σ' H' hi ⟨s, hm', hJ⟩
    obtain ⟨x, hxi, hit⟩ := hI.2 i v hi
    rw [drop_at hxi] at hm'
    obtain ⟨r', e1, e2⟩ := itM_at hm'
    exact hs x v s r' σ' H' _ hit e1 hJ fun σ2 H2 hJ2 => ⟨r', e2, hJ2⟩
  · rintro σ' H' ⟨s, hm', hJ⟩
    rw [hI.1, List.drop_of_length_le (Nat.le_refl _)] at hm'
    cases hm'
    exact hd σ' H' hJ
/-- over a new list, at p -/
theorem w_forFN {vs : List V} {m : A → S → Option (Fl S R)} {s0 : S} {r : Fl S R} {IT : V → A → Prop} (hm : itF m xs s0 = some r) (hI : Its IT vs xs) (J : Addr → S → L2.St → Hp → Prop) (F : Fr B cs H) (ha : EvN B cs cs1 tl σ (.lst vs)) (h0 : ∀ p H1, Fr B ((p, .lst vs) :: cs1) H1 → J p s0 σ H1)
    (hl : ∀ p s σ' H', J p s σ' H' → SqL K H' p vs) (hd : ∀ p s σ' H', r = .nx s → J p s σ' H' → tz D σ' H') (hs : ∀ p, TurnF D tu tz g m r (J p) IT) : tSeq (tFor (iList K tl) g tu) tz D σ H := by
  refine ha [] H F _ fun a H1 F1 => ⟨a, rfl, ⟨vs, Evl.sq_of (F1.get 0 rfl)⟩, for_list (xs := vs) (D := { D with nx := tz D }) (fun i σ' H' => ∃ s, itF m (xs.drop i) s = some r ∧ J a s σ' H') ⟨s0, hm, h0 a H1 F1⟩ (fun i σ' H' _ ⟨s, _, h⟩ => hl a s σ' H' h) ?_ ?_⟩
  · rintro i v σ' H' hi ⟨s, hm', hJ⟩
    obtain ⟨x, hxi, hit⟩ := hI.2 i v hi
    rw [drop_at hxi] at hm'
    obtain ⟨r', e1, e2, e3, e4⟩ := itF_at hm'
    exact hs a x v s r' σ' H' _ hit e1 hJ e3 e4 (hd a) fun s' σ2 H2 er hJ2 => ⟨s', e2 s' er, hJ2⟩
  · rintro σ' H' ⟨s, hm', hJ⟩
    rw [hI.1, List.drop_of_length_le (Nat.le_refl _)] at hm'
    cases hm'
    exact hd a s σ' H' rfl hJ
theorem w_forMN {vs : List V} {m : A → S → Option S} {s0 r : S} {IT : V → A → Prop} (hm : itM m xs s0 = some r) (hI : Its IT vs xs) (J : Addr → S → L2.St → Hp → Prop) (F : Fr B cs H) (ha : EvN B cs cs1 tl σ (.lst vs)) (h0 : ∀ p H1, Fr B ((p, .lst vs) :: cs1) H1 → J p s0 σ H1)
    (hl : ∀ p s σ' H', J p s σ' H' → SqL K H' p vs) (hd : ∀ p σ' H', J p r σ' H' → tz D σ' H') (hs : ∀ p, TurnM D tu tz g m (J p) IT) : tSeq (tFor (iList K tl) g tu) tz D σ H := by
  refine ha [] H F _ fun a H1 F1 => ⟨a, rfl, ⟨vs, Evl.sq_of (F1.get 0 rfl)⟩, for_list (xs := vs) (D := { D with nx := tz D }) (fun i σ' H' => ∃ s, itM m (xs.drop i) s = some r ∧ J a s σ' H') ⟨s0, hm, h0 a H1 F1⟩ (fun i σ' H' _ ⟨s, _, h⟩ => hl a s σ' H' h) ?_ ?_⟩
  · rintro i v σ' H' hi ⟨s, hm', hJ⟩
    obtain ⟨x, hxi, hit⟩ := hI.2 i v hi
    rw [drop_at hxi] at hm'
    obtain ⟨r', e1, e2⟩ := itM_at hm'
    exact hs a x v s r' σ' H' _ hit e1 hJ fun σ2 H2 hJ2 => ⟨r', e2, hJ2⟩
  · rintro σ' H' ⟨s, hm', hJ⟩
    rw [hI.1, List.drop_of_length_le (Nat.le_refl _)] at hm'
    cases hm'
    exact hd a σ' H' hJ
/-- over a range -/
theorem w_rngF2 {tA : TA} {lo hi : Int} {rs : List Int} {m : Int → S → Option (Fl S R)} {s0 : S} {r : Fl S R} (hr : rngC lo hi = some rs) (hm : itF m rs s0 = some r) (J : S → L2.St → Hp → Prop) (F : Fr B cs H) (ha : EaF B cs cs1 tA σ [.int lo, .int hi]) (h0 : ∀ H1, Fr B cs1 H1 → J s0 σ H1)
    (hd : ∀ s σ' H', r = .nx s → J s σ' H' → tz D σ' H') (hs : TurnF D tu tz g m r J (fun v x => v = .int x)) : tSeq (tFor (iRng2 tA) g tu) tz D σ H := by
  obtain ⟨⟨r1, r2, r3, r4⟩, rfl⟩ := of_grd hr
  refine ha [] H F _ fun H1 F1 => ⟨lo, hi, rfl, ⟨r1, r2, r3, r4⟩, for_range (lo := lo) (n := (hi - lo).toNat) (D := { D with nx := tz D }) (fun i σ' H' => ∃ s, itF m ((rngI lo hi).drop i) s = some r ∧ J s σ' H') ⟨s0, hm, h0 H1 F1⟩ ?_ ?_⟩
  · rintro i σ' H' hi' ⟨s, hm', hJ⟩
    rw [drop_at (rngI_get hi')] at hm'
    obtain ⟨r', e1, e2, e3, e4⟩ := itF_at hm'
    exact hs _ _ s r' σ' H' _ rfl e1 hJ e3 e4 hd fun s' σ2 H2 er hJ2 => ⟨s', e2 s' er, hJ2⟩
  · rintro σ' H' ⟨s, hm', hJ⟩
    rw [List.drop_of_length_le (by rw [rngI_length]; exact Nat.le_refl _)] at hm'
    cases hm'
    exact hd s σ' H' rfl hJ
theorem w_rngM2 {tA : TA} {lo hi : Int} {rs : List Int} {m : Int → S → Option S} {s0 r : S} (hr : rngC lo hi = some rs) (hm : itM m rs s0 = some r) (J : S → L2.St → Hp → Prop) (F : Fr B cs H) (ha : EaF B cs cs1 tA σ [.int lo, .int hi]) (h0 : ∀ H1, Fr B cs1 H1 → J s0 σ H1)
    (hd : ∀ σ' H', J r σ' H' → tz D σ' H') (hs : TurnM D tu tz g m J (fun v x => v = .int x)) : tSeq (tFor (iRng2 tA) g tu) tz D σ H := by
  obtain ⟨⟨r1, r2, r3, r4⟩, rfl⟩ := of_grd hr
  refine ha [] H F _ fun H1 F1 => ⟨lo, hi, rfl, ⟨r1, r2, r3, r4⟩, for_range (lo := lo) (n := (hi - lo).toNat) (D := { D with nx := tz D }) (fun i σ' H' => ∃ s, itM m ((rngI lo hi).drop i) s = some r ∧ J s σ' H') ⟨s0, hm, h0 H1 F1⟩ ?_ ?_⟩
  · rintro i σ' H' hi' ⟨s, hm', hJ⟩
    rw [drop_at (rngI_get hi')] at hm'
    obtain ⟨r', e1, e2⟩ := itM_at hm'
    exact hs _ _ s r' σ' H' _ rfl e1 hJ fun σ2 H2 hJ2 => ⟨r', e2, hJ2⟩
  · rintro σ' H' ⟨s, hm', hJ⟩
    rw [List.drop_of_length_le (by rw [rngI_length]; exact Nat.le_refl _)] at hm'
    cases hm'
    exact hd σ' H' hJ
theorem w_rngF1 {tA : TA} {hi : Int} {rs : List Int} {m : Int → S → Option (Fl S R)} {s0 : S} {r : Fl S R} (hr : rngC 0 hi = some rs) (hm : itF m rs s0 = some r) (J : S → L2.St → Hp → Prop) (F : Fr B cs H) (ha : EaF B cs cs1 tA σ [.int hi]) (h0 : ∀ H1, Fr B cs1 H1 → J s0 σ H1)
    (hd : ∀ s σ' H', r = .nx s → J s σ' H' → tz D σ' H') (hs : TurnF D tu tz g m r J (fun v x => v = .int x)) : tSeq (tFor (iRng1 tA) g tu) tz D σ H := by
  obtain ⟨⟨r1, r2, r3, r4⟩, rfl⟩ := of_grd hr
  refine ha [] H F _ fun H1 F1 => ⟨hi, rfl, r3, r4, for_range (lo := 0) (n := hi.toNat) (D := { D with nx := tz D }) (fun i σ' H' => ∃ s, itF m ((rngI 0 hi).drop i) s = some r ∧ J s σ' H') ⟨s0, hm, h0 H1 F1⟩ ?_ ?_⟩
  · rintro i σ' H' hi' ⟨s, hm', hJ⟩
    rw [drop_at (rngI_get (lo := 0) (by rw [Int.sub_zero]; exact hi'))] at hm'
    obtain ⟨r', e1, e2, e3, e4⟩ := itF_at hm'
    exact hs _ _ s r' σ' H' _ rfl e1 hJ e3 e4 hd fun s' σ2 H2 er hJ2 => ⟨s', e2 s' er, hJ2⟩
  · rintro σ' H' ⟨s, hm', hJ⟩
    rw [List.drop_of_length_le (by rw [rngI_length, Int.sub_zero]; exact Nat.le_refl _)] at hm'
    cases hm'
    exact hd s σ' H' rfl hJ
theorem w_rngM1 {tA : TA} {hi : Int} {rs : List Int} {m : Int → S → Option S} {s0 r : S} (hr : rngC 0 hi = some rs) (hm : itM m rs s0 = some r) (J : S → L2.St → Hp → Prop) (F : Fr B cs H) (ha : EaF B cs cs1 tA σ [.int hi]) (h0 : ∀ H1, Fr B cs1 H1 → J s0 σ H1)
    (hd : ∀ σ' H', J r σ' H' → tz D σ' H') (hs : TurnM D tu tz g m J (fun v x => v = .int x)) : tSeq (tFor (iRng1 tA) g tu) tz D σ H := by
  obtain ⟨⟨r1, r2, r3, r4⟩, rfl⟩ := of_grd hr
  refine ha [] H F _ fun H1 F1 => ⟨hi, rfl, r3, r4, for_range (lo := 0) (n := hi.toNat) (D := { D with nx := tz D }) (fun i σ' H' => ∃ s, itM m ((rngI 0 hi).drop i) s = some r ∧ J s σ' H') ⟨s0, hm, h0 H1 F1⟩ ?_ ?_⟩
  · rintro i σ' H' hi' ⟨s, hm', hJ⟩
    rw [drop_at (rngI_get (lo := 0) (by rw [Int.sub_zero]; exact hi'))] at hm'
    obtain ⟨r', e1, e2⟩ := itM_at hm'
    exact hs _ _ s r' σ' H' _ rfl e1 hJ fun σ2 H2 hJ2 => ⟨r', e2, hJ2⟩
  · rintro σ' H' ⟨s, hm', hJ⟩
    rw [List.drop_of_length_le (by rw [rngI_length, Int.sub_zero]; exact Nat.le_refl _)] at hm'
    cases hm'
    exact hd σ' H' hJ
/-- while -/
theorem w_while {t : TT} {c : S → Option Bool} {m : S → Option (Fl S R)} {s0 : S} {r : Fl S R} {n0 : Nat} (hm : whF c m n0 s0 = some r) (J : S → L2.St → Hp → Prop) (h0 : J s0 σ H)
    (hc : ∀ s b σ' H', c s = some b → J s σ' H' → ∀ Q : Bool → Hp → Prop, (∀ H1, J s σ' H1 → Q b H1) → t σ' H' Q) (hd : ∀ s σ' H', r = .nx s → J s σ' H' → tz D σ' H')
    (hs : ∀ s r' σ' H' (N : L2.St → Hp → Prop), m s = some r' → c s = some true → J s σ' H' → (∀ s', r' = .bk s' → r = .nx s') → (∀ q, r' = .rt q → r = .rt q) → (∀ s' σ2 H2, r = .nx s' → J s' σ2 H2 → tz D σ2 H2) → (∀ s' σ2 H2, r' = .nx s' → J s' σ2 H2 → N σ2 H2) → tu { D with nx := N, ct := N, bk := tz D } σ' H') :
    tSeq (tWhile t tu) tz D σ H := by
  refine ⟨fun n σ' H' => ∃ s, whF c m n s = some r ∧ J s σ' H', ⟨n0, s0, hm, h0⟩, ?_⟩
  rintro n σ' H' ⟨s, hw, hj⟩
  cases n with
  | zero => cases hw
  | succ n =>
    obtain ⟨b, hb, hw⟩ := of_bind hw
    refine hc s b σ' H' hb hj _ fun H1 hj1 => ?_
    cases b with
    | true =>
      rw [if_pos rfl] at hw
      obtain ⟨r', hr, hw⟩ := of_bind hw
      show ∃ N : L2.St → Hp → Prop, _
      refine ⟨fun σ2 H2 => ∃ s', r' = .nx s' ∧ J s' σ2 H2, ?_, hs s r' σ' H1 _ hr hb hj1 ?_ ?_ hd fun s' σ2 H2 e2 hj2 => ⟨s', e2, hj2⟩⟩
      · rintro σ2 H2 ⟨s', rfl, hj2⟩
        exact ⟨n, Nat.lt_succ_self n, s', hw, hj2⟩
      · rintro s' rfl
        exact (Option.some.inj hw).symm
      · rintro q rfl
        exact (Option.some.inj hw).symm
    | false =>
      rw [if_neg Bool.false_ne_true] at hw
      show tz D σ' H1
      exact hd s σ' H1 (Option.some.inj hw).symm hj1
end
/-! ### defs with defaults -/
structure CalD (K : PySem.W.Frag) (mg : Str → Option Value) (x : Str) (f : Addr) : Prop where
  g : mg x = some (.ref f)
  k : PySem.W.keepIn K (.ref f) = true
section
variable {P : Program} {w : World} {K : PySem.W.Frag} {mg : Str → Option Value} {base : Heap} {x : Str} {st : Stmt} {dvs : List V} {kws : List (Str × V)} {f : Addr} {fd : FuncData}
theorem fund_mk {oc : Value} {od an : Option Addr} {osl : Array (Option Value)} {dV kV doc pm cdv ct : Value} (l : K.lookup f = some ⟨oc, od, .func (PySem.W.fnOf x x (defArgs st) (defBody st) (defScope st) dV kV doc pm an cdv ct), osl⟩)
    (c : PySem.W.codeIn K cdv x = true) (k : PySem.W.keepIn K (.ref f) = true) (hd : DflV K dV dvs) (hk : KwdV K kV kws) : FunD K x x (defArgs st) (defBody st) (defScope st) dvs kws f (PySem.W.fnOf x x (defArgs st) (defBody st) (defScope st) dV kV doc pm an cdv ct) :=
  ⟨⟨oc, od, dV, kV, doc, pm, an, cdv, ct, osl, rfl, l, c, hd, hk⟩, k⟩
theorem fund_ok {N ps : List Str} {k : Nat} {sp : Sp} (F : FunD K x x (defArgs st) (defBody st) (defScope st) dvs kws f fd) (S : FnScope N ps (defScope st)) (len : ∀ vs H Q E, sp vs H Q E → vs.length = ps.length)
    (hbody : ∀ (cdv : Value) (A : Around) (outer : List Env) (s : Shared) (H : Hp) (vs : List V) (Q : VK) (E : XK), Room k (A.deeper (PyProof.Rows.envOfC x (defScope st) s.heap.objs.size f cdv)) → sp vs H Q E →
      ∃ t, PSs (cxOf CX0 P w K mg base N x (defScope st) f cdv A outer s H E).nox (defBody st) t ∧ t { nx := fun _ H' => Q .non H', rt := Q } (start N vs) H) : FnOk P w K mg base CX0 (k + 1) f fd ps sp :=
  F.ok S len fun cdv A outer s H vs Q E hr hsp => by
    obtain ⟨t, h, q⟩ := hbody cdv A outer s H vs Q E hr hsp
    exact ⟨t, h.nox, q⟩
theorem dfl0 {K : PySem.W.Frag} : DflV K .none [] := .inl ⟨rfl, rfl⟩
theorem dfl1 {K : PySem.W.Frag} {T : Addr} {o : Obj} {its : List Value} {n : Nat} {dvs : List V} (h : dvs ≠ []) (l : K.lookup T = some o) (d : o.data = .seq its.toArray n) (v : Vals dvs its) : DflV K (.ref T) dvs := .inr ⟨h, T, o, its, n, rfl, l, d, v⟩
theorem kwd1 {K : PySem.W.Frag} {D : Addr} {kws : List (Str × V)} (h : ∀ q ∈ kws, ∃ u, PySem.W.nsIn K D q.1 = some (some u) ∧ RelV q.2 u) : KwdV K (.ref D) kws := .inr ⟨D, rfl, h⟩
variable {ps ks : List Str} {n : Nat}
/-- f(e, .., k = v, ..), defaults stand; none is taken -/
theorem kb1 (F : FunD K x x (defArgs st) (defBody st) (defScope st) dvs kws f fd) (hd : dvs ≠ [])
    (h : ∀ (T : Addr) (kV doc pm : Value) (an : Option Addr) (cdv ct : Value) (us its ws : List Value), us.length = n → its.length = dvs.length → ws.length = ks.length →
      ∃ k, bindArgs (PySem.W.fnOf x x (defArgs st) (defBody st) (defScope st) (.ref T) kV doc pm an cdv ct) ⟨us, ks.zip ws⟩ = seqItems? (.ref T) >>= k ∧ k (some its.toArray) = pure (ps.zip (us ++ ws))) : KBn K fd ps n ks (fun us ws => us ++ ws) (fun vs zs => vs ++ zs) := by
  obtain ⟨oc, od, dV, kV, doc, pm, an, cdv, ct, osl, rfl, lk, hcd, hD, hK⟩ := F.ex
  rcases hD with ⟨e, _⟩ | ⟨_, T, o, its, m, rfl, lT, oT, rT⟩
  · exact absurd e hd
  · refine ⟨fun s us ws X l1 l2 => ?_, fun r1 r2 => r1.append r2⟩
    obtain ⟨k, e1, e2⟩ := h T kV doc pm an cdv ct us its ws l1 rT.length.symm l2
    refine BindsTo.of_looks fun M => ?_
    rw [e1]
    exact looks_items X lT oT (.of_pure e2)
theorem kb0 (F : FunD K x x (defArgs st) (defBody st) (defScope st) [] kws f fd)
    (h : ∀ (kV doc pm : Value) (an : Option Addr) (cdv ct : Value) (us ws : List Value), us.length = n → ws.length = ks.length →
      bindArgs (PySem.W.fnOf x x (defArgs st) (defBody st) (defScope st) .none kV doc pm an cdv ct) ⟨us, ks.zip ws⟩ = pure (ps.zip (us ++ ws))) : KBn K fd ps n ks (fun us ws => us ++ ws) (fun vs zs => vs ++ zs) := by
  obtain ⟨oc, od, dV, kV, doc, pm, an, cdv, ct, osl, rfl, lk, hcd, hD, hK⟩ := F.ex
  rcases hD with ⟨_, rfl⟩ | ⟨e, _⟩
  · exact ⟨fun s us ws X l1 l2 => BindsTo.of_looks fun M => .of_pure (h kV doc pm an cdv ct us ws l1 l2), fun r1 r2 => r1.append r2⟩
  · exact absurd rfl e
end
section
variable {σ : L2.St} {B H : Hp} {cs cs1 cs2 cs3 : Cs} {v : V} {o : HO} {vs zs : List V} {n m : Nat} {sp : Sp} {gV : List V → List V → List V} {E : XK} {tA tK : TA}
theorem ev_callN (ha : EaF B cs cs1 tA σ vs) (hk : EaF B cs1 cs2 tK σ zs) (l1 : vs.length = n) (l2 : zs.length = m) (hs : ∀ (ys : Cs) (H : Hp), Fr B (ys ++ cs2) H → ∀ Q : VK, (∀ H', Fr B (ys ++ cs3) H' → Q v H') → sp (gV vs zs) H Q E) : EvF B cs cs3 (tCallN n m sp gV E tA tK) σ v := fun ys H F Q q => ha ys H F _ fun H1 F1 => hk ys H1 F1 _ fun H2 F2 => ⟨l1, l2, hs ys H2 F2 Q q⟩
theorem en_callN (ha : EaF B cs cs1 tA σ vs) (hk : EaF B cs1 cs2 tK σ zs) (l1 : vs.length = n) (l2 : zs.length = m) (hs : ∀ (ys : Cs) (H : Hp), Fr B (ys ++ cs2) H → ∀ Q : VK, (∀ p H', Fr B ((p, o) :: (ys ++ cs3)) H' → Q (.ref p) H') → sp (gV vs zs) H Q E) : EvN B cs cs3 (tCallN n m sp gV E tA tK) σ o := fun ys H F Q q => ha ys H F _ fun H1 F1 => hk ys H1 F1 _ fun H2 F2 => ⟨l1, l2, hs ys H2 F2 Q q⟩
end
/-- a def that is called by its name -/
structure Cal (K : PySem.W.Frag) (mg : Str → Option Value) (x : Str) (f : Addr) (fd : FuncData) (ps : List Str) : Prop where
  g : mg x = some (.ref f)
  k : PySem.W.keepIn K (.ref f) = true
  b : Binds K fd ps []
end Mn
/-! Cm: the mirrors' combinators in plain Lean -/
namespace Mn
open PySem L2
section
variable {A B C S R : Type}
theorem bind_ok {m : Option A} {f : A → Option B} {x : A} {r : Option B} (h : m = some x) (h2 : f x = r) : m.bind f = r := by subst h; exact h2
theorem itM_inv {f : A → S → Option S} (P : Nat → S → Prop) : ∀ (xs : List A) (s : S) (n : Nat), P n s → (∀ i x s, xs[i]? = some x → P (n + i) s → ∃ s', f x s = some s' ∧ P (n + i + 1) s') → ∃ s', itM f xs s = some s' ∧ P (n + xs.length) s'
  | [], s, n, h0, _ => ⟨s, rfl, h0⟩
  | x :: l, s, n, h0, hs => by
    obtain ⟨s1, h1, p1⟩ := hs 0 x s rfl h0
    obtain ⟨s2, h2, p2⟩ := itM_inv P l s1 (n + 1) p1 (fun i y t hy pt => by
      have e : n + 1 + i = n + (i + 1) := by omega
      rw [e] at pt
      obtain ⟨t', q1, q2⟩ := hs (i + 1) y t hy pt
      exact ⟨t', q1, by rw [e]; exact q2⟩)
    refine ⟨s2, bind_ok h1 h2, ?_⟩
    have e : n + (x :: l).length = n + 1 + l.length := by rw [List.length_cons]; omega
    rw [e]
    exact p2
theorem itM_ok {f : A → S → Option S} (P : Nat → S → Prop) {xs : List A} {s : S} (h0 : P 0 s) (hs : ∀ i x s, xs[i]? = some x → P i s → ∃ s', f x s = some s' ∧ P (i + 1) s') : ∃ s', itM f xs s = some s' ∧ P xs.length s' := by
  have := itM_inv (f := f) P xs s 0 h0 (fun i x s hx hp => by rw [Nat.zero_add] at hp ⊢; exact hs i x s hx hp)
  rw [Nat.zero_add] at this
  exact this
/-- a loop whose turn is a plain function -/
theorem itM_fold {f : A → S → Option S} {g : S → A → S} : ∀ {xs : List A} {s : S}, (∀ x s, x ∈ xs → f x s = some (g s x)) → itM f xs s = some (xs.foldl g s)
  | [], _, _ => rfl
  | x :: l, s, h => bind_ok (h x s List.mem_cons_self) (itM_fold fun y t hy => h y t (List.mem_cons_of_mem _ hy))
theorem itF_inv {f : A → S → Option (Fl S R)} (P : Nat → S → Prop) : ∀ (xs : List A) (s : S) (n : Nat), P n s → (∀ i x s, xs[i]? = some x → P (n + i) s → ∃ s', f x s = some (.nx s') ∧ P (n + i + 1) s') → ∃ s', itF f xs s = some (.nx s') ∧ P (n + xs.length) s'
  | [], s, n, h0, _ => ⟨s, rfl, h0⟩
  | x :: l, s, n, h0, hs => by
    obtain ⟨s1, h1, p1⟩ := hs 0 x s rfl h0
    obtain ⟨s2, h2, p2⟩ := itF_inv P l s1 (n + 1) p1 (fun i y t hy pt => by
      have e : n + 1 + i = n + (i + 1) := by omega
      rw [e] at pt
      obtain ⟨t', q1, q2⟩ := hs (i + 1) y t hy pt
      exact ⟨t', q1, by rw [e]; exact q2⟩)
    refine ⟨s2, bind_ok h1 h2, ?_⟩
    have e : n + (x :: l).length = n + 1 + l.length := by rw [List.length_cons]; omega
    rw [e]
    exact p2
theorem itF_ok {f : A → S → Option (Fl S R)} (P : Nat → S → Prop) {xs : List A} {s : S} (h0 : P 0 s) (hs : ∀ i x s, xs[i]? = some x → P i s → ∃ s', f x s = some (.nx s') ∧ P (i + 1) s') : ∃ s', itF f xs s = some (.nx s') ∧ P xs.length s' := by
  have := itF_inv (f := f) P xs s 0 h0 (fun i x s hx hp => by rw [Nat.zero_add] at hp ⊢; exact hs i x s hx hp)
  rw [Nat.zero_add] at this
  exact this
/-- a loop that may leave: told by what holds at its end -/
theorem itF_way {f : A → S → Option (Fl S R)} (P : Nat → S → Prop) (Q : Fl S R → Prop) : ∀ (xs : List A) (s : S) (n : Nat), P n s → (∀ i x s, xs[i]? = some x → P (n + i) s → ∃ r, f x s = some r ∧ match r with | .nx s' => P (n + i + 1) s' | .bk s' => Q (.nx s') | .rt q => Q (.rt q)) →
    (∀ s, P (n + xs.length) s → Q (.nx s)) → ∃ r, itF f xs s = some r ∧ Q r
  | [], s, n, h0, _, hd => ⟨.nx s, rfl, hd s h0⟩
  | x :: l, s, n, h0, hs, hd => by
    obtain ⟨r, h1, p1⟩ := hs 0 x s rfl h0
    cases r with
    | bk s' => exact ⟨.nx s', bind_ok h1 rfl, p1⟩
    | rt q => exact ⟨.rt q, bind_ok h1 rfl, p1⟩
    | nx s1 =>
      obtain ⟨r2, h2, p2⟩ := itF_way P Q l s1 (n + 1) p1 (fun i y t hy pt => by
        have e : n + 1 + i = n + (i + 1) := by omega
        rw [e] at pt
        obtain ⟨t', q1, q2⟩ := hs (i + 1) y t hy pt
        exact ⟨t', q1, by rw [e]; exact q2⟩) (fun t ht => hd t (by rw [List.length_cons]; have e : n + (l.length + 1) = n + 1 + l.length := by omega
                                                                   rw [e]; exact ht))
      exact ⟨r2, bind_ok h1 h2, p2⟩
theorem whF_inv {c : S → Option Bool} {f : S → Option (Fl S R)} (P : S → Prop) (μ : S → Nat) (Q : S → Prop) : ∀ (n : Nat) (s : S), μ s < n → P s → (∀ s, P s → (c s = some false ∧ Q s) ∨ (c s = some true ∧ ∃ s', f s = some (.nx s') ∧ P s' ∧ μ s' < μ s)) → ∃ s', whF c f n s = some (.nx s') ∧ Q s'
  | 0, s, h, _, _ => absurd h (Nat.not_lt_zero _)
  | n + 1, s, h, hp, hs => by
    rcases hs s hp with ⟨h1, h2⟩ | ⟨h1, s1, h2, h3, h4⟩
    · exact ⟨s, bind_ok h1 (if_neg Bool.false_ne_true), h2⟩
    · obtain ⟨s2, h5, h6⟩ := whF_inv P μ Q n s1 (by omega) h3 hs
      exact ⟨s2, bind_ok h1 ((if_pos rfl).trans (bind_ok h2 h5)), h6⟩
theorem fuel_eq : fuel = 1000000 := rfl
theorem mapO_ok {f : A → Option B} {g : A → B} : ∀ {xs : List A}, (∀ x ∈ xs, f x = some (g x)) → mapO f xs = some (xs.map g)
  | [], _ => rfl
  | x :: l, h => bind_ok (h x List.mem_cons_self) (bind_ok (mapO_ok fun y hy => h y (List.mem_cons_of_mem _ hy)) rfl)
theorem mapO_all {f : A → Option B} {Q : B → Prop} : ∀ {xs : List A}, (∀ x ∈ xs, ∃ y, f x = some y ∧ Q y) → ∃ ys, mapO f xs = some ys ∧ ys.length = xs.length ∧ ∀ y ∈ ys, Q y
  | [], _ => ⟨[], rfl, rfl, fun _ h => (nomatch h)⟩
  | x :: l, h => by
    obtain ⟨y, h1, h2⟩ := h x List.mem_cons_self
    obtain ⟨ys, h3, h4, h5⟩ := mapO_all (Q := Q) fun z hz => h z (List.mem_cons_of_mem _ hz)
    refine ⟨y :: ys, bind_ok h1 (bind_ok h3 rfl), by rw [List.length_cons, List.length_cons, h4], fun z hz => ?_⟩
    rcases List.mem_cons.mp hz with rfl | hz
    · exact h2
    · exact h5 z hz
theorem itM_congr {f g : A → S → Option S} : ∀ {xs : List A} {s : S}, (∀ x s, x ∈ xs → f x s = g x s) → itM f xs s = itM g xs s
  | [], _, _ => rfl
  | x :: l, s, h => by
    show (f x s).bind _ = (g x s).bind _
    rw [h x s List.mem_cons_self]
    congr 1
    funext t
    exact itM_congr fun y u hy => h y u (List.mem_cons_of_mem _ hy)
theorem ex_itF_way {f : A → S → Option (Fl S R)} {g : Fl S R → Option B} {xs : List A} {s : S} {Q : B → Prop} (P : Nat → S → Prop) (W : Fl S R → Prop) (h0 : P 0 s) (hs : ∀ i x s, xs[i]? = some x → P i s → ∃ r, f x s = some r ∧ match r with | .nx s' => P (i + 1) s' | .bk s' => W (.nx s') | .rt q => W (.rt q)) (he : ∀ s, P xs.length s → W (.nx s)) (hd : ∀ r, W r → ∃ y, g r = some y ∧ Q y) : ∃ y, (itF f xs s).bind g = some y ∧ Q y := by
  obtain ⟨r, h1, h2⟩ := itF_way (f := f) P W xs s 0 h0 (fun i x s hx hp => by rw [Nat.zero_add] at hp ⊢; exact hs i x s hx hp) (fun s h => he s (by rw [Nat.zero_add] at h; exact h))
  obtain ⟨y, h3, h4⟩ := hd r h2
  exact ⟨y, bind_ok h1 h3, h4⟩
theorem rngI_mem {lo hi x : Int} : x ∈ rngI lo hi ↔ lo ≤ x ∧ x < hi := by
  unfold rngI
  rw [List.mem_map]
  constructor
  · rintro ⟨i, hi', rfl⟩
    rw [List.mem_range] at hi'
    omega
  · rintro ⟨h1, h2⟩
    exact ⟨(x - lo).toNat, by rw [List.mem_range]; omega, by omega⟩
theorem rngC_ok {lo hi : Int} (h1 : -(2 ^ 62) ≤ lo) (h2 : lo < 2 ^ 62) (h3 : -(2 ^ 62) ≤ hi) (h4 : hi < 2 ^ 62) : rngC lo hi = some (rngI lo hi) := grd_ok ⟨h1, h2, h3, h4⟩
theorem modC_ok {i j : Int} (h : 0 < j) : modC i j = some (i % j) := grd_ok h
theorem divC_ok {i j : Int} (n : Nat) (h : 0 < j) (h2 : j.natAbs < 2 ^ n) (hn : n ≤ 9000 := by decide) : divC i j = some (i / j) := by
  refine grd_ok ⟨h, ?_⟩
  have := (Nat.log2_lt (by omega : j.natAbs ≠ 0)).mpr h2
  omega
theorem intBits_le {i : Int} {n : Nat} (h : i.natAbs < 2 ^ n) : Builtin.Int.intBits i ≤ n := by
  unfold Builtin.Int.intBits
  split
  · exact Nat.zero_le _
  · next h0 =>
    have e : i.natAbs ≠ 0 := by
      intro e
      apply h0
      have : i = 0 := by omega
      rw [this]; rfl
    have := (Nat.log2_lt e).mpr h
    omega
theorem intBits_iff {i : Int} {n : Nat} : Builtin.Int.intBits i ≤ n ↔ i.natAbs < 2 ^ n := by
  refine ⟨fun h => ?_, intBits_le⟩
  by_cases h0 : i = 0
  · subst h0
    exact Nat.two_pow_pos n
  · unfold Builtin.Int.intBits at h
    rw [if_neg (by simpa using h0)] at h
    exact (Nat.log2_lt (by omega)).mp (by omega)
theorem shlC_ok {i j : Int} (n : Nat) (h0 : 0 ≤ j) (hi : i.natAbs < 2 ^ n) (hj : (n : Int) + j ≤ 2 ^ 27) : shlC i j = some (i * 2 ^ j.toNat) := by
  refine grd_ok ⟨h0, ?_⟩
  have := intBits_le hi
  omega
theorem shrC_ok {i j : Int} (h0 : 0 ≤ j) : shrC i j = some (i / 2 ^ j.toNat) := grd_ok h0
theorem mulC_ok {i j : Int} (h : i.natAbs < 2 ^ 64 ∨ j.natAbs < 2 ^ 64) : mulC i j = some (i * j) := by
  refine grd_ok ?_
  rcases h with h | h
  · exact IntMulOk.of_left (intBits_le h)
  · exact IntMulOk.of_right (intBits_le h)
theorem appC_ok {xs : List A} {x : A} (h : xs.length < 16777216) : appC xs x = some (xs ++ [x]) := grd_ok h
theorem catC_ok {xs ys : List A} (h : xs.length + ys.length ≤ 16777216) : catC xs ys = some (xs ++ ys) := grd_ok h
theorem repC_ok {xs : List A} {k : Int} (h1 : -(2 ^ 63) ≤ k) (h2 : k < 2 ^ 63) (h3 : xs.length * k.toNat ≤ 16777216) : repC xs k = some (List.replicate k.toNat xs).flatten := grd_ok ⟨h1, h2, h3⟩
theorem rep1 {x : A} (n : Nat) : (List.replicate n [x]).flatten = List.replicate n x := by
  induction n with
  | zero => rfl
  | succ n ih => rw [List.replicate_succ, List.flatten_cons, ih]; rfl
theorem repC1_ok {x : A} {k : Int} (h1 : -(2 ^ 63) ≤ k) (h2 : k ≤ 16777216) : repC [x] k = some (List.replicate k.toNat x) := by
  rw [repC_ok h1 (by omega) (by show 1 * k.toNat ≤ _; omega), rep1]
theorem atI_ok {xs : List A} {i : Int} (h0 : 0 ≤ i) (h : i < xs.length) : atI xs i = some (xs[i.toNat]'(by omega)) := by
  have e : i = ((i.toNat : Nat) : Int) := by omega
  have h2 : i.toNat < xs.length := by omega
  have := atI_nat (xs := xs) (j := i.toNat) (v := xs[i.toNat]) (List.getElem?_eq_getElem h2)
  rw [← e] at this
  exact this
theorem atI_get? {xs : List A} {i : Int} (h0 : 0 ≤ i) : atI xs i = xs[i.toNat]? := by
  by_cases h : i < xs.length
  · rw [atI_ok h0 h, List.getElem?_eq_getElem]
  · rw [List.getElem?_eq_none (by omega)]
    unfold atI ixN
    rw [if_pos h0, if_neg h]
    rfl
theorem setC_ok {xs : List A} {i : Int} {x : A} (h0 : 0 ≤ i) (h : i < xs.length) : setC xs i x = some (xs.set i.toNat x) := by
  unfold setC ixN
  rw [if_pos h0, if_pos h]
  rfl
theorem cut_to {xs : List A} {k : Int} (h : 0 ≤ k) : cut xs none (some k) = xs.take k.toNat := by
  unfold cut
  rw [HT.sIx_none]
  have e : k = ((k.toNat : Nat) : Int) := by omega
  rw [e, HT.sIx_nat, List.drop_zero, Nat.sub_zero]
  have : ((k.toNat : Nat) : Int).toNat = k.toNat := by omega
  rw [this]
  by_cases h2 : k.toNat ≤ xs.length
  · rw [Nat.min_eq_left h2]
  · rw [Nat.min_eq_right (by omega), List.take_of_length_le (Nat.le_refl _), List.take_of_length_le (by omega)]
theorem cut_from {xs : List A} {k : Int} (h : 0 ≤ k) : cut xs (some k) none = xs.drop k.toNat := by
  unfold cut
  have e : k = ((k.toNat : Nat) : Int) := by omega
  rw [e, HT.sIx_nat, HT.sIx_none]
  have : ((k.toNat : Nat) : Int).toNat = k.toNat := by omega
  rw [this]
  by_cases h2 : k.toNat ≤ xs.length
  · rw [Nat.min_eq_left h2, List.take_of_length_le (by rw [List.length_drop]; exact Nat.le_refl _)]
  · rw [Nat.min_eq_right (by omega), List.drop_of_length_le (Nat.le_refl _), List.drop_of_length_le (by omega), List.take_nil]
theorem cut_mid {xs : List A} {i j : Int} (h : 0 ≤ i) (h2 : i ≤ j) : cut xs (some i) (some j) = (xs.drop i.toNat).take (j - i).toNat := by
  unfold cut
  have e : i = ((i.toNat : Nat) : Int) := by omega
  have e' : j = ((j.toNat : Nat) : Int) := by omega
  have e3 : (j - i).toNat = j.toNat - i.toNat := by omega
  rw [e3]
  rw [e, e', HT.sIx_nat, HT.sIx_nat]
  have q1 : ((i.toNat : Nat) : Int).toNat = i.toNat := by omega
  have q2 : ((j.toNat : Nat) : Int).toNat = j.toNat := by omega
  rw [q1, q2]
  by_cases h3 : i.toNat ≤ xs.length
  · rw [Nat.min_eq_left h3]
    by_cases h4 : j.toNat ≤ xs.length
    · rw [Nat.min_eq_left h4]
    · rw [Nat.min_eq_right (by omega), List.take_of_length_le (by rw [List.length_drop]; omega), List.take_of_length_le (by rw [List.length_drop]; omega)]
  · have q3 : min i.toNat xs.length = xs.length := by omega
    rw [q3, List.drop_of_length_le (Nat.le_refl _), List.drop_of_length_le (by omega), List.take_nil, List.take_nil]
theorem ex_bind {m : Option A} {f : A → Option B} {x : A} {Q : B → Prop} (h : m = some x) (h2 : ∃ r, f x = some r ∧ Q r) : ∃ r, m.bind f = some r ∧ Q r := by
  subst h
  exact h2
theorem ex_some {x : A} {Q : A → Prop} (h : Q x) : ∃ r, some x = some r ∧ Q r := ⟨x, rfl, h⟩
theorem ex_if {b : Bool} {m1 m2 : Option A} {Q : A → Prop} (h1 : b = true → ∃ r, m1 = some r ∧ Q r) (h2 : b = false → ∃ r, m2 = some r ∧ Q r) : ∃ r, (if b = true then m1 else m2) = some r ∧ Q r := by
  cases b with
  | true => exact h1 rfl
  | false => exact h2 rfl
theorem ex_ifP {p : Prop} [Decidable p] {m1 m2 : Option A} {Q : A → Prop} (h1 : p → ∃ r, m1 = some r ∧ Q r) (h2 : ¬ p → ∃ r, m2 = some r ∧ Q r) : ∃ r, (if decide p = true then m1 else m2) = some r ∧ Q r := by
  by_cases h : p
  · rw [if_pos (decide_eq_true h)]
    exact h1 h
  · rw [if_neg (by simp [h])]
    exact h2 h
theorem ex_itM {f : A → S → Option S} {g : S → Option B} {xs : List A} {s : S} {Q : B → Prop} (P : Nat → S → Prop) (h0 : P 0 s) (hs : ∀ i x s, xs[i]? = some x → P i s → ∃ s', f x s = some s' ∧ P (i + 1) s') (hd : ∀ s', P xs.length s' → ∃ r, g s' = some r ∧ Q r) : ∃ r, (itM f xs s).bind g = some r ∧ Q r := by
  obtain ⟨s', h1, h2⟩ := itM_ok P h0 hs
  exact ex_bind h1 (hd s' h2)
theorem ex_itF {f : A → S → Option (Fl S R)} {g : Fl S R → Option B} {xs : List A} {s : S} {Q : B → Prop} (P : Nat → S → Prop) (h0 : P 0 s) (hs : ∀ i x s, xs[i]? = some x → P i s → ∃ s', f x s = some (.nx s') ∧ P (i + 1) s') (hd : ∀ s', P xs.length s' → ∃ r, g (.nx s') = some r ∧ Q r) : ∃ r, (itF f xs s).bind g = some r ∧ Q r := by
  obtain ⟨s', h1, h2⟩ := itF_ok P h0 hs
  exact ex_bind h1 (hd s' h2)
/-- a turn that goes on -/
def IsN (P : S → Prop) : Fl S R → Prop
  | .nx s => P s
  | _ => False
theorem ex_itN {f : A → S → Option (Fl S R)} {g : Fl S R → Option B} {xs : List A} {s : S} {Q : B → Prop} (P : Nat → S → Prop) (h0 : P 0 s) (hs : ∀ i x s, xs[i]? = some x → P i s → ∃ r, f x s = some r ∧ IsN (P (i + 1)) r) (hd : ∀ s', P xs.length s' → ∃ r, g (.nx s') = some r ∧ Q r) : ∃ r, (itF f xs s).bind g = some r ∧ Q r :=
  ex_itF P h0 (fun i x s hx hp => by
    obtain ⟨r, h1, h2⟩ := hs i x s hx hp
    cases r with
    | nx s' => exact ⟨s', h1, h2⟩
    | bk _ => exact h2.elim
    | rt _ => exact h2.elim) hd
theorem ex_mapO {f : A → Option C} {h : List C → Option B} {xs : List A} {Q : B → Prop} {R : C → Prop} (hs : ∀ x ∈ xs, ∃ y, f x = some y ∧ R y) (hd : ∀ ys, ys.length = xs.length → (∀ y ∈ ys, R y) → ∃ r, h ys = some r ∧ Q r) : ∃ r, (mapO f xs).bind h = some r ∧ Q r := by
  obtain ⟨ys, h1, h2, h3⟩ := mapO_all hs
  exact ex_bind h1 (hd ys h2 h3)
theorem ex_mapG {f : A → Option C} (g : A → C) {h : List C → Option B} {xs : List A} {Q : B → Prop} (hs : ∀ x ∈ xs, f x = some (g x)) (hd : ∃ r, h (xs.map g) = some r ∧ Q r) : ∃ r, (mapO f xs).bind h = some r ∧ Q r := ex_bind (mapO_ok hs) hd
/-- a call whose answer is told by what holds of it -/
theorem ex_call {m : Option A} {f : A → Option B} {R : A → Prop} {Q : B → Prop} (h : ∃ x, m = some x ∧ R x) (h2 : ∀ x, R x → ∃ r, f x = some r ∧ Q r) : ∃ r, m.bind f = some r ∧ Q r := by
  obtain ⟨x, h1, h3⟩ := h
  exact ex_bind h1 (h2 x h3)
theorem of_ex {m : Option A} {x : A} (h : ∃ r, m = some r ∧ r = x) : m = some x := by
  obtain ⟨r, h1, rfl⟩ := h
  exact h1
theorem ex_grd {p : Prop} [Decidable p] {x : A} {f : A → Option B} {Q : B → Prop} (hp : p) (h2 : ∃ r, f x = some r ∧ Q r) : ∃ r, (grd p x).bind f = some r ∧ Q r := ex_bind (grd_ok hp) h2
theorem maxI_eq (i j : Int) : maxI i j = max i j := by unfold maxI; split <;> omega
theorem minI_eq (i j : Int) : minI i j = min i j := by unfold minI; split <;> omega
theorem absI_eq (i : Int) : absI i = (i.natAbs : Int) := by unfold absI; split <;> omega
theorem all_true {l : List A} {p : A → Bool} : (l.map p).all id = true ↔ ∀ x ∈ l, p x = true := by
  rw [List.all_map, List.all_eq_true]
  rfl
end
end Mn
/-! Bt: the bit operators on ints -/
namespace Bt
open PySem PySem.Builtin
theorem not_half (x : Int) : bitNot (x / 2) = bitNot x / 2 := by unfold bitNot; omega
theorem not_mod (x : Int) : bitNot x % 2 = 1 - x % 2 := by unfold bitNot; omega
theorem nand_half (a b : Nat) : (a &&& b) / 2 = a / 2 &&& b / 2 := Nat.and_div_two
theorem nand_mod (a b : Nat) : (a &&& b) % 2 = if a % 2 = 1 ∧ b % 2 = 1 then 1 else 0 := by
  split
  · next h => exact Nat.and_mod_two_eq_one.mpr h
  · next h =>
    have : ¬ (a &&& b) % 2 = 1 := fun e => h (Nat.and_mod_two_eq_one.mp e)
    omega
theorem and_nn {x y : Int} (hx : 0 ≤ x) (hy : 0 ≤ y) : bitAnd x y = ((x.toNat &&& y.toNat : Nat) : Int) := by
  unfold bitAnd
  rw [decide_eq_true hx, decide_eq_true hy]
theorem and_np {x y : Int} (hx : 0 ≤ x) (hy : ¬ 0 ≤ y) : bitAnd x y = x - ((x.toNat &&& (bitNot y).toNat : Nat) : Int) := by
  unfold bitAnd
  rw [decide_eq_true hx, decide_eq_false hy]
theorem and_pn {x y : Int} (hx : ¬ 0 ≤ x) (hy : 0 ≤ y) : bitAnd x y = y - ((y.toNat &&& (bitNot x).toNat : Nat) : Int) := by
  unfold bitAnd
  rw [decide_eq_false hx, decide_eq_true hy]
theorem and_pp {x y : Int} (hx : ¬ 0 ≤ x) (hy : ¬ 0 ≤ y) : bitAnd x y = bitNot (((bitNot x).toNat ||| (bitNot y).toNat : Nat) : Int) := by
  unfold bitAnd
  rw [decide_eq_false hx, decide_eq_false hy]
theorem nor_half (a b : Nat) : (a ||| b) / 2 = a / 2 ||| b / 2 := Nat.or_div_two
theorem nor_mod (a b : Nat) : (a ||| b) % 2 = if a % 2 = 1 ∨ b % 2 = 1 then 1 else 0 := by
  split
  · next h => exact Nat.or_mod_two_eq_one.mpr h
  · next h =>
    have : ¬ (a ||| b) % 2 = 1 := fun e => h (Nat.or_mod_two_eq_one.mp e)
    omega
theorem and_half (x y : Int) : bitAnd x y / 2 = bitAnd (x / 2) (y / 2) := by
  by_cases hx : 0 ≤ x <;> by_cases hy : 0 ≤ y
  · rw [and_nn hx hy, and_nn (by omega) (by omega)]
    have e1 : (x / 2).toNat = x.toNat / 2 := by omega
    have e2 : (y / 2).toNat = y.toNat / 2 := by omega
    rw [e1, e2, ← nand_half]
    omega
  · rw [and_np hx hy, and_np (by omega) (by omega), not_half]
    have e1 : (x / 2).toNat = x.toNat / 2 := by omega
    have e2 : (bitNot y / 2).toNat = (bitNot y).toNat / 2 := by unfold bitNot; omega
    rw [e1, e2, ← nand_half]
    have h1 := nand_mod x.toNat (bitNot y).toNat
    have h2 : (x.toNat &&& (bitNot y).toNat) ≤ x.toNat := Nat.and_le_left
    split at h1 <;> omega
  · rw [and_pn hx hy, and_pn (by omega) (by omega), not_half]
    have e1 : (y / 2).toNat = y.toNat / 2 := by omega
    have e2 : (bitNot x / 2).toNat = (bitNot x).toNat / 2 := by unfold bitNot; omega
    rw [e1, e2, ← nand_half]
    have h1 := nand_mod y.toNat (bitNot x).toNat
    split at h1 <;> omega
  · rw [and_pp hx hy, and_pp (by omega) (by omega), not_half, not_half]
    have e1 : (bitNot x / 2).toNat = (bitNot x).toNat / 2 := by unfold bitNot; omega
    have e2 : (bitNot y / 2).toNat = (bitNot y).toNat / 2 := by unfold bitNot; omega
    rw [e1, e2, ← nor_half]
    generalize (bitNot x).toNat ||| (bitNot y).toNat = z
    unfold bitNot
    omega
theorem and_mod (x y : Int) : bitAnd x y % 2 = if x % 2 = 1 ∧ y % 2 = 1 then 1 else 0 := by
  by_cases hx : 0 ≤ x <;> by_cases hy : 0 ≤ y
  · rw [and_nn hx hy]
    have h1 := nand_mod x.toNat y.toNat
    split at h1 <;> split <;> omega
  · rw [and_np hx hy]
    have h1 := nand_mod x.toNat (bitNot y).toNat
    have h2 : (x.toNat &&& (bitNot y).toNat) ≤ x.toNat := Nat.and_le_left
    have h3 : ((bitNot y).toNat : Int) = -y - 1 := by unfold bitNot; omega
    split at h1 <;> split <;> omega
  · rw [and_pn hx hy]
    have h1 := nand_mod y.toNat (bitNot x).toNat
    have h3 : ((bitNot x).toNat : Int) = -x - 1 := by unfold bitNot; omega
    split at h1 <;> split <;> omega
  · rw [and_pp hx hy]
    have h1 := nor_mod (bitNot x).toNat (bitNot y).toNat
    have h3 : ((bitNot x).toNat : Int) = -x - 1 := by unfold bitNot; omega
    have h4 : ((bitNot y).toNat : Int) = -y - 1 := by unfold bitNot; omega
    rw [not_mod]
    split at h1 <;> split <;> omega
theorem or_half (x y : Int) : bitOr x y / 2 = bitOr (x / 2) (y / 2) := by
  unfold bitOr
  rw [← not_half, and_half, ← not_half, ← not_half]
theorem or_mod (x y : Int) : bitOr x y % 2 = if x % 2 = 1 ∨ y % 2 = 1 then 1 else 0 := by
  unfold bitOr
  rw [not_mod, and_mod, not_mod, not_mod]
  split <;> split <;> omega
theorem xor_half (x y : Int) : bitXor x y / 2 = bitXor (x / 2) (y / 2) := by
  unfold bitXor
  rw [← or_half, ← and_half]
  have h1 := or_mod x y
  have h2 := and_mod x y
  split at h1 <;> split at h2 <;> omega
theorem xor_mod (x y : Int) : bitXor x y % 2 = (x + y) % 2 := by
  unfold bitXor
  have h1 := or_mod x y
  have h2 := and_mod x y
  split at h1 <;> split at h2 <;> omega
theorem or_nn {x y : Int} (hx : 0 ≤ x) (hy : 0 ≤ y) : bitOr x y = ((x.toNat ||| y.toNat : Nat) : Int) := L2.bitOr_nn hx hy
/-- what divides -/
theorem dvd_succ (k : Nat) (x : Int) : (2 : Int) ^ (k + 1) ∣ x ↔ x % 2 = 0 ∧ (2 : Int) ^ k ∣ x / 2 := by
  have e : (2 : Int) ^ (k + 1) = 2 ^ k * 2 := Int.pow_succ 2 k
  rw [e]
  constructor
  · rintro ⟨c, rfl⟩
    have h1 : 2 ^ k * 2 * c = 2 * (2 ^ k * c) := by rw [Int.mul_comm (2 ^ k) 2, Int.mul_assoc]
    rw [h1]
    refine ⟨by omega, ⟨c, by omega⟩⟩
  · rintro ⟨h, c, hc⟩
    refine ⟨c, ?_⟩
    have h1 : 2 ^ k * 2 * c = 2 * (2 ^ k * c) := by rw [Int.mul_comm (2 ^ k) 2, Int.mul_assoc]
    rw [h1, ← hc]
    omega
theorem dvd_or (k : Nat) (x y : Int) : (2 : Int) ^ k ∣ bitOr x y ↔ (2 : Int) ^ k ∣ x ∧ (2 : Int) ^ k ∣ y := by
  induction k generalizing x y with
  | zero => simp
  | succ k ih =>
    rw [dvd_succ, dvd_succ, dvd_succ, or_half, ih, or_mod]
    split
    · constructor
      · intro h; omega
      · intro h; omega
    · constructor
      · intro h; exact ⟨⟨by omega, h.2.1⟩, ⟨by omega, h.2.2⟩⟩
      · intro h; exact ⟨rfl, h.1.2, h.2.2⟩
/-- the lowest bit -/
theorem low_nat : ∀ (n : Nat), 0 < n → ∃ v : Nat, n - (n &&& (n - 1)) = 2 ^ v ∧ 2 ^ v ∣ n ∧ ¬ 2 ^ (v + 1) ∣ n := by
  intro n
  induction n using Nat.strongRecOn with
  | _ n ih =>
    intro hn
    have hh := nand_half n (n - 1)
    have hm := nand_mod n (n - 1)
    by_cases h : n % 2 = 1
    · refine ⟨0, ?_, by simp, by rw [Nat.pow_succ]; omega⟩
      have e : (n - 1) / 2 = n / 2 := by omega
      rw [e, Nat.and_self] at hh
      have : ¬ (n % 2 = 1 ∧ (n - 1) % 2 = 1) := by omega
      rw [if_neg this] at hm
      show _ = 1
      omega
    · obtain ⟨v, h1, h2, h3⟩ := ih (n / 2) (by omega) (by omega)
      have e : (n - 1) / 2 = n / 2 - 1 := by omega
      rw [e] at hh
      have : ¬ (n % 2 = 1 ∧ (n - 1) % 2 = 1) := by omega
      rw [if_neg this] at hm
      have hle : (n / 2 &&& (n / 2 - 1)) ≤ n / 2 := Nat.and_le_left
      refine ⟨v + 1, ?_, ?_, ?_⟩
      · rw [Nat.pow_succ]; omega
      · obtain ⟨c, hc⟩ := h2
        exact ⟨c, by rw [Nat.pow_succ, Nat.mul_assoc, Nat.mul_comm 2 c, ← Nat.mul_assoc, ← hc]; omega⟩
      · rintro ⟨c, hc⟩
        apply h3
        refine ⟨c, ?_⟩
        rw [Nat.pow_succ, Nat.mul_assoc, Nat.mul_comm 2 c, ← Nat.mul_assoc] at hc
        omega
theorem low_int {t : Int} (ht : t ≠ 0) : ∃ v : Nat, bitAnd t (-t) = 2 ^ v ∧ (2 : Int) ^ v ∣ t ∧ ¬ (2 : Int) ^ (v + 1) ∣ t := by
  obtain ⟨v, h1, h2, h3⟩ := low_nat t.natAbs (by omega)
  refine ⟨v, ?_, ?_, ?_⟩
  · have hle : (t.natAbs &&& (t.natAbs - 1)) ≤ t.natAbs := Nat.and_le_left
    have e : ((2 : Int) ^ v) = ((2 ^ v : Nat) : Int) := by simp
    rw [e, ← h1]
    by_cases hp : 0 ≤ t
    · rw [and_np hp (by omega)]
      have e1 : t.toNat = t.natAbs := by omega
      have e2 : (bitNot (-t)).toNat = t.natAbs - 1 := by unfold bitNot; omega
      rw [e1, e2]
      omega
    · rw [and_pn hp (by omega)]
      have e1 : (-t).toNat = t.natAbs := by omega
      have e2 : (bitNot t).toNat = t.natAbs - 1 := by unfold bitNot; omega
      rw [e1, e2]
      omega
  · rw [← Int.natAbs_dvd_natAbs]
    simpa [Int.natAbs_pow] using h2
  · rw [← Int.natAbs_dvd_natAbs]
    simpa [Int.natAbs_pow] using h3
theorem bits_pow (v : Nat) : Mn.bitsI (2 ^ v) = (v : Int) + 1 := by
  unfold Mn.bitsI Builtin.Int.intBits
  have h : (2 : Int) ^ v ≠ 0 := by
    have : 0 < (2 : Int) ^ v := Int.pow_pos (by decide)
    omega
  rw [if_neg (by simpa using h)]
  have e : ((2 : Int) ^ v).natAbs = 2 ^ v := by simp [Int.natAbs_pow]
  rw [e, Nat.log2_two_pow]
  omega
end Bt
/-! Crc: registers and long division over bits -/
namespace Mn
open PySem L2
theorem xor_nat : ∀ (n a b : Nat), a + b ≤ n → Builtin.bitXor (a : Int) (b : Int) = ((a ^^^ b : Nat) : Int)
  | 0, a, b, h => by
    have h1 : a = 0 := by omega
    have h2 : b = 0 := by omega
    subst h1; subst h2
    rfl
  | n + 1, a, b, h => by
    by_cases h0 : a = 0 ∧ b = 0
    · obtain ⟨rfl, rfl⟩ := h0
      rfl
    have hh := Bt.xor_half (a : Int) (b : Int)
    have hm := Bt.xor_mod (a : Int) (b : Int)
    have ih := xor_nat n (a / 2) (b / 2) (by omega)
    have e1 : ((a : Int) / 2) = ((a / 2 : Nat) : Int) := by omega
    have e2 : ((b : Int) / 2) = ((b / 2 : Nat) : Int) := by omega
    rw [e1, e2, ih] at hh
    have n1 : (a ^^^ b) / 2 = a / 2 ^^^ b / 2 := Nat.xor_div_two
    have n2 : (a ^^^ b) % 2 = (a + b) % 2 := by
      have h3 := Nat.xor_mod_two_eq_one (a := a) (b := b)
      by_cases h1 : a % 2 = 1 <;> by_cases h2 : b % 2 = 1 <;> simp only [h1, h2, iff_true, iff_false, true_iff, false_iff, not_true, not_false_eq_true] at h3 <;> omega
    omega
theorem bitXor_nat (a b : Nat) : Builtin.bitXor (a : Int) (b : Int) = ((a ^^^ b : Nat) : Int) := xor_nat _ a b (Nat.le_refl _)
theorem bitAnd_nat (a b : Nat) : Builtin.bitAnd (a : Int) (b : Int) = ((a &&& b : Nat) : Int) := by
  rw [Bt.and_nn (by omega) (by omega), Int.toNat_natCast, Int.toNat_natCast]
theorem bitOr_nat (a b : Nat) : Builtin.bitOr (a : Int) (b : Int) = ((a ||| b : Nat) : Int) := by
  rw [Bt.or_nn (by omega) (by omega), Int.toNat_natCast, Int.toNat_natCast]
theorem bit_of (b m : Nat) : Builtin.bitAnd ((b : Int) / 2 ^ m) 1 = b2 (b.testBit m) := by
  have e : ((b : Int) / 2 ^ m) = ((b / 2 ^ m : Nat) : Int) := by simp
  rw [e]
  have := bitAnd_nat (b / 2 ^ m) 1
  rw [Nat.and_one_is_mod] at this
  have e1 : ((1 : Nat) : Int) = 1 := rfl
  rw [e1] at this
  rw [this, Nat.testBit_eq_decide_div_mod_eq]
  unfold b2
  by_cases h : b / 2 ^ m % 2 = 1
  · simp [h]
  · have : b / 2 ^ m % 2 = 0 := by omega
    simp [this]
theorem xor_b2 (a b : Bool) : Builtin.bitXor (b2 a) (b2 b) = b2 (a ^^ b) := by cases a <;> cases b <;> decide
theorem b2_one (a : Bool) : (b2 a = 1) ↔ a = true := by cases a <;> decide
/-- the register's step -/
def sh (w p r : Nat) : Nat := ((r <<< 1) % 2 ^ w) ^^^ (if r.testBit (w - 1) then p else 0)
def tp (w : Nat) (d : Bool) : Nat := if d then 2 ^ (w - 1) else 0
def stp (w p r : Nat) (d : Bool) : Nat := sh w p (r ^^^ tp w d)
def feed (w p r : Nat) (ds : List Bool) : Nat := ds.foldl (stp w p) r
def bits8 (b : Nat) : List Bool := (List.range 8).map fun k => b.testBit (7 - k)
def shN (w p : Nat) : Nat → Nat → Nat
  | 0, r => r
  | n + 1, r => shN w p n (sh w p r)
section
variable {w p : Nat}
theorem sh_bit (r q : Nat) : (sh w p r).testBit q = (((decide (q < w) && (decide (1 ≤ q) && r.testBit (q - 1)))) ^^ (r.testBit (w - 1) && p.testBit q)) := by
  unfold sh
  rw [Nat.testBit_xor, Nat.testBit_mod_two_pow, Nat.testBit_shiftLeft]
  congr 1
  cases r.testBit (w - 1) <;> simp
theorem sh_xor (a b : Nat) : sh w p (a ^^^ b) = sh w p a ^^^ sh w p b := by
  apply Nat.eq_of_testBit_eq
  intro q
  rw [Nat.testBit_xor, sh_bit, sh_bit, sh_bit, Nat.testBit_xor, Nat.testBit_xor]
  cases decide (q < w) <;> cases decide (1 ≤ q) <;> cases a.testBit (q - 1) <;> cases b.testBit (q - 1) <;> cases a.testBit (w - 1) <;> cases b.testBit (w - 1) <;> cases p.testBit q <;> rfl
theorem sh_lt (hp : p < 2 ^ w) (r : Nat) : sh w p r < 2 ^ w := by
  unfold sh
  refine Nat.xor_lt_two_pow (Nat.mod_lt _ (Nat.two_pow_pos w)) ?_
  split
  · exact hp
  · exact Nat.two_pow_pos w
theorem sh_zero : sh w p 0 = 0 := by
  unfold sh
  rw [Nat.zero_testBit]
  simp
theorem stp_lt (hp : p < 2 ^ w) (r : Nat) (d : Bool) : stp w p r d < 2 ^ w := sh_lt hp _
theorem feed_lt (hp : p < 2 ^ w) : ∀ (ds : List Bool) {r : Nat}, r < 2 ^ w → feed w p r ds < 2 ^ w
  | [], _, h => h
  | d :: ds, r, _ => feed_lt hp ds (stp_lt hp r d)
theorem feed_app (r : Nat) (a b : List Bool) : feed w p r (a ++ b) = feed w p (feed w p r a) b := List.foldl_append
/-- the code's step -/
theorem sh_code {r : Nat} (hw : 0 < w) (hr : r < 2 ^ w) : (2 ^ w ≤ 2 * r → sh w p r = (2 * r &&& (2 ^ w - 1)) ^^^ p) ∧ (¬ 2 ^ w ≤ 2 * r → sh w p r = 2 * r) := by
  have e : r <<< 1 = 2 * r := by rw [Nat.shiftLeft_eq]; omega
  have h2 : 2 ^ w = 2 * 2 ^ (w - 1) := by
    conv => lhs; rw [show w = (w - 1) + 1 by omega, Nat.pow_succ]
    omega
  constructor
  · intro h
    have ht : r.testBit (w - 1) = true := by
      rw [Nat.testBit_eq_decide_div_mod_eq]
      have : r / 2 ^ (w - 1) = 1 := by
        apply Nat.div_eq_of_lt_le <;> omega
      rw [this]
      rfl
    unfold sh
    rw [ht, e, Nat.and_two_pow_sub_one_eq_mod]
    rfl
  · intro h
    have ht : r.testBit (w - 1) = false := Nat.testBit_lt_two_pow (by omega)
    unfold sh
    rw [ht, e, Nat.mod_eq_of_lt (by omega)]
    simp
/-- i bits at once -/
theorem sh_bits (hw : 0 < w) : ∀ (i : Nat) (r b : Nat), i ≤ w → b < 2 ^ i → shN w p i (r ^^^ (b <<< (w - i))) = feed w p r ((List.range i).map fun k => b.testBit (i - 1 - k))
  | 0, r, b, _, hb => by
    have : b = 0 := by omega
    subst this
    simp [shN, feed]
  | i + 1, r, b, hi, hb => by
    show shN w p i (sh w p _) = _
    have hsplit : b <<< (w - (i + 1)) = tp w (b.testBit i) ^^^ ((b % 2 ^ i) <<< (w - (i + 1))) := by
      apply Nat.eq_of_testBit_eq
      intro q
      rw [Nat.testBit_xor, Nat.testBit_shiftLeft, Nat.testBit_shiftLeft, Nat.testBit_mod_two_pow]
      unfold tp
      by_cases hq : q = w - 1
      · subst hq
        have e1 : w - 1 - (w - (i + 1)) = i := by omega
        rw [e1]
        have e2 : decide (w - 1 ≥ w - (i + 1)) = true := decide_eq_true (by omega)
        rw [e2]
        cases b.testBit i <;> simp
      · have e1 : (if b.testBit i = true then 2 ^ (w - 1) else 0).testBit q = false := by
          split
          · rw [Nat.testBit_two_pow]
            exact decide_eq_false (by omega)
          · exact Nat.zero_testBit _
        rw [e1]
        by_cases h1 : q ≥ w - (i + 1)
        · by_cases h2 : q - (w - (i + 1)) < i
          · simp [h1, h2]
          · have e3 : b.testBit (q - (w - (i + 1))) = false := Nat.testBit_lt_two_pow (Nat.lt_of_lt_of_le hb (Nat.pow_le_pow_right (by decide) (by omega)))
            simp [h2, e3]
        · simp [h1]
    have hlow : sh w p ((b % 2 ^ i) <<< (w - (i + 1))) = (b % 2 ^ i) <<< (w - i) := by
      have hm : b % 2 ^ i < 2 ^ i := Nat.mod_lt _ (Nat.two_pow_pos i)
      apply Nat.eq_of_testBit_eq
      intro q
      have ht : ((b % 2 ^ i) <<< (w - (i + 1))).testBit (w - 1) = false := by
        rw [Nat.testBit_shiftLeft]
        have e1 : w - 1 - (w - (i + 1)) = i := by omega
        rw [e1, Nat.testBit_lt_two_pow hm, Bool.and_false]
      rw [sh_bit, ht, Bool.false_and, Bool.xor_false, Nat.testBit_shiftLeft, Nat.testBit_shiftLeft]
      by_cases h0 : q = 0
      · subst h0
        have : ¬ (0 ≥ w - i) ∨ i = w := by omega
        rcases this with h | h
        · simp [h]
        · subst h
          omega
      by_cases h1 : q < w
      · by_cases h2 : q ≥ w - i
        · have e2 : q - 1 - (w - (i + 1)) = q - (w - i) := by omega
          have e3 : q - 1 ≥ w - (i + 1) := by omega
          have e4 : 1 ≤ q := by omega
          simp [h1, h2, e2, e3, e4]
        · have e3 : ¬ (q - 1 ≥ w - (i + 1)) := by omega
          simp [h2, e3]
      · have e5 : (b % 2 ^ i).testBit (q - (w - i)) = false := Nat.testBit_lt_two_pow (Nat.lt_of_lt_of_le hm (Nat.pow_le_pow_right (by decide) (by omega)))
        simp [h1, e5]
    rw [hsplit, ← Nat.xor_assoc, sh_xor, hlow]
    have ih := sh_bits hw i (sh w p (r ^^^ tp w (b.testBit i))) (b % 2 ^ i) (by omega) (Nat.mod_lt _ (Nat.two_pow_pos i))
    rw [ih, List.range_succ_eq_map, List.map_cons, List.map_map]
    show feed w p _ _ = feed w p (stp w p r (b.testBit (i + 1 - 1 - 0))) _
    have e1 : i + 1 - 1 - 0 = i := by omega
    rw [e1]
    show feed w p (stp w p r (b.testBit i)) _ = _
    congr 1
    apply List.map_congr_left
    intro k hk
    rw [List.mem_range] at hk
    rw [Nat.testBit_mod_two_pow]
    show _ = b.testBit (i + 1 - 1 - (k + 1))
    have e2 : i - 1 - k = i + 1 - 1 - (k + 1) := by omega
    have e3 : decide (i - 1 - k < i) = true := decide_eq_true (by omega)
    rw [e3, Bool.true_and, e2]
theorem sh_byte (hw : 8 ≤ w) (r : Nat) {b : Nat} (hb : b < 256) : shN w p 8 (r ^^^ (b <<< (w - 8))) = feed w p r (bits8 b) := sh_bits (by omega) 8 r b hw hb
theorem feed_xor : ∀ (a b : List Bool) (r s : Nat), a.length = b.length → feed w p (r ^^^ s) (List.zipWith (fun x y => x ^^ y) a b) = feed w p r a ^^^ feed w p s b
  | [], [], _, _, _ => rfl
  | [], _ :: _, _, _, h => by cases h
  | _ :: _, [], _, _, h => by cases h
  | x :: a, y :: b, r, s, h => by
    show feed w p (stp w p (r ^^^ s) (x ^^ y)) _ = feed w p (stp w p r x) a ^^^ feed w p (stp w p s y) b
    rw [← feed_xor a b _ _ (by simpa using h)]
    congr 1
    unfold stp
    rw [← sh_xor]
    congr 1
    have : tp w (x ^^ y) = tp w x ^^^ tp w y := by
      unfold tp
      cases x <;> cases y <;> simp
    rw [this]
    apply Nat.eq_of_testBit_eq
    intro q
    simp only [Nat.testBit_xor]
    cases r.testBit q <;> cases s.testBit q <;> cases (tp w x).testBit q <;> cases (tp w y).testBit q <;> rfl
end
/-! ### lists of bits -/
def lst (m : Nat) (f : Nat → Bool) : List Int := (List.range m).map fun i => b2 (f i)
theorem lst_len (m : Nat) (f : Nat → Bool) : (lst m f).length = m := by unfold lst; rw [List.length_map, List.length_range]
theorem lst_congr {m : Nat} {f g : Nat → Bool} (h : ∀ i, i < m → f i = g i) : lst m f = lst m g := by
  unfold lst
  apply List.map_congr_left
  intro i hi
  rw [h i (List.mem_range.mp hi)]
theorem lst_at {m : Nat} {f : Nat → Bool} {k : Nat} (h : k < m) : atI (lst m f) (k : Int) = some (b2 (f k)) := by
  rw [atI_ok (by omega) (by rw [lst_len]; omega)]
  unfold lst
  simp
theorem lst_set {m : Nat} {f : Nat → Bool} {k : Nat} {c : Bool} (h : k < m) : setC (lst m f) (k : Int) (b2 c) = some (lst m fun i => if i = k then c else f i) := by
  rw [setC_ok (by omega) (by rw [lst_len]; omega)]
  congr 1
  unfold lst
  apply List.ext_getElem?
  intro i
  rw [List.getElem?_set, List.getElem?_map, List.getElem?_map, Int.toNat_natCast]
  by_cases hi : i < m
  · rw [List.getElem?_range hi, List.length_map, List.length_range]
    by_cases e : k = i
    · subst e
      simp [h]
    · have : ¬ i = k := fun z => e z.symm
      simp [e, this]
  · rw [List.getElem?_eq_none (by rw [List.length_range]; omega)]
    by_cases e : k = i
    · omega
    · simp [e]
theorem lst_of (bs : List Bool) : bs.map b2 = lst bs.length (fun i => bs.getD i false) := by
  unfold lst
  apply List.ext_getElem?
  intro i
  rw [List.getElem?_map, List.getElem?_map]
  by_cases hi : i < bs.length
  · rw [List.getElem?_range hi, List.getElem?_eq_getElem hi]
    simp [List.getD, hi]
  · rw [List.getElem?_eq_none (by omega), List.getElem?_eq_none (by rw [List.length_range]; omega)]
    rfl
theorem lst_drop (n m : Nat) (f : Nat → Bool) : (lst (n + m) f).drop n = lst m fun i => f (n + i) := by
  unfold lst
  apply List.ext_getElem?
  intro i
  rw [List.getElem?_drop, List.getElem?_map, List.getElem?_map]
  by_cases hi : i < m
  · rw [List.getElem?_range hi, List.getElem?_range (by omega)]
    rfl
  · rw [List.getElem?_eq_none (by rw [List.length_range]; omega), List.getElem?_eq_none (by rw [List.length_range]; omega)]
    rfl
/-- the value of bits, the highest first -/
theorem lst_val {w r : Nat} (hr : r < 2 ^ w) : (lst w fun i => r.testBit (w - 1 - i)).foldl (fun s b => 2 * s + b) (0 : Int) = (r : Int) := by
  have key : ∀ n, n ≤ w → (lst n fun i => r.testBit (w - 1 - i)).foldl (fun s b => 2 * s + b) (0 : Int) = ((r / 2 ^ (w - n) : Nat) : Int) := by
    intro n
    induction n with
    | zero =>
      intro _
      rw [Nat.sub_zero, Nat.div_eq_of_lt hr]
      rfl
    | succ n ih =>
      intro hn
      unfold lst at ih ⊢
      rw [List.range_succ, List.map_append, List.foldl_append, ih (by omega)]
      show 2 * _ + b2 (r.testBit (w - 1 - n)) = _
      rw [Nat.testBit_eq_decide_div_mod_eq]
      have e1 : w - n = (w - (n + 1)) + 1 := by omega
      have e2 : w - 1 - n = w - (n + 1) := by omega
      rw [e1, e2, Nat.pow_succ, ← Nat.div_div_eq_div_mul]
      generalize r / 2 ^ (w - (n + 1)) = x
      unfold b2
      by_cases h : x % 2 = 1
      · simp [h]; omega
      · simp [h]; omega
  have := key w (Nat.le_refl _)
  rw [Nat.sub_self] at this
  simpa using this
/-- n bits of a long division are passed: the window tells the register -/
def Win (w start n : Nat) (ds : List Bool) (p k : Nat) (f : Nat → Bool) : Prop := ∀ i, k ≤ i → i < n + w → f i = (ds.getD i false ^^ (decide (i < k + w) && (feed w p start (ds.take k)).testBit (w - 1 - (i - k))))
theorem win_step {w start n p k : Nat} {ds : List Bool} {f g : Nat → Bool} (hw : 0 < w) (hk : k < n) (hn : ds.length = n) (hf : Win w start n ds p k f)
    (hg : ∀ i, k < i → i < n + w → g i = (f i ^^ (f k && (decide (i ≤ k + w) && p.testBit (w - 1 - (i - (k + 1))))))) : Win w start n ds p (k + 1) g := by
  intro i h1 h2
  rw [hg i (by omega) h2, hf i (by omega) h2, hf k (Nat.le_refl _) (by omega)]
  have e0 : ds.take (k + 1) = ds.take k ++ [ds.getD k false] := by
    rw [List.take_add_one, List.getD_eq_getElem?_getD, List.getElem?_eq_getElem (by omega)]
    rfl
  rw [e0, feed_app]
  generalize feed w p start (ds.take k) = R
  show _ = (_ ^^ (_ && (stp w p R (ds.getD k false)).testBit _))
  unfold stp
  rw [sh_bit, Nat.sub_self, Nat.sub_zero]
  have e1 : (R ^^^ tp w (ds.getD k false)).testBit (w - 1) = (R.testBit (w - 1) ^^ ds.getD k false) := by
    rw [Nat.testBit_xor]
    congr 1
    unfold tp
    cases ds.getD k false <;> simp
  have e2 : decide (k < k + w) = true := decide_eq_true (by omega)
  rw [e1, e2, Bool.true_and]
  by_cases hi : i < k + 1 + w
  · have d1 : decide (i < k + 1 + w) = true := decide_eq_true hi
    have d2 : decide (i ≤ k + w) = true := decide_eq_true (by omega)
    have d3 : decide (w - 1 - (i - (k + 1)) < w) = true := decide_eq_true (by omega)
    rw [d1, d2, d3, Bool.true_and, Bool.true_and, Bool.true_and]
    by_cases hj : i < k + w
    · have d4 : decide (i < k + w) = true := decide_eq_true hj
      have d5 : decide (1 ≤ w - 1 - (i - (k + 1))) = true := decide_eq_true (by omega)
      have d6 : w - 1 - (i - (k + 1)) - 1 = w - 1 - (i - k) := by omega
      rw [d4, d5, d6, Bool.true_and, Bool.true_and, Nat.testBit_xor]
      have d7 : (tp w (ds.getD k false)).testBit (w - 1 - (i - k)) = false := by
        unfold tp
        split
        · rw [Nat.testBit_two_pow]
          exact decide_eq_false (by omega)
        · exact Nat.zero_testBit _
      rw [d7]
      cases ds.getD i false <;> cases R.testBit (w - 1 - (i - k)) <;> cases ds.getD k false <;> cases R.testBit (w - 1) <;> cases p.testBit (w - 1 - (i - (k + 1))) <;> rfl
    · have d4 : decide (i < k + w) = false := decide_eq_false hj
      have d5 : decide (1 ≤ w - 1 - (i - (k + 1))) = false := decide_eq_false (by omega)
      rw [d4, d5]
      cases ds.getD i false <;> cases ds.getD k false <;> cases R.testBit (w - 1) <;> cases p.testBit (w - 1 - (i - (k + 1))) <;> rfl
  · have d1 : decide (i < k + 1 + w) = false := decide_eq_false hi
    have d2 : decide (i ≤ k + w) = false := decide_eq_false (by omega)
    have d4 : decide (i < k + w) = false := decide_eq_false (by omega)
    rw [d1, d2, d4]
    simp
end Mn
/-! Crc2: the bits of bytes, what the register tells apart -/
namespace Mn
open PySem L2
/-- the bits of bytes -/
def dbits (ds : List Int) : List Bool := ds.flatMap fun b => bits8 b.toNat
def Byt (ds : List Int) : Prop := ∀ x ∈ ds, 0 ≤ x ∧ x < 256
def crcV (w p : Nat) (r : Nat) (ds : List Int) : Nat := feed w p r (dbits ds)
theorem dbits_cons (b : Int) (l : List Int) : dbits (b :: l) = bits8 b.toNat ++ dbits l := List.flatMap_cons
theorem bits8_len (b : Nat) : (bits8 b).length = 8 := by unfold bits8; rw [List.length_map, List.length_range]
theorem dbits_len (ds : List Int) : (dbits ds).length = 8 * ds.length := by
  induction ds with
  | nil => rfl
  | cons b l ih =>
    rw [dbits_cons, List.length_append, ih, List.length_cons, bits8_len]
    omega
theorem dbits_app (a b : List Int) : dbits (a ++ b) = dbits a ++ dbits b := List.flatMap_append
theorem bits8_get {b i : Nat} (h : i < 8) : (bits8 b)[i]? = some (b.testBit (7 - i)) := by
  unfold bits8
  rw [List.getElem?_map, List.getElem?_range h]
  rfl
theorem dbits_get : ∀ (ds : List Int) (i : Nat), i < 8 * ds.length → (dbits ds)[i]? = some ((ds.getD (i / 8) 0).toNat.testBit (7 - i % 8))
  | [], i, h => by simp at h
  | b :: l, i, h => by
    rw [dbits_cons]
    by_cases hi : i < 8
    · rw [List.getElem?_append_left (by rw [bits8_len]; exact hi), bits8_get hi]
      have e1 : i / 8 = 0 := by omega
      have e2 : i % 8 = i := by omega
      rw [e1, e2]
      rfl
    · rw [List.getElem?_append_right (by rw [bits8_len]; omega), bits8_len]
      rw [List.length_cons] at h
      rw [dbits_get l (i - 8) (by omega)]
      have e1 : i / 8 = (i - 8) / 8 + 1 := by omega
      have e2 : (i - 8) % 8 = i % 8 := by omega
      rw [e1, e2]
      rfl
/-- lists of bits by place -/
theorem bits_ext {a : List Bool} {n : Nat} {f : Nat → Bool} (hl : a.length = n) (h : ∀ i, i < n → a[i]? = some (f i)) : a = (List.range n).map f := by
  apply List.ext_getElem?
  intro i
  rw [List.getElem?_map]
  by_cases hi : i < n
  · rw [h i hi, List.getElem?_range hi]
    rfl
  · rw [List.getElem?_eq_none (by omega), List.getElem?_eq_none (by rw [List.length_range]; omega)]
    rfl
theorem zip_map {n : Nat} (f g : Nat → Bool) : List.zipWith (fun x y => x ^^ y) ((List.range n).map f) ((List.range n).map g) = (List.range n).map fun i => f i ^^ g i := by
  rw [List.zipWith_map, List.zipWith_self]
theorem dbits_map (ds : List Int) : dbits ds = (List.range (8 * ds.length)).map fun i => (ds.getD (i / 8) 0).toNat.testBit (7 - i % 8) := bits_ext (dbits_len ds) (dbits_get ds)
section
variable {w p : Nat}
theorem sh_inj0 (hw : 0 < w) (hp : p.testBit 0 = true) {r : Nat} (hr : r < 2 ^ w) (h : sh w p r = 0) : r = 0 := by
  have ht : r.testBit (w - 1) = false := by
    have := sh_bit (w := w) (p := p) r 0
    rw [h, Nat.zero_testBit, hp] at this
    simpa using this.symm
  have hc := sh_code (w := w) (p := p) hw hr
  have : ¬ 2 ^ w ≤ 2 * r := by
    intro h2
    have h3 : r.testBit (w - 1) = true := by
      have e : 2 ^ w = 2 * 2 ^ (w - 1) := by
        conv => lhs; rw [show w = (w - 1) + 1 by omega, Nat.pow_succ]
        omega
      rw [Nat.testBit_eq_decide_div_mod_eq]
      have : r / 2 ^ (w - 1) = 1 := by
        apply Nat.div_eq_of_lt_le <;> omega
      rw [this]
      rfl
    rw [ht] at h3
    cases h3
  have := hc.2 this
  omega
theorem shN_inj0 (hw : 0 < w) (hp : p.testBit 0 = true) (hp2 : p < 2 ^ w) : ∀ (n r : Nat), r < 2 ^ w → shN w p n r = 0 → r = 0
  | 0, r, _, h => h
  | n + 1, r, hr, h => sh_inj0 hw hp hr (shN_inj0 hw hp hp2 n _ (sh_lt hp2 r) h)
theorem stp_false (r : Nat) : stp w p r false = sh w p r := by
  unfold stp tp
  simp
theorem feed_rep0 (n : Nat) : feed w p 0 (List.replicate n false) = 0 := by
  induction n with
  | zero => rfl
  | succ n ih =>
    rw [List.replicate_succ]
    show feed w p (stp w p 0 false) _ = 0
    rw [stp_false, sh_zero, ih]
theorem feed_rep (hw : 0 < w) (hp : p.testBit 0 = true) (hp2 : p < 2 ^ w) : ∀ (n r : Nat), r < 2 ^ w → feed w p r (List.replicate n false) = 0 → r = 0
  | 0, r, _, h => h
  | n + 1, r, hr, h => by
    rw [List.replicate_succ] at h
    have h' : feed w p (stp w p r false) (List.replicate n false) = 0 := h
    rw [stp_false] at h'
    exact sh_inj0 hw hp hr (feed_rep hw hp hp2 n _ (sh_lt hp2 r) h')
theorem nat_of : ∀ B : List Bool, ∃ N, N < 2 ^ B.length ∧ B = (List.range B.length).map fun k => N.testBit (B.length - 1 - k)
  | [] => ⟨0, by decide, rfl⟩
  | b :: B => by
    obtain ⟨N, h1, h2⟩ := nat_of B
    refine ⟨tp (B.length + 1) b ^^^ N, ?_, ?_⟩
    · rw [List.length_cons]
      refine Nat.xor_lt_two_pow ?_ (by rw [Nat.pow_succ]; omega)
      unfold tp
      split
      · exact Nat.pow_lt_pow_right (by decide) (by omega)
      · exact Nat.two_pow_pos _
    · rw [List.length_cons, List.range_succ_eq_map, List.map_cons, List.map_map]
      congr 1
      · rw [Nat.testBit_xor]
        have e : B.length + 1 - 1 - 0 = B.length := by omega
        rw [e, Nat.testBit_lt_two_pow h1]
        unfold tp
        cases b <;> simp
      · conv => lhs; rw [h2]
        apply List.map_congr_left
        intro k hk
        rw [List.mem_range] at hk
        show _ = (tp (B.length + 1) b ^^^ N).testBit (B.length + 1 - 1 - (k + 1))
        rw [Nat.testBit_xor]
        have e : B.length + 1 - 1 - (k + 1) = B.length - 1 - k := by omega
        rw [e]
        have : (tp (B.length + 1) b).testBit (B.length - 1 - k) = false := by
          unfold tp
          split
          · rw [Nat.testBit_two_pow]
            exact decide_eq_false (by omega)
          · exact Nat.zero_testBit _
        rw [this, Bool.false_xor]
/-- a burst is told -/
theorem feed_burst (hw : 0 < w) (hp : p.testBit 0 = true) (hp2 : p < 2 ^ w) {B : List Bool} (hB : B.length ≤ w) (h0 : ∃ k : Nat, B[k]? = some true) : feed w p 0 B ≠ 0 := by
  obtain ⟨N, h1, h2⟩ := nat_of B
  intro h
  rw [h2, ← sh_bits hw B.length 0 N hB h1, Nat.zero_xor] at h
  have hlt : N <<< (w - B.length) < 2 ^ w := by
    rw [Nat.shiftLeft_eq]
    have : 2 ^ w = 2 ^ B.length * 2 ^ (w - B.length) := by rw [← Nat.pow_add]; congr 1; omega
    rw [this]
    exact Nat.mul_lt_mul_of_pos_right h1 (Nat.two_pow_pos _)
  have hz := shN_inj0 hw hp hp2 _ _ hlt h
  rw [Nat.shiftLeft_eq] at hz
  have hN : N = 0 := by
    rcases Nat.mul_eq_zero.mp hz with h | h
    · exact h
    · have := Nat.two_pow_pos (w - B.length)
      omega
  obtain ⟨k, hk⟩ := h0
  rw [h2, hN, List.getElem?_map] at hk
  cases hr : (List.range B.length)[k]? with
  | none => rw [hr] at hk; cases hk
  | some i =>
    rw [hr] at hk
    simp at hk
theorem feed_err (hw : 0 < w) (hp : p.testBit 0 = true) (hp2 : p < 2 ^ w) {n at_ size : Nat} {f : Nat → Bool} (ha : at_ < n) (hs : size ≤ w) (hs0 : 0 < size) (hf : f 0 = true) :
    feed w p 0 ((List.range n).map fun i => decide (at_ ≤ i ∧ i < at_ + size) && f (i - at_)) ≠ 0 := by
  have hsz : 0 < min size (n - at_) := by omega
  have e : ((List.range n).map fun i => decide (at_ ≤ i ∧ i < at_ + size) && f (i - at_)) = List.replicate at_ false ++ (((List.range (min size (n - at_))).map f) ++ List.replicate (n - at_ - min size (n - at_)) false) := by
    symm
    refine bits_ext (by simp; omega) fun i hi => ?_
    by_cases h1 : i < at_
    · rw [List.getElem?_append_left (by rw [List.length_replicate]; exact h1), List.getElem?_replicate, if_pos h1]
      have : ¬ (at_ ≤ i ∧ i < at_ + size) := by omega
      simp [this]
    · rw [List.getElem?_append_right (by rw [List.length_replicate]; omega), List.length_replicate]
      by_cases h2 : i - at_ < min size (n - at_)
      · rw [List.getElem?_append_left (by rw [List.length_map, List.length_range]; exact h2), List.getElem?_map, List.getElem?_range h2]
        have : at_ ≤ i ∧ i < at_ + size := by omega
        simp [this]
      · rw [List.getElem?_append_right (by rw [List.length_map, List.length_range]; omega), List.length_map, List.length_range, List.getElem?_replicate, if_pos (by omega)]
        have : ¬ (at_ ≤ i ∧ i < at_ + size) := by omega
        simp [this]
  rw [e, feed_app, feed_app, feed_rep0]
  intro h
  have h3 := feed_rep hw hp hp2 _ _ (feed_lt hp2 _ (Nat.two_pow_pos w)) h
  refine feed_burst hw hp hp2 (B := (List.range (min size (n - at_))).map f) (by rw [List.length_map, List.length_range]; omega) ⟨0, ?_⟩ h3
  rw [List.getElem?_map, List.getElem?_range hsz, Option.map_some, hf]
theorem shN_zero (n : Nat) : shN w p n 0 = 0 := by
  induction n with
  | zero => rfl
  | succ n ih => show shN w p n (sh w p 0) = 0; rw [sh_zero, ih]
/-- the register's own bits -/
theorem feed_own (hw : 0 < w) {r : Nat} (hr : r < 2 ^ w) : feed w p r ((List.range w).map fun k => r.testBit (w - 1 - k)) = 0 := by
  rw [← sh_bits hw w r r (Nat.le_refl _) hr, Nat.sub_self, Nat.shiftLeft_zero, Nat.xor_self, shN_zero]
end
theorem getD_set (ds : List Int) (j i : Nat) (x : Int) (h : j < ds.length) : (ds.set j x).getD i 0 = if i = j then x else ds.getD i 0 := by
  rw [List.getD_eq_getElem?_getD, List.getElem?_set]
  by_cases e : j = i
  · subst e
    simp [h]
  · have : ¬ i = j := fun z => e z.symm
    rw [if_neg e, if_neg this, List.getD_eq_getElem?_getD]
theorem byt_get {ds : List Int} (hd : Byt ds) (j : Nat) : 0 ≤ ds.getD j 0 ∧ ds.getD j 0 < 256 := by
  rw [List.getD_eq_getElem?_getD]
  cases h : ds[j]? with
  | none => exact ⟨by decide, by decide⟩
  | some x => exact hd x (List.mem_of_getElem? h)
/-- a bit of a byte is turned -/
theorem flip_bit {b : Nat} {q r : Nat} (hq : q < 8) (hr : r < 8) : (b ^^^ 2 ^ (7 - q)).testBit (7 - r) = (b.testBit (7 - r) ^^ decide (r = q)) := by
  rw [Nat.testBit_xor, Nat.testBit_two_pow]
  congr 1
  apply decide_eq_decide.mpr
  omega
end Mn
namespace K06
open PySem L2 Mn
open Evl (Ex)
def m_l_cell (script_ : List Int) (k_ : Int) : Option Int :=
  if (decide (k_ < (script_.length : Int))) = true then (
  (atI script_ k_).bind fun x3 =>
  some x3
  ) else (
  some 0
  )
def m_l_draw (cell_here_ : Int) (many_ : Int) (bound_ : Int) : Option (List Int) :=
  if (decide (((10 : Int) ^ 18) ≤ cell_here_)) = true then (
  (rngC 0 many_).bind fun r5 =>
  (itM (fun (k_6 : Int) (s7 : Int × (List Int)) => ((modC s7.1 bound_).bind fun n1018 => (appC s7.2 n1018).bind fun l1019 => (divC s7.1 bound_).bind fun n1021 => some (n1021, l1019) : Option (Int × (List Int)))) r5 (cell_here_, ([] : List Int))).bind fun r8 =>
  some r8.2
  ) else (
  bnd ((cell_here_ % 2147483647) : Int) fun seed_1027 =>
  (rngC 0 many_).bind fun r1029 =>
  (itM (fun (k_1030 : Int) (s1031 : (List Int) × Int) => (bnd (((((s1031.2 * 48271) + 12345) + k_1030) % 2147483647) : Int) fun seed_2042 => bnd ((((seed_2042 * 69621) + (977 * k_1030)) % 2147483629) : Int) fun mixed_2044 => (modC (mixed_2044 / 3) bound_).bind fun n2046 => (appC s1031.1 n2046).bind fun l2047 => some (l2047, seed_2042) : Option ((List Int) × Int))) r1029 (([] : List Int), seed_1027)).bind fun r1032 =>
  some r1032.1
  )
def m_l_pattern (cell_here_ : Int) (width_ : Int) : Option (Int × Int) :=
  (modC cell_here_ width_).bind fun n1 =>
  bnd ((1 + n1) : Int) fun size_2 =>
  (shlC 1 width_).bind fun n4 =>
  (modC (cell_here_ / 64) n4).bind fun n5 =>
  (shlC 1 (size_2 - 1)).bind fun n7 =>
  (shlC 1 size_2).bind fun n8 =>
  some (size_2, (Builtin.bitAnd (Builtin.bitOr (Builtin.bitOr n5 1) n7) (n8 - 1)))
def m_remainder (data_ : List Int) (start_ : Int) (width_ : Int) (polynomial_ : Int) : Option Int :=
  (shlC 1 width_).bind fun n1 =>
  bnd ((n1 - 1) : Int) fun mask_2 =>
  (itM (fun (byte_5 : Int) (s6 : Int) => ((shlC byte_5 (width_ - 8)).bind fun n1017 => bnd ((Builtin.bitXor s6 n1017) : Int) fun checksum_1018 => (rngC 0 8).bind fun r1020 => (itM (fun (w_1021 : Int) (s1022 : Int) => ((shlC s1022 1).bind fun n2033 => if (decide (mask_2 < n2033)) = true then ( bnd ((Builtin.bitXor (Builtin.bitAnd n2033 mask_2) polynomial_) : Int) fun checksum_2037 => some (checksum_2037) ) else ( some (n2033) ) : Option (Int))) r1020 (checksum_1018)).bind fun r1023 => some (r1023) : Option (Int))) data_ (start_)).bind fun r7 =>
  some r7
def m_crc8 (data_ : List Int) (start_ : Int) : Option Int :=
  (m_remainder data_ start_ 8 7).bind fun c1 =>
  some c1
def m_crc16 (data_ : List Int) (start_ : Int) : Option Int :=
  (m_remainder data_ start_ 16 32773).bind fun c1 =>
  some c1
def m_crc32 (data_ : List Int) (start_ : Int) : Option Int :=
  (m_remainder data_ start_ 32 79764919).bind fun c1 =>
  some c1
def m_l_told (data_ : List Int) (width_ : Int) : Option Int :=
  if (decide (width_ = 8)) = true then (
  (m_crc8 data_ 0).bind fun c3 =>
  some c3
  ) else (
  if (decide (width_ = 16)) = true then (
  (m_crc16 data_ 0).bind fun c8 =>
  some c8
  ) else (
  (m_crc32 data_ 0).bind fun c11 =>
  some c11
  )
  )
def m_l_changed (data_ : List Int) (at_ : Int) (pattern_here_ : Int) (size_ : Int) : Option (List Int) :=
  (rngC 0 size_).bind fun r3 =>
  (itM (fun (k_4 : Int) (s5 : (List Int)) => (bnd ((at_ + k_4) : Int) fun bit_1016 => (andC (decide (bit_1016 < (8 * (data_.length : Int)))) ((shrC pattern_here_ k_4).bind fun n1018 => some (decide ((Builtin.bitAnd n1018 1) = 1)))).bind fun b1019 => if b1019 = true then ( (atI s5 (bit_1016 / 8)).bind fun x1022 => (shlC 1 (7 - (bit_1016 % 8))).bind fun n1023 => (setC s5 (bit_1016 / 8) (Builtin.bitXor x1022 n1023)).bind fun l1024 => some (l1024) ) else ( some (s5) ) : Option ((List Int)))) r3 (data_)).bind fun r6 =>
  some r6
def m_law (script_ : List Int) : Option Bool :=
  (m_l_cell script_ 0).bind fun c1 =>
  bnd ((1 + (c1 % 60)) : Int) fun many_2 =>
  (m_l_cell script_ 1).bind fun c4 =>
  (m_l_draw c4 many_2 256).bind fun c5 =>
  (m_l_cell script_ 2).bind fun c8 =>
  (m_l_draw c8 many_2 256).bind fun c9 =>
  (rngC 0 many_2).bind fun r15 =>
  (grd (r15.length ≤ 16777216) ()).bind fun z14 =>
  (mapO (fun k_12 => ((atI c5 k_12).bind fun x16 => (atI c9 k_12).bind fun x17 => some (Builtin.bitXor x16 x17))) r15).bind fun l13 =>
  (rngC 0 3).bind fun r20 =>
  (itF (fun (k_21 : Int) (s22 : Unit) => ((atI [8, 16, 32] k_21).bind fun x1035 => (m_l_cell script_ (3 + k_21)).bind fun c1037 => (m_l_pattern c1037 x1035).bind fun c1038 => (m_l_cell script_ (6 + k_21)).bind fun c1050 => (modC c1050 (8 * many_2)).bind fun n1051 => (m_l_told c5 x1035).bind fun c1053 => (orC (!true) ((orC false ((orC (decide (c1053 < 0)) ((shlC 1 x1035).bind fun n1056 => some (decide (n1056 ≤ c1053)))).bind fun b1057 => some b1057)).bind fun b1058 => some b1058)).bind fun b1059 => if b1059 = true then ( some (.rt false) ) else ( (m_l_changed c5 n1051 c1038.2 c1038.1).bind fun c1064 => (m_l_told c1064 x1035).bind fun c1065 => if (decide (c1065 = c1053)) = true then ( some (.rt false) ) else ( (rngC 0 (x1035 / 8)).bind fun r1074 => (grd (r1074.length ≤ 16777216) ()).bind fun z1073 => (mapO (fun j_1071 => ((shrC c1053 ((x1035 - 8) - (8 * j_1071))).bind fun n1075 => some (Builtin.bitAnd n1075 255))) r1074).bind fun l1072 => (catC c5 l1072).bind fun l1078 => (m_l_told l1078 x1035).bind fun c1079 => if (!decide (c1079 = 0)) = true then ( some (.rt false) ) else ( (m_l_told l13 x1035).bind fun c1085 => (m_l_told c9 x1035).bind fun c1086 => if (!decide (c1085 = (Builtin.bitXor c1053 c1086))) = true then ( some (.rt false) ) else ( some (.nx ()) ) ) ) ) : Option (Fl (Unit) Bool))) r20 ()).bind fun r23 => match r23 with
  | .bk _ => none | .rt q1094 => some q1094 | .nx s1093 =>
  some true
end K06
-- COMMON: Cm Bt Crc Crc2
namespace K06
open PySem L2 Mn
theorem cell_ok (ns : List Int) {k : Int} (h : 0 ≤ k) : ∃ c, m_l_cell ns k = some c ∧ True := by
  unfold m_l_cell
  refine ex_ifP (fun hk => ?_) (fun _ => ex_some trivial)
  exact ex_bind (atI_ok h hk) (ex_some trivial)
theorem draw_ok (c : Int) {n b : Int} (h0 : 0 ≤ n) (h1 : n ≤ 100000) (hb : 0 < b) (hb2 : b < 2 ^ 64) : ∃ xs, m_l_draw c n b = some xs ∧ xs.length = n.toNat ∧ ∀ x ∈ xs, 0 ≤ x ∧ x < b := by
  unfold m_l_draw
  simp only [bnd_eq]
  have hm : ∀ y : Int, 0 ≤ y % b ∧ y % b < b := fun y => ⟨Int.emod_nonneg _ (by omega), Int.emod_lt_of_pos _ hb⟩
  have ha : ∀ (s : List Int) (y : Int), (∀ x ∈ s, 0 ≤ x ∧ x < b) → ∀ x ∈ s ++ [y % b], 0 ≤ x ∧ x < b := by
    intro s y hs x hx
    rcases List.mem_append.mp hx with h | h
    · exact hs x h
    · rcases List.mem_singleton.mp h with rfl
      exact hm y
  refine ex_if (fun _ => ?_) (fun _ => ?_)
  · refine ex_bind (rngC_ok (by omega) (by omega) (by omega) (by omega)) ?_
    refine ex_itM (fun i (s : Int × List Int) => s.2.length = i ∧ ∀ x ∈ s.2, 0 ≤ x ∧ x < b) ⟨rfl, fun _ h => (nomatch h)⟩ (fun i x s hx hp => ?_) (fun s p => ex_some ⟨?_, p.2⟩)
    · have hi := (rngI_at hx).2
      refine ex_bind (modC_ok hb) (ex_bind (appC_ok (by omega)) (ex_bind (divC_ok 64 hb (by omega)) (ex_some ⟨?_, ha _ _ hp.2⟩)))
      rw [List.length_append, hp.1]; rfl
    · rw [p.1, rngI_length, Int.sub_zero]
  · refine ex_bind (rngC_ok (by omega) (by omega) (by omega) (by omega)) ?_
    refine ex_itM (fun i (s : List Int × Int) => s.1.length = i ∧ ∀ x ∈ s.1, 0 ≤ x ∧ x < b) ⟨rfl, fun _ h => (nomatch h)⟩ (fun i x s hx hp => ?_) (fun s p => ex_some ⟨?_, p.2⟩)
    · have hi := (rngI_at hx).2
      refine ex_bind (modC_ok hb) (ex_bind (appC_ok (by omega)) (ex_some ⟨?_, ha _ _ hp.2⟩))
      rw [List.length_append, hp.1]; rfl
    · rw [p.1, rngI_length, Int.sub_zero]
def crcB (w p : Nat) : Int → Int → Option Int := fun _ s => (shlC s 1).bind fun n => if (decide (((2 ^ w - 1 : Nat) : Int) < n)) = true then some (Builtin.bitXor (Builtin.bitAnd n ((2 ^ w - 1 : Nat) : Int)) (p : Int)) else some n
theorem crcB_ok {w p t : Nat} (x : Int) (hw : 0 < w) (hw2 : w ≤ 64) (ht : t < 2 ^ w) : crcB w p x (t : Int) = some ((sh w p t : Nat) : Int) := by
  have h64 : 2 ^ w ≤ 2 ^ 64 := Nat.pow_le_pow_right (by decide) hw2
  unfold crcB
  refine bind_ok (shlC_ok 64 (by decide) (by omega) (by decide)) ?_
  have e2 : (t : Int) * 2 ^ (1 : Int).toNat = ((2 * t : Nat) : Int) := by
    have : (1 : Int).toNat = 1 := rfl
    rw [this]
    omega
  rw [e2]
  have hc := sh_code (w := w) (p := p) hw ht
  have hpos := Nat.two_pow_pos w
  by_cases h : 2 ^ w ≤ 2 * t
  · rw [if_pos (by rw [decide_eq_true_iff]; omega), bitAnd_nat, bitXor_nat, hc.1 h]
  · rw [if_neg (by rw [decide_eq_true_iff]; omega), hc.2 h]
theorem crcB_loop {w p : Nat} (hw : 0 < w) (hw2 : w ≤ 64) (hp : p < 2 ^ w) : ∀ (n t : Nat), t < 2 ^ w → ∀ xs : List Int, xs.length = n → itM (crcB w p) xs (t : Int) = some ((shN w p n t : Nat) : Int)
  | 0, t, _, xs, hx => by
    have : xs = [] := List.length_eq_zero_iff.mp hx
    subst this
    rfl
  | n + 1, t, ht, xs, hx => by
    cases xs with
    | nil => cases hx
    | cons x xs => exact bind_ok (crcB_ok x hw hw2 ht) (crcB_loop hw hw2 hp n _ (sh_lt hp _) xs (by simpa using hx))
theorem byte_sh {w : Nat} {b : Int} (hw : 8 ≤ w) (h0 : 0 ≤ b) (h1 : b < 256) : b * 2 ^ ((w : Int) - 8).toNat = ((b.toNat <<< (w - 8) : Nat) : Int) ∧ (b.toNat <<< (w - 8)) < 2 ^ w := by
  have e4 : ((w : Int) - 8).toNat = w - 8 := by omega
  have e5 : ((b.toNat : Nat) : Int) = b := by omega
  rw [e4, Nat.shiftLeft_eq, Int.natCast_mul, e5]
  refine ⟨by simp, ?_⟩
  have : 2 ^ w = 2 ^ 8 * 2 ^ (w - 8) := by rw [← Nat.pow_add]; congr 1; omega
  rw [this]
  exact Nat.mul_lt_mul_of_pos_right (by omega) (Nat.two_pow_pos _)
def crcT (w p : Nat) : Int → Int → Option Int := fun b s => (shlC b ((w : Int) - 8)).bind fun n => (rngC 0 8).bind fun r => (itM (crcB w p) r (Builtin.bitXor s n)).bind fun r => some r
theorem crcT_ok {w p s : Nat} {b : Int} (hw : 8 ≤ w) (hw2 : w ≤ 64) (hp : p < 2 ^ w) (h0 : 0 ≤ b) (h1 : b < 256) (hs : s < 2 ^ w) : crcT w p b (s : Int) = some ((feed w p s (bits8 b.toNat) : Nat) : Int) := by
  unfold crcT
  refine bind_ok (shlC_ok 8 (by omega) (by omega) (by omega)) (bind_ok (rngC_ok (by decide) (by decide) (by decide) (by decide)) ?_)
  rw [(byte_sh hw h0 h1).1, bitXor_nat]
  refine bind_ok (crcB_loop (by omega) hw2 hp 8 _ (Nat.xor_lt_two_pow hs (byte_sh hw h0 h1).2) _ (by rw [rngI_length]; rfl)) ?_
  rw [sh_byte hw s (by omega)]
theorem crcT_loop {w p : Nat} (hw : 8 ≤ w) (hw2 : w ≤ 64) (hp : p < 2 ^ w) : ∀ (l : List Int) (s : Nat), Byt l → s < 2 ^ w → itM (crcT w p) l (s : Int) = some ((feed w p s (dbits l) : Nat) : Int)
  | [], s, _, _ => rfl
  | b :: l, s, hl, hs => by
    have hb := hl b List.mem_cons_self
    refine bind_ok (crcT_ok hw hw2 hp hb.1 hb.2 hs) ?_
    rw [crcT_loop hw hw2 hp l _ (fun x hx => hl x (List.mem_cons_of_mem _ hx)) (feed_lt hp _ hs), dbits_cons, feed_app]
theorem crc_ok {w p r : Nat} {ds : List Int} (hd : Byt ds) (hw : 8 ≤ w) (hw2 : w ≤ 64) (hp : p < 2 ^ w) (hr : r < 2 ^ w) : m_remainder ds (r : Int) (w : Int) (p : Int) = some ((crcV w p r ds : Nat) : Int) := by
  unfold m_remainder
  simp only [bnd_eq]
  refine of_ex (ex_bind (shlC_ok 1 (by omega) (by decide) (by omega)) ?_)
  have emask : (1 : Int) * 2 ^ (w : Int).toNat - 1 = ((2 ^ w - 1 : Nat) : Int) := by
    rw [Int.toNat_natCast, Int.one_mul, Int.natCast_sub (Nat.two_pow_pos w)]
    simp
  rw [emask]
  exact ex_bind (crcT_loop hw hw2 hp ds r hd hr) (ex_some rfl)
theorem crc8_ok {r : Nat} {ds : List Int} (hd : Byt ds) (hr : r < 2 ^ 8) : m_crc8 ds (r : Int) = some ((crcV 8 7 r ds : Nat) : Int) := by
  unfold m_crc8
  exact bind_ok (crc_ok (w := 8) (p := 7) hd (by decide) (by decide) (by decide) hr) rfl
theorem crc16_ok {r : Nat} {ds : List Int} (hd : Byt ds) (hr : r < 2 ^ 16) : m_crc16 ds (r : Int) = some ((crcV 16 32773 r ds : Nat) : Int) := by
  unfold m_crc16
  exact bind_ok (crc_ok (w := 16) (p := 32773) hd (by decide) (by decide) (by decide) hr) rfl
theorem crc32_ok {r : Nat} {ds : List Int} (hd : Byt ds) (hr : r < 2 ^ 32) : m_crc32 ds (r : Int) = some ((crcV 32 79764919 r ds : Nat) : Int) := by
  unfold m_crc32
  exact bind_ok (crc_ok (w := 32) (p := 79764919) hd (by decide) (by decide) (by decide) hr) rfl
theorem told_ok {ds : List Int} (hd : Byt ds) {w p : Nat} (hwp : (w = 8 ∧ p = 7) ∨ (w = 16 ∧ p = 32773) ∨ (w = 32 ∧ p = 79764919)) : m_l_told ds (w : Int) = some ((crcV w p 0 ds : Nat) : Int) := by
  unfold m_l_told
  rcases hwp with ⟨rfl, rfl⟩ | ⟨rfl, rfl⟩ | ⟨rfl, rfl⟩
  · rw [if_pos (by decide)]
    exact bind_ok (crc8_ok (r := 0) hd (by decide)) rfl
  · rw [if_neg (by decide), if_pos (by decide)]
    exact bind_ok (crc16_ok (r := 0) hd (by decide)) rfl
  · rw [if_neg (by decide), if_neg (by decide)]
    exact bind_ok (crc32_ok (r := 0) hd (by decide)) rfl
theorem pattern_ok (c : Int) {w : Nat} (hw : 8 ≤ w) (hw2 : w ≤ 64) : ∃ r, m_l_pattern c (w : Int) = some r ∧ ∃ size pat : Nat, r = ((size : Int), (pat : Int)) ∧ 0 < size ∧ size ≤ w ∧ pat.testBit 0 = true := by
  unfold m_l_pattern
  simp only [bnd_eq]
  refine ex_bind (modC_ok (by omega)) ?_
  have h1 := Int.emod_nonneg c (show (w : Int) ≠ 0 by omega)
  have h2 := Int.emod_lt_of_pos c (show (0 : Int) < (w : Int) by omega)
  generalize c % (w : Int) = m at *
  obtain ⟨s, rfl⟩ : ∃ s : Nat, m = (s : Int) := ⟨m.toNat, by omega⟩
  refine ex_bind (shlC_ok 1 (by omega) (by decide) (by omega)) ?_
  have hpos : (0 : Int) < 1 * 2 ^ (w : Int).toNat := by
    rw [Int.one_mul]
    exact Int.pow_pos (by decide)
  refine ex_bind (modC_ok hpos) ?_
  have h3 := Int.emod_nonneg (c / 64) (show (1 : Int) * 2 ^ (w : Int).toNat ≠ 0 by omega)
  generalize c / 64 % (1 * 2 ^ (w : Int).toNat) = y at *
  obtain ⟨z, rfl⟩ : ∃ z : Nat, y = (z : Int) := ⟨y.toNat, by omega⟩
  refine ex_bind (shlC_ok 1 (by omega) (by decide) (by omega)) ?_
  refine ex_bind (shlC_ok 1 (by omega) (by decide) (by omega)) (ex_some ?_)
  have e1 : (1 : Int) * 2 ^ ((1 : Int) + (s : Int) - 1).toNat = ((2 ^ s : Nat) : Int) := by
    have : ((1 : Int) + (s : Int) - 1).toNat = s := by omega
    rw [this, Int.one_mul]
    simp
  have e2 : (1 : Int) * 2 ^ ((1 : Int) + (s : Int)).toNat - 1 = ((2 ^ (s + 1) - 1 : Nat) : Int) := by
    have : ((1 : Int) + (s : Int)).toNat = s + 1 := by omega
    rw [this, Int.one_mul, Int.natCast_sub (Nat.two_pow_pos _)]
    simp
  have e3 : Builtin.bitOr (z : Int) 1 = ((z ||| 1 : Nat) : Int) := bitOr_nat z 1
  refine ⟨s + 1, ((z ||| 1) ||| 2 ^ s) &&& (2 ^ (s + 1) - 1), ?_, by omega, by omega, ?_⟩
  · rw [e1, e2, e3, bitOr_nat, bitAnd_nat]
    congr 1
    omega
  · rw [Nat.testBit_and, Nat.testBit_or, Nat.testBit_or, Nat.testBit_two_pow_sub_one]
    simp
theorem changed_ok {ds : List Int} (hd : Byt ds) (at_ size pat : Nat) (hs : size ≤ 64) (ha : at_ ≤ 100000) : ∃ es, m_l_changed ds (at_ : Int) (pat : Int) (size : Int) = some es ∧ Byt es ∧ es.length = ds.length ∧
    ∀ i, i < 8 * ds.length → (es.getD (i / 8) 0).toNat.testBit (7 - i % 8) = ((ds.getD (i / 8) 0).toNat.testBit (7 - i % 8) ^^ (decide (at_ ≤ i ∧ i < at_ + size) && pat.testBit (i - at_))) := by
  unfold m_l_changed
  simp only [bnd_eq]
  refine ex_bind (rngC_ok (by omega) (by omega) (by omega) (by omega)) ?_
  refine ex_itM (fun k (s : List Int) => Byt s ∧ s.length = ds.length ∧ ∀ i, i < 8 * ds.length → (s.getD (i / 8) 0).toNat.testBit (7 - i % 8) = ((ds.getD (i / 8) 0).toNat.testBit (7 - i % 8) ^^ (decide (at_ ≤ i ∧ i < at_ + k) && pat.testBit (i - at_)))) ⟨hd, rfl, fun i _ => by rw [decide_eq_false (show ¬ (at_ ≤ i ∧ i < at_ + 0) by omega), Bool.false_and, Bool.xor_false]⟩ (fun k x s hx hp => ?_) (fun s hs => ex_some ?_)
  · obtain ⟨hx1, hx2⟩ := rngI_at hx
    rw [Int.zero_add] at hx1
    subst hx1
    obtain ⟨p1, p2, p3⟩ := hp
    have e1 : (at_ : Int) + (k : Int) = ((at_ + k : Nat) : Int) := by omega
    have hbit := bit_of pat k
    refine ex_call (R := fun b => b = (decide (at_ + k < 8 * ds.length) && pat.testBit k)) ?_ ?_
    · unfold andC
      refine ex_if (fun h => ?_) (fun h => ex_some ?_)
      · refine ex_bind (shrC_ok (by omega)) (ex_some ?_)
        rw [Int.toNat_natCast, hbit]
        rw [decide_eq_true_iff] at h
        have : decide (at_ + k < 8 * ds.length) = true := decide_eq_true (by omega)
        rw [this]
        cases pat.testBit k <;> decide
      · rw [decide_eq_false_iff_not] at h
        have : decide (at_ + k < 8 * ds.length) = false := decide_eq_false (by omega)
        rw [this, Bool.false_and]
    rintro b rfl
    refine ex_if (fun h => ?_) (fun h => ex_some ⟨p1, p2, fun i hi => ?_⟩)
    · rw [Bool.and_eq_true, decide_eq_true_iff] at h
      obtain ⟨h1, h2⟩ := h
      have e2 : (at_ : Int) + (k : Int) = ((at_ + k : Nat) : Int) := by omega
      have e3 : (((at_ + k : Nat) : Int) / 8) = (((at_ + k) / 8 : Nat) : Int) := by omega
      have e4 : (7 - (((at_ + k : Nat) : Int) % 8)).toNat = 7 - (at_ + k) % 8 := by omega
      rw [e2, e3]
      generalize hj : (at_ + k) / 8 = j
      have hjl : j < s.length := by omega
      refine ex_bind (atI_ok (by omega) (by omega)) ?_
      refine ex_bind (shlC_ok 1 (by omega) (by decide) (by omega)) ?_
      rw [e4]
      have e5 : s[((j : Nat) : Int).toNat]'(by omega) = s.getD j 0 := by
        simp [List.getD, hjl]
      rw [e5]
      have hb := byt_get p1 j
      have e6 : Builtin.bitXor (s.getD j 0) (1 * 2 ^ (7 - (at_ + k) % 8)) = (((s.getD j 0).toNat ^^^ 2 ^ (7 - (at_ + k) % 8) : Nat) : Int) := by
        have q1 : s.getD j 0 = (((s.getD j 0).toNat : Nat) : Int) := by omega
        have q2 : (1 : Int) * 2 ^ (7 - (at_ + k) % 8) = ((2 ^ (7 - (at_ + k) % 8) : Nat) : Int) := by rw [Int.one_mul]; simp
        rw [q2]
        conv => lhs; rw [q1]
        exact bitXor_nat _ _
      rw [e6]
      refine ex_bind (setC_ok (by omega) (by omega)) (ex_some ⟨fun y hy => ?_, by rw [List.length_set]; exact p2, fun i hi => ?_⟩)
      · rcases List.mem_or_eq_of_mem_set hy with h | h
        · exact p1 y h
        · subst h
          have : ((s.getD j 0).toNat ^^^ 2 ^ (7 - (at_ + k) % 8)) < 2 ^ 8 := Nat.xor_lt_two_pow (by omega) (Nat.pow_lt_pow_right (by decide) (by omega))
          omega
      · rw [Int.toNat_natCast, getD_set _ _ _ _ hjl]
        by_cases e : i / 8 = j
        · rw [if_pos e, Int.toNat_natCast, flip_bit (Nat.mod_lt _ (by decide)) (Nat.mod_lt _ (by decide)), ← e, p3 i hi]
          by_cases ei : i = at_ + k
          · subst ei
            have q1 : ¬ (at_ ≤ at_ + k ∧ at_ + k < at_ + k) := by omega
            have q2 : at_ ≤ at_ + k ∧ at_ + k < at_ + (k + 1) := by omega
            have q3 : at_ + k - at_ = k := by omega
            simp [q1, q2, q3, h2]
          · have q1 : ¬ (i % 8 = (at_ + k) % 8) := by omega
            have q2 : (at_ ≤ i ∧ i < at_ + (k + 1)) = (at_ ≤ i ∧ i < at_ + k) := by simp; omega
            simp only [q1, q2, decide_false, Bool.xor_false]
        · rw [if_neg e, p3 i hi]
          have q2 : (at_ ≤ i ∧ i < at_ + (k + 1)) = (at_ ≤ i ∧ i < at_ + k) := by simp; omega
          simp only [q2]
    · rw [p3 i hi]
      rw [Bool.and_eq_false_iff] at h
      by_cases ei : i = at_ + k
      · subst ei
        have q1 : ¬ (at_ ≤ at_ + k ∧ at_ + k < at_ + k) := by omega
        have q3 : at_ + k - at_ = k := by omega
        rcases h with h | h
        · rw [decide_eq_false_iff_not] at h
          omega
        · simp [q1, q3, h]
      · have q2 : (at_ ≤ i ∧ i < at_ + (k + 1)) = (at_ ≤ i ∧ i < at_ + k) := by simp; omega
        simp only [q2]
  · rw [rngI_length, Int.sub_zero, Int.toNat_natCast] at hs
    exact hs
theorem xor_byt {a b : Int} (ha : 0 ≤ a ∧ a < 256) (hb : 0 ≤ b ∧ b < 256) : Builtin.bitXor a b = ((a.toNat ^^^ b.toNat : Nat) : Int) ∧ 0 ≤ Builtin.bitXor a b ∧ Builtin.bitXor a b < 256 := by
  have q1 : a = ((a.toNat : Nat) : Int) := by omega
  have q2 : b = ((b.toNat : Nat) : Int) := by omega
  have q3 : Builtin.bitXor a b = ((a.toNat ^^^ b.toNat : Nat) : Int) := by
    conv => lhs; rw [q1, q2]
    exact bitXor_nat _ _
  have : a.toNat ^^^ b.toNat < 2 ^ 8 := Nat.xor_lt_two_pow (by omega) (by omega)
  exact ⟨q3, by omega, by omega⟩
theorem law_true (ns : List Int) (hl : ns.length ≤ 63) (hb : ∀ z ∈ ns, Builtin.Int.intBits z ≤ 1048576) : m_law ns = some true := by
  unfold m_law
  simp only [bnd_eq]
  refine of_ex (ex_call (cell_ok ns (by decide)) fun c0 _ => ex_call (cell_ok ns (by decide)) fun c1 _ => ?_)
  obtain ⟨many, hmany, hm1, hm2⟩ : ∃ many : Nat, 1 + c0 % 60 = (many : Int) ∧ 1 ≤ many ∧ many ≤ 60 := ⟨(1 + c0 % 60).toNat, by omega, by omega, by omega⟩
  rw [hmany]
  refine ex_call (draw_ok c1 (by omega) (by omega) (by decide) (by decide)) fun data ⟨hdl, hd⟩ => ?_
  rw [Int.toNat_natCast] at hdl
  have hd : Byt data := hd
  refine ex_call (cell_ok ns (by decide)) fun c2 _ => ?_
  refine ex_call (draw_ok c2 (by omega) (by omega) (by decide) (by decide)) fun other ⟨hol, ho⟩ => ?_
  rw [Int.toNat_natCast] at hol
  have ho : Byt other := ho
  refine ex_bind (rngC_ok (by omega) (by omega) (by omega) (by omega)) ?_
  refine ex_grd (by rw [rngI_length]; omega) ?_
  refine ex_mapG (fun k => Builtin.bitXor (data.getD k.toNat 0) (other.getD k.toNat 0)) (fun k hk => ?_) ?_
  · rw [rngI_mem] at hk
    have q1 : k.toNat < data.length := by omega
    have q2 : k.toNat < other.length := by omega
    refine bind_ok (atI_ok (by omega) (by omega)) (bind_ok (atI_ok (by omega) (by omega)) ?_)
    simp [List.getD, q1, q2]
  generalize hboth : (rngI 0 (many : Int)).map (fun k => Builtin.bitXor (data.getD k.toNat 0) (other.getD k.toNat 0)) = both
  have hbl : both.length = many := by rw [← hboth, List.length_map, rngI_length]; omega
  have hbg : ∀ i, i < many → both.getD i 0 = Builtin.bitXor (data.getD i 0) (other.getD i 0) := by
    intro i hi
    rw [← hboth, List.getD_eq_getElem?_getD, List.getElem?_map, rngI_get (by omega)]
    simp
  have hbb : Byt both := by
    intro x hx
    rw [← hboth] at hx
    obtain ⟨k, _, rfl⟩ := List.mem_map.mp hx
    exact (xor_byt (byt_get hd _) (byt_get ho _)).2
  refine ex_bind (rngC_ok (by decide) (by decide) (by decide) (by decide)) ?_
  refine ex_itN (fun _ _ => True) trivial (fun i k _ hk _ => ?_) (fun _ _ => ex_some rfl)
  obtain ⟨hk1, hk2⟩ := rngI_at hk
  rw [Int.zero_add] at hk1
  have hi : i = 0 ∨ i = 1 ∨ i = 2 := by omega
  have hw : ∃ w p : Nat, atI [8, 16, 32] k = some (w : Int) ∧ ((w = 8 ∧ p = 7) ∨ (w = 16 ∧ p = 32773) ∨ (w = 32 ∧ p = 79764919)) := by
    rcases hi with rfl | rfl | rfl <;> subst hk1
    · exact ⟨8, 7, rfl, by simp⟩
    · exact ⟨16, 32773, rfl, by simp⟩
    · exact ⟨32, 79764919, rfl, by simp⟩
  obtain ⟨w, p, hw1, hwp⟩ := hw
  have hw8 : 8 ≤ w ∧ w ≤ 64 ∧ p < 2 ^ w ∧ p.testBit 0 = true ∧ w % 8 = 0 := by rcases hwp with ⟨rfl, rfl⟩ | ⟨rfl, rfl⟩ | ⟨rfl, rfl⟩ <;> decide
  obtain ⟨hw8, hw64, hp, hp0, hw80⟩ := hw8
  refine ex_bind hw1 ?_
  refine ex_call (cell_ok ns (by omega)) fun c3 _ => ?_
  refine ex_call (pattern_ok c3 hw8 hw64) ?_
  rintro _ ⟨size, pat, rfl, hs0, hsw, hpat⟩
  refine ex_call (cell_ok ns (by omega)) fun c6 _ => ?_
  refine ex_bind (modC_ok (by omega)) ?_
  have h1 := Int.emod_nonneg c6 (show 8 * (many : Int) ≠ 0 by omega)
  have h2 := Int.emod_lt_of_pos c6 (show (0 : Int) < 8 * (many : Int) by omega)
  generalize c6 % (8 * (many : Int)) = a0 at *
  obtain ⟨at_, rfl⟩ : ∃ a : Nat, a0 = (a : Int) := ⟨a0.toNat, by omega⟩
  refine ex_bind (told_ok hd hwp) ?_
  generalize hR : crcV w p 0 data = R
  have hRlt : R < 2 ^ w := by rw [← hR]; exact feed_lt hp _ (Nat.two_pow_pos w)
  have epow : (1 : Int) * 2 ^ (w : Int).toNat = ((2 ^ w : Nat) : Int) := by rw [Int.toNat_natCast, Int.one_mul]; simp
  refine ex_bind (x := false) ?_ ?_
  · unfold orC
    rw [shlC_ok 1 (by omega) (by decide) (by omega), epow]
    have q1 : decide ((R : Int) < 0) = false := decide_eq_false (by omega)
    have q2 : decide (((2 ^ w : Nat) : Int) ≤ (R : Int)) = false := decide_eq_false (by omega)
    simp only [some_bind', q1, q2]
    rfl
  rw [if_neg (by decide)]
  refine ex_call (changed_ok hd at_ size pat (by omega) (by omega)) fun es ⟨he1, he2, he3⟩ => ?_
  refine ex_bind (told_ok he1 hwp) ?_
  have hne : crcV w p 0 es ≠ R := by
    have e0 : dbits es = List.zipWith (fun x y => x ^^ y) (dbits data) ((List.range (8 * data.length)).map fun i => decide (at_ ≤ i ∧ i < at_ + size) && pat.testBit (i - at_)) := by
      rw [dbits_map es, dbits_map data, zip_map, he2]
      apply List.map_congr_left
      intro i hi
      rw [List.mem_range] at hi
      exact he3 i hi
    have e1 := feed_xor (w := w) (p := p) (dbits data) ((List.range (8 * data.length)).map fun i => decide (at_ ≤ i ∧ i < at_ + size) && pat.testBit (i - at_)) 0 0 (by rw [dbits_len, List.length_map, List.length_range])
    have e2 := feed_err (w := w) (p := p) (by omega) hp0 hp (n := 8 * data.length) (at_ := at_) (size := size) (f := fun j => pat.testBit j) (by omega) hsw hs0 hpat
    unfold crcV at hR ⊢
    rw [e0, ← hR]
    rw [Nat.xor_self] at e1
    rw [e1]
    intro h
    apply e2
    have h3 : ∀ a b : Nat, a ^^^ b = a → b = 0 := by
      intro a b h
      have : a ^^^ (a ^^^ b) = a ^^^ a := by rw [h]
      rw [← Nat.xor_assoc, Nat.xor_self, Nat.zero_xor] at this
      exact this
    exact h3 _ _ h
  rw [if_neg (by rw [decide_eq_true_iff]; omega)]
  have ew : ((w : Int) / 8) = ((w / 8 : Nat) : Int) := by omega
  rw [ew]
  refine ex_bind (rngC_ok (by omega) (by omega) (by omega) (by omega)) ?_
  refine ex_grd (by rw [rngI_length]; omega) ?_
  refine ex_mapG (fun j => ((R / 2 ^ (w - 8 - 8 * j.toNat) % 256 : Nat) : Int)) (fun j hj => ?_) ?_
  · rw [rngI_mem] at hj
    refine bind_ok (shrC_ok (by omega)) ?_
    have q1 : ((w : Int) - 8 - 8 * j).toNat = w - 8 - 8 * j.toNat := by omega
    rw [q1]
    have q2 : ((R : Int) / 2 ^ (w - 8 - 8 * j.toNat)) = ((R / 2 ^ (w - 8 - 8 * j.toNat) : Nat) : Int) := by simp
    rw [q2]
    have q3 : Builtin.bitAnd ((R / 2 ^ (w - 8 - 8 * j.toNat) : Nat) : Int) 255 = ((R / 2 ^ (w - 8 - 8 * j.toNat) &&& 255 : Nat) : Int) := bitAnd_nat _ 255
    rw [q3]
    have q4 : R / 2 ^ (w - 8 - 8 * j.toNat) &&& 255 = R / 2 ^ (w - 8 - 8 * j.toNat) % 2 ^ 8 := Nat.and_two_pow_sub_one_eq_mod _ 8
    rw [q4]
  generalize hown : (rngI 0 ((w / 8 : Nat) : Int)).map (fun j => ((R / 2 ^ (w - 8 - 8 * j.toNat) % 256 : Nat) : Int)) = own
  have howl : own.length = w / 8 := by rw [← hown, List.length_map, rngI_length]; omega
  have howg : ∀ i, i < w / 8 → own.getD i 0 = ((R / 2 ^ (w - 8 - 8 * i) % 256 : Nat) : Int) := by
    intro i hi
    rw [← hown, List.getD_eq_getElem?_getD, List.getElem?_map, rngI_get (by omega)]
    simp
  have howb : Byt own := by
    intro x hx
    rw [← hown] at hx
    obtain ⟨j, _, rfl⟩ := List.mem_map.mp hx
    have := Nat.mod_lt (R / 2 ^ (w - 8 - 8 * j.toNat)) (show 256 > 0 by decide)
    omega
  refine ex_bind (catC_ok (by omega)) ?_
  have hcat : Byt (data ++ own) := by
    intro x hx
    rcases List.mem_append.mp hx with h | h
    · exact hd x h
    · exact howb x h
  refine ex_bind (told_ok hcat hwp) ?_
  have hz : crcV w p 0 (data ++ own) = 0 := by
    have hR' : feed w p 0 (dbits data) = R := hR
    unfold crcV
    rw [dbits_app, feed_app, hR']
    have e0 : dbits own = (List.range w).map fun k => R.testBit (w - 1 - k) := by
      have hww : 8 * own.length = w := by omega
      rw [dbits_map, hww]
      apply List.map_congr_left
      intro k hk
      rw [List.mem_range] at hk
      rw [howg (k / 8) (by omega), Int.toNat_natCast]
      have : R / 2 ^ (w - 8 - 8 * (k / 8)) % 256 = R / 2 ^ (w - 8 - 8 * (k / 8)) % 2 ^ 8 := rfl
      rw [this, Nat.testBit_mod_two_pow, Nat.testBit_div_two_pow]
      have q1 : decide (7 - k % 8 < 8) = true := decide_eq_true (by omega)
      have q2 : 7 - k % 8 + (w - 8 - 8 * (k / 8)) = w - 1 - k := by omega
      rw [q1, q2, Bool.true_and]
    rw [e0]
    exact feed_own (by omega) hRlt
  rw [hz, if_neg (by decide)]
  refine ex_bind (told_ok hbb hwp) (ex_bind (told_ok ho hwp) ?_)
  have hx : crcV w p 0 both = R ^^^ crcV w p 0 other := by
    have e0 : dbits both = List.zipWith (fun x y => x ^^ y) (dbits data) (dbits other) := by
      rw [dbits_map both, dbits_map data, dbits_map other, hbl, hdl, hol, zip_map]
      apply List.map_congr_left
      intro i hi
      rw [List.mem_range] at hi
      rw [hbg (i / 8) (by omega), (xor_byt (byt_get hd _) (byt_get ho _)).1, Int.toNat_natCast, Nat.testBit_xor]
    have e1 := feed_xor (w := w) (p := p) (dbits data) (dbits other) 0 0 (by rw [dbits_len, dbits_len]; omega)
    rw [Nat.xor_self] at e1
    unfold crcV at hR ⊢
    rw [e0, e1, hR]
  rw [hx, bitXor_nat, if_neg (by simp)]
  exact ex_some trivial
end K06
namespace K06
open PySem L2 Mn
open Evl (Ex)
def topS (i : Nat) : Stmt := PySem.Challenge.pw_monochord_k06_checksums_tell_bursts.main.body.getD i (.Pass ⟨0, 0, 0, 0⟩)
structure Txt (K : PySem.W.Frag) (mg : Str → Option Value) : Prop where
  b_bool : mg "bool" = none
  b_int : mg "int" = none
  b_isinstance : mg "isinstance" = none
  b_len : mg "len" = none
  b_list : mg "list" = none
  b_range : mg "range" = none
def sp_l_cell (K : PySem.W.Frag) (G : Cl) : Sp := fun vs H Q _ => ∃ (B : Hp) (cs : Cs) (a_script_ : Addr) (script_ : List Int) (k_ : Int) (res : Int), vs = [.ref a_script_, .int k_] ∧ Fr B cs H ∧ RdS K B cs a_script_ (List.map V.int script_) ∧ m_l_cell script_ k_ = some res ∧ ∀ H', Fr B cs H' → Q (.int res) H'
abbrev s_l_cell : Stmt := topS 7
theorem sc_l_cell : FnScope ["_law_script", "_law_k"] ["_law_script", "_law_k"] (defScope s_l_cell) := ⟨rfl, rfl, rfl, by decide +kernel, rfl, by decide +kernel, by decide +kernel⟩
theorem ok_l_cell {P : Program} {w : World} {K : PySem.W.Frag} {G : Cl} {mg : Str → Option Value} {base : Heap} {fa : Addr} {fd : FuncData} (F : Fun K "_law_cell" "_law_cell" s_l_cell fa fd) (T : Txt K mg) : FnOk P w K mg base CX0 1 fa fd ["_law_script", "_law_k"] (sp_l_cell K G) := by
  refine F.ok sc_l_cell (fun vs H Q E h => ?_) (fun cdv A outer s HB vs Q E hr h => ?_)
  · obtain ⟨B, cs, a_script_, script_, k_, res, rfl, _⟩ := h
    rfl
  · obtain ⟨B, cs, a_script_, script_, k_, res, rfl, F0, b_script_, hm, k⟩ := h
    unfold m_l_cell at hm
    refine ⟨_, (pss_cons (ps_if (pt_cmpR op_lt (pv 1) (pe_callB (kLen (K := K)) (by rfl) T.b_len (by decide +kernel) (pa_cons (pv 0) pa_nil)) (nomark _)) (pss_one (ps_ret (pe_ix (kIx (K := K)) (pv 0) (pv 1) (fun _ _ => rfl)))) pss_nil)
    (pss_one (ps_ret pe_int))), ?_⟩
    refine sl (σ' := [some (.ref a_script_), some (.int k_)]) rfl ?_
    refine g_when F0 (et_test (ev_op (ev_var (n := 1) rfl) (ev_cb (ea_cons (ev_var (n := 0) rfl) ea_nil) (rc_len (f := V.int) b_script_)) rv_I0)) (fun hb1 H F => ?_) (fun hb1 H F => ?_)
    · have F2 := F
      replace hm := of_ifT hb1 hm
      obtain ⟨x3, hx3, hm⟩ := of_bind hm
      obtain rfl := Option.some.inj hm
      refine g_ret F2 (ev_op (ev_var (n := 0) rfl) (ev_var (n := 1) rfl) (rv_ix (f := V.int) hx3 b_script_)) fun H F4 => ?_
      exact k _ F4
    · have F5 := F
      replace hm := of_ifF hb1 hm
      obtain rfl := Option.some.inj hm
      refine g_ret F5 ev_c fun H F6 => ?_
      exact k _ F6

def sp_l_draw (K : PySem.W.Frag) (G : Cl) : Sp := fun vs H Q _ => ∃ (B : Hp) (cs : Cs) (cell_here_ : Int) (many_ : Int) (bound_ : Int) (res : List Int), vs = [.int cell_here_, .int many_, .int bound_] ∧ Fr B cs H ∧ m_l_draw cell_here_ many_ bound_ = some res ∧ ∀ p H', Fr B ((p, .lst (List.map V.int res)) :: cs) H' → Q (.ref p) H'
abbrev s_l_draw : Stmt := topS 6
theorem sc_l_draw : FnScope ["_law_cell_here", "_law_many", "_law_bound", "_law_numbers", "_law_k", "_law_seed", "_law_mixed"] ["_law_cell_here", "_law_many", "_law_bound"] (defScope s_l_draw) := ⟨rfl, rfl, rfl, by decide +kernel, rfl, by decide +kernel, by decide +kernel⟩
theorem ok_l_draw {P : Program} {w : World} {K : PySem.W.Frag} {G : Cl} {mg : Str → Option Value} {base : Heap} {fa : Addr} {fd : FuncData} (F : Fun K "_law_draw" "_law_draw" s_l_draw fa fd) (T : Txt K mg) : FnOk P w K mg base CX0 1 fa fd ["_law_cell_here", "_law_many", "_law_bound"] (sp_l_draw K G) := by
  refine F.ok sc_l_draw (fun vs H Q E h => ?_) (fun cdv A outer s HB vs Q E hr h => ?_)
  · obtain ⟨B, cs, cell_here_, many_, bound_, res, rfl, _⟩ := h
    rfl
  · obtain ⟨B, cs, cell_here_, many_, bound_, res, rfl, F0, hm, k⟩ := h
    unfold m_l_draw at hm
    refine ⟨_, (pss_cons (ps_set (i := 3) sc_l_draw.nd rfl (Or.inl rfl) (pe_lst pa_nil))
    (pss_cons (ps_if (pt_cmpR op_ge (pv 0) (pe_op op_pow pe_int pe_int) (nomark _)) (pss_cons (ps_for PassesOwn.never rfl (pi_range1 rfl T.b_range (pa_cons (pv 1) pa_nil)) (pg_name (i := 4) sc_l_draw.nd rfl (Or.inl rfl))
      (pss_cons (ps_expr (pe_bm PySem.F.plainAttrs_list PySem.F.slot_list_append PySem.F.type_list_append mt_append (pv 3) (pa_cons (pe_op op_mod (pe_callTy cr_int (by rfl) T.b_int (by decide +kernel) (pa_cons (pv 0) pa_nil)) (pv 2)) pa_nil)))
    (pss_cons (ps_set (i := 0) sc_l_draw.nd rfl (Or.inl rfl) (pe_op op_fdivW (pv 0) (pv 2)))
    pss_nil)))
    (pss_one (ps_ret (pv 3)))) pss_nil)
    (pss_cons (ps_set (i := 5) sc_l_draw.nd rfl (Or.inl rfl) (pe_op op_mod (pe_callTy cr_int (by rfl) T.b_int (by decide +kernel) (pa_cons (pv 0) pa_nil)) pe_int))
    (pss_cons (ps_for PassesOwn.never rfl (pi_range1 rfl T.b_range (pa_cons (pv 1) pa_nil)) (pg_name (i := 4) sc_l_draw.nd rfl (Or.inl rfl))
      (pss_cons (ps_set (i := 5) sc_l_draw.nd rfl (Or.inl rfl) (pe_op op_mod (pe_callTy cr_int (by rfl) T.b_int (by decide +kernel) (pa_cons (pe_op op_add (pe_op op_add (pe_op op_mul (pv 5) pe_int) pe_int) (pv 4)) pa_nil)) pe_int))
    (pss_cons (ps_set (i := 6) sc_l_draw.nd rfl (Or.inl rfl) (pe_op op_mod (pe_callTy cr_int (by rfl) T.b_int (by decide +kernel) (pa_cons (pe_op op_add (pe_op op_mul (pv 5) pe_int) (pe_op op_mul pe_int (pv 4))) pa_nil)) pe_int))
    (pss_cons (ps_expr (pe_bm PySem.F.plainAttrs_list PySem.F.slot_list_append PySem.F.type_list_append mt_append (pv 3) (pa_cons (pe_op op_mod (pe_callTy cr_int (by rfl) T.b_int (by decide +kernel) (pa_cons (pe_op op_fdiv (pv 6) pe_int) pa_nil)) (pv 2)) pa_nil)))
    pss_nil))))
    (pss_one (ps_ret (pv 3))))))), ?_⟩
    refine sl (σ' := [some (.int cell_here_), some (.int many_), some (.int bound_), none, none, none, none]) rfl ?_
    refine g_asgN (i := 3) (o := .lst (List.map V.int ([] : List Int))) F0 (en_lst ea_nil) fun p1 H F2 => ?_
    refine sl (σ' := [some (.int cell_here_), some (.int many_), some (.int bound_), some (.ref p1), none, none, none]) rfl ?_
    refine g_when F2 (et_test (ev_op (ev_var (n := 0) rfl) (ev_op ev_c ev_c (rv_powK _ _)) rv_I0)) (fun hb3 H F => ?_) (fun hb3 H F => ?_)
    · have F4 := F
      replace hm := of_ifT hb3 hm
      obtain ⟨r5, hr5, hm⟩ := of_bind hm
      obtain ⟨r8, hl1023, hm⟩ := of_bind hm
      refine w_rngM1 hr5 hl1023 (fun s7 σ H => ∃ (u_k_ : Option V), σ = [some (.int s7.1), some (.int many_), some (.int bound_), some (.ref p1), u_k_, none, none] ∧ Fr B ((p1, .lst (List.map V.int s7.2)) :: cs) H) F4 (ea_cons (ev_var (n := 1) rfl) ea_nil) (fun H F => ?_) ?_ ?_
      · exact ⟨_, rfl, F⟩
      · rintro _ H ⟨u_k_, rfl, F1024⟩
        obtain rfl := Option.some.inj hm
        refine g_ret F1024 (ev_var (n := 3) rfl) fun H F1025 => ?_
        exact k _ _ F1025
      · rintro k_6 iv16 s7 r' _ H N hi15 hb ⟨u_k_, rfl, F1017⟩ hN10
        have ho14 := hm; clear hm; have hm := hb; clear hb
        obtain rfl := hi15
        refine gn (σ' := [some (.int s7.1), some (.int many_), some (.int bound_), some (.ref p1), some (.int k_6), none, none]) rfl ?_
        obtain ⟨n1018, hn1018, hm⟩ := of_bind hm
        obtain ⟨l1019, hl1019, hm⟩ := of_bind hm
        refine g_app (f := V.int) (i := 0) F1017 hl1019 (ev_var (n := 3) rfl) (ev_op (ev_int (ev_var (n := 0) rfl)) (ev_var (n := 2) rfl) (rv_mod hn1018)) (Rd.own 0 rfl) rfl rfl fun H F1020 => ?_
        obtain ⟨n1021, hn1021, hm⟩ := of_bind hm
        refine g_asg (i := 0) (v := .int n1021) (σ' := [some (.int n1021), some (.int many_), some (.int bound_), some (.ref p1), some (.int k_6), none, none]) F1020 (ev_op (ev_var (n := 0) rfl) (ev_var (n := 2) rfl) (rv_div hn1021)) rfl fun H F1022 => ?_
        obtain rfl := Option.some.inj hm
        exact hN10 _ _ ⟨_, rfl, F1022⟩
    · have F1026 := F
      replace hm := of_ifF hb3 hm
      obtain ⟨seed_1027, hseed_1027, hm⟩ := of_bnd hm
      refine g_asg (i := 5) (v := .int seed_1027) (σ' := [some (.int cell_here_), some (.int many_), some (.int bound_), some (.ref p1), none, some (.int seed_1027), none]) F1026 (ev_cg (f := V.int) (ev_op (ev_int (ev_var (n := 0) rfl)) ev_c (rv_modK _)) hseed_1027) rfl fun H F1028 => ?_
      obtain ⟨r1029, hr1029, hm⟩ := of_bind hm
      obtain ⟨r1032, hl2049, hm⟩ := of_bind hm
      refine w_rngM1 hr1029 hl2049 (fun s1031 σ H => ∃ (u_k_ : Option V) (u_mixed_ : Option V), σ = [some (.int cell_here_), some (.int many_), some (.int bound_), some (.ref p1), u_k_, some (.int s1031.2), u_mixed_] ∧ Fr B ((p1, .lst (List.map V.int s1031.1)) :: cs) H) F1028 (ea_cons (ev_var (n := 1) rfl) ea_nil) (fun H F => ?_) ?_ ?_
      · exact ⟨_, _, rfl, F⟩
      · rintro _ H ⟨u_k_, u_mixed_, rfl, F2050⟩
        obtain rfl := Option.some.inj hm
        refine g_ret F2050 (ev_var (n := 3) rfl) fun H F2051 => ?_
        exact k _ _ F2051
      · rintro k_1030 iv1040 s1031 r' _ H N hi1039 hb ⟨u_k_, u_mixed_, rfl, F2041⟩ hN1034
        have ho1038 := hm; clear hm; have hm := hb; clear hb
        obtain rfl := hi1039
        refine gn (σ' := [some (.int cell_here_), some (.int many_), some (.int bound_), some (.ref p1), some (.int k_1030), some (.int s1031.2), u_mixed_]) rfl ?_
        obtain ⟨seed_2042, hseed_2042, hm⟩ := of_bnd hm
        refine g_asg (i := 5) (v := .int seed_2042) (σ' := [some (.int cell_here_), some (.int many_), some (.int bound_), some (.ref p1), some (.int k_1030), some (.int seed_2042), u_mixed_]) F2041 (ev_cg (f := V.int) (ev_op (ev_int (ev_op (ev_op (ev_op (ev_var (n := 5) rfl) ev_c (rv_mulR _)) ev_c rv_I0) (ev_var (n := 4) rfl) rv_I0)) ev_c (rv_modK _)) hseed_2042) rfl fun H F2043 => ?_
        obtain ⟨mixed_2044, hmixed_2044, hm⟩ := of_bnd hm
        refine g_asg (i := 6) (v := .int mixed_2044) (σ' := [some (.int cell_here_), some (.int many_), some (.int bound_), some (.ref p1), some (.int k_1030), some (.int seed_2042), some (.int mixed_2044)]) F2043 (ev_cg (f := V.int) (ev_op (ev_int (ev_op (ev_op (ev_var (n := 5) rfl) ev_c (rv_mulR _)) (ev_op ev_c (ev_var (n := 4) rfl) (rv_mulL _)) rv_I0)) ev_c (rv_modK _)) hmixed_2044) rfl fun H F2045 => ?_
        obtain ⟨n2046, hn2046, hm⟩ := of_bind hm
        obtain ⟨l2047, hl2047, hm⟩ := of_bind hm
        refine g_app (f := V.int) (i := 0) F2045 hl2047 (ev_var (n := 3) rfl) (ev_op (ev_int (ev_op (ev_var (n := 6) rfl) ev_c (rv_divK _))) (ev_var (n := 2) rfl) (rv_mod hn2046)) (Rd.own 0 rfl) rfl rfl fun H F2048 => ?_
        obtain rfl := Option.some.inj hm
        exact hN1034 _ _ ⟨_, _, rfl, F2048⟩

def sp_l_pattern (K : PySem.W.Frag) (G : Cl) : Sp := fun vs H Q _ => ∃ (B : Hp) (cs : Cs) (cell_here_ : Int) (width_ : Int) (res : Int × Int), vs = [.int cell_here_, .int width_] ∧ Fr B cs H ∧ m_l_pattern cell_here_ width_ = some res ∧ ∀ v B' H', Ex B B' → Rp K G B' v ((pD2 D.int D.int) res) → Fr B' cs H' → Q v H'
abbrev s_l_pattern : Stmt := topS 10
theorem sc_l_pattern : FnScope ["_law_cell_here", "_law_width", "_law_size", "_law_inner"] ["_law_cell_here", "_law_width"] (defScope s_l_pattern) := ⟨rfl, rfl, rfl, by decide +kernel, rfl, by decide +kernel, by decide +kernel⟩
theorem ok_l_pattern {P : Program} {w : World} {K : PySem.W.Frag} {G : Cl} {mg : Str → Option Value} {base : Heap} {fa : Addr} {fd : FuncData} (F : Fun K "_law_pattern" "_law_pattern" s_l_pattern fa fd) (T : Txt K mg) : FnOk P w K mg base CX0 1 fa fd ["_law_cell_here", "_law_width"] (sp_l_pattern K G) := by
  refine F.ok sc_l_pattern (fun vs H Q E h => ?_) (fun cdv A outer s HB vs Q E hr h => ?_)
  · obtain ⟨B, cs, cell_here_, width_, res, rfl, _⟩ := h
    rfl
  · obtain ⟨B, cs, cell_here_, width_, res, rfl, F0, hm, k⟩ := h
    unfold m_l_pattern at hm
    refine ⟨_, (pss_cons (ps_set (i := 2) sc_l_pattern.nd rfl (Or.inl rfl) (pe_op op_add pe_int (pe_op op_mod (pe_callTy cr_int (by rfl) T.b_int (by decide +kernel) (pa_cons (pv 0) pa_nil)) (pv 1))))
    (pss_cons (ps_set (i := 3) sc_l_pattern.nd rfl (Or.inl rfl) (pe_op op_mod (pe_op op_fdiv (pe_callTy cr_int (by rfl) T.b_int (by decide +kernel) (pa_cons (pv 0) pa_nil)) pe_int) (pe_op op_shlW pe_int (pv 1))))
    (pss_one (ps_ret (pe_tup (pa_cons (pv 2) (pa_cons (pe_op op_and (pe_op op_or (pe_op op_or (pv 3) pe_int) (pe_op op_shlW pe_int (pe_op op_sub (pv 2) pe_int))) (pe_op op_sub (pe_op op_shlW pe_int (pv 2)) pe_int)) pa_nil))))))), ?_⟩
    refine sl (σ' := [some (.int cell_here_), some (.int width_), none, none]) rfl ?_
    obtain ⟨n1, hn1, hm⟩ := of_bind hm
    obtain ⟨size_2, hsize_2, hm⟩ := of_bnd hm
    refine g_asg (i := 2) (v := .int size_2) (σ' := [some (.int cell_here_), some (.int width_), some (.int size_2), none]) F0 (ev_cg (f := V.int) (ev_op ev_c (ev_op (ev_int (ev_var (n := 0) rfl)) (ev_var (n := 1) rfl) (rv_mod hn1)) rv_I0) hsize_2) rfl fun H F3 => ?_
    obtain ⟨n4, hn4, hm⟩ := of_bind hm
    obtain ⟨n5, hn5, hm⟩ := of_bind hm
    refine g_asg (i := 3) (v := .int n5) (σ' := [some (.int cell_here_), some (.int width_), some (.int size_2), some (.int n5)]) F3 (ev_op (ev_op (ev_int (ev_var (n := 0) rfl)) ev_c (rv_divK _)) (ev_op ev_c (ev_var (n := 1) rfl) (rv_shl hn4)) (rv_mod hn5)) rfl fun H F6 => ?_
    obtain ⟨n7, hn7, hm⟩ := of_bind hm
    obtain ⟨n8, hn8, hm⟩ := of_bind hm
    obtain rfl := Option.some.inj hm
    refine g_retN F6 (en_tup (ea_cons (ev_var (n := 2) rfl) (ea_cons (ev_op (ev_op (ev_op (ev_var (n := 3) rfl) ev_c rv_I0) (ev_op ev_c (ev_op (ev_var (n := 2) rfl) ev_c rv_I0) (rv_shl hn7)) rv_I0) (ev_op (ev_op ev_c (ev_var (n := 2) rfl) (rv_shl hn8)) ev_c rv_I0) rv_I0) ea_nil))) fun p9 H F10 => ?_
    obtain ⟨B11, e12, hB13, F14⟩ := Fr.fzAt 0 rfl F10
    replace F14 : Fr B11 (cs) _ := F14
    have hT15 : SqT K B11 p9 [.int size_2, .int (Builtin.bitAnd (Builtin.bitOr (Builtin.bitOr n5 1) n7) (n8 - 1))] := Evl.st_of hB13
    exact k _ _ _ e12 (show Rp K G _ _ ((pD2 D.int D.int) (size_2, (Builtin.bitAnd (Builtin.bitOr (Builtin.bitOr n5 1) n7) (n8 - 1)))) from (rp_t2 hT15 rp_i rp_i)) F14

def sp_remainder (K : PySem.W.Frag) (G : Cl) : Sp := fun vs H Q _ => ∃ (B : Hp) (cs : Cs) (a_data_ : Addr) (data_ : List Int) (start_ : Int) (width_ : Int) (polynomial_ : Int) (res : Int), vs = [.ref a_data_, .int start_, .int width_, .int polynomial_] ∧ Fr B cs H ∧ Rd B cs a_data_ (.lst (List.map V.int data_)) ∧ m_remainder data_ start_ width_ polynomial_ = some res ∧ ∀ H', Fr B cs H' → Q (.int res) H'
abbrev s_remainder : Stmt := topS 1
theorem sc_remainder : FnScope ["data", "start", "width", "polynomial", "mask", "checksum", "byte", "_"] ["data", "start", "width", "polynomial"] (defScope s_remainder) := ⟨rfl, rfl, rfl, by decide +kernel, rfl, by decide +kernel, by decide +kernel⟩
theorem ok_remainder {P : Program} {w : World} {K : PySem.W.Frag} {G : Cl} {mg : Str → Option Value} {base : Heap} {fa : Addr} {fd : FuncData} (F : Fun K "_remainder" "_remainder" s_remainder fa fd) (T : Txt K mg) : FnOk P w K mg base CX0 1 fa fd ["data", "start", "width", "polynomial"] (sp_remainder K G) := by
  refine F.ok sc_remainder (fun vs H Q E h => ?_) (fun cdv A outer s HB vs Q E hr h => ?_)
  · obtain ⟨B, cs, a_data_, data_, start_, width_, polynomial_, res, rfl, _⟩ := h
    rfl
  · obtain ⟨B, cs, a_data_, data_, start_, width_, polynomial_, res, rfl, F0, b_data_, hm, k⟩ := h
    unfold m_remainder at hm
    refine ⟨_, (pss_cons (ps_set (i := 4) sc_remainder.nd rfl (Or.inl rfl) (pe_op op_sub (pe_op op_shlW pe_int (pv 2)) pe_int))
    (pss_cons (ps_set (i := 5) sc_remainder.nd rfl (Or.inl rfl) (pv 1))
    (pss_cons (ps_for PassesOwn.never rfl (kpi_list (K := K) (pv 0)) (pg_name (i := 6) sc_remainder.nd rfl (Or.inl rfl))
      (pss_cons (ps_aug (i := 5) sc_remainder.nd rfl (Or.inl rfl) (pe_op op_shlW (pv 6) (pe_op op_sub (pv 2) pe_int)) iop_xor)
    (pss_cons (ps_for PassesOwn.never rfl (pi_range1 rfl T.b_range (pa_cons pe_int pa_nil)) (pg_name (i := 7) sc_remainder.nd rfl (Or.inl rfl))
      (pss_cons (ps_aug (i := 5) sc_remainder.nd rfl (Or.inl rfl) pe_int iop_shlW)
    (pss_one (ps_if (pt_cmpR op_gt (pv 5) (pv 4) (nomark _)) (pss_cons (ps_set (i := 5) sc_remainder.nd rfl (Or.inl rfl) (pe_op op_xor (pe_op op_and (pv 5) (pv 4)) (pv 3)))
    pss_nil) pss_nil))))
    pss_nil)))
    (pss_one (ps_ret (pv 5)))))), ?_⟩
    refine sl (σ' := [some (.ref a_data_), some (.int start_), some (.int width_), some (.int polynomial_), none, none, none, none]) rfl ?_
    obtain ⟨n1, hn1, hm⟩ := of_bind hm
    obtain ⟨mask_2, hmask_2, hm⟩ := of_bnd hm
    refine g_asg (i := 4) (v := .int mask_2) (σ' := [some (.ref a_data_), some (.int start_), some (.int width_), some (.int polynomial_), some (.int mask_2), none, none, none]) F0 (ev_cg (f := V.int) (ev_op (ev_op ev_c (ev_var (n := 2) rfl) (rv_shl hn1)) ev_c rv_I0) hmask_2) rfl fun H F3 => ?_
    refine g_asg (i := 5) (v := .int start_) (σ' := [some (.ref a_data_), some (.int start_), some (.int width_), some (.int polynomial_), some (.int mask_2), some (.int start_), none, none]) F3 (ev_var (n := 1) rfl) rfl fun H F4 => ?_
    obtain ⟨r7, hl2042, hm⟩ := of_bind hm
    refine w_forM hl2042 (its_map V.int data_) (fun s6 σ H => ∃ (u_byte_ : Option V) (u_w_ : Option V), σ = [some (.ref a_data_), some (.int start_), some (.int width_), some (.int polynomial_), some (.int mask_2), some (.int s6), u_byte_, u_w_] ∧ Fr B (cs) H) F4 (ev_var (n := 0) rfl) (Or.inl b_data_) (fun H F => ?_) ?_ ?_ ?_
    · exact ⟨_, _, rfl, F⟩
    · rintro s6 _ H ⟨_, _, rfl, F⟩
      exact RdS.at (Or.inl b_data_) F
    · rintro _ H ⟨u_byte_, u_w_, rfl, F2043⟩
      obtain rfl := Option.some.inj hm
      refine g_ret F2043 (ev_var (n := 5) rfl) fun H F2044 => ?_
      exact k _ F2044
    · rintro byte_5 iv15 s6 r' _ H N hi14 hb ⟨u_byte_, u_w_, rfl, F1016⟩ hN9
      have ho13 := hm; clear hm; have hm := hb; clear hb
      obtain rfl := hi14
      refine gn (σ' := [some (.ref a_data_), some (.int start_), some (.int width_), some (.int polynomial_), some (.int mask_2), some (.int s6), some (.int byte_5), u_w_]) rfl ?_
      obtain ⟨n1017, hn1017, hm⟩ := of_bind hm
      obtain ⟨checksum_1018, hchecksum_1018, hm⟩ := of_bnd hm
      refine g_aug (i := 5) (z := .int checksum_1018) (σ' := [some (.ref a_data_), some (.int start_), some (.int width_), some (.int polynomial_), some (.int mask_2), some (.int checksum_1018), some (.int byte_5), u_w_]) F1016 rfl (ev_op (ev_var (n := 6) rfl) (ev_op (ev_var (n := 2) rfl) ev_c rv_I0) (rv_shl hn1017)) (rv_cg hchecksum_1018 rv_I0) rfl fun H F1019 => ?_
      obtain ⟨r1020, hr1020, hm⟩ := of_bind hm
      obtain ⟨r1023, hl2040, hm⟩ := of_bind hm
      refine w_rngM1 hr1020 hl2040 (fun s1022 σ H => ∃ (u_w_ : Option V), σ = [some (.ref a_data_), some (.int start_), some (.int width_), some (.int polynomial_), some (.int mask_2), some (.int s1022), some (.int byte_5), u_w_] ∧ Fr B (cs) H) F1019 (ea_cons ev_c ea_nil) (fun H F => ?_) ?_ ?_
      · exact ⟨_, rfl, F⟩
      · rintro _ H ⟨u_w_, rfl, F2041⟩
        obtain rfl := Option.some.inj hm
        exact hN9 _ _ ⟨_, _, rfl, F2041⟩
      · rintro w_1021 iv1031 s1022 r' _ H N hi1030 hb ⟨u_w_, rfl, F2032⟩ hN1025
        have ho1029 := hm; clear hm; have hm := hb; clear hb
        obtain rfl := hi1030
        refine gn (σ' := [some (.ref a_data_), some (.int start_), some (.int width_), some (.int polynomial_), some (.int mask_2), some (.int s1022), some (.int byte_5), some (.int w_1021)]) rfl ?_
        obtain ⟨n2033, hn2033, hm⟩ := of_bind hm
        refine g_aug (i := 5) (z := .int n2033) (σ' := [some (.ref a_data_), some (.int start_), some (.int width_), some (.int polynomial_), some (.int mask_2), some (.int n2033), some (.int byte_5), some (.int w_1021)]) F2032 rfl ev_c (rv_shl hn2033) rfl fun H F2034 => ?_
        refine s_when F2034 (et_test (ev_op (ev_var (n := 5) rfl) (ev_var (n := 4) rfl) rv_I0)) (fun hb2035 H F => ?_) (fun hb2035 H F => ?_)
        · have F2036 := F
          replace hm := of_ifT hb2035 hm
          obtain ⟨checksum_2037, hchecksum_2037, hm⟩ := of_bnd hm
          refine g_asg (i := 5) (v := .int checksum_2037) (σ' := [some (.ref a_data_), some (.int start_), some (.int width_), some (.int polynomial_), some (.int mask_2), some (.int checksum_2037), some (.int byte_5), some (.int w_1021)]) F2036 (ev_cg (f := V.int) (ev_op (ev_op (ev_var (n := 5) rfl) (ev_var (n := 4) rfl) rv_I0) (ev_var (n := 3) rfl) rv_I0) hchecksum_2037) rfl fun H F2038 => ?_
          obtain rfl := Option.some.inj hm
          exact hN1025 _ _ ⟨_, rfl, F2038⟩
        · have F2039 := F
          replace hm := of_ifF hb2035 hm
          obtain rfl := Option.some.inj hm
          exact hN1025 _ _ ⟨_, rfl, F2039⟩

def sp_crc8 (K : PySem.W.Frag) (G : Cl) : Sp := fun vs H Q _ => ∃ (B : Hp) (cs : Cs) (a_data_ : Addr) (data_ : List Int) (start_ : Int) (res : Int), vs = [.ref a_data_, .int start_] ∧ Fr B cs H ∧ Rd B cs a_data_ (.lst (List.map V.int data_)) ∧ m_crc8 data_ start_ = some res ∧ ∀ H', Fr B cs H' → Q (.int res) H'
abbrev s_crc8 : Stmt := topS 2
theorem sc_crc8 : FnScope ["data", "start"] ["data", "start"] (defScope s_crc8) := ⟨rfl, rfl, rfl, by decide +kernel, rfl, by decide +kernel, by decide +kernel⟩
theorem ok_crc8 {P : Program} {w : World} {K : PySem.W.Frag} {G : Cl} {mg : Str → Option Value} {base : Heap} {fa : Addr} {fd : FuncData} (F : FunD K "crc8" "crc8" (defArgs s_crc8) (defBody s_crc8) (defScope s_crc8) [.int 0] [] fa fd) (T : Txt K mg) {f_remainder : Addr} {fd_remainder : FuncData} (G_remainder : FnOk P w K mg base CX0 1 f_remainder fd_remainder ["data", "start", "width", "polynomial"] (sp_remainder K G)) (C_remainder : Cal K mg "_remainder" f_remainder fd_remainder ["data", "start", "width", "polynomial"]) : FnOk P w K mg base CX0 2 fa fd ["data", "start"] (sp_crc8 K G) := by
  refine fund_ok F sc_crc8 (fun vs H Q E h => ?_) (fun cdv A outer s HB vs Q E hr h => ?_)
  · obtain ⟨B, cs, a_data_, data_, start_, res, rfl, _⟩ := h
    rfl
  · obtain ⟨B, cs, a_data_, data_, start_, res, rfl, F0, b_data_, hm, k⟩ := h
    unfold m_crc8 at hm
    refine ⟨_, (pss_one (ps_ret (pe_call G_remainder (hr.mono (by decide)) rfl C_remainder.g C_remainder.k C_remainder.b .nil pass0 (pa_cons (pv 0) (pa_cons (pv 1) (pa_cons pe_int (pa_cons pe_int pa_nil))))))), ?_⟩
    refine sl (σ' := [some (.ref a_data_), some (.int start_)]) rfl ?_
    obtain ⟨c1, hc1, hm⟩ := of_bind hm
    obtain rfl := Option.some.inj hm
    refine g_ret F0 (ev_call (ea_cons (ev_var (n := 0) rfl) (ea_cons (ev_var (n := 1) rfl) (ea_cons ev_c (ea_cons ev_c ea_nil)))) (fun ys H F Q q => ⟨_, _, _, data_, start_, 8, 7, c1, rfl, F, (Rd.app b_data_), hc1, q⟩)) fun H F2 => ?_
    exact k _ F2

def sp_crc16 (K : PySem.W.Frag) (G : Cl) : Sp := fun vs H Q _ => ∃ (B : Hp) (cs : Cs) (a_data_ : Addr) (data_ : List Int) (start_ : Int) (res : Int), vs = [.ref a_data_, .int start_] ∧ Fr B cs H ∧ Rd B cs a_data_ (.lst (List.map V.int data_)) ∧ m_crc16 data_ start_ = some res ∧ ∀ H', Fr B cs H' → Q (.int res) H'
abbrev s_crc16 : Stmt := topS 3
theorem sc_crc16 : FnScope ["data", "start"] ["data", "start"] (defScope s_crc16) := ⟨rfl, rfl, rfl, by decide +kernel, rfl, by decide +kernel, by decide +kernel⟩
theorem ok_crc16 {P : Program} {w : World} {K : PySem.W.Frag} {G : Cl} {mg : Str → Option Value} {base : Heap} {fa : Addr} {fd : FuncData} (F : FunD K "crc16" "crc16" (defArgs s_crc16) (defBody s_crc16) (defScope s_crc16) [.int 0] [] fa fd) (T : Txt K mg) {f_remainder : Addr} {fd_remainder : FuncData} (G_remainder : FnOk P w K mg base CX0 1 f_remainder fd_remainder ["data", "start", "width", "polynomial"] (sp_remainder K G)) (C_remainder : Cal K mg "_remainder" f_remainder fd_remainder ["data", "start", "width", "polynomial"]) : FnOk P w K mg base CX0 2 fa fd ["data", "start"] (sp_crc16 K G) := by
  refine fund_ok F sc_crc16 (fun vs H Q E h => ?_) (fun cdv A outer s HB vs Q E hr h => ?_)
  · obtain ⟨B, cs, a_data_, data_, start_, res, rfl, _⟩ := h
    rfl
  · obtain ⟨B, cs, a_data_, data_, start_, res, rfl, F0, b_data_, hm, k⟩ := h
    unfold m_crc16 at hm
    refine ⟨_, (pss_one (ps_ret (pe_call G_remainder (hr.mono (by decide)) rfl C_remainder.g C_remainder.k C_remainder.b .nil pass0 (pa_cons (pv 0) (pa_cons (pv 1) (pa_cons pe_int (pa_cons pe_int pa_nil))))))), ?_⟩
    refine sl (σ' := [some (.ref a_data_), some (.int start_)]) rfl ?_
    obtain ⟨c1, hc1, hm⟩ := of_bind hm
    obtain rfl := Option.some.inj hm
    refine g_ret F0 (ev_call (ea_cons (ev_var (n := 0) rfl) (ea_cons (ev_var (n := 1) rfl) (ea_cons ev_c (ea_cons ev_c ea_nil)))) (fun ys H F Q q => ⟨_, _, _, data_, start_, 16, 32773, c1, rfl, F, (Rd.app b_data_), hc1, q⟩)) fun H F2 => ?_
    exact k _ F2

def sp_crc32 (K : PySem.W.Frag) (G : Cl) : Sp := fun vs H Q _ => ∃ (B : Hp) (cs : Cs) (a_data_ : Addr) (data_ : List Int) (start_ : Int) (res : Int), vs = [.ref a_data_, .int start_] ∧ Fr B cs H ∧ Rd B cs a_data_ (.lst (List.map V.int data_)) ∧ m_crc32 data_ start_ = some res ∧ ∀ H', Fr B cs H' → Q (.int res) H'
abbrev s_crc32 : Stmt := topS 4
theorem sc_crc32 : FnScope ["data", "start"] ["data", "start"] (defScope s_crc32) := ⟨rfl, rfl, rfl, by decide +kernel, rfl, by decide +kernel, by decide +kernel⟩
theorem ok_crc32 {P : Program} {w : World} {K : PySem.W.Frag} {G : Cl} {mg : Str → Option Value} {base : Heap} {fa : Addr} {fd : FuncData} (F : FunD K "crc32" "crc32" (defArgs s_crc32) (defBody s_crc32) (defScope s_crc32) [.int 0] [] fa fd) (T : Txt K mg) {f_remainder : Addr} {fd_remainder : FuncData} (G_remainder : FnOk P w K mg base CX0 1 f_remainder fd_remainder ["data", "start", "width", "polynomial"] (sp_remainder K G)) (C_remainder : Cal K mg "_remainder" f_remainder fd_remainder ["data", "start", "width", "polynomial"]) : FnOk P w K mg base CX0 2 fa fd ["data", "start"] (sp_crc32 K G) := by
  refine fund_ok F sc_crc32 (fun vs H Q E h => ?_) (fun cdv A outer s HB vs Q E hr h => ?_)
  · obtain ⟨B, cs, a_data_, data_, start_, res, rfl, _⟩ := h
    rfl
  · obtain ⟨B, cs, a_data_, data_, start_, res, rfl, F0, b_data_, hm, k⟩ := h
    unfold m_crc32 at hm
    refine ⟨_, (pss_one (ps_ret (pe_call G_remainder (hr.mono (by decide)) rfl C_remainder.g C_remainder.k C_remainder.b .nil pass0 (pa_cons (pv 0) (pa_cons (pv 1) (pa_cons pe_int (pa_cons pe_int pa_nil))))))), ?_⟩
    refine sl (σ' := [some (.ref a_data_), some (.int start_)]) rfl ?_
    obtain ⟨c1, hc1, hm⟩ := of_bind hm
    obtain rfl := Option.some.inj hm
    refine g_ret F0 (ev_call (ea_cons (ev_var (n := 0) rfl) (ea_cons (ev_var (n := 1) rfl) (ea_cons ev_c (ea_cons ev_c ea_nil)))) (fun ys H F Q q => ⟨_, _, _, data_, start_, 32, 79764919, c1, rfl, F, (Rd.app b_data_), hc1, q⟩)) fun H F2 => ?_
    exact k _ F2

def sp_l_told (K : PySem.W.Frag) (G : Cl) : Sp := fun vs H Q _ => ∃ (B : Hp) (cs : Cs) (a_data_ : Addr) (data_ : List Int) (width_ : Int) (res : Int), vs = [.ref a_data_, .int width_] ∧ Fr B cs H ∧ Rd B cs a_data_ (.lst (List.map V.int data_)) ∧ m_l_told data_ width_ = some res ∧ ∀ H', Fr B cs H' → Q (.int res) H'
abbrev s_l_told : Stmt := topS 8
theorem sc_l_told : FnScope ["_law_data", "_law_width"] ["_law_data", "_law_width"] (defScope s_l_told) := ⟨rfl, rfl, rfl, by decide +kernel, rfl, by decide +kernel, by decide +kernel⟩
theorem ok_l_told {P : Program} {w : World} {K : PySem.W.Frag} {G : Cl} {mg : Str → Option Value} {base : Heap} {fa : Addr} {fd : FuncData} (F : Fun K "_law_told" "_law_told" s_l_told fa fd) (T : Txt K mg) {f_crc8 : Addr} {fd_crc8 : FuncData} (G_crc8 : FnOk P w K mg base CX0 2 f_crc8 fd_crc8 ["data", "start"] (sp_crc8 K G)) (C_crc8 : CalD K mg "crc8" f_crc8) (A_crc8_0 : ∃ ds, Vals [.int 0] ds ∧ Binds K fd_crc8 ["data", "start"] ds) {f_crc16 : Addr} {fd_crc16 : FuncData} (G_crc16 : FnOk P w K mg base CX0 2 f_crc16 fd_crc16 ["data", "start"] (sp_crc16 K G)) (C_crc16 : CalD K mg "crc16" f_crc16) (A_crc16_0 : ∃ ds, Vals [.int 0] ds ∧ Binds K fd_crc16 ["data", "start"] ds) {f_crc32 : Addr} {fd_crc32 : FuncData} (G_crc32 : FnOk P w K mg base CX0 2 f_crc32 fd_crc32 ["data", "start"] (sp_crc32 K G)) (C_crc32 : CalD K mg "crc32" f_crc32) (A_crc32_0 : ∃ ds, Vals [.int 0] ds ∧ Binds K fd_crc32 ["data", "start"] ds) : FnOk P w K mg base CX0 3 fa fd ["_law_data", "_law_width"] (sp_l_told K G) := by
  refine F.ok sc_l_told (fun vs H Q E h => ?_) (fun cdv A outer s HB vs Q E hr h => ?_)
  · obtain ⟨B, cs, a_data_, data_, width_, res, rfl, _⟩ := h
    rfl
  · obtain ⟨B, cs, a_data_, data_, width_, res, rfl, F0, b_data_, hm, k⟩ := h
    obtain ⟨ds_crc8_0, v_crc8_0, b_crc8_0⟩ := A_crc8_0
    obtain ⟨ds_crc16_0, v_crc16_0, b_crc16_0⟩ := A_crc16_0
    obtain ⟨ds_crc32_0, v_crc32_0, b_crc32_0⟩ := A_crc32_0
    unfold m_l_told at hm
    refine ⟨_, (pss_cons (ps_if (pt_cmpR op_eq (pv 1) pe_int (nomark _)) (pss_one (ps_ret (pe_call G_crc8 (hr.mono (by decide)) rfl C_crc8.g C_crc8.k b_crc8_0 v_crc8_0 pass0 (pa_cons (pv 0) pa_nil)))) pss_nil)
    (pss_cons (ps_if (pt_cmpR op_eq (pv 1) pe_int (nomark _)) (pss_one (ps_ret (pe_call G_crc16 (hr.mono (by decide)) rfl C_crc16.g C_crc16.k b_crc16_0 v_crc16_0 pass0 (pa_cons (pv 0) pa_nil)))) pss_nil)
    (pss_one (ps_ret (pe_call G_crc32 (hr.mono (by decide)) rfl C_crc32.g C_crc32.k b_crc32_0 v_crc32_0 pass0 (pa_cons (pv 0) pa_nil)))))), ?_⟩
    refine sl (σ' := [some (.ref a_data_), some (.int width_)]) rfl ?_
    refine g_when F0 (et_test (ev_op (ev_var (n := 1) rfl) ev_c rv_eqI)) (fun hb1 H F => ?_) (fun hb1 H F => ?_)
    · have F2 := F
      replace hm := of_ifT hb1 hm
      obtain ⟨c3, hc3, hm⟩ := of_bind hm
      obtain rfl := Option.some.inj hm
      refine g_ret F2 (ev_call (ea_cons (ev_var (n := 0) rfl) ea_nil) (fun ys H F Q q => ⟨_, _, _, data_, 0, c3, rfl, F, (Rd.app b_data_), hc3, q⟩)) fun H F4 => ?_
      exact k _ F4
    · have F5 := F
      replace hm := of_ifF hb1 hm
      refine g_when F5 (et_test (ev_op (ev_var (n := 1) rfl) ev_c rv_eqI)) (fun hb6 H F => ?_) (fun hb6 H F => ?_)
      · have F7 := F
        replace hm := of_ifT hb6 hm
        obtain ⟨c8, hc8, hm⟩ := of_bind hm
        obtain rfl := Option.some.inj hm
        refine g_ret F7 (ev_call (ea_cons (ev_var (n := 0) rfl) ea_nil) (fun ys H F Q q => ⟨_, _, _, data_, 0, c8, rfl, F, (Rd.app b_data_), hc8, q⟩)) fun H F9 => ?_
        exact k _ F9
      · have F10 := F
        replace hm := of_ifF hb6 hm
        obtain ⟨c11, hc11, hm⟩ := of_bind hm
        obtain rfl := Option.some.inj hm
        refine g_ret F10 (ev_call (ea_cons (ev_var (n := 0) rfl) ea_nil) (fun ys H F Q q => ⟨_, _, _, data_, 0, c11, rfl, F, (Rd.app b_data_), hc11, q⟩)) fun H F12 => ?_
        exact k _ F12

def sp_l_changed (K : PySem.W.Frag) (G : Cl) : Sp := fun vs H Q _ => ∃ (B : Hp) (cs : Cs) (a_data_ : Addr) (data_ : List Int) (at_ : Int) (pattern_here_ : Int) (size_ : Int) (res : List Int), vs = [.ref a_data_, .int at_, .int pattern_here_, .int size_] ∧ Fr B cs H ∧ Rd B cs a_data_ (.lst (List.map V.int data_)) ∧ m_l_changed data_ at_ pattern_here_ size_ = some res ∧ ∀ p H', Fr B ((p, .lst (List.map V.int res)) :: cs) H' → Q (.ref p) H'
abbrev s_l_changed : Stmt := topS 9
theorem sc_l_changed : FnScope ["_law_data", "_law_at", "_law_pattern_here", "_law_size", "_law_result", "_law_k", "_law_bit"] ["_law_data", "_law_at", "_law_pattern_here", "_law_size"] (defScope s_l_changed) := ⟨rfl, rfl, rfl, by decide +kernel, rfl, by decide +kernel, by decide +kernel⟩
theorem ok_l_changed {P : Program} {w : World} {K : PySem.W.Frag} {G : Cl} {mg : Str → Option Value} {base : Heap} {fa : Addr} {fd : FuncData} (F : Fun K "_law_changed" "_law_changed" s_l_changed fa fd) (T : Txt K mg) : FnOk P w K mg base CX0 1 fa fd ["_law_data", "_law_at", "_law_pattern_here", "_law_size"] (sp_l_changed K G) := by
  refine F.ok sc_l_changed (fun vs H Q E h => ?_) (fun cdv A outer s HB vs Q E hr h => ?_)
  · obtain ⟨B, cs, a_data_, data_, at_, pattern_here_, size_, res, rfl, _⟩ := h
    rfl
  · obtain ⟨B, cs, a_data_, data_, at_, pattern_here_, size_, res, rfl, F0, b_data_, hm, k⟩ := h
    unfold m_l_changed at hm
    refine ⟨_, (pss_cons (ps_set (i := 4) sc_l_changed.nd rfl (Or.inl rfl) (pe_callTy (kLst (K := K)) (by rfl) T.b_list (by decide +kernel) (pa_cons (pv 0) pa_nil)))
    (pss_cons (ps_for PassesOwn.never rfl (pi_range1 rfl T.b_range (pa_cons (pv 3) pa_nil)) (pg_name (i := 5) sc_l_changed.nd rfl (Or.inl rfl))
      (pss_cons (ps_set (i := 6) sc_l_changed.nd rfl (Or.inl rfl) (pe_op op_add (pv 1) (pv 5)))
    (pss_one (ps_if (PW.pt (pw_and (pt_cmpR op_lt (pv 6) (pe_op op_mul pe_int (pe_callB (kLen (K := K)) (by rfl) T.b_len (by decide +kernel) (pa_cons (pv 0) pa_nil))) (nomark _)) (pw_and1 (pt_cmpR op_eq (pe_op op_and (pe_op op_shr (pv 2) (pv 5)) pe_int) pe_int (nomark _))))) (pss_cons (ps_asg (pe_op op_xor (pe_ix (kIx (K := K)) (pv 4) (pe_op op_fdiv (pv 6) pe_int) (fun _ _ => rfl)) (pe_op op_shlW pe_int (pe_op op_sub pe_int (pe_op op_mod (pe_callTy cr_int (by rfl) T.b_int (by decide +kernel) (pa_cons (pv 6) pa_nil)) pe_int)))) (pg_sub (pv 4) (pe_op op_fdiv (pv 6) pe_int) set_list))
    pss_nil) pss_nil))))
    (pss_one (ps_ret (pv 4))))), ?_⟩
    refine sl (σ' := [some (.ref a_data_), some (.int at_), some (.int pattern_here_), some (.int size_), none, none, none]) rfl ?_
    refine g_asgN (i := 4) (o := .lst (List.map V.int data_)) F0 (en_cb (ea_cons (ev_var (n := 0) rfl) ea_nil) (rc_list (vs := List.map V.int data_) (Or.inl b_data_))) fun p1 H F2 => ?_
    refine sl (σ' := [some (.ref a_data_), some (.int at_), some (.int pattern_here_), some (.int size_), some (.ref p1), none, none]) rfl ?_
    obtain ⟨r3, hr3, hm⟩ := of_bind hm
    obtain ⟨r6, hl1027, hm⟩ := of_bind hm
    refine w_rngM1 hr3 hl1027 (fun s5 σ H => ∃ (u_k_ : Option V) (u_bit_ : Option V), σ = [some (.ref a_data_), some (.int at_), some (.int pattern_here_), some (.int size_), some (.ref p1), u_k_, u_bit_] ∧ Fr B ((p1, .lst (List.map V.int s5)) :: cs) H) F2 (ea_cons (ev_var (n := 3) rfl) ea_nil) (fun H F => ?_) ?_ ?_
    · exact ⟨_, _, rfl, F⟩
    · rintro _ H ⟨u_k_, u_bit_, rfl, F1028⟩
      obtain rfl := Option.some.inj hm
      refine g_ret F1028 (ev_var (n := 4) rfl) fun H F1029 => ?_
      exact k _ _ F1029
    · rintro k_4 iv14 s5 r' _ H N hi13 hb ⟨u_k_, u_bit_, rfl, F1015⟩ hN8
      have ho12 := hm; clear hm; have hm := hb; clear hb
      obtain rfl := hi13
      refine gn (σ' := [some (.ref a_data_), some (.int at_), some (.int pattern_here_), some (.int size_), some (.ref p1), some (.int k_4), u_bit_]) rfl ?_
      obtain ⟨bit_1016, hbit_1016, hm⟩ := of_bnd hm
      refine g_asg (i := 6) (v := .int bit_1016) (σ' := [some (.ref a_data_), some (.int at_), some (.int pattern_here_), some (.int size_), some (.ref p1), some (.int k_4), some (.int bit_1016)]) F1015 (ev_cg (f := V.int) (ev_op (ev_var (n := 1) rfl) (ev_var (n := 5) rfl) rv_I0) hbit_1016) rfl fun H F1017 => ?_
      obtain ⟨b1019, hb1019, hm⟩ := of_bind hm
      refine s_when F1017 (et_andO hb1019 (et_test (ev_op (ev_var (n := 6) rfl) (ev_op ev_c (ev_cb (ea_cons (ev_var (n := 0) rfl) ea_nil) (rc_len (f := V.int) (Or.inl (Rd.dn 1 b_data_)))) (rv_mulL _)) rv_I0)) (fun y hy => by obtain ⟨n1018, hn1018, hy⟩ := of_bind hy; obtain rfl := Option.some.inj hy; exact (et_test (ev_op (ev_op (ev_op (ev_var (n := 2) rfl) (ev_var (n := 5) rfl) (rv_shr hn1018)) ev_c rv_I0) ev_c rv_eqI)))) (fun hb1020 H F => ?_) (fun hb1020 H F => ?_)
      · have F1021 := F
        replace hm := of_ifT hb1020 hm
        obtain ⟨x1022, hx1022, hm⟩ := of_bind hm
        obtain ⟨n1023, hn1023, hm⟩ := of_bind hm
        obtain ⟨l1024, hl1024, hm⟩ := of_bind hm
        refine g_set (f := V.int) (i := 0) F1021 hl1024 (ev_op (ev_op (ev_var (n := 4) rfl) (ev_op (ev_var (n := 6) rfl) ev_c (rv_divK _)) (rv_ix (f := V.int) hx1022 (Or.inl (Rd.own 0 rfl)))) (ev_op ev_c (ev_op ev_c (ev_op (ev_int (ev_var (n := 6) rfl)) ev_c (rv_modK _)) rv_I0) (rv_shl hn1023)) rv_I0) (ev_var (n := 4) rfl) (ev_op (ev_var (n := 6) rfl) ev_c (rv_divK _)) rfl rfl fun H F1025 => ?_
        obtain rfl := Option.some.inj hm
        exact hN8 _ _ ⟨_, _, rfl, F1025⟩
      · have F1026 := F
        replace hm := of_ifF hb1020 hm
        obtain rfl := Option.some.inj hm
        exact hN8 _ _ ⟨_, _, rfl, F1026⟩

def sp_law (K : PySem.W.Frag) (G : Cl) : Sp := fun vs H Q _ => ∃ (B : Hp) (cs : Cs) (a_script_ : Addr) (script_ : List Int) (res : Bool), vs = [.ref a_script_] ∧ Fr B cs H ∧ RdS K B cs a_script_ (List.map V.int script_) ∧ m_law script_ = some res ∧ ∀ H', Fr B cs H' → Q (.bl res) H'
abbrev s_law : Stmt := topS 11
theorem sc_law : FnScope ["_law_script", "_law_many", "_law_data", "_law_other", "_law_both", "_law_k", "_law_width", "_law_size", "_law_pattern_here", "_law_at", "_law_told_here", "_law_own", "_law_j"] ["_law_script"] (defScope s_law) := ⟨rfl, rfl, rfl, by decide +kernel, rfl, by decide +kernel, by decide +kernel⟩
theorem ok_law {P : Program} {w : World} {K : PySem.W.Frag} {G : Cl} {mg : Str → Option Value} {base : Heap} {fa : Addr} {fd : FuncData} (F : Fun K "law" "law" s_law fa fd) (T : Txt K mg) {f_l_cell : Addr} {fd_l_cell : FuncData} (G_l_cell : FnOk P w K mg base CX0 1 f_l_cell fd_l_cell ["_law_script", "_law_k"] (sp_l_cell K G)) (C_l_cell : Cal K mg "_law_cell" f_l_cell fd_l_cell ["_law_script", "_law_k"]) {f_l_draw : Addr} {fd_l_draw : FuncData} (G_l_draw : FnOk P w K mg base CX0 1 f_l_draw fd_l_draw ["_law_cell_here", "_law_many", "_law_bound"] (sp_l_draw K G)) (C_l_draw : Cal K mg "_law_draw" f_l_draw fd_l_draw ["_law_cell_here", "_law_many", "_law_bound"]) {f_l_pattern : Addr} {fd_l_pattern : FuncData} (G_l_pattern : FnOk P w K mg base CX0 1 f_l_pattern fd_l_pattern ["_law_cell_here", "_law_width"] (sp_l_pattern K G)) (C_l_pattern : Cal K mg "_law_pattern" f_l_pattern fd_l_pattern ["_law_cell_here", "_law_width"]) {f_l_told : Addr} {fd_l_told : FuncData} (G_l_told : FnOk P w K mg base CX0 3 f_l_told fd_l_told ["_law_data", "_law_width"] (sp_l_told K G)) (C_l_told : Cal K mg "_law_told" f_l_told fd_l_told ["_law_data", "_law_width"]) {f_l_changed : Addr} {fd_l_changed : FuncData} (G_l_changed : FnOk P w K mg base CX0 1 f_l_changed fd_l_changed ["_law_data", "_law_at", "_law_pattern_here", "_law_size"] (sp_l_changed K G)) (C_l_changed : Cal K mg "_law_changed" f_l_changed fd_l_changed ["_law_data", "_law_at", "_law_pattern_here", "_law_size"]) : FnOk P w K mg base CX0 4 fa fd ["_law_script"] (sp_law K G) := by
  refine F.ok sc_law (fun vs H Q E h => ?_) (fun cdv A outer s HB vs Q E hr h => ?_)
  · obtain ⟨B, cs, a_script_, script_, res, rfl, _⟩ := h
    rfl
  · obtain ⟨B, cs, a_script_, script_, res, rfl, F0, b_script_, hm, k⟩ := h
    unfold m_law at hm
    refine ⟨_, (pss_cons (ps_set (i := 1) sc_law.nd rfl (Or.inl rfl) (pe_op op_add pe_int (pe_op op_mod (pe_callTy cr_int (by rfl) T.b_int (by decide +kernel) (pa_cons (pe_call G_l_cell (hr.mono (by decide)) rfl C_l_cell.g C_l_cell.k C_l_cell.b .nil pass0 (pa_cons (pv 0) (pa_cons pe_int pa_nil))) pa_nil)) pe_int)))
    (pss_cons (ps_set (i := 2) sc_law.nd rfl (Or.inr rfl) (pe_call G_l_draw (hr.mono (by decide)) rfl C_l_draw.g C_l_draw.k C_l_draw.b .nil pass0 (pa_cons (pe_call G_l_cell (hr.mono (by decide)) rfl C_l_cell.g C_l_cell.k C_l_cell.b .nil pass0 (pa_cons (pv 0) (pa_cons pe_int pa_nil))) (pa_cons (pv 1) (pa_cons pe_int pa_nil)))))
    (pss_cons (ps_set (i := 3) sc_law.nd rfl (Or.inr rfl) (pe_call G_l_draw (hr.mono (by decide)) rfl C_l_draw.g C_l_draw.k C_l_draw.b .nil pass0 (pa_cons (pe_call G_l_cell (hr.mono (by decide)) rfl C_l_cell.g C_l_cell.k C_l_cell.b .nil pass0 (pa_cons (pv 0) (pa_cons pe_int pa_nil))) (pa_cons (pv 1) (pa_cons pe_int pa_nil)))))
    (pss_cons (ps_setLc (i := 4) (own := [("_law_k", 5)]) (g := gName 5) (tt := tYes) rfl sc_law.nd rfl rfl (sw_true rfl rfl rfl (by decide +kernel)) (pi_range1 rfl T.b_range (pa_cons (pv 1) pa_nil)) (blkOk_by (N := ["_law_script", "_law_many", "_law_data", "_law_other", "_law_both", "_law_k", "_law_width", "_law_size", "_law_pattern_here", "_law_at", "_law_told_here", "_law_own", "_law_j"]) (sc := defScope s_law) (by decide +kernel)) (fun _ _ _ _ _ => pg_name (i := 5) sc_law.nd rfl (Or.inl rfl)) (fun _ _ _ _ _ => pts_nil) (fun _ _ _ _ _ => (pe_op op_xor (pe_ix (kIx (K := K)) (pv 2) (pv 5) (fun _ _ => rfl)) (pe_ix (kIx (K := K)) (pv 3) (pv 5) (fun _ _ => rfl)))))
    (pss_cons (ps_for PassesOwn.never rfl (pi_range1 rfl T.b_range (pa_cons pe_int pa_nil)) (pg_name (i := 5) sc_law.nd rfl (Or.inl rfl))
      (pss_cons (ps_set (i := 6) sc_law.nd rfl (Or.inr rfl) (pe_ix (kIx (K := K)) (pe_lst (pa_cons pe_int (pa_cons pe_int (pa_cons pe_int pa_nil)))) (pv 5) (fun _ _ => rfl)))
    (pss_cons (ps_asg (pe_call G_l_pattern (hr.mono (by decide)) rfl C_l_pattern.g C_l_pattern.k C_l_pattern.b .nil pass0 (pa_cons (pe_call G_l_cell (hr.mono (by decide)) rfl C_l_cell.g C_l_cell.k C_l_cell.b .nil pass0 (pa_cons (pv 0) (pa_cons (pe_op op_add pe_int (pv 5)) pa_nil))) (pa_cons (pv 6) pa_nil))) (pg_tup (by rfl) (pgs_cons (pg_name (i := 7) sc_law.nd rfl (Or.inl rfl)) (pgs_cons (pg_name (i := 8) sc_law.nd rfl (Or.inl rfl)) pgs_nil))))
    (pss_cons (ps_set (i := 9) sc_law.nd rfl (Or.inl rfl) (pe_op op_mod (pe_callTy cr_int (by rfl) T.b_int (by decide +kernel) (pa_cons (pe_call G_l_cell (hr.mono (by decide)) rfl C_l_cell.g C_l_cell.k C_l_cell.b .nil pass0 (pa_cons (pv 0) (pa_cons (pe_op op_add pe_int (pv 5)) pa_nil))) pa_nil)) (pe_op op_mul pe_int (pv 1))))
    (pss_cons (ps_set (i := 10) sc_law.nd rfl (Or.inr rfl) (pe_call G_l_told (hr.mono (by decide)) rfl C_l_told.g C_l_told.k C_l_told.b .nil pass0 (pa_cons (pe_callTy (kLst (K := K)) (by rfl) T.b_list (by decide +kernel) (pa_cons (pv 2) pa_nil)) (pa_cons (pv 6) pa_nil))))
    (pss_cons (ps_if (PW.pt (pw_or (pt_not (pt_val (pe_callB (kIsi (K := K)) (by rfl) T.b_isinstance (by decide +kernel) (pa_cons (pv 10) (pa_cons (pe_bltn (v := .ty "int") (by rfl) T.b_int (by decide +kernel) rfl) pa_nil))))) (pw_or (pt_val (pe_callB (kIsi (K := K)) (by rfl) T.b_isinstance (by decide +kernel) (pa_cons (pv 10) (pa_cons (pe_bltn (v := .ty "bool") (by rfl) T.b_bool (by decide +kernel) rfl) pa_nil)))) (pw_or (pt_cmpR op_lt (pv 10) pe_int (nomark _)) (pw_or1 (pt_cmpR op_ge (pv 10) (pe_op op_shlW pe_int (pv 6)) (nomark _))))))) (pss_one (ps_ret pe_bl)) pss_nil)
    (pss_cons (ps_if (pt_cmpR op_eq (pe_call G_l_told (hr.mono (by decide)) rfl C_l_told.g C_l_told.k C_l_told.b .nil pass0 (pa_cons (pe_call G_l_changed (hr.mono (by decide)) rfl C_l_changed.g C_l_changed.k C_l_changed.b .nil pass0 (pa_cons (pv 2) (pa_cons (pv 9) (pa_cons (pv 8) (pa_cons (pv 7) pa_nil))))) (pa_cons (pv 6) pa_nil))) (pv 10) (nomark _)) (pss_one (ps_ret pe_bl)) pss_nil)
    (pss_cons (ps_setLc (i := 11) (own := [("_law_j", 12)]) (g := gName 12) (tt := tYes) rfl sc_law.nd rfl rfl (sw_true rfl rfl rfl (by decide +kernel)) (pi_range1 rfl T.b_range (pa_cons (pe_op op_fdiv (pv 6) pe_int) pa_nil)) (blkOk_by (N := ["_law_script", "_law_many", "_law_data", "_law_other", "_law_both", "_law_k", "_law_width", "_law_size", "_law_pattern_here", "_law_at", "_law_told_here", "_law_own", "_law_j"]) (sc := defScope s_law) (by decide +kernel)) (fun _ _ _ _ _ => pg_name (i := 12) sc_law.nd rfl (Or.inl rfl)) (fun _ _ _ _ _ => pts_nil) (fun _ _ _ _ _ => (pe_op op_and (pe_op op_shr (pv 10) (pe_op op_sub (pe_op op_sub (pv 6) pe_int) (pe_op op_mul pe_int (pv 12)))) pe_int)))
    (pss_cons (ps_if (pt_cmpR op_ne (pe_call G_l_told (hr.mono (by decide)) rfl C_l_told.g C_l_told.k C_l_told.b .nil pass0 (pa_cons (pe_op op_cat (pv 2) (pv 11)) (pa_cons (pv 6) pa_nil))) pe_int (nomark _)) (pss_one (ps_ret pe_bl)) pss_nil)
    (pss_one (ps_if (pt_cmpR op_ne (pe_call G_l_told (hr.mono (by decide)) rfl C_l_told.g C_l_told.k C_l_told.b .nil pass0 (pa_cons (pv 4) (pa_cons (pv 6) pa_nil))) (pe_op op_xor (pv 10) (pe_call G_l_told (hr.mono (by decide)) rfl C_l_told.g C_l_told.k C_l_told.b .nil pass0 (pa_cons (pe_callTy (kLst (K := K)) (by rfl) T.b_list (by decide +kernel) (pa_cons (pv 3) pa_nil)) (pa_cons (pv 6) pa_nil)))) (nomark _)) (pss_one (ps_ret pe_bl)) pss_nil)))))))))))
    (pss_one (ps_ret pe_bl))))))), ?_⟩
    refine sl (σ' := [some (.ref a_script_), none, none, none, none, none, none, none, none, none, none, none, none]) rfl ?_
    obtain ⟨c1, hc1, hm⟩ := of_bind hm
    obtain ⟨many_2, hmany_2, hm⟩ := of_bnd hm
    refine g_asg (i := 1) (v := .int many_2) (σ' := [some (.ref a_script_), some (.int many_2), none, none, none, none, none, none, none, none, none, none, none]) F0 (ev_cg (f := V.int) (ev_op ev_c (ev_op (ev_int (ev_call (ea_cons (ev_var (n := 0) rfl) (ea_cons ev_c ea_nil)) (fun ys H F Q q => ⟨_, _, _, script_, 0, c1, rfl, F, (RdS.app b_script_), hc1, q⟩))) ev_c (rv_modK _)) rv_I0) hmany_2) rfl fun H F3 => ?_
    obtain ⟨c4, hc4, hm⟩ := of_bind hm
    obtain ⟨c5, hc5, hm⟩ := of_bind hm
    refine g_asgN (i := 2) (o := .lst (List.map V.int c5)) F3 (en_call (ea_cons (ev_call (ea_cons (ev_var (n := 0) rfl) (ea_cons ev_c ea_nil)) (fun ys H F Q q => ⟨_, _, _, script_, 1, c4, rfl, F, (RdS.app b_script_), hc4, q⟩)) (ea_cons (ev_var (n := 1) rfl) (ea_cons ev_c ea_nil))) (fun ys H F Q q => ⟨_, _, c4, many_2, 256, c5, rfl, F, hc5, q⟩)) fun p6 H F7 => ?_
    refine sl (σ' := [some (.ref a_script_), some (.int many_2), some (.ref p6), none, none, none, none, none, none, none, none, none, none]) rfl ?_
    obtain ⟨c8, hc8, hm⟩ := of_bind hm
    obtain ⟨c9, hc9, hm⟩ := of_bind hm
    refine g_asgN (i := 3) (o := .lst (List.map V.int c9)) F7 (en_call (ea_cons (ev_call (ea_cons (ev_var (n := 0) rfl) (ea_cons ev_c ea_nil)) (fun ys H F Q q => ⟨_, _, _, script_, 2, c8, rfl, F, (RdS.app (RdS.dn 1 b_script_)), hc8, q⟩)) (ea_cons (ev_var (n := 1) rfl) (ea_cons ev_c ea_nil))) (fun ys H F Q q => ⟨_, _, c8, many_2, 256, c9, rfl, F, hc9, q⟩)) fun p10 H F11 => ?_
    refine sl (σ' := [some (.ref a_script_), some (.int many_2), some (.ref p6), some (.ref p10), none, none, none, none, none, none, none, none, none]) rfl ?_
    obtain ⟨r15, hr15, hm⟩ := of_bind hm
    obtain ⟨z14, hz14, hm⟩ := of_bind hm
    obtain ⟨l13, hl13, hm⟩ := of_bind hm
    refine g_asgN (i := 4) (o := .lst (List.map V.int l13)) F11 (en_lcR1 (zs := List.map V.int l13) hr15 (ea_cons (ev_var (n := 1) rfl) ea_nil) (of_grd hz14).1 (mlenR hl13) (fun _ => rfl) (lcok_map (f := V.int) (g := V.int) hl13 fun k_12 y hy => by obtain ⟨x16, hx16, hy⟩ := of_bind hy; obtain ⟨x17, hx17, hy⟩ := of_bind hy; obtain rfl := Option.some.inj hy; exact (ev_op (ev_op (ev_var (n := 2) rfl) (ev_var (n := 5) rfl) (rv_ix (f := V.int) hx16 (Or.inl (Rd.own 1 rfl)))) (ev_op (ev_var (n := 3) rfl) (ev_var (n := 5) rfl) (rv_ix (f := V.int) hx17 (Or.inl (Rd.own 0 rfl)))) rv_I0))) fun p18 H F19 => ?_
    refine sl (σ' := [some (.ref a_script_), some (.int many_2), some (.ref p6), some (.ref p10), some (.ref p18), none, none, none, none, none, none, none, none]) rfl ?_
    obtain ⟨r20, hr20, hm⟩ := of_bind hm
    obtain ⟨r23, hl1092, hm⟩ := of_bind hm
    refine w_rngF1 hr20 hl1092 (fun s22 σ H => ∃ (B1032 : Hp) (u_k_ : Option V) (u_width_ : Option V) (u_size_ : Option V) (u_pattern_here_ : Option V) (u_at_ : Option V) (u_told_here_ : Option V) (u_own_ : Option V), σ = [some (.ref a_script_), some (.int many_2), some (.ref p6), some (.ref p10), some (.ref p18), u_k_, u_width_, u_size_, u_pattern_here_, u_at_, u_told_here_, u_own_, none] ∧ Ex B B1032 ∧ Fr B1032 ((p6, .lst (List.map V.int c5)) :: (p10, .lst (List.map V.int c9)) :: (p18, .lst (List.map V.int l13)) :: cs) H) F19 (ea_cons ev_c ea_nil) (fun H F => ?_) ?_ ?_
    · exact ⟨_, _, _, _, _, _, _, _, rfl, (Ex.refl _), (Fr.pickT (ds := [(p6, .lst (List.map V.int c5)), (p10, .lst (List.map V.int c9)), (p18, .lst (List.map V.int l13))]) 3 F [2, 1, 0] (by decide) (by decide) rfl)⟩
    · rintro s1093 _ H rfl ⟨B1032, u_k_, u_width_, u_size_, u_pattern_here_, u_at_, u_told_here_, u_own_, rfl, e1033, F1095⟩
      replace b_script_ := RdS.to b_script_ e1033
      dsimp only at hm
      obtain rfl := Option.some.inj hm
      refine g_ret F1095 ev_c fun H F1096 => ?_
      exact k _ ((Fr.pickT (ds := []) 3 F1096 [] (by decide) (by decide) rfl).weak e1033)
    · rintro k_21 iv31 s22 r' _ H N hi30 hb ⟨B1032, u_k_, u_width_, u_size_, u_pattern_here_, u_at_, u_told_here_, u_own_, rfl, e1033, F1034⟩ hk26 hq27 hd28 hN25
      have ho29 := hm; clear hm; have hm := hb; clear hb
      replace b_script_ := RdS.to b_script_ e1033
      obtain rfl := hi30
      refine gn (σ' := [some (.ref a_script_), some (.int many_2), some (.ref p6), some (.ref p10), some (.ref p18), some (.int k_21), u_width_, u_size_, u_pattern_here_, u_at_, u_told_here_, u_own_, none]) rfl ?_
      obtain ⟨x1035, hx1035, hm⟩ := of_bind hm
      refine g_asg (i := 6) (v := .int x1035) (σ' := [some (.ref a_script_), some (.int many_2), some (.ref p6), some (.ref p10), some (.ref p18), some (.int k_21), some (.int x1035), u_size_, u_pattern_here_, u_at_, u_told_here_, u_own_, none]) F1034 (ev_opN1 (en_lst (ea_cons ev_c (ea_cons ev_c (ea_cons ev_c ea_nil)))) (ev_var (n := 5) rfl) (rv_ixN (f := V.int) hx1035)) rfl fun H F1036 => ?_
      obtain ⟨c1037, hc1037, hm⟩ := of_bind hm
      obtain ⟨c1038, hc1038, hm⟩ := of_bind hm
      refine g_call F1036 (ea_cons (ev_call (ea_cons (ev_var (n := 0) rfl) (ea_cons (ev_op ev_c (ev_var (n := 5) rfl) rv_I0) ea_nil)) (fun ys H F Q q => ⟨_, _, _, script_, (3 + k_21), c1037, rfl, F, (RdS.app (RdS.dn 3 b_script_)), hc1037, q⟩)) (ea_cons (ev_var (n := 6) rfl) ea_nil)) fun H F => ?_
      refine ⟨_, _, c1037, x1035, c1038, rfl, F, hc1038, fun v1039 B1040 H e1041 r1042 F1043 => ?_⟩
      replace b_script_ := RdS.to b_script_ e1041
      replace e1033 := Ex.trans e1033 e1041
      obtain ⟨a_u_1044, v1046, v1047, rfl, hT1045, r1048, r1049⟩ := r1042.t2
      obtain rfl := r1048.i
      obtain rfl := r1049.i
      refine gt2 (σ' := [some (.ref a_script_), some (.int many_2), some (.ref p6), some (.ref p10), some (.ref p18), some (.int k_21), some (.int x1035), some (.int c1038.1), some (.int c1038.2), u_at_, u_told_here_, u_own_, none]) (Evl.ex_t F1043.base hT1045) rfl ?_
      obtain ⟨c1050, hc1050, hm⟩ := of_bind hm
      obtain ⟨n1051, hn1051, hm⟩ := of_bind hm
      refine g_asg (i := 9) (v := .int n1051) (σ' := [some (.ref a_script_), some (.int many_2), some (.ref p6), some (.ref p10), some (.ref p18), some (.int k_21), some (.int x1035), some (.int c1038.1), some (.int c1038.2), some (.int n1051), u_told_here_, u_own_, none]) F1043 (ev_op (ev_int (ev_call (ea_cons (ev_var (n := 0) rfl) (ea_cons (ev_op ev_c (ev_var (n := 5) rfl) rv_I0) ea_nil)) (fun ys H F Q q => ⟨_, _, _, script_, (6 + k_21), c1050, rfl, F, (RdS.app (RdS.dn 3 b_script_)), hc1050, q⟩))) (ev_op ev_c (ev_var (n := 1) rfl) (rv_mulL _)) (rv_mod hn1051)) rfl fun H F1052 => ?_
      obtain ⟨c1053, hc1053, hm⟩ := of_bind hm
      refine g_asg (i := 10) (v := .int c1053) (σ' := [some (.ref a_script_), some (.int many_2), some (.ref p6), some (.ref p10), some (.ref p18), some (.int k_21), some (.int x1035), some (.int c1038.1), some (.int c1038.2), some (.int n1051), some (.int c1053), u_own_, none]) F1052 (fun ys H F Q q => by refine ta_new (xs := ys) F (en_cb (ea_cons (ev_var (n := 2) rfl) ea_nil) (rc_list (vs := List.map V.int c5) (Or.inl (Rd.own 0 rfl)))) fun p1054 H F => ?_; refine ta_val (xs := ((p1054, .lst (List.map V.int c5)) :: ys)) F (ev_var (n := 6) rfl) fun H F => ?_; exact ⟨_, _, _, c5, x1035, c1053, rfl, F, (Rd.own 0 rfl), hc1053, fun H F => q H (F.drop1)⟩) rfl fun H F1055 => ?_
      obtain ⟨b1059, hb1059, hm⟩ := of_bind hm
      refine g_when F1055 (et_orO hb1059 (et_not (et_B (ev_cb (ea_cons (ev_var (n := 10) rfl) (ea_cons ev_c ea_nil)) (rc_isi (b := true) ty_int (kit_ty (by decide +kernel)))))) (fun y hy => by obtain ⟨b1058, hb1058, hy⟩ := of_bind hy; obtain rfl := Option.some.inj hy; exact (et_orO hb1058 (et_B (ev_cb (ea_cons (ev_var (n := 10) rfl) (ea_cons ev_c ea_nil)) (rc_isi (b := false) ty_int (kit_ty (by decide +kernel))))) (fun y hy => by obtain ⟨b1057, hb1057, hy⟩ := of_bind hy; obtain rfl := Option.some.inj hy; exact (et_orO hb1057 (et_test (ev_op (ev_var (n := 10) rfl) ev_c rv_I0)) (fun y hy => by obtain ⟨n1056, hn1056, hy⟩ := of_bind hy; obtain rfl := Option.some.inj hy; exact (et_test (ev_op (ev_var (n := 10) rfl) (ev_op ev_c (ev_var (n := 6) rfl) (rv_shl hn1056)) rv_I0)))))))) (fun hb1060 H F => ?_) (fun hb1060 H F => ?_)
      · have F1061 := F
        replace hm := of_ifT hb1060 hm
        obtain rfl := Option.some.inj hm
        obtain rfl := hq27 _ rfl
        replace hm := ho29
        obtain rfl := Option.some.inj hm
        refine g_ret F1061 ev_c fun H F1062 => ?_
        exact k _ ((Fr.pickT (ds := []) 3 F1062 [] (by decide) (by decide) rfl).weak e1033)
      · have F1063 := F
        replace hm := of_ifF hb1060 hm
        obtain ⟨c1064, hc1064, hm⟩ := of_bind hm
        obtain ⟨c1065, hc1065, hm⟩ := of_bind hm
        refine g_when F1063 (et_test (ev_op (fun ys H F Q q => by refine ta_new (xs := ys) F (en_call (ea_cons (ev_var (n := 2) rfl) (ea_cons (ev_var (n := 9) rfl) (ea_cons (ev_var (n := 8) rfl) (ea_cons (ev_var (n := 7) rfl) ea_nil)))) (fun ys H F Q q => ⟨_, _, _, c5, n1051, c1038.2, c1038.1, c1064, rfl, F, (Rd.app (Rd.own 0 rfl)), hc1064, q⟩)) fun p1066 H F => ?_; refine ta_val (xs := ((p1066, .lst (List.map V.int c1064)) :: ys)) F (ev_var (n := 6) rfl) fun H F => ?_; exact ⟨_, _, _, c1064, x1035, c1065, rfl, F, (Rd.own 0 rfl), hc1065, fun H F => q H (F.drop1)⟩) (ev_var (n := 10) rfl) rv_eqI)) (fun hb1067 H F => ?_) (fun hb1067 H F => ?_)
        · have F1068 := F
          replace hm := of_ifT hb1067 hm
          obtain rfl := Option.some.inj hm
          obtain rfl := hq27 _ rfl
          replace hm := ho29
          obtain rfl := Option.some.inj hm
          refine g_ret F1068 ev_c fun H F1069 => ?_
          exact k _ ((Fr.pickT (ds := []) 3 F1069 [] (by decide) (by decide) rfl).weak e1033)
        · have F1070 := F
          replace hm := of_ifF hb1067 hm
          obtain ⟨r1074, hr1074, hm⟩ := of_bind hm
          obtain ⟨z1073, hz1073, hm⟩ := of_bind hm
          obtain ⟨l1072, hl1072, hm⟩ := of_bind hm
          refine g_asgN (i := 11) (o := .lst (List.map V.int l1072)) F1070 (en_lcR1 (zs := List.map V.int l1072) hr1074 (ea_cons (ev_op (ev_var (n := 6) rfl) ev_c (rv_divK _)) ea_nil) (of_grd hz1073).1 (mlenR hl1072) (fun _ => rfl) (lcok_map (f := V.int) (g := V.int) hl1072 fun j_1071 y hy => by obtain ⟨n1075, hn1075, hy⟩ := of_bind hy; obtain rfl := Option.some.inj hy; exact (ev_op (ev_op (ev_var (n := 10) rfl) (ev_op (ev_op (ev_var (n := 6) rfl) ev_c rv_I0) (ev_op ev_c (ev_var (n := 12) rfl) (rv_mulL _)) rv_I0) (rv_shr hn1075)) ev_c rv_I0))) fun p1076 H F1077 => ?_
          refine sl (σ' := [some (.ref a_script_), some (.int many_2), some (.ref p6), some (.ref p10), some (.ref p18), some (.int k_21), some (.int x1035), some (.int c1038.1), some (.int c1038.2), some (.int n1051), some (.int c1053), some (.ref p1076), none]) rfl ?_
          obtain ⟨l1078, hl1078, hm⟩ := of_bind hm
          obtain ⟨c1079, hc1079, hm⟩ := of_bind hm
          refine g_when F1077 (et_test (ev_op (fun ys H F Q q => by refine ta_new (xs := ys) F (en_op (ev_var (n := 2) rfl) (ev_var (n := 11) rfl) (rn_cat (f := V.int) hl1078 (Rd.own 1 rfl) (Rd.own 0 rfl))) fun p1080 H F => ?_; refine ta_val (xs := ((p1080, .lst (List.map V.int l1078)) :: ys)) F (ev_var (n := 6) rfl) fun H F => ?_; exact ⟨_, _, _, l1078, x1035, c1079, rfl, F, (Rd.own 0 rfl), hc1079, fun H F => q H (F.drop1)⟩) ev_c rv_neI)) (fun hb1081 H F => ?_) (fun hb1081 H F => ?_)
          · have F1082 := F
            replace hm := of_ifT hb1081 hm
            obtain rfl := Option.some.inj hm
            obtain rfl := hq27 _ rfl
            replace hm := ho29
            obtain rfl := Option.some.inj hm
            refine g_ret F1082 ev_c fun H F1083 => ?_
            exact k _ ((Fr.pickT (ds := []) 4 F1083 [] (by decide) (by decide) rfl).weak e1033)
          · have F1084 := F
            replace hm := of_ifF hb1081 hm
            obtain ⟨c1085, hc1085, hm⟩ := of_bind hm
            obtain ⟨c1086, hc1086, hm⟩ := of_bind hm
            refine s_when F1084 (et_test (ev_op (ev_call (ea_cons (ev_var (n := 4) rfl) (ea_cons (ev_var (n := 6) rfl) ea_nil)) (fun ys H F Q q => ⟨_, _, _, l13, x1035, c1085, rfl, F, (Rd.app (Rd.own 3 rfl)), hc1085, q⟩)) (ev_op (ev_var (n := 10) rfl) (fun ys H F Q q => by refine ta_new (xs := ys) F (en_cb (ea_cons (ev_var (n := 3) rfl) ea_nil) (rc_list (vs := List.map V.int c9) (Or.inl (Rd.own 2 rfl)))) fun p1087 H F => ?_; refine ta_val (xs := ((p1087, .lst (List.map V.int c9)) :: ys)) F (ev_var (n := 6) rfl) fun H F => ?_; exact ⟨_, _, _, c9, x1035, c1086, rfl, F, (Rd.own 0 rfl), hc1086, fun H F => q H (F.drop1)⟩) rv_I0) rv_neI)) (fun hb1088 H F => ?_) (fun hb1088 H F => ?_)
            · have F1089 := F
              replace hm := of_ifT hb1088 hm
              obtain rfl := Option.some.inj hm
              obtain rfl := hq27 _ rfl
              replace hm := ho29
              obtain rfl := Option.some.inj hm
              refine g_ret F1089 ev_c fun H F1090 => ?_
              exact k _ ((Fr.pickT (ds := []) 4 F1090 [] (by decide) (by decide) rfl).weak e1033)
            · have F1091 := F
              replace hm := of_ifF hb1088 hm
              obtain rfl := Option.some.inj hm
              exact hN25 _ _ _ rfl ⟨_, _, _, _, _, _, _, _, rfl, e1033, (Fr.pickT (ds := [(p6, .lst (List.map V.int c5)), (p10, .lst (List.map V.int c9)), (p18, .lst (List.map V.int l13))]) 4 F1091 [1, 2, 3] (by decide) (by decide) rfl)⟩

theorem all_mk {l : PySem.W.OpenLaw} {w : World} {K : PySem.W.Frag} {h : Heap} {mg : Str → Option Value} {fa : Addr} {f_l_cell : Addr} {f_l_draw : Addr} {f_l_pattern : Addr} {f_remainder : Addr} {f_crc8 : Addr} {f_crc16 : Addr} {f_crc32 : Addr} {f_l_told : Addr} {f_l_changed : Addr} {f_law : Addr} (X : K.In h) (G : h.Ns mainGlobals mg) (hfa : mg "law" = some (.ref fa))
    {od_l_cell an_l_cell : Option Addr} {sl_l_cell : Array (Option Value)} {oc_l_cell kV_l_cell dc_l_cell pm_l_cell cd_l_cell ct_l_cell : Value}
    {od_l_draw an_l_draw : Option Addr} {sl_l_draw : Array (Option Value)} {oc_l_draw kV_l_draw dc_l_draw pm_l_draw cd_l_draw ct_l_draw : Value}
    {od_l_pattern an_l_pattern : Option Addr} {sl_l_pattern : Array (Option Value)} {oc_l_pattern kV_l_pattern dc_l_pattern pm_l_pattern cd_l_pattern ct_l_pattern : Value}
    {od_remainder an_remainder : Option Addr} {sl_remainder : Array (Option Value)} {oc_remainder kV_remainder dc_remainder pm_remainder cd_remainder ct_remainder : Value}
    {od_crc8 an_crc8 : Option Addr} {sl_crc8 : Array (Option Value)} {oc_crc8 kV_crc8 dc_crc8 pm_crc8 cd_crc8 ct_crc8 : Value}
    {T_crc8 : Addr} {oT_crc8 : Option Addr} {nT_crc8 : Nat} {sT_crc8 : Array (Option Value)} {td_crc8_0 : Tok}
    {od_crc16 an_crc16 : Option Addr} {sl_crc16 : Array (Option Value)} {oc_crc16 kV_crc16 dc_crc16 pm_crc16 cd_crc16 ct_crc16 : Value}
    {T_crc16 : Addr} {oT_crc16 : Option Addr} {nT_crc16 : Nat} {sT_crc16 : Array (Option Value)} {td_crc16_0 : Tok}
    {od_crc32 an_crc32 : Option Addr} {sl_crc32 : Array (Option Value)} {oc_crc32 kV_crc32 dc_crc32 pm_crc32 cd_crc32 ct_crc32 : Value}
    {T_crc32 : Addr} {oT_crc32 : Option Addr} {nT_crc32 : Nat} {sT_crc32 : Array (Option Value)} {td_crc32_0 : Tok}
    {od_l_told an_l_told : Option Addr} {sl_l_told : Array (Option Value)} {oc_l_told kV_l_told dc_l_told pm_l_told cd_l_told ct_l_told : Value}
    {od_l_changed an_l_changed : Option Addr} {sl_l_changed : Array (Option Value)} {oc_l_changed kV_l_changed dc_l_changed pm_l_changed cd_l_changed ct_l_changed : Value}
    {od_law an_law : Option Addr} {sl_law : Array (Option Value)} {oc_law kV_law dc_law pm_law cd_law ct_law : Value}
    (a_l_cell : PySem.W.nsIn K mainGlobals "_law_cell" = some (some (.ref f_l_cell))) (l_l_cell : K.lookup f_l_cell = some ⟨oc_l_cell, od_l_cell, .func (PySem.W.fnOf "_law_cell" "_law_cell" (defArgs s_l_cell) (defBody s_l_cell) (defScope s_l_cell) .none kV_l_cell dc_l_cell pm_l_cell an_l_cell cd_l_cell ct_l_cell), sl_l_cell⟩) (c_l_cell : PySem.W.codeIn K cd_l_cell "_law_cell" = true) (k_l_cell : PySem.W.keepIn K (.ref f_l_cell) = true)
    (a_l_draw : PySem.W.nsIn K mainGlobals "_law_draw" = some (some (.ref f_l_draw))) (l_l_draw : K.lookup f_l_draw = some ⟨oc_l_draw, od_l_draw, .func (PySem.W.fnOf "_law_draw" "_law_draw" (defArgs s_l_draw) (defBody s_l_draw) (defScope s_l_draw) .none kV_l_draw dc_l_draw pm_l_draw an_l_draw cd_l_draw ct_l_draw), sl_l_draw⟩) (c_l_draw : PySem.W.codeIn K cd_l_draw "_law_draw" = true) (k_l_draw : PySem.W.keepIn K (.ref f_l_draw) = true)
    (a_l_pattern : PySem.W.nsIn K mainGlobals "_law_pattern" = some (some (.ref f_l_pattern))) (l_l_pattern : K.lookup f_l_pattern = some ⟨oc_l_pattern, od_l_pattern, .func (PySem.W.fnOf "_law_pattern" "_law_pattern" (defArgs s_l_pattern) (defBody s_l_pattern) (defScope s_l_pattern) .none kV_l_pattern dc_l_pattern pm_l_pattern an_l_pattern cd_l_pattern ct_l_pattern), sl_l_pattern⟩) (c_l_pattern : PySem.W.codeIn K cd_l_pattern "_law_pattern" = true) (k_l_pattern : PySem.W.keepIn K (.ref f_l_pattern) = true)
    (a_remainder : PySem.W.nsIn K mainGlobals "_remainder" = some (some (.ref f_remainder))) (l_remainder : K.lookup f_remainder = some ⟨oc_remainder, od_remainder, .func (PySem.W.fnOf "_remainder" "_remainder" (defArgs s_remainder) (defBody s_remainder) (defScope s_remainder) .none kV_remainder dc_remainder pm_remainder an_remainder cd_remainder ct_remainder), sl_remainder⟩) (c_remainder : PySem.W.codeIn K cd_remainder "_remainder" = true) (k_remainder : PySem.W.keepIn K (.ref f_remainder) = true)
    (a_crc8 : PySem.W.nsIn K mainGlobals "crc8" = some (some (.ref f_crc8))) (l_crc8 : K.lookup f_crc8 = some ⟨oc_crc8, od_crc8, .func (PySem.W.fnOf "crc8" "crc8" (defArgs s_crc8) (defBody s_crc8) (defScope s_crc8) (.ref T_crc8) kV_crc8 dc_crc8 pm_crc8 an_crc8 cd_crc8 ct_crc8), sl_crc8⟩) (c_crc8 : PySem.W.codeIn K cd_crc8 "crc8" = true) (k_crc8 : PySem.W.keepIn K (.ref f_crc8) = true) (d_crc8 : K.lookup T_crc8 = some ⟨.type "tuple", oT_crc8, .seq #[.int 0 td_crc8_0] nT_crc8, sT_crc8⟩)
    (a_crc16 : PySem.W.nsIn K mainGlobals "crc16" = some (some (.ref f_crc16))) (l_crc16 : K.lookup f_crc16 = some ⟨oc_crc16, od_crc16, .func (PySem.W.fnOf "crc16" "crc16" (defArgs s_crc16) (defBody s_crc16) (defScope s_crc16) (.ref T_crc16) kV_crc16 dc_crc16 pm_crc16 an_crc16 cd_crc16 ct_crc16), sl_crc16⟩) (c_crc16 : PySem.W.codeIn K cd_crc16 "crc16" = true) (k_crc16 : PySem.W.keepIn K (.ref f_crc16) = true) (d_crc16 : K.lookup T_crc16 = some ⟨.type "tuple", oT_crc16, .seq #[.int 0 td_crc16_0] nT_crc16, sT_crc16⟩)
    (a_crc32 : PySem.W.nsIn K mainGlobals "crc32" = some (some (.ref f_crc32))) (l_crc32 : K.lookup f_crc32 = some ⟨oc_crc32, od_crc32, .func (PySem.W.fnOf "crc32" "crc32" (defArgs s_crc32) (defBody s_crc32) (defScope s_crc32) (.ref T_crc32) kV_crc32 dc_crc32 pm_crc32 an_crc32 cd_crc32 ct_crc32), sl_crc32⟩) (c_crc32 : PySem.W.codeIn K cd_crc32 "crc32" = true) (k_crc32 : PySem.W.keepIn K (.ref f_crc32) = true) (d_crc32 : K.lookup T_crc32 = some ⟨.type "tuple", oT_crc32, .seq #[.int 0 td_crc32_0] nT_crc32, sT_crc32⟩)
    (a_l_told : PySem.W.nsIn K mainGlobals "_law_told" = some (some (.ref f_l_told))) (l_l_told : K.lookup f_l_told = some ⟨oc_l_told, od_l_told, .func (PySem.W.fnOf "_law_told" "_law_told" (defArgs s_l_told) (defBody s_l_told) (defScope s_l_told) .none kV_l_told dc_l_told pm_l_told an_l_told cd_l_told ct_l_told), sl_l_told⟩) (c_l_told : PySem.W.codeIn K cd_l_told "_law_told" = true) (k_l_told : PySem.W.keepIn K (.ref f_l_told) = true)
    (a_l_changed : PySem.W.nsIn K mainGlobals "_law_changed" = some (some (.ref f_l_changed))) (l_l_changed : K.lookup f_l_changed = some ⟨oc_l_changed, od_l_changed, .func (PySem.W.fnOf "_law_changed" "_law_changed" (defArgs s_l_changed) (defBody s_l_changed) (defScope s_l_changed) .none kV_l_changed dc_l_changed pm_l_changed an_l_changed cd_l_changed ct_l_changed), sl_l_changed⟩) (c_l_changed : PySem.W.codeIn K cd_l_changed "_law_changed" = true) (k_l_changed : PySem.W.keepIn K (.ref f_l_changed) = true)
    (a_law : PySem.W.nsIn K mainGlobals "law" = some (some (.ref f_law))) (l_law : K.lookup f_law = some ⟨oc_law, od_law, .func (PySem.W.fnOf "law" "law" (defArgs s_law) (defBody s_law) (defScope s_law) .none kV_law dc_law pm_law an_law cd_law ct_law), sl_law⟩) (c_law : PySem.W.codeIn K cd_law "law" = true) (k_law : PySem.W.keepIn K (.ref f_law) = true)
    (z_bool : PySem.W.nsIn K mainGlobals "bool" = some none)
    (z_int : PySem.W.nsIn K mainGlobals "int" = some none)
    (z_isinstance : PySem.W.nsIn K mainGlobals "isinstance" = some none)
    (z_len : PySem.W.nsIn K mainGlobals "len" = some none)
    (z_list : PySem.W.nsIn K mainGlobals "list" = some none)
    (z_range : PySem.W.nsIn K mainGlobals "range" = some none) :
    ∃ fd : FuncData, (∀ (s : Shared) (v : Value), BindsTo s fd ⟨[v], []⟩ [("_law_script", v)]) ∧ ∀ base : Heap, K.In base → base.Ns mainGlobals mg → FnOk l.prog w K mg base CX0 4 fa fd ["_law_script"] (sp_law K G0) := by
  have e := hfa.symm.trans (PySem.W.mg_of X G a_law)
  cases e
  have T : Txt K mg := ⟨PySem.W.mg_none_of X G z_bool, PySem.W.mg_none_of X G z_int, PySem.W.mg_none_of X G z_isinstance, PySem.W.mg_none_of X G z_len, PySem.W.mg_none_of X G z_list, PySem.W.mg_none_of X G z_range⟩
  have F_l_cell := fun_mk (st := s_l_cell) l_l_cell c_l_cell k_l_cell
  have b_l_cell := F_l_cell.binds (ps := ["_law_script", "_law_k"]) fun _ _ _ _ _ _ us hl => match us, hl with | [_, _], _ => rfl
  have C_l_cell : Cal K mg "_law_cell" f_l_cell _ _ := ⟨PySem.W.mg_of X G a_l_cell, k_l_cell, b_l_cell⟩
  have F_l_draw := fun_mk (st := s_l_draw) l_l_draw c_l_draw k_l_draw
  have b_l_draw := F_l_draw.binds (ps := ["_law_cell_here", "_law_many", "_law_bound"]) fun _ _ _ _ _ _ us hl => match us, hl with | [_, _, _], _ => rfl
  have C_l_draw : Cal K mg "_law_draw" f_l_draw _ _ := ⟨PySem.W.mg_of X G a_l_draw, k_l_draw, b_l_draw⟩
  have F_l_pattern := fun_mk (st := s_l_pattern) l_l_pattern c_l_pattern k_l_pattern
  have b_l_pattern := F_l_pattern.binds (ps := ["_law_cell_here", "_law_width"]) fun _ _ _ _ _ _ us hl => match us, hl with | [_, _], _ => rfl
  have C_l_pattern : Cal K mg "_law_pattern" f_l_pattern _ _ := ⟨PySem.W.mg_of X G a_l_pattern, k_l_pattern, b_l_pattern⟩
  have F_remainder := fun_mk (st := s_remainder) l_remainder c_remainder k_remainder
  have b_remainder := F_remainder.binds (ps := ["data", "start", "width", "polynomial"]) fun _ _ _ _ _ _ us hl => match us, hl with | [_, _, _, _], _ => rfl
  have C_remainder : Cal K mg "_remainder" f_remainder _ _ := ⟨PySem.W.mg_of X G a_remainder, k_remainder, b_remainder⟩
  have F_crc8 := fund_mk (st := s_crc8) (dvs := [.int 0]) (kws := []) l_crc8 c_crc8 k_crc8 (dfl1 (List.cons_ne_nil _ _) d_crc8 rfl (.cons ⟨_, rfl⟩ (.nil))) (.inl rfl)
  have C_crc8 : CalD K mg "crc8" f_crc8 := ⟨PySem.W.mg_of X G a_crc8, k_crc8⟩
  have A_crc8_0 : ∃ ds, Vals [.int 0] ds ∧ Binds K _ ["data", "start"] ds := F_crc8.binds1 1 0 (List.cons_ne_nil _ _) rfl fun _ _ _ _ _ _ _ us its l1 l2 => match us, its, l1, l2 with | [_], [_], _, _ => ⟨_, rfl, rfl⟩
  have F_crc16 := fund_mk (st := s_crc16) (dvs := [.int 0]) (kws := []) l_crc16 c_crc16 k_crc16 (dfl1 (List.cons_ne_nil _ _) d_crc16 rfl (.cons ⟨_, rfl⟩ (.nil))) (.inl rfl)
  have C_crc16 : CalD K mg "crc16" f_crc16 := ⟨PySem.W.mg_of X G a_crc16, k_crc16⟩
  have A_crc16_0 : ∃ ds, Vals [.int 0] ds ∧ Binds K _ ["data", "start"] ds := F_crc16.binds1 1 0 (List.cons_ne_nil _ _) rfl fun _ _ _ _ _ _ _ us its l1 l2 => match us, its, l1, l2 with | [_], [_], _, _ => ⟨_, rfl, rfl⟩
  have F_crc32 := fund_mk (st := s_crc32) (dvs := [.int 0]) (kws := []) l_crc32 c_crc32 k_crc32 (dfl1 (List.cons_ne_nil _ _) d_crc32 rfl (.cons ⟨_, rfl⟩ (.nil))) (.inl rfl)
  have C_crc32 : CalD K mg "crc32" f_crc32 := ⟨PySem.W.mg_of X G a_crc32, k_crc32⟩
  have A_crc32_0 : ∃ ds, Vals [.int 0] ds ∧ Binds K _ ["data", "start"] ds := F_crc32.binds1 1 0 (List.cons_ne_nil _ _) rfl fun _ _ _ _ _ _ _ us its l1 l2 => match us, its, l1, l2 with | [_], [_], _, _ => ⟨_, rfl, rfl⟩
  have F_l_told := fun_mk (st := s_l_told) l_l_told c_l_told k_l_told
  have b_l_told := F_l_told.binds (ps := ["_law_data", "_law_width"]) fun _ _ _ _ _ _ us hl => match us, hl with | [_, _], _ => rfl
  have C_l_told : Cal K mg "_law_told" f_l_told _ _ := ⟨PySem.W.mg_of X G a_l_told, k_l_told, b_l_told⟩
  have F_l_changed := fun_mk (st := s_l_changed) l_l_changed c_l_changed k_l_changed
  have b_l_changed := F_l_changed.binds (ps := ["_law_data", "_law_at", "_law_pattern_here", "_law_size"]) fun _ _ _ _ _ _ us hl => match us, hl with | [_, _, _, _], _ => rfl
  have C_l_changed : Cal K mg "_law_changed" f_l_changed _ _ := ⟨PySem.W.mg_of X G a_l_changed, k_l_changed, b_l_changed⟩
  have F_law := fun_mk (st := s_law) l_law c_law k_law
  refine ⟨PySem.W.fnOf "law" "law" (defArgs s_law) (defBody s_law) (defScope s_law) .none kV_law dc_law pm_law an_law cd_law ct_law, fun s v => .of_eq rfl, fun base _ _ => ?_⟩
  have G_l_cell := ok_l_cell (P := l.prog) (w := w) (base := base) (G := G0) F_l_cell T
  have G_l_draw := ok_l_draw (P := l.prog) (w := w) (base := base) (G := G0) F_l_draw T
  have G_l_pattern := ok_l_pattern (P := l.prog) (w := w) (base := base) (G := G0) F_l_pattern T
  have G_remainder := ok_remainder (P := l.prog) (w := w) (base := base) (G := G0) F_remainder T
  have G_crc8 := ok_crc8 (P := l.prog) (w := w) (base := base) (G := G0) F_crc8 T G_remainder C_remainder
  have G_crc16 := ok_crc16 (P := l.prog) (w := w) (base := base) (G := G0) F_crc16 T G_remainder C_remainder
  have G_crc32 := ok_crc32 (P := l.prog) (w := w) (base := base) (G := G0) F_crc32 T G_remainder C_remainder
  have G_l_told := ok_l_told (P := l.prog) (w := w) (base := base) (G := G0) F_l_told T G_crc8 C_crc8 A_crc8_0 G_crc16 C_crc16 A_crc16_0 G_crc32 C_crc32 A_crc32_0
  have G_l_changed := ok_l_changed (P := l.prog) (w := w) (base := base) (G := G0) F_l_changed T
  exact ok_law F_law T G_l_cell C_l_cell G_l_draw C_l_draw G_l_pattern C_l_pattern G_l_told C_l_told G_l_changed C_l_changed
theorem walk {l : PySem.W.OpenLaw} {q : Program} {loose : List Str} {XP : (Str → Option Value) → Heap → Prop} {YP : World → Heap → Prop} {d : DefRec} {K : Params → PySem.W.Frag} (hn : l.most = some 63) (hdf : d.params.defaults = [])
    (true_ : ∀ ns : List Int, ns.length ≤ 63 → (∀ z ∈ ns, Builtin.Int.intBits z ≤ 1048576) → m_law ns = some true)
    (hY : ∀ (w : World) (h : Heap), YP w h → (K w.params).In h)
    (F : ∀ (w : World) (mg : Str → Option Value) (fa : Addr) (h : Heap), (K w.params).In h → h.Ns mainGlobals mg → mg d.name = some (.ref fa) →
      ∃ fd : FuncData, (∀ (s : Shared) (u : Value), BindsTo s fd ⟨[u], []⟩ [("_law_script", u)]) ∧ ∀ base : Heap, (K w.params).In base → base.Ns mainGlobals mg → FnOk l.prog w (K w.params) mg base CX0 4 fa fd ["_law_script"] (sp_law (K w.params) G0)) :
    PySem.W.WalkO q loose XP YP l.row.toRowW d [] (fun f vs => PySem.call f vs) :=
  L2.walk_ofB (n := 63) (k := 4) (x := "_law_script") (CX := fun _ => CX0) (sp := fun w => sp_law (K w.params) G0) hn (by decide) hdf ⟨rfl, by decide, by decide⟩ hY F (fun _ H a ns hl hb _ hS => ⟨H, [], a, ns, true, rfl, Fr.refl H, Or.inr hS, true_ ns hl hb, fun _ _ => rfl⟩) fun _ _ _ _ _ z => z
end K06
open PySem PySem.W PyProof.Rows
set_option maxRecDepth 100000 in
set_option maxHeartbeats 0 in
theorem PySem.Challenge.cw_monochord_k06_checksums_tell_bursts_holds : PySem.Challenge.rw_monochord_k06_checksums_tell_bursts.Holds := by
  w_on; o_law; k_head; (case hw => w_witness2)
  k_fill
  refine K06.walk (l := PySem.Challenge.rw_monochord_k06_checksums_tell_bursts) rfl rfl K06.law_true (fun w h Y => PySem.W.kIn_of Y) ?F
  case F =>
    intro w mg fa h KX G hmg
    refine' K06.all_mk KX G hmg ?a_l_cell ?l_l_cell ?c_l_cell ?k_l_cell ?a_l_draw ?l_l_draw ?c_l_draw ?k_l_draw ?a_l_pattern ?l_l_pattern ?c_l_pattern ?k_l_pattern ?a_remainder ?l_remainder ?c_remainder ?k_remainder ?a_crc8 ?l_crc8 ?c_crc8 ?k_crc8 ?d_crc8 ?a_crc16 ?l_crc16 ?c_crc16 ?k_crc16 ?d_crc16 ?a_crc32 ?l_crc32 ?c_crc32 ?k_crc32 ?d_crc32 ?a_l_told ?l_l_told ?c_l_told ?k_l_told ?a_l_changed ?l_l_changed ?c_l_changed ?k_l_changed ?a_law ?l_law ?c_law ?k_law ?z_bool ?z_int ?z_isinstance ?z_len ?z_list ?z_range
    (case a_l_cell => k_is)
    (case l_l_cell => k_is)
    (case c_l_cell => k_is)
    (case k_l_cell => k_is)
    (case a_l_draw => k_is)
    (case l_l_draw => k_is)
    (case c_l_draw => k_is)
    (case k_l_draw => k_is)
    (case a_l_pattern => k_is)
    (case l_l_pattern => k_is)
    (case c_l_pattern => k_is)
    (case k_l_pattern => k_is)
    (case a_remainder => k_is)
    (case l_remainder => k_is)
    (case c_remainder => k_is)
    (case k_remainder => k_is)
    (case a_crc8 => k_is)
    (case l_crc8 => k_is)
    (case c_crc8 => k_is)
    (case k_crc8 => k_is)
    (case d_crc8 => k_is)
    (case a_crc16 => k_is)
    (case l_crc16 => k_is)
    (case c_crc16 => k_is)
    (case k_crc16 => k_is)
    (case d_crc16 => k_is)
    (case a_crc32 => k_is)
    (case l_crc32 => k_is)
    (case c_crc32 => k_is)
    (case k_crc32 => k_is)
    (case d_crc32 => k_is)
    (case a_l_told => k_is)
    (case l_l_told => k_is)
    (case c_l_told => k_is)
    (case k_l_told => k_is)
    (case a_l_changed => k_is)
    (case l_l_changed => k_is)
    (case c_l_changed => k_is)
    (case k_l_changed => k_is)
    (case a_law => k_is)
    (case l_law => k_is)
    (case c_law => k_is)
    (case k_law => k_is)
    (case z_bool => k_is)
    (case z_int => k_is)
    (case z_isinstance => k_is)
    (case z_len => k_is)
    (case z_list => k_is)
    (case z_range => k_is)
