import PyProof.Rows.All
import Wide.All
import OpenK.AllK
import Wide.FinOn
import HandS.ForMost
import HandS.Evl
import HandS.IsInst
import HandS.Wide
import HandS.WideBits
import HandS.Flow
import HandS.EndBits
import PySem.Challenge.RW_monochord_k67_wasted_bits
set_option Elab.async false
set_option linter.all false
set_option maxRecDepth 100000
set_option maxHeartbeats 4000000
/-! Mn: mirrors in the option monad, and how a reading of a def meets its mirror -/
namespace Mn
open PySem L2
open Evl (Ex Ev EvL EvU EvT EvA EvO RV RU RC)
/-! ### mirrors -/
theorem of_bind {A B : Type} {m : Option A} {f : A → Option B} {r : B} (h : m.bind f = some r) : ∃ x, m = some x ∧ f x = some r := by
  cases m with
  | none => cases h
  | some x => exact ⟨x, rfl, h⟩
def bnd {A B : Type} (e : A) (f : A → B) : B := f e
theorem of_bnd {A B : Type} {e : A} {f : A → B} {r : B} (h : bnd e f = r) : ∃ x, e = x ∧ f x = r := ⟨e, rfl, h⟩
@[simp] theorem bnd_eq {A B : Type} (e : A) (f : A → B) : bnd e f = f e := rfl
@[simp] theorem some_bind' {A B : Type} (e : A) (f : A → Option B) : (some e).bind f = f e := rfl
inductive Fl (S R : Type) where
  | nx (s : S) | bk (s : S) | rt (r : R)
def itM {A S : Type} (f : A → S → Option S) : List A → S → Option S
  | [], s => some s
  | x :: l, s => (f x s).bind fun s' => itM f l s'
def itF {A S R : Type} (f : A → S → Option (Fl S R)) : List A → S → Option (Fl S R)
  | [], s => some (.nx s)
  | x :: l, s => (f x s).bind fun r => match r with
    | .nx s' => itF f l s'
    | .bk s' => some (.nx s')
    | .rt q => some (.rt q)
/-- while, in at most so many turns -/
def whF {S R : Type} (c : S → Option Bool) (f : S → Option (Fl S R)) : Nat → S → Option (Fl S R)
  | 0, _ => none
  | n + 1, s => (c s).bind fun b => if b = true then (f s).bind fun r => match r with
      | .nx s' => whF c f n s'
      | .bk s' => some (.nx s')
      | .rt q => some (.rt q)
    else some (.nx s)
def mapO {A B : Type} (f : A → Option B) : List A → Option (List B)
  | [] => some []
  | x :: l => (f x).bind fun y => (mapO f l).bind fun r => some (y :: r)
/-- [e for x in xs if c] -/
def fmO {A B : Type} (c : A → Option Bool) (f : A → Option B) : List A → Option (List B)
  | [] => some []
  | x :: l => (c x).bind fun b => if b = true then (f x).bind fun y => (fmO c f l).bind fun r => some (y :: r) else fmO c f l
def rngI (lo hi : Int) : List Int := (List.range (hi - lo).toNat).map fun (i : Nat) => lo + (i : Int)
instance {i j : Int} : Decidable (IntMulOk i j) := by unfold IntMulOk; infer_instance
instance {i j : Int} : Decidable (CShl i j) := by unfold CShl; infer_instance
instance {i j : Int} : Decidable (CPow i j) := by unfold CPow; infer_instance
def grd {A : Type} (p : Prop) [Decidable p] (e : A) : Option A := if p then some e else none
theorem of_grd {A : Type} {p : Prop} [Decidable p] {e r : A} (h : grd p e = some r) : p ∧ e = r := by
  unfold grd at h
  split at h
  · next hp => exact ⟨hp, Option.some.inj h⟩
  · cases h
theorem grd_ok {A : Type} {p : Prop} [Decidable p] {e : A} (h : p) : grd p e = some e := if_pos h
def modC (i j : Int) : Option Int := grd (0 < j) (i % j)
def divC (i j : Int) : Option Int := grd (0 < j ∧ j.natAbs.log2 < 9000) (i / j)
def mulC (i j : Int) : Option Int := grd (IntMulOk i j) (i * j)
def shlC (i j : Int) : Option Int := grd (CShl i j) (i * 2 ^ j.toNat)
def shrC (i j : Int) : Option Int := grd (0 ≤ j) (i / 2 ^ j.toNat)
def powC (i j : Int) : Option Int := grd (CPow i j) (i ^ j.toNat)
def sizeC : Nat := 16777216
theorem sizeC_eq : sizeC = sizeLine := by rw [sizeLine_eq]; rfl
def appC {A : Type} (xs : List A) (x : A) : Option (List A) := grd (xs.length < 16777216) (xs ++ [x])
def catC {A : Type} (xs ys : List A) : Option (List A) := grd (xs.length + ys.length ≤ 16777216) (xs ++ ys)
def repC {A : Type} (xs : List A) (k : Int) : Option (List A) := grd (-(2 ^ 63) ≤ k ∧ k < 2 ^ 63 ∧ xs.length * k.toNat ≤ 16777216) (List.replicate k.toNat xs).flatten
def setC {A : Type} (xs : List A) (i : Int) (x : A) : Option (List A) := (ixN xs.length i).map fun j => xs.set j x
def cut {A : Type} (xs : List A) (lo hi : Option Int) : List A := (xs.drop (HT.sIx xs.length 0 lo)).take (HT.sIx xs.length xs.length hi - HT.sIx xs.length 0 lo)
/-- a range's ends -/
def rngC (lo hi : Int) : Option (List Int) := grd (-(2 ^ 62) ≤ lo ∧ lo < 2 ^ 62 ∧ -(2 ^ 62) ≤ hi ∧ hi < 2 ^ 62) (rngI lo hi)
def andC (a : Bool) (b : Option Bool) : Option Bool := if a = true then b else some false
def orC (a : Bool) (b : Option Bool) : Option Bool := if a = true then some true else b
def maxI (i j : Int) : Int := if j > i then j else i
def minI (i j : Int) : Int := if j < i then j else i
def absI (i : Int) : Int := if i < 0 then -i else i
def b2 (b : Bool) : Int := if b then 1 else 0
def bitsI (i : Int) : Int := (Builtin.Int.intBits i : Nat)
/-- max and min of a list -/
def maxL (xs : List Int) : Option Int := match xs with
  | [] => none
  | x :: r => some (r.foldl (fun a b => if b > a then b else a) x)
def minL (xs : List Int) : Option Int := match xs with
  | [] => none
  | x :: r => some (r.foldl (fun a b => if b < a then b else a) x)

theorem of_ifT {A : Type} {b : Bool} {x y r : A} (hb : b = true) (h : (if b = true then x else y) = r) : x = r := by
  rw [if_pos hb] at h
  exact h
theorem of_ifF {A : Type} {b : Bool} {x y r : A} (hb : b = false) (h : (if b = true then x else y) = r) : y = r := by
  rw [if_neg (by rw [hb]; exact Bool.false_ne_true)] at h
  exact h
def fuel : Nat := 1000000

/-! ### heaps: what stood (B), own cells (cs) -/
structure Fr (B : Hp) (cs : List (Addr × HO)) (H : Hp) : Prop where
  base : Ex B H
  own : ∀ c ∈ cs, H c.1 = some c.2
  new : ∀ c ∈ cs, B c.1 = none
  nd : (cs.map (·.1)).Nodup
section
variable {B H H' : Hp} {cs ds : List (Addr × HO)} {p : Addr} {o : HO} {K : PySem.W.Frag}
theorem Fr.refl (H : Hp) : Fr H [] H := ⟨Ex.refl H, fun _ h => (nomatch h), fun _ h => (nomatch h), List.nodup_nil⟩
theorem Fr.of (e : Ex H H') : Fr H [] H' := ⟨e, fun _ h => (nomatch h), fun _ h => (nomatch h), List.nodup_nil⟩
theorem Fr.ex (F : Fr B cs H) (e : Ex H H') : Fr B cs H' := ⟨F.base.trans e, fun c h => e _ _ (F.own c h), F.new, F.nd⟩
theorem Fr.get (F : Fr B cs H) (i : Nat) {c : Addr × HO} (h : cs[i]? = some c) : H c.1 = some c.2 := F.own c (List.mem_of_getElem? h)
theorem Fr.fresh (F : Fr B cs H) (i : Nat) {c : Addr × HO} (h : cs[i]? = some c) : B c.1 = none := F.new c (List.mem_of_getElem? h)
theorem Fr.add (F : Fr B cs H) (hp : H p = none) (e : Ex H H') (h : H' p = some o) : Fr B (cs ++ [(p, o)]) H' where
  base := F.base.trans e
  own := fun c hc => by
    rcases List.mem_append.mp hc with q | q
    · exact e _ _ (F.own c q)
    · rcases List.mem_singleton.mp q with rfl
      exact h
  new := fun c hc => by
    rcases List.mem_append.mp hc with q | q
    · exact F.new c q
    · rcases List.mem_singleton.mp q with rfl
      exact Evl.fresh_back F.base hp
  nd := by
    rw [List.map_append, List.nodup_append]
    refine ⟨F.nd, by simp, fun a ha b hb => ?_⟩
    rcases List.mem_map.mp ha with ⟨c, hc, rfl⟩
    have : b = p := by simpa using hb
    subst this
    intro e2
    have := F.own c hc
    rw [e2, hp] at this
    cases this
theorem Fr.app (F : Fr B cs H) (G : Fr H ds H') : Fr B (cs ++ ds) H' where
  base := F.base.trans G.base
  own := fun c hc => by
    rcases List.mem_append.mp hc with q | q
    · exact G.base _ _ (F.own c q)
    · exact G.own c q
  new := fun c hc => by
    rcases List.mem_append.mp hc with q | q
    · exact F.new c q
    · exact Evl.fresh_back F.base (G.new c q)
  nd := by
    rw [List.map_append, List.nodup_append]
    refine ⟨F.nd, G.nd, fun a ha b hb => ?_⟩
    rcases List.mem_map.mp ha with ⟨c, hc, rfl⟩
    rcases List.mem_map.mp hb with ⟨d, hd, rfl⟩
    intro e2
    have h1 := F.own c hc
    have h2 := G.new d hd
    rw [← e2, h1] at h2
    cases h2
theorem Fr.upd (F : Fr B cs H) (i : Nat) {o' : HO} (h : cs[i]? = some (p, o)) : Fr B (cs.set i (p, o')) (upd H p o') where
  base := fun a u ha => by
    have hb := F.fresh i h
    have : a ≠ p := by
      intro e
      subst e
      rw [ha] at hb
      cases hb
    rw [upd_ne this]
    exact F.base a u ha
  own := fun c hc => by
    obtain ⟨j, hj⟩ := List.mem_iff_getElem?.mp hc
    rw [List.getElem?_set] at hj
    by_cases e : i = j
    · subst e
      rw [if_pos rfl] at hj
      split at hj
      · cases hj
        exact upd_same
      · cases hj
    · rw [if_neg e] at hj
      have hne : c.1 ≠ p := by
        intro e2
        have e3 : (cs.map (·.1))[i]? = some p := by rw [List.getElem?_map, h]; rfl
        have e4 : (cs.map (·.1))[j]? = some p := by rw [List.getElem?_map, hj]; exact congrArg some e2
        exact e (nd_ix F.nd e3 e4)
      rw [upd_ne hne]
      exact F.own c (List.mem_of_getElem? hj)
  new := fun c hc => by
    rcases List.mem_or_eq_of_mem_set hc with q | q
    · exact F.new c q
    · subst q
      exact F.new (p, o) (List.mem_of_getElem? h)
  nd := by
    have : (cs.set i (p, o')).map (·.1) = cs.map (·.1) := by
      rw [List.map_set]
      apply List.ext_getElem?
      intro j
      rw [List.getElem?_set]
      split
      · next e =>
        subst e
        split
        · rw [List.getElem?_map, h]; rfl
        · next hl =>
          rw [List.getElem?_eq_none (by omega)]
      · rfl
    rw [this]
    exact F.nd
theorem Fr.sub (F : Fr B cs H) (h : List.Sublist ds cs) : Fr B ds H := ⟨F.base, fun c hc => F.own c (h.subset hc), fun c hc => F.new c (h.subset hc), (h.map _).nodup F.nd⟩
/-- an order of the cells -/
theorem Fr.perm (F : Fr B cs H) (h : ds.Perm cs) : Fr B ds H := ⟨F.base, fun c hc => F.own c (h.mem_iff.mp hc), fun c hc => F.new c (h.mem_iff.mp hc), ((h.map (·.1)).nodup_iff).mpr F.nd⟩
theorem Fr.pick (F : Fr B cs H) (ix : List Nat) (hn : ix.Nodup) (h : (ix.map fun i => cs[i]?) = ds.map some) : Fr B ds H := by
  have mem : ∀ (k : Nat) (d : Addr × HO), ds[k]? = some d → ∃ i, ix[k]? = some i ∧ cs[i]? = some d := by
    intro k d hd
    have e : (ds.map some)[k]? = some (some d) := by rw [List.getElem?_map, hd]; rfl
    rw [← h, List.getElem?_map] at e
    cases hi : ix[k]? with
    | none => rw [hi] at e; cases e
    | some i =>
      rw [hi] at e
      exact ⟨i, rfl, Option.some.inj e⟩
  refine ⟨F.base, fun c hc => ?_, fun c hc => ?_, ?_⟩
  · obtain ⟨k, hk⟩ := List.mem_iff_getElem?.mp hc
    obtain ⟨i, _, hi⟩ := mem k c hk
    exact F.get i hi
  · obtain ⟨k, hk⟩ := List.mem_iff_getElem?.mp hc
    obtain ⟨i, _, hi⟩ := mem k c hk
    exact F.fresh i hi
  · rw [List.nodup_iff_pairwise_ne, List.pairwise_iff_getElem]
    intro k1 k2 h1 h2 hlt e
    rw [List.length_map] at h1 h2
    rw [List.getElem_map, List.getElem_map] at e
    obtain ⟨i1, hi1, hc1⟩ := mem k1 _ (List.getElem?_eq_getElem h1)
    obtain ⟨i2, hi2, hc2⟩ := mem k2 _ (List.getElem?_eq_getElem h2)
    have e1 : (cs.map (·.1))[i1]? = some (ds[k1]).1 := by rw [List.getElem?_map, hc1]; rfl
    have e2 : (cs.map (·.1))[i2]? = some (ds[k1]).1 := by rw [List.getElem?_map, hc2, e]; rfl
    have := nd_ix F.nd e1 e2
    subst this
    have := nd_ix hn hi1 hi2
    omega
/-- an own cell is laid to what stands -/
theorem Fr.rest (F : Fr B ((p, o) :: cs) H) : Fr (L2.upd B p o) cs H where
  base := fun a u ha => by
    by_cases e : a = p
    · subst e
      rw [upd_same] at ha
      cases ha
      exact F.own _ List.mem_cons_self
    · rw [upd_ne e] at ha
      exact F.base a u ha
  own := fun c hc => F.own c (List.mem_cons_of_mem _ hc)
  new := fun c hc => by
    have hn := F.nd
    rw [List.map_cons, List.nodup_cons] at hn
    have : c.1 ≠ p := fun e => hn.1 (List.mem_map.mpr ⟨c, hc, e⟩)
    rw [upd_ne this]
    exact F.new c (List.mem_cons_of_mem _ hc)
  nd := by
    have hn := F.nd
    rw [List.map_cons, List.nodup_cons] at hn
    exact hn.2
theorem Ex.upd_new (h : B p = none) : Ex B (L2.upd B p o) := Evl.Ex.new h
end

/-! ### values -/
abbrev LI (xs : List Int) : HO := .lst (xs.map V.int)
abbrev LB (xs : List Bool) : HO := .lst (xs.map V.bl)
theorem atI_map {A C : Type} (f : A → C) (xs : List A) (i : Int) : atI (xs.map f) i = (atI xs i).map f := by
  unfold atI
  rw [List.length_map]
  cases ixN xs.length i with
  | none => rfl
  | some j =>
    show (xs.map f)[j]? = (xs[j]?).map f
    rw [List.getElem?_map]
theorem cut_map {A : Type} (f : A → V) (xs : List A) (lo hi : Option Int) : cutV (xs.map f) lo hi = (cut xs lo hi).map f := by
  unfold cutV cut
  rw [List.length_map, List.drop_map_comm, List.take_map_comm]
where
  List.drop_map_comm : ∀ {n : Nat} {l : List A}, (l.map f).drop n = (l.drop n).map f := by intros; rw [List.map_drop]
  List.take_map_comm : ∀ {n : Nat} {l : List A}, (l.map f).take n = (l.take n).map f := by intros; rw [List.map_take]
section
variable {K : PySem.W.Frag} {σ σ' : L2.St} {H H' B : Hp} {ta tb te tx : TE} {t u : TT} {x y z v : V} {r : R2} {i j m : Int} {a p q : Addr} {A : Type} {f : A → V} {xs ys : List A} {b c : Bool}
theorem ev_cg {e e' : A} (h : Ev te σ H (f e)) (hx : e = e') : Ev te σ H (f e') := hx ▸ h
theorem evl_cg {e e' : List A} (h : EvL te σ H (e.map f)) (hx : e = e') : EvL te σ H (e'.map f) := hx ▸ h
theorem et_cg (h : EvT t σ H b) (hx : b = c) : EvT t σ H c := hx ▸ h
/-- numbers -/
def rMulA : R2 := rI IntMulOk fun i j => .int (i * j)
theorem op_mulA {X : Cx} : OpR X (binaryOp .Mult) rMulA := opI fun _ _ _ _ _ _ _ hc q => PyProof.Rows.mul_int q hc
theorem iop_mulA {X : Cx} : OpR X (inplaceOp .Mult) (rI CMul fun i j => .int (i * j)) := iop_mul
theorem rv_I0 {g : Int → Int → V} : RV (rI0 g) (.int i) (.int j) H (g i j) := Evl.rv_I0
theorem rv_I {C : Int → Int → Prop} {g : Int → Int → V} (hc : C i j) : RV (rI C g) (.int i) (.int j) H (g i j) := Evl.rv_I hc
theorem rv_mod (h : modC i j = some m) : RV (rI (fun _ j => 0 < j) fun i j => .int (i % j)) (.int i) (.int j) H (.int m) := by
  obtain ⟨hc, rfl⟩ := of_grd h
  exact rv_I hc
theorem rv_div (h : divC i j = some m) : RV (rI CDivW fun i j => .int (i / j)) (.int i) (.int j) H (.int m) := by
  obtain ⟨hc, rfl⟩ := of_grd h
  exact rv_I hc
theorem rv_mul (h : mulC i j = some m) : RV rMulA (.int i) (.int j) H (.int m) := by
  obtain ⟨hc, rfl⟩ := of_grd h
  exact rv_I hc
theorem rv_shl (h : shlC i j = some m) : RV (rI CShl fun i j => .int (i * 2 ^ j.toNat)) (.int i) (.int j) H (.int m) := by
  obtain ⟨hc, rfl⟩ := of_grd h
  exact rv_I hc
theorem rv_shr (h : shrC i j = some m) : RV (rI (fun _ j => 0 ≤ j) fun i j => .int (i / 2 ^ j.toNat)) (.int i) (.int j) H (.int m) := by
  obtain ⟨hc, rfl⟩ := of_grd h
  exact rv_I hc
theorem rv_pow (h : powC i j = some m) : RV (rI CPow fun i j => .int (i ^ j.toNat)) (.int i) (.int j) H (.int m) := by
  obtain ⟨hc, rfl⟩ := of_grd h
  exact rv_I hc
/-- constants beside a number: no word is asked -/
theorem rv_mulL (k : Int) (hk : -(2 ^ 64) < k ∧ k < 2 ^ 64 := by decide) : RV (rI CMul fun i j => .int (i * j)) (.int k) (.int j) H (.int (k * j)) := rv_I (Or.inl hk)
theorem rv_mulR (k : Int) (hk : -(2 ^ 64) < k ∧ k < 2 ^ 64 := by decide) : RV (rI CMul fun i j => .int (i * j)) (.int i) (.int k) H (.int (i * k)) := rv_I (Or.inr hk)
theorem rv_modK (k : Int) (hk : 0 < k := by decide) : RV (rI (fun _ j => 0 < j) fun i j => .int (i % j)) (.int i) (.int k) H (.int (i % k)) := rv_I hk
theorem rv_divK (k : Int) (hk : 0 < k ∧ k < 1073741824 := by decide) : RV (rI CDiv fun i j => .int (i / j)) (.int i) (.int k) H (.int (i / k)) := rv_I hk
theorem rv_shrK (k : Int) (n : Nat) (hk : 0 ≤ k := by decide) (hn : k.toNat = n := by rfl) : RV (rI (fun _ j => 0 ≤ j) fun i j => .int (i / 2 ^ j.toNat)) (.int i) (.int k) H (.int (i / 2 ^ n)) := by
  subst hn
  exact rv_I hk
theorem rv_shlK (k : Int) (n : Int) {d : Nat} (hk : CPow k n := by decide) (hd : n.toNat = d := by rfl) : RV (rI CPow fun i j => .int (i * 2 ^ j.toNat)) (.int k) (.int n) H (.int (k * 2 ^ d)) := by
  subst hd
  exact rv_I hk
theorem rv_powK (k : Int) (n : Int) {d : Nat} (hk : CPow k n := by decide) (hd : n.toNat = d := by rfl) : RV (rI CPow fun i j => .int (i ^ j.toNat)) (.int k) (.int n) H (.int (k ^ d)) := by
  subst hd
  exact rv_I hk
theorem rv_cg {e e' : Int} (hx : e = e') (h : RV r x y H (.int e)) : RV r x y H (.int e') := hx ▸ h
theorem rv_isN (h : decide (x = .non) = b) : RV (fun x y H Q => y = .non ∧ Q (.bl (decide (x = .non))) H) x .non H (.bl b) := fun H1 _ _ q => ⟨rfl, by rw [h]; exact q H1 (Ex.refl H1)⟩
theorem rv_notN (h : (!decide (x = .non)) = b) : RV (fun x y H Q => y = .non ∧ Q (.bl (!decide (x = .non))) H) x .non H (.bl b) := fun H1 _ _ q => ⟨rfl, by rw [h]; exact q H1 (Ex.refl H1)⟩
theorem ev_chain {r r' : R2} {tc : TE} {w : V} (ha : Ev ta σ H x) (hb : Ev tb σ H y) (hc : Ev tc σ H w) (h1 : RV r x y H (.bl b)) (h2 : RV r' y w H (.bl c)) : Ev (tChain r r' ta tb tc) σ H (.bl (b && c)) := fun H1 e Q q =>
  ha H1 e _ fun H2 e2 => hb H2 (e.trans e2) _ fun H3 e3 => h1 H3 ((e.trans e2).trans e3) _ fun H4 e4 => ⟨b, rfl, by
    cases b with
    | true =>
      show tc σ H4 _
      exact hc H4 (((e.trans e2).trans e3).trans e4) _ fun H5 e5 => h2 H5 ((((e.trans e2).trans e3).trans e4).trans e5) _ fun H6 e6 => q H6 ((((e2.trans e3).trans e4).trans e5).trans e6)
    | false =>
      show Q (.bl false) H4
      exact q H4 ((e2.trans e3).trans e4)⟩
/-- tests -/
theorem rv_eqI : RV rEq (.int i) (.int j) H (.bl (decide (i = j))) := by
  have h : (.bl (decide (i = j)) : V) = .bl (decide (V.int i = V.int j)) := by congr 1; simp
  rw [h]
  exact Evl.rv_eq rfl
theorem rv_neI : RV rNe (.int i) (.int j) H (.bl (!decide (i = j))) := by
  have h : (.bl (!decide (i = j)) : V) = .bl (!decide (V.int i = V.int j)) := by congr 2; simp
  rw [h]
  exact Evl.rv_ne rfl
theorem rv_eqB : RV rEq (.bl b) (.bl c) H (.bl (decide (b = c))) := by
  have h : (.bl (decide (b = c)) : V) = .bl (decide (V.bl b = V.bl c)) := by congr 1; simp
  rw [h]
  exact Evl.rv_eq rfl
theorem rv_neB : RV rNe (.bl b) (.bl c) H (.bl (!decide (b = c))) := by
  have h : (.bl (!decide (b = c)) : V) = .bl (!decide (V.bl b = V.bl c)) := by congr 2; simp
  rw [h]
  exact Evl.rv_ne rfl
theorem et_andO {m : Option Bool} (hm : andC b m = some c) (h1 : EvT t σ H b) (h2 : ∀ y, m = some y → EvT u σ H y) : EvT (tAnd t u) σ H c := by
  unfold andC at hm
  cases b with
  | true =>
    have := Evl.et_and h1 (fun _ => h2 c hm)
    exact this
  | false =>
    cases hm
    exact Evl.et_and (b := false) h1 (fun q => (nomatch q))
theorem et_orO {m : Option Bool} (hm : orC b m = some c) (h1 : EvT t σ H b) (h2 : ∀ y, m = some y → EvT u σ H y) : EvT (tOr t u) σ H c := by
  unfold orC at hm
  cases b with
  | true =>
    cases hm
    exact Evl.et_or (b := false) h1 (fun q => (nomatch q))
  | false =>
    have := Evl.et_or h1 (fun _ => h2 c hm)
    exact this
theorem ev_andVO {m : Option Bool} (hm : andC b m = some c) (h1 : Ev ta σ H (.bl b)) (h2 : ∀ y, m = some y → Ev tb σ H (.bl y)) : Ev (tAndV ta tb) σ H (.bl c) := by
  unfold andC at hm
  cases b with
  | true =>
    have := Evl.ev_andV h1 (fun _ => h2 c hm)
    exact this
  | false =>
    cases hm
    exact Evl.ev_andV (b := false) h1 (fun q => (nomatch q))
theorem ev_orVO {m : Option Bool} (hm : orC b m = some c) (h1 : Ev ta σ H (.bl b)) (h2 : ∀ y, m = some y → Ev tb σ H (.bl y)) : Ev (tOrV ta tb) σ H (.bl c) := by
  unfold orC at hm
  cases b with
  | true =>
    cases hm
    exact Evl.ev_orV (b := false) h1 (fun q => (nomatch q))
  | false =>
    have := Evl.ev_orV h1 (fun _ => h2 c hm)
    exact this
/-- len -/
def rLen (K : PySem.W.Frag) : List V → Hp → VK → Prop := fun xs H Q => ∃ p ys, xs = [.ref p] ∧ (SqL K H p ys ∨ SqT K H p ys) ∧ Q (.int ys.length) H
theorem cr_len {X : Cx} : CallR X (.builtin "len") (rLen X.K) := call_len_seq
theorem ev_len (h : SqL K H a (xs.map f)) (ha : Ev ta σ H (.ref a)) : Ev (tCB (rLen K) (tCons ta tNil)) σ H (.int (xs.length : Int)) := fun H1 e Q q =>
  ha H1 e _ fun H2 e2 => ⟨a, xs.map f, rfl, Or.inl (Evl.ex_l (e.trans e2) h), by rw [List.length_map]; exact q H2 e2⟩
theorem ev_lenN (ha : EvL ta σ H (xs.map f)) : Ev (tCB (rLen K) (tCons ta tNil)) σ H (.int (xs.length : Int)) := fun H1 e Q q =>
  ha H1 e _ fun p H2 _ e2 hp => ⟨p, xs.map f, rfl, Or.inl (Evl.sq_of hp), by rw [List.length_map]; exact q H2 e2⟩
/-- items -/
theorem rv_ix {w : A} (hv : atI xs i = some w) (h : SqL K H a (xs.map f)) : RV (rIxL K) (.ref a) (.int i) H (f w) := Evl.rv_ixL h (by rw [atI_map, hv]; rfl)
theorem rv_ixT {w : A} (hv : atI xs i = some w) (h : SqT K H a (xs.map f)) : RV (rIxT K) (.ref a) (.int i) H (f w) := Evl.rv_ixT h (by rw [atI_map, hv]; rfl)
theorem ev_ixN {w : A} (hv : atI xs i = some w) (ha : EvL ta σ H (xs.map f)) (hb : Ev tb σ H (.int i)) : Ev (tOp (rIxL K) ta tb) σ H (f w) :=
  Evl.ev_opL1 ha (fun H1 e => hb.mono e) fun p H1 h e => rv_ix hv (Evl.sq_of h)
/-- list(..) -/
def rLst (K : PySem.W.Frag) : List V → Hp → VK → Prop := fun xs H Q => ∃ p ys, xs = [.ref p] ∧ (SqL K H p ys ∨ SqT K H p ys) ∧ ∀ l, H l = none → Q (.ref l) (upd H l (.lst ys))
theorem cr_list {X : Cx} : CallR X (.type "list") (rLst X.K) := call_list_of
theorem el_list (h : SqL K H a (xs.map f)) (ha : Ev ta σ H (.ref a)) : EvL (tCB (rLst K) (tCons ta tNil)) σ H (xs.map f) := Evl.el_list ha h
theorem el_listN (h : EvL ta σ H (xs.map f)) : EvL (tCB (rLst K) (tCons ta tNil)) σ H (xs.map f) := fun H1 e _ q =>
  h H1 e _ fun p H2 hp e2 h2 => ⟨p, xs.map f, rfl, Or.inl (Evl.sq_of h2), fun l hl => q l _ (Evl.fresh_back e2 hl) (e2.trans (Evl.Ex.new hl)) upd_same⟩
/-- slices -/
theorem el_sl {tl th : TO} {lo hi : Option Int} (h : SqL K H a (xs.map f)) (ha : Ev ta σ H (.ref a)) (h1 : EvO tl σ H lo) (h2 : EvO th σ H hi) : EvL (tSl (rSlL K) ta tl th) σ H ((cut xs lo hi).map f) := by
  rw [← cut_map]
  exact Evl.el_sl ha h1 h2 h
/-- displays -/
theorem el_lst {tA : TA} {vs : List V} (h : EvA tA σ H vs) (hl : vs.length ≤ 100000 := by decide) : EvL (tLst tA) σ H vs := Evl.el_lst h hl
/-- + and * of lists -/
theorem el_cat {zs : List A} (hm : catC xs ys = some zs) (h1 : H p = some (.lst (xs.map f))) (ha : Ev ta σ H (.ref p)) (h2 : H q = some (.lst (ys.map f))) (hb : Ev tb σ H (.ref q)) : EvL (tOp rCat ta tb) σ H (zs.map f) := by
  obtain ⟨hc, rfl⟩ := of_grd hm
  exact fun H1 e Q k => ha H1 e _ fun H2 e2 => hb H2 (e.trans e2) _ fun H3 e3 => ⟨p, q, xs.map f, ys.map f, rfl, rfl, (e.trans (e2.trans e3)) _ _ h1, (e.trans (e2.trans e3)) _ _ h2, by rw [List.length_map, List.length_map, sizeLine_eq]; exact hc,
    fun l hl => k l _ (Evl.fresh_back (e2.trans e3) hl) ((e2.trans e3).trans (Evl.Ex.new hl)) (by rw [List.map_append]; exact upd_same)⟩
theorem el_catN {zs : List A} (hm : catC xs ys = some zs) (h1 : H p = some (.lst (xs.map f))) (ha : Ev ta σ H (.ref p)) (hb : EvL tb σ H (ys.map f)) : EvL (tOp rCat ta tb) σ H (zs.map f) := by
  obtain ⟨hc, rfl⟩ := of_grd hm
  exact fun H1 e Q k => ha H1 e _ fun H2 e2 => hb H2 (e.trans e2) _ fun q H3 _ e3 h2 => ⟨p, q, xs.map f, ys.map f, rfl, rfl, (e.trans (e2.trans e3)) _ _ h1, h2, by rw [List.length_map, List.length_map, sizeLine_eq]; exact hc,
    fun l hl => k l _ (Evl.fresh_back (e2.trans e3) hl) ((e2.trans e3).trans (Evl.Ex.new hl)) (by rw [List.map_append]; exact upd_same)⟩
theorem el_catNN {zs : List A} (hm : catC xs ys = some zs) (ha : EvL ta σ H (xs.map f)) (hb : EvL tb σ H (ys.map f)) : EvL (tOp rCat ta tb) σ H (zs.map f) := by
  obtain ⟨hc, rfl⟩ := of_grd hm
  exact fun H1 e Q k => ha H1 e _ fun p H2 _ e2 h1 => hb H2 (e.trans e2) _ fun q H3 _ e3 h2 => ⟨p, q, xs.map f, ys.map f, rfl, rfl, e3 _ _ h1, h2, by rw [List.length_map, List.length_map, sizeLine_eq]; exact hc,
    fun l hl => k l _ (Evl.fresh_back (e2.trans e3) hl) ((e2.trans e3).trans (Evl.Ex.new hl)) (by rw [List.map_append]; exact upd_same)⟩
theorem map_flat (f : A → V) (xs : List A) (n : Nat) : (List.replicate n (xs.map f)).flatten = ((List.replicate n xs).flatten).map f := by
  induction n with
  | zero => rfl
  | succ n ih => rw [List.replicate_succ, List.replicate_succ, List.flatten_cons, List.flatten_cons, ih, List.map_append]
theorem el_repN {zs : List A} {k : Int} (hm : repC xs k = some zs) (ha : EvL ta σ H (xs.map f)) (hb : Ev tb σ H (.int k)) : EvL (tOp rRep ta tb) σ H (zs.map f) := by
  obtain ⟨hc, rfl⟩ := of_grd hm
  exact fun H1 e Q kk => ha H1 e _ fun p H2 _ e2 h1 => hb H2 (e.trans e2) _ fun H3 e3 => ⟨p, k, xs.map f, rfl, rfl, e3 _ _ h1, hc.1, hc.2.1, by rw [List.length_map, sizeLine_eq]; exact hc.2.2,
    fun l hl => kk l _ (Evl.fresh_back (e2.trans e3) hl) ((e2.trans e3).trans (Evl.Ex.new hl)) (by rw [map_flat]; exact upd_same)⟩
/-- == of lists of numbers -/
theorem dp_ints {xs : List Int} (h : SqL K H a (xs.map V.int)) : Dp K H (.ref a) (.list (xs.map PyData.int)) := by
  refine .lst h ?_
  clear h
  induction xs with
  | nil => exact .nil
  | cons n l ih => exact .cons (.int n) ih
theorem lay_ints : ∀ xs : List Int, PyData.canLayAll0 (xs.map PyData.int) = true
  | [] => rfl
  | x :: l => by
    show (PyData.canLay0 (.int x) && PyData.canLayAll0 (l.map PyData.int)) = true
    rw [lay_ints l]
    rfl
theorem depth_ints : ∀ xs : List Int, PyData.depthAll (xs.map PyData.int) ≤ 1
  | [] => by decide
  | x :: l => by
    have := depth_ints l
    simp only [List.map_cons, PyData.depthAll, PyData.depth]
    omega
theorem shaped_ints (xs : List Int) : SeqAt.shaped (.list (xs.map PyData.int)) = true := by
  unfold SeqAt.shaped
  rw [Bool.and_eq_true]
  refine ⟨lay_ints xs, decide_eq_true ?_⟩
  have := depth_ints xs
  simp only [PyData.depth]
  omega
theorem eqvAll_ints : ∀ xs ys : List Int, PyData.eqvAll (xs.map PyData.int) (ys.map PyData.int) = decide (xs = ys)
  | [], [] => by simp [PyData.eqvAll]
  | [], _ :: _ => by simp [PyData.eqvAll]
  | _ :: _, [] => by simp [PyData.eqvAll]
  | x :: l, y :: r => by
    rw [List.map_cons, List.map_cons, PyData.eqvAll, eqvAll_ints l r]
    by_cases h : x = y <;> by_cases h2 : l = r <;> simp [h, h2, PyData.eqv]
theorem eqv_ints (xs ys : List Int) : PyData.eqv (.list (xs.map PyData.int)) (.list (ys.map PyData.int)) = decide (xs = ys) := by
  rw [← eqvAll_ints]
  simp [PyData.eqv]
theorem rv_eqL {xs ys : List Int} (h1 : SqL K H p (xs.map V.int)) (h2 : SqL K H q (ys.map V.int)) : RV (rEqD K) (.ref p) (.ref q) H (.bl (decide (xs = ys))) := fun H1 e Q k =>
  ⟨_, _, dp_ints (Evl.ex_l e h1), dp_ints (Evl.ex_l e h2), shaped_ints _, shaped_ints _, by rw [eqv_ints]; exact k H1 (Ex.refl H1)⟩
theorem rv_neL {xs ys : List Int} (h1 : SqL K H p (xs.map V.int)) (h2 : SqL K H q (ys.map V.int)) : RV (rNeD K) (.ref p) (.ref q) H (.bl (!decide (xs = ys))) := fun H1 e Q k =>
  ⟨_, _, dp_ints (Evl.ex_l e h1), dp_ints (Evl.ex_l e h2), shaped_ints _, shaped_ints _, by rw [eqv_ints]; exact k H1 (Ex.refl H1)⟩
theorem ev_opLr {r : R2} {zs : List V} (hb : EvL tb σ H zs) (ha : Ev ta σ H x) (hr : ∀ p H1, H1 p = some (.lst zs) → Ex H H1 → RV r x (.ref p) H1 z) : Ev (tOp r ta tb) σ H z := Evl.ev_opL ha hb hr
theorem ev_eqN {xs ys : List Int} (h1 : SqL K H p (xs.map V.int)) (ha : Ev ta σ H (.ref p)) (hb : EvL tb σ H (ys.map V.int)) : Ev (tOp (rEqD K) ta tb) σ H (.bl (decide (xs = ys))) := ev_opLr hb ha fun _ _ h e => rv_eqL (Evl.ex_l e h1) (Evl.sq_of h)
theorem ev_neN {xs ys : List Int} (h1 : SqL K H p (xs.map V.int)) (ha : Ev ta σ H (.ref p)) (hb : EvL tb σ H (ys.map V.int)) : Ev (tOp (rNeD K) ta tb) σ H (.bl (!decide (xs = ys))) := ev_opLr hb ha fun _ _ h e => rv_neL (Evl.ex_l e h1) (Evl.sq_of h)
theorem ev_eqNN {xs ys : List Int} (ha : EvL ta σ H (xs.map V.int)) (hb : EvL tb σ H (ys.map V.int)) : Ev (tOp (rEqD K) ta tb) σ H (.bl (decide (xs = ys))) := Evl.ev_opLL ha hb fun _ _ _ h h' e => rv_eqL (Evl.sq_of h) (Evl.sq_of h')
theorem ev_neNN {xs ys : List Int} (ha : EvL ta σ H (xs.map V.int)) (hb : EvL tb σ H (ys.map V.int)) : Ev (tOp (rNeD K) ta tb) σ H (.bl (!decide (xs = ys))) := Evl.ev_opLL ha hb fun _ _ _ h h' e => rv_neL (Evl.sq_of h) (Evl.sq_of h')
theorem ev_eqN1 {xs ys : List Int} (h1 : SqL K H p (ys.map V.int)) (ha : EvL ta σ H (xs.map V.int)) (hb : Ev tb σ H (.ref p)) : Ev (tOp (rEqD K) ta tb) σ H (.bl (decide (xs = ys))) := Evl.ev_opL1 ha (fun _ e => hb.mono e) fun _ _ h e => rv_eqL (Evl.sq_of h) (Evl.ex_l e h1)
theorem ev_neN1 {xs ys : List Int} (h1 : SqL K H p (ys.map V.int)) (ha : EvL ta σ H (xs.map V.int)) (hb : Ev tb σ H (.ref p)) : Ev (tOp (rNeD K) ta tb) σ H (.bl (!decide (xs = ys))) := Evl.ev_opL1 ha (fun _ e => hb.mono e) fun _ _ h e => rv_neL (Evl.sq_of h) (Evl.ex_l e h1)
/-- built-ins of numbers -/
def rAbs : List V → Hp → VK → Prop := fun xs H Q => ∃ i, xs = [.int i] ∧ Q (.int (if i < 0 then -i else i)) H
theorem cr_abs {X : Cx} : CallR X (.builtin "abs") rAbs := call_abs
theorem ev_abs (h : Ev ta σ H (.int i)) : Ev (tCB rAbs (tCons ta tNil)) σ H (.int (absI i)) := fun H1 e _ q => h H1 e _ fun H2 e2 => ⟨i, rfl, q H2 e2⟩
def rMax2 : List V → Hp → VK → Prop := fun xs H Q => ∃ i j, xs = [.int i, .int j] ∧ Q (.int (if j > i then j else i)) H
def rMin2 : List V → Hp → VK → Prop := fun xs H Q => ∃ i j, xs = [.int i, .int j] ∧ Q (.int (if j < i then j else i)) H
theorem cr_max2 {X : Cx} (hc : X.calm = true) : CallR X (.builtin "max") rMax2 := call_max2 hc
theorem cr_min2 {X : Cx} (hc : X.calm = true) : CallR X (.builtin "min") rMin2 := call_min2 hc
theorem ev_max2 (ha : Ev ta σ H (.int i)) (hb : Ev tb σ H (.int j)) : Ev (tCB rMax2 (tCons ta (tCons tb tNil))) σ H (.int (maxI i j)) := fun H1 e _ q => ha H1 e _ fun H2 e2 => hb H2 (e.trans e2) _ fun H3 e3 => ⟨i, j, rfl, q H3 (e2.trans e3)⟩
theorem ev_min2 (ha : Ev ta σ H (.int i)) (hb : Ev tb σ H (.int j)) : Ev (tCB rMin2 (tCons ta (tCons tb tNil))) σ H (.int (minI i j)) := fun H1 e _ q => ha H1 e _ fun H2 e2 => hb H2 (e.trans e2) _ fun H3 e3 => ⟨i, j, rfl, q H3 (e2.trans e3)⟩
def rInt : List V → Hp → VK → Prop := fun xs H Q => (∃ i, xs = [.int i] ∧ Q (.int i) H) ∨ ∃ k, xs = [.bl k] ∧ Q (.int (if k then 1 else 0)) H
theorem cr_int {X : Cx} : CallR X (.type "int") rInt := call_int1
theorem ev_int (h : Ev ta σ H (.int i)) : Ev (tCB rInt (tCons ta tNil)) σ H (.int i) := fun H1 e _ q => h H1 e _ fun H2 e2 => Or.inl ⟨i, rfl, q H2 e2⟩
theorem ev_intB (h : Ev ta σ H (.bl b)) : Ev (tCB rInt (tCons ta tNil)) σ H (.int (b2 b)) := fun H1 e _ q => h H1 e _ fun H2 e2 => Or.inr ⟨b, rfl, q H2 e2⟩
theorem ev_bits (h : Ev ta σ H (.int i)) : Ev (tBits ta) σ H (.int (bitsI i)) := fun H1 e _ q => h H1 e _ fun H2 e2 => ⟨i, rfl, q H2 e2⟩
theorem ev_neg (h : Ev ta σ H (.int i)) : Ev (tUn (rU fun i => .int (-i)) ta) σ H (.int (-i)) := Evl.ev_un h Evl.ru_neg
theorem ev_inv (h : Ev ta σ H (.int i)) : Ev (tUn (rU fun i => .int (Builtin.bitNot i)) ta) σ H (.int (Builtin.bitNot i)) := Evl.ev_un h fun H1 _ _ q => ⟨i, rfl, q H1 (Ex.refl H1)⟩
/-- isinstance -/
theorem ev_isi {w : Value} {n : String} (ha : Ev ta σ H x) (hb : Ev tb σ H (.ty n)) (ty : ∀ H1, Ex H H1 → TyX K H1 x w) (hk : PySem.W.kitOne K w (.type n) = some b) : Ev (tCB (rIsi K) (tCons ta (tCons tb tNil))) σ H (.bl b) := fun H1 e _ q =>
  ha H1 e _ fun H2 e2 => hb H2 (e.trans e2) _ fun H3 e3 => ⟨x, .ty n, w, .type n, b, rfl, .ty n, ty H3 ((e.trans e2).trans e3), hk, q H3 (e2.trans e3)⟩
theorem ty_int {i : Int} (H1 : Hp) (_ : Ex H H1) : TyX K H1 (.int i) (.type "int") := .base (.int i)
theorem ty_bl {k : Bool} (H1 : Hp) (_ : Ex H H1) : TyX K H1 (.bl k) (.type "bool") := .base (.bl k)
theorem ty_lst {vs : List V} (h : H a = some (.lst vs)) (H1 : Hp) (e : Ex H H1) : TyX K H1 (.ref a) (.type "list") := .base (.lst (e _ _ h))
theorem ty_tup {vs : List V} (h : H a = some (.tup vs)) (H1 : Hp) (e : Ex H H1) : TyX K H1 (.ref a) (.type "tuple") := .base (.tup (e _ _ h))
/-- sum, all, any -/
theorem ev_sum {xs : List Int} (h : SqL K H a (xs.map V.int)) (ha : Ev ta σ H (.ref a)) : Ev (tCB (rSum K) (tCons ta tNil)) σ H (.int xs.sum) := fun H1 e _ q => ha H1 e _ fun H2 e2 => ⟨a, xs, rfl, Evl.ex_l (e.trans e2) h, q H2 e2⟩
theorem ev_sumN {xs : List Int} (ha : EvL ta σ H (xs.map V.int)) : Ev (tCB (rSum K) (tCons ta tNil)) σ H (.int xs.sum) := fun H1 e _ q => ha H1 e _ fun p H2 _ e2 h => ⟨p, xs, rfl, Evl.sq_of h, q H2 e2⟩
theorem ev_allN {xs : List Bool} (ha : EvL ta σ H (xs.map V.bl)) : Ev (tCB (rAll K) (tCons ta tNil)) σ H (.bl (xs.all id)) := fun H1 e _ q => ha H1 e _ fun p H2 _ e2 h => ⟨p, xs, rfl, Evl.sq_of h, q H2 e2⟩
theorem ev_anyN {xs : List Bool} (ha : EvL ta σ H (xs.map V.bl)) : Ev (tCB (rAny K) (tCons ta tNil)) σ H (.bl (xs.any id)) := fun H1 e _ q => ha H1 e _ fun p H2 _ e2 h => ⟨p, xs, rfl, Evl.sq_of h, q H2 e2⟩
/-- a if c else b -/
theorem ev_ifV {w : A} {m1 m2 : Option A} (hm : (if b = true then m1 else m2) = some w) (h : EvT t σ H b) (h1 : ∀ y, m1 = some y → Ev ta σ H (f y)) (h2 : ∀ y, m2 = some y → Ev tb σ H (f y)) : Ev (tIf t ta tb) σ H (f w) :=
  Evl.ev_if h (fun hb => h1 w (by rw [if_pos hb] at hm; exact hm)) (fun hb => h2 w (by rw [if_neg (by rw [hb]; exact Bool.false_ne_true)] at hm; exact hm))
/-- arguments: a new list among them -/
theorem ta_val {tr : TA} {Q : List V → Hp → Prop} (h : Ev te σ H v) (k : ∀ H1, Ex H H1 → tr σ H1 fun vs H2 => Q (v :: vs) H2) : tCons te tr σ H Q := h H (Ex.refl H) _ k
theorem ta_new {tr : TA} {Q : List V → Hp → Prop} {zs : List V} (h : EvL te σ H zs) (k : ∀ p H1, H p = none → Ex H H1 → H1 p = some (.lst zs) → tr σ H1 fun vs H2 => Q (.ref p :: vs) H2) : tCons te tr σ H Q := h H (Ex.refl H) _ k
theorem ta_newU {tr : TA} {Q : List V → Hp → Prop} {zs : List V} (h : EvU te σ H zs) (k : ∀ p H1, H p = none → Ex H H1 → H1 p = some (.tup zs) → tr σ H1 fun vs H2 => Q (.ref p :: vs) H2) : tCons te tr σ H Q := h H (Ex.refl H) _ k
end

/-! ### comprehensions -/
theorem mapO_some {A C : Type} {f : A → Option C} : ∀ {xs : List A} {ys : List C}, mapO f xs = some ys → ys.length = xs.length ∧ ∀ (i : Nat) x, xs[i]? = some x → ∃ y, ys[i]? = some y ∧ f x = some y
  | [], ys, h => by
    cases h
    exact ⟨rfl, fun i x hx => by simp at hx⟩
  | x :: l, ys, h => by
    obtain ⟨y, hy, h⟩ := of_bind h
    obtain ⟨r, hr, h⟩ := of_bind h
    cases h
    obtain ⟨h1, h2⟩ := mapO_some hr
    refine ⟨by rw [List.length_cons, List.length_cons, h1], fun i z hz => ?_⟩
    cases i with
    | zero =>
      cases hz
      exact ⟨y, rfl, hy⟩
    | succ i => exact h2 i z hz
section
variable {K : PySem.W.Frag} {σ : L2.St} {H : Hp} {tl te : TE} {tt : TT} {a : Addr} {A C : Type} {f : A → V} {g : C → V} {xs : List A} {ys : List C} {j : Nat} {vs : List Nat}
def Lc (H : Hp) (ys : List V) (D : Addr) (i : Nat) (H' : Hp) : Prop := H D = none ∧ Ex H H' ∧ H' D = some (.lst (ys.take i))
theorem lc_turn {H H' : Hp} {ys : List V} {D : Addr} {i : Nat} {y : V} {σ2 : L2.St} (p : Lc H ys D i H') (hi : ys[i]? = some y) (hz : i < 16777216) (he : Ev te σ2 H y) :
    tYes σ2 H' fun b H3 => if b = true then te σ2 H3 fun y H4 => ∃ acc, H4 D = some (.lst acc) ∧ acc.length < sizeLine ∧ Lc H ys D (i + 1) (upd H4 D (.lst (acc ++ [y]))) else Lc H ys D (i + 1) H3 := by
  obtain ⟨p1, p2, p3⟩ := p
  show te σ2 H' fun y H4 => ∃ acc, H4 D = some (.lst acc) ∧ acc.length < sizeLine ∧ Lc H ys D (i + 1) (upd H4 D (.lst (acc ++ [y])))
  refine he H' p2 _ fun H4 e4 => ⟨ys.take i, e4 D _ p3, ?_, p1, (p2.trans e4).mut p1, ?_⟩
  · rw [sizeLine_eq, List.length_take]
    omega
  · rw [upd_same, List.take_add_one, hi]
    rfl
theorem el_mapL {m : A → Option C} (hm : mapO m xs = some ys) (hx : SqL K H a (xs.map f)) (ha : Ev tl σ H (.ref a)) (hz : xs.length ≤ 16777216) (hw : ∀ x, wipe ((wipe σ vs).set j (some x)) vs = wipe σ vs)
    (he : ∀ x y H1, Ex H H1 → m x = some y → Ev te ((wipe σ vs).set j (some (f x))) H1 (g y)) : EvL (tLc (iList K tl) (gName j) tYes te vs) σ H (ys.map g) := by
  obtain ⟨hl, hs⟩ := mapO_some hm
  refine fun H0 e Q q => ha H0 e _ fun H1 e1 => ⟨a, rfl, ⟨xs.map f, Evl.ex_l (e.trans e1) hx⟩, fun Dl hD =>
    lc_list (xs := xs.map f) (Lc H1 (ys.map g) Dl) ⟨hD, Evl.Ex.new hD, upd_same⟩ (fun i H' _ p => Evl.ex_l ((e.trans e1).trans p.2.1) hx) (fun i v H' hi p => ⟨hw v, ?_⟩) (fun H' p => q Dl H' (Evl.fresh_back e1 p.1) (e1.trans p.2.1) ?_)⟩
  · rw [List.getElem?_map] at hi
    cases hxi : xs[i]? with
    | none => rw [hxi] at hi; cases hi
    | some x =>
      rw [hxi] at hi
      cases hi
      obtain ⟨y, hy, hf⟩ := hs i x hxi
      have hlt := (List.getElem?_eq_some_iff.mp hxi).1
      exact lc_turn p (y := g y) (by rw [List.getElem?_map, hy]; rfl) (by omega) (he x y H1 (e.trans e1) hf)
  · have := p.2.2
    rw [List.length_map, ← hl, List.take_of_length_le (by rw [List.length_map]; exact Nat.le_refl _)] at this
    exact this
theorem el_mapLN {m : A → Option C} (hm : mapO m xs = some ys) (ha : EvL tl σ H (xs.map f)) (hz : xs.length ≤ 16777216) (hw : ∀ x, wipe ((wipe σ vs).set j (some x)) vs = wipe σ vs)
    (he : ∀ x y H1, Ex H H1 → m x = some y → Ev te ((wipe σ vs).set j (some (f x))) H1 (g y)) : EvL (tLc (iList K tl) (gName j) tYes te vs) σ H (ys.map g) := by
  obtain ⟨hl, hs⟩ := mapO_some hm
  refine fun H0 e Q q => ha H0 e _ fun a H1 _ e1 hx => ⟨a, rfl, ⟨xs.map f, Evl.sq_of hx⟩, fun Dl hD =>
    lc_list (xs := xs.map f) (Lc H1 (ys.map g) Dl) ⟨hD, Evl.Ex.new hD, upd_same⟩ (fun i H' _ p => Evl.sq_of (p.2.1 _ _ hx)) (fun i v H' hi p => ⟨hw v, ?_⟩) (fun H' p => q Dl H' (Evl.fresh_back e1 p.1) (e1.trans p.2.1) ?_)⟩
  · rw [List.getElem?_map] at hi
    cases hxi : xs[i]? with
    | none => rw [hxi] at hi; cases hi
    | some x =>
      rw [hxi] at hi
      cases hi
      obtain ⟨y, hy, hf⟩ := hs i x hxi
      have hlt := (List.getElem?_eq_some_iff.mp hxi).1
      exact lc_turn p (y := g y) (by rw [List.getElem?_map, hy]; rfl) (by omega) (he x y H1 (e.trans e1) hf)
  · have := p.2.2
    rw [List.length_map, ← hl, List.take_of_length_le (by rw [List.length_map]; exact Nat.le_refl _)] at this
    exact this
theorem rngI_at {lo hi : Int} {i : Nat} {x : Int} (h : (rngI lo hi)[i]? = some x) : x = lo + (i : Int) ∧ i < (hi - lo).toNat := by
  unfold rngI at h
  rw [List.getElem?_map] at h
  cases e : (List.range (hi - lo).toNat)[i]? with
  | none => rw [e] at h; cases h
  | some k =>
    rw [e] at h
    obtain ⟨h1, h2⟩ := List.getElem?_eq_some_iff.mp e
    rw [List.length_range] at h1
    rw [List.getElem_range] at h2
    cases h
    rw [← h2]
    exact ⟨rfl, h1⟩
theorem rngI_get {lo hi : Int} {i : Nat} (h : i < (hi - lo).toNat) : (rngI lo hi)[i]? = some (lo + (i : Int)) := by
  unfold rngI
  rw [List.getElem?_map, List.getElem?_range h]
  rfl
theorem rngI_length (lo hi : Int) : (rngI lo hi).length = (hi - lo).toNat := by
  unfold rngI
  rw [List.length_map, List.length_range]
theorem el_mapR2 {tA : TA} {lo hi : Int} {rs : List Int} {m : Int → Option C} (hr : rngC lo hi = some rs) (hm : mapO m rs = some ys) (ha : EvA tA σ H [.int lo, .int hi]) (hz : rs.length ≤ 16777216) (hw : ∀ x, wipe ((wipe σ vs).set j (some x)) vs = wipe σ vs)
    (he : ∀ x y H1, Ex H H1 → m x = some y → Ev te ((wipe σ vs).set j (some (.int x))) H1 (g y)) : EvL (tLc (iRng2 tA) (gName j) tYes te vs) σ H (ys.map g) := by
  obtain ⟨⟨r1, r2, r3, r4⟩, rfl⟩ := of_grd hr
  obtain ⟨hl, hs⟩ := mapO_some hm
  rw [rngI_length] at hl hz
  refine fun H0 e Q q => ha H0 e _ fun H1 e1 => ⟨lo, hi, rfl, ⟨r1, r2, r3, r4⟩, fun Dl hD =>
    lc_range (lo := lo) (n := (hi - lo).toNat) (Lc H1 (ys.map g) Dl) ⟨hD, Evl.Ex.new hD, upd_same⟩ (fun i H' hi' p => ⟨hw _, ?_⟩) (fun H' p => q Dl H' (Evl.fresh_back e1 p.1) (e1.trans p.2.1) ?_)⟩
  · obtain ⟨y, hy, hf⟩ := hs i _ (rngI_get hi')
    exact lc_turn p (y := g y) (by rw [List.getElem?_map, hy]; rfl) (by omega) (he _ y H1 (e.trans e1) hf)
  · have := p.2.2
    rw [← hl, List.take_of_length_le (by rw [List.length_map]; exact Nat.le_refl _)] at this
    exact this
theorem el_mapR1 {tA : TA} {hi : Int} {rs : List Int} {m : Int → Option C} (hr : rngC 0 hi = some rs) (hm : mapO m rs = some ys) (ha : EvA tA σ H [.int hi]) (hz : rs.length ≤ 16777216) (hw : ∀ x, wipe ((wipe σ vs).set j (some x)) vs = wipe σ vs)
    (he : ∀ x y H1, Ex H H1 → m x = some y → Ev te ((wipe σ vs).set j (some (.int x))) H1 (g y)) : EvL (tLc (iRng1 tA) (gName j) tYes te vs) σ H (ys.map g) := by
  obtain ⟨⟨r1, r2, r3, r4⟩, rfl⟩ := of_grd hr
  obtain ⟨hl, hs⟩ := mapO_some hm
  rw [rngI_length] at hl hz
  have e0 : (hi - 0).toNat = hi.toNat := by rw [Int.sub_zero]
  rw [e0] at hl hz
  refine fun H0 e Q q => ha H0 e _ fun H1 e1 => ⟨hi, rfl, r3, r4, fun Dl hD =>
    lc_range (lo := 0) (n := hi.toNat) (Lc H1 (ys.map g) Dl) ⟨hD, Evl.Ex.new hD, upd_same⟩ (fun i H' hi' p => ⟨hw _, ?_⟩) (fun H' p => q Dl H' (Evl.fresh_back e1 p.1) (e1.trans p.2.1) ?_)⟩
  · obtain ⟨y, hy, hf⟩ := hs i _ (rngI_get (lo := 0) (by rw [e0]; exact hi'))
    exact lc_turn p (y := g y) (by rw [List.getElem?_map, hy]; rfl) (by omega) (he _ y H1 (e.trans e1) hf)
  · have := p.2.2
    rw [← hl, List.take_of_length_le (by rw [List.length_map]; exact Nat.le_refl _)] at this
    exact this
end

/-! ### statements: the heap's state F goes on from one to the next -/
section
variable {K : PySem.W.Frag} {σ σ' : L2.St} {B H H' : Hp} {cs cs' : List (Addr × HO)} {ta tb te tx : TE} {t u : TT} {x y z v : V} {D : Ends} {tu tw tz : TS} {i j k : Nat} {p : Addr} {A : Type} {f : A → V}
theorem g_asg (F : Fr B cs H) (h : Ev te σ H v) (hσ : σ.set i (some v) = σ') (k : ∀ H1, Fr B cs H1 → tz D σ' H1) : tSeq (tAsg te (gName i)) tz D σ H := by
  subst hσ
  exact Evl.q_asg h fun H1 e => k H1 (F.ex e)
theorem g_asgL (F : Fr B cs H) {zs : List V} (h : EvL te σ H zs) (k : ∀ p H1, Fr B (cs ++ [(p, .lst zs)]) H1 → tz D (σ.set i (some (.ref p))) H1) : tSeq (tAsg te (gName i)) tz D σ H :=
  Evl.q_asgL h fun p H1 hp e h1 => k p H1 (F.add hp e h1)
theorem g_asgU (F : Fr B cs H) {zs : List V} (h : EvU te σ H zs) (k : ∀ p H1, Fr B (cs ++ [(p, .tup zs)]) H1 → tz D (σ.set i (some (.ref p))) H1) : tSeq (tAsg te (gName i)) tz D σ H :=
  Evl.q_asgU h fun p H1 hp e h1 => k p H1 (F.add hp e h1)
theorem g_ret (F : Fr B cs H) (h : Ev te σ H v) (k : ∀ H1, Fr B cs H1 → D.rt v H1) : tRet te D σ H := Evl.s_ret h fun H1 e => k H1 (F.ex e)
theorem g_retL (F : Fr B cs H) {zs : List V} (h : EvL te σ H zs) (k : ∀ p H1, Fr B (cs ++ [(p, .lst zs)]) H1 → D.rt (.ref p) H1) : tRet te D σ H := Evl.s_retL h fun p H1 hp e h1 => k p H1 (F.add hp e h1)
theorem g_retU (F : Fr B cs H) {zs : List V} (h : EvU te σ H zs) (k : ∀ p H1, Fr B (cs ++ [(p, .tup zs)]) H1 → D.rt (.ref p) H1) : tRet te D σ H := Evl.s_retU h fun p H1 hp e h1 => k p H1 (F.add hp e h1)
theorem g_aug {r : R2} (F : Fr B cs H) (hx : σ[i]? = some (some x)) (h : Ev te σ H y) (hr : RV r x y H z) (hσ : σ.set i (some z) = σ') (k : ∀ H1, Fr B cs H1 → tz D σ' H1) : tSeq (tAug i te r) tz D σ H := by
  subst hσ
  exact ⟨x, hx, h H (Ex.refl H) _ fun H1 e => hr H1 e _ fun H2 e2 => k H2 (F.ex (e.trans e2))⟩
theorem g_drop (F : Fr B cs H) (h : Ev te σ H v) (k : ∀ H1, Fr B cs H1 → tz D σ H1) : tSeq (tDrop te) tz D σ H := Evl.q_drop h fun H1 e => k H1 (F.ex e)
/-- xs.append(e) -/
theorem g_app {xs zs : List A} {w : A} (F : Fr B cs H) (hm : appC xs w = some zs) (hi : cs[i]? = some (p, .lst (xs.map f))) (ha : Ev ta σ H (.ref p)) (h : Ev te σ H (f w)) (hcs : cs.set i (p, .lst (zs.map f)) = cs') (k : ∀ H1, Fr B cs' H1 → tz D σ H1) :
    tSeq (tDrop (tBM K "list" rAppend ta (tCons te tNil))) tz D σ H := by
  subst hcs
  obtain ⟨hz, rfl⟩ := of_grd hm
  have hl := F.get i hi
  refine ha H (Ex.refl H) _ fun H1 e1 => ⟨Or.inl ⟨rfl, xs.map f, Evl.sq_of (e1 p _ hl)⟩, h H1 e1 _ fun H2 e2 => ⟨p, xs.map f, f w, rfl, rfl, e2 p _ (e1 p _ hl), by rw [List.length_map, sizeLine_eq]; exact hz, ?_⟩⟩
  have := (F.ex (e1.trans e2)).upd i (o' := .lst ((xs ++ [w]).map f)) hi
  rw [List.map_append] at this
  rw [List.map_append] at k
  exact k _ this
/-- xs.extend(new) -/
theorem g_extN {xs ys zs : List A} (F : Fr B cs H) (hm : catC xs ys = some zs) (hi : cs[i]? = some (p, .lst (xs.map f))) (ha : Ev ta σ H (.ref p)) (h : EvL te σ H (ys.map f)) (hcs : cs.set i (p, .lst (zs.map f)) = cs') (k : ∀ H1, Fr B cs' H1 → tz D σ H1) :
    tSeq (tDrop (tBM K "list" rExtend ta (tCons te tNil))) tz D σ H := by
  subst hcs
  obtain ⟨hz, rfl⟩ := of_grd hm
  have hl := F.get i hi
  refine ha H (Ex.refl H) _ fun H1 e1 => ⟨Or.inl ⟨rfl, xs.map f, Evl.sq_of (e1 p _ hl)⟩, h H1 e1 _ fun q H2 _ e2 h2 => ⟨p, q, xs.map f, ys.map f, rfl, rfl, e2 p _ (e1 p _ hl), h2, by rw [List.length_map, List.length_map, sizeLine_eq]; exact hz, ?_⟩⟩
  have := (F.ex (e1.trans e2)).upd i (o' := .lst ((xs ++ ys).map f)) hi
  rw [List.map_append] at this
  rw [List.map_append] at k
  exact k _ this
theorem g_ext {xs ys zs : List A} {q : Addr} (F : Fr B cs H) (hm : catC xs ys = some zs) (hi : cs[i]? = some (p, .lst (xs.map f))) (ha : Ev ta σ H (.ref p)) (hq : H q = some (.lst (ys.map f))) (h : Ev te σ H (.ref q)) (hcs : cs.set i (p, .lst (zs.map f)) = cs') (k : ∀ H1, Fr B cs' H1 → tz D σ H1) :
    tSeq (tDrop (tBM K "list" rExtend ta (tCons te tNil))) tz D σ H := by
  subst hcs
  obtain ⟨hz, rfl⟩ := of_grd hm
  have hl := F.get i hi
  refine ha H (Ex.refl H) _ fun H1 e1 => ⟨Or.inl ⟨rfl, xs.map f, Evl.sq_of (e1 p _ hl)⟩, h H1 e1 _ fun H2 e2 => ⟨p, q, xs.map f, ys.map f, rfl, rfl, e2 p _ (e1 p _ hl), e2 _ _ (e1 _ _ hq), by rw [List.length_map, List.length_map, sizeLine_eq]; exact hz, ?_⟩⟩
  have := (F.ex (e1.trans e2)).upd i (o' := .lst ((xs ++ ys).map f)) hi
  rw [List.map_append] at this
  rw [List.map_append] at k
  exact k _ this
/-- xs[n] = e -/
theorem g_set {xs zs : List A} {w : A} {n : Int} (F : Fr B cs H) (hm : setC xs n w = some zs) (hi : cs[i]? = some (p, .lst (xs.map f))) (h : Ev te σ H (f w)) (ha : Ev ta σ H (.ref p)) (hb : Ev tb σ H (.int n)) (hcs : cs.set i (p, .lst (zs.map f)) = cs') (k : ∀ H1, Fr B cs' H1 → tz D σ H1) :
    tSeq (tAsg te (gSub ta tb rSetL)) tz D σ H := by
  subst hcs
  unfold setC at hm
  cases hj : ixN xs.length n with
  | none => rw [hj] at hm; cases hm
  | some j =>
    rw [hj] at hm
    cases hm
    have hl := F.get i hi
    refine h H (Ex.refl H) _ fun H1 e1 => ha H1 e1 _ fun H2 e2 => hb H2 (e1.trans e2) _ fun H3 e3 => ⟨p, xs.map f, n, j, rfl, rfl, ((e1.trans e2).trans e3) p _ hl, by rw [List.length_map]; exact hj, ?_⟩
    have := (F.ex ((e1.trans e2).trans e3)).upd i (o' := .lst ((xs.set j w).map f)) hi
    rw [List.map_set] at this
    rw [List.map_set] at k
    exact k _ this
/-- if: a way at a time -/
theorem g_if (F : Fr B cs H) {b : Bool} (h : EvT t σ H b) (h1 : b = true → ∀ H1, Fr B cs H1 → tu { D with nx := tz D } σ H1) (h2 : b = false → ∀ H1, Fr B cs H1 → tw { D with nx := tz D } σ H1) : tSeq (tIfS t tu tw) tz D σ H :=
  Evl.q_if h (fun hb H1 e => h1 hb H1 (F.ex e)) (fun hb H1 e => h2 hb H1 (F.ex e))
theorem s_if (F : Fr B cs H) {b : Bool} (h : EvT t σ H b) (h1 : b = true → ∀ H1, Fr B cs H1 → tu D σ H1) (h2 : b = false → ∀ H1, Fr B cs H1 → tw D σ H1) : tIfS t tu tw D σ H :=
  Evl.s_if h (fun hb H1 e => h1 hb H1 (F.ex e)) (fun hb H1 e => h2 hb H1 (F.ex e))
theorem g_when (F : Fr B cs H) {b : Bool} (h : EvT t σ H b) (h1 : b = true → ∀ H1, Fr B cs H1 → tu { D with nx := tz D } σ H1) (h2 : b = false → ∀ H1, Fr B cs H1 → tz D σ H1) : tSeq (tIfS t tu tNext) tz D σ H :=
  Evl.q_when h (fun hb H1 e => h1 hb H1 (F.ex e)) (fun hb H1 e => h2 hb H1 (F.ex e))
theorem s_when (F : Fr B cs H) {b : Bool} (h : EvT t σ H b) (h1 : b = true → ∀ H1, Fr B cs H1 → tu D σ H1) (h2 : b = false → ∀ H1, Fr B cs H1 → D.nx σ H1) : tIfS t tu tNext D σ H :=
  Evl.s_when h (fun hb H1 e => h1 hb H1 (F.ex e)) (fun hb H1 e => h2 hb H1 (F.ex e))
end
/-! ### rules whose written part K is told -/
section
variable {X : Cx} {K : PySem.W.Frag}
theorem kLen (h : X.K = K := by rfl) : CallR X (.builtin "len") (rLen K) := h ▸ cr_len
theorem kLst (h : X.K = K := by rfl) : CallR X (.type "list") (rLst K) := h ▸ cr_list
theorem kIx (h : X.K = K := by rfl) : IxR X (rIxL K) := h ▸ ix_list
theorem kIxT (h : X.K = K := by rfl) : IxR X (rIxT K) := h ▸ ix_tup
theorem kSl (h : X.K = K := by rfl) : SlR X (rSlL K) := h ▸ sl_list
theorem kEq (hu : X.A.units + 64 < cLine) (h : X.K = K := by rfl) : OpR X (compareOp .Eq) (rEqD K) := h ▸ op_eqD hu
theorem kNe (hu : X.A.units + 64 < cLine) (h : X.K = K := by rfl) : OpR X (compareOp .NotEq) (rNeD K) := h ▸ op_neD hu
theorem kIsi (h : X.K = K := by rfl) : CallR X (.builtin "isinstance") (rIsi K) := h ▸ call_isi
theorem kSum (hc : X.calm = true) (h : X.K = K := by rfl) : CallR X (.builtin "sum") (rSum K) := h ▸ cr_sum hc
theorem kAll (hc : X.calm = true) (h : X.K = K := by rfl) : CallR X (.builtin "all") (rAll K) := h ▸ cr_all hc
theorem kAny (hc : X.calm = true) (h : X.K = K := by rfl) : CallR X (.builtin "any") (rAny K) := h ▸ cr_any hc
theorem kpi_list {tg l : Expr} {tl : TE} (hl : PE X l tl) (h : X.K = K := by rfl) : PI X tg l (iList K tl) := h ▸ pi_list hl
end
/-- a reading at slots told otherwise -/
theorem sl {t : L2.St → Hp → Prop} {σ σ' : L2.St} {H : Hp} (e : σ = σ') (h : t σ' H) : t σ H := e ▸ h
/-! ### loops -/
section
variable {K : PySem.W.Frag} {σ : L2.St} {B H : Hp} {cs : List (Addr × HO)} {tl : TE} {D : Ends} {tu tz : TS} {j : Nat} {a : Addr} {A S R : Type} {f : A → V} {xs : List A}
/-- the loop's own words of the loop body: N the next turn -/
def Next (J : S → L2.St → Hp → Prop) (r' : Fl S R) (N : L2.St → Hp → Prop) : Prop := ∀ s' σ2 H2, r' = .nx s' → J s' σ2 H2 → N σ2 H2
theorem itF_at {m : A → S → Option (Fl S R)} {r : Fl S R} : ∀ {xs : List A} {x : A} {s : S}, itF m (x :: xs) s = some r → ∃ r', m x s = some r' ∧ (∀ s', r' = .nx s' → itF m xs s' = some r) ∧ (∀ s', r' = .bk s' → r = .nx s') ∧ (∀ q, r' = .rt q → r = .rt q) := by
  intro xs x s h
  obtain ⟨r', h1, h2⟩ := of_bind h
  refine ⟨r', h1, fun s' e => ?_, fun s' e => ?_, fun q e => ?_⟩
  · subst e
    exact h2
  · subst e
    exact (Option.some.inj h2).symm
  · subst e
    exact (Option.some.inj h2).symm
theorem w_forF {m : A → S → Option (Fl S R)} {s0 : S} {r : Fl S R} (hm : itF m xs s0 = some r) (J : S → L2.St → Hp → Prop) (ha : Ev tl σ H (.ref a)) (hx : SqL K H a (xs.map f)) (h0 : ∀ H1, Ex H H1 → J s0 σ H1)
    (hl : ∀ s σ' H', J s σ' H' → SqL K H' a (xs.map f)) (hd : ∀ s σ' H', r = .nx s → J s σ' H' → tz D σ' H')
    (hs : ∀ x s r' σ' H' (N : L2.St → Hp → Prop), m x s = some r' → J s σ' H' → (∀ s', r' = .bk s' → r = .nx s') → (∀ q, r' = .rt q → r = .rt q) → (∀ s' σ2 H2, r = .nx s' → J s' σ2 H2 → tz D σ2 H2) → (∀ s' σ2 H2, r' = .nx s' → J s' σ2 H2 → N σ2 H2) → tu { D with nx := N, ct := N, bk := tz D } (σ'.set j (some (f x))) H') :
    tSeq (tFor (iList K tl) (gName j) tu) tz D σ H := by
  refine Evl.q_forLn ha hx (fun i σ' H' => ∃ s, itF m (xs.drop i) s = some r ∧ J s σ' H') (fun H1 e => ⟨s0, hm, h0 H1 e⟩) (fun i σ' H' _ ⟨s, _, h⟩ => hl s σ' H' h) ?_ ?_
  · rintro i v σ' H' hi ⟨s, hm', hJ⟩
    rw [List.getElem?_map] at hi
    cases hxi : xs[i]? with
    | none => rw [hxi] at hi; cases hi
    | some x =>
      rw [hxi] at hi
      cases hi
      have ed : xs.drop i = x :: xs.drop (i + 1) := by
        obtain ⟨h1, h2⟩ := List.getElem?_eq_some_iff.mp hxi
        rw [List.drop_eq_getElem_cons h1, h2]
      rw [ed] at hm'
      obtain ⟨r', e1, e2, e3, e4⟩ := itF_at hm'
      refine hs x s r' σ' H' _ e1 hJ e3 e4 hd fun s' σ2 H2 er hJ2 => ⟨s', e2 s' er, hJ2⟩
  · rintro σ' H' ⟨s, hm', hJ⟩
    rw [List.length_map, List.drop_of_length_le (Nat.le_refl _)] at hm'
    cases hm'
    exact hd s σ' H' rfl hJ
theorem itM_at {m : A → S → Option S} {r : S} {xs : List A} {x : A} {s : S} (h : itM m (x :: xs) s = some r) : ∃ s', m x s = some s' ∧ itM m xs s' = some r := of_bind h
theorem w_forM {m : A → S → Option S} {s0 r : S} (hm : itM m xs s0 = some r) (J : S → L2.St → Hp → Prop) (ha : Ev tl σ H (.ref a)) (hx : SqL K H a (xs.map f)) (h0 : ∀ H1, Ex H H1 → J s0 σ H1)
    (hl : ∀ s σ' H', J s σ' H' → SqL K H' a (xs.map f)) (hd : ∀ σ' H', J r σ' H' → tz D σ' H')
    (hs : ∀ x s r' σ' H' (N : L2.St → Hp → Prop), m x s = some r' → J s σ' H' → (∀ σ2 H2, J r' σ2 H2 → N σ2 H2) → tu { D with nx := N, ct := N, bk := tz D } (σ'.set j (some (f x))) H') :
    tSeq (tFor (iList K tl) (gName j) tu) tz D σ H := by
  refine Evl.q_forLn ha hx (fun i σ' H' => ∃ s, itM m (xs.drop i) s = some r ∧ J s σ' H') (fun H1 e => ⟨s0, hm, h0 H1 e⟩) (fun i σ' H' _ ⟨s, _, h⟩ => hl s σ' H' h) ?_ ?_
  · rintro i v σ' H' hi ⟨s, hm', hJ⟩
    rw [List.getElem?_map] at hi
    cases hxi : xs[i]? with
    | none => rw [hxi] at hi; cases hi
    | some x =>
      rw [hxi] at hi
      cases hi
      have ed : xs.drop i = x :: xs.drop (i + 1) := by
        obtain ⟨h1, h2⟩ := List.getElem?_eq_some_iff.mp hxi
        rw [List.drop_eq_getElem_cons h1, h2]
      rw [ed] at hm'
      obtain ⟨r', e1, e2⟩ := itM_at hm'
      exact hs x s r' σ' H' _ e1 hJ fun σ2 H2 hJ2 => ⟨r', e2, hJ2⟩
  · rintro σ' H' ⟨s, hm', hJ⟩
    rw [List.length_map, List.drop_of_length_le (Nat.le_refl _)] at hm'
    cases hm'
    exact hd σ' H' hJ
/-- over a range -/
theorem w_rngF2 {tA : TA} {lo hi : Int} {rs : List Int} {m : Int → S → Option (Fl S R)} {s0 : S} {r : Fl S R} (hr : rngC lo hi = some rs) (hm : itF m rs s0 = some r) (J : S → L2.St → Hp → Prop) (ha : EvA tA σ H [.int lo, .int hi]) (h0 : ∀ H1, Ex H H1 → J s0 σ H1)
    (hd : ∀ s σ' H', r = .nx s → J s σ' H' → tz D σ' H')
    (hs : ∀ x s r' σ' H' (N : L2.St → Hp → Prop), m x s = some r' → J s σ' H' → (∀ s', r' = .bk s' → r = .nx s') → (∀ q, r' = .rt q → r = .rt q) → (∀ s' σ2 H2, r = .nx s' → J s' σ2 H2 → tz D σ2 H2) → (∀ s' σ2 H2, r' = .nx s' → J s' σ2 H2 → N σ2 H2) → tu { D with nx := N, ct := N, bk := tz D } (σ'.set j (some (.int x))) H') :
    tSeq (tFor (iRng2 tA) (gName j) tu) tz D σ H := by
  obtain ⟨⟨r1, r2, r3, r4⟩, rfl⟩ := of_grd hr
  refine ha H (Ex.refl H) _ fun H1 e => ⟨lo, hi, rfl, ⟨r1, r2, r3, r4⟩, for_range (lo := lo) (n := (hi - lo).toNat) (D := { D with nx := tz D }) (fun i σ' H' => ∃ s, itF m ((rngI lo hi).drop i) s = some r ∧ J s σ' H') ⟨s0, hm, h0 H1 e⟩ ?_ ?_⟩
  · rintro i σ' H' hi' ⟨s, hm', hJ⟩
    have ed : (rngI lo hi).drop i = (lo + (i : Int)) :: (rngI lo hi).drop (i + 1) := by
      obtain ⟨h1, h2⟩ := List.getElem?_eq_some_iff.mp (rngI_get hi')
      rw [List.drop_eq_getElem_cons h1, h2]
    rw [ed] at hm'
    obtain ⟨r', e1, e2, e3, e4⟩ := itF_at hm'
    exact hs _ s r' σ' H' _ e1 hJ e3 e4 hd fun s' σ2 H2 er hJ2 => ⟨s', e2 s' er, hJ2⟩
  · rintro σ' H' ⟨s, hm', hJ⟩
    rw [List.drop_of_length_le (by rw [rngI_length]; exact Nat.le_refl _)] at hm'
    cases hm'
    exact hd s σ' H' rfl hJ
theorem w_rngM2 {tA : TA} {lo hi : Int} {rs : List Int} {m : Int → S → Option S} {s0 r : S} (hr : rngC lo hi = some rs) (hm : itM m rs s0 = some r) (J : S → L2.St → Hp → Prop) (ha : EvA tA σ H [.int lo, .int hi]) (h0 : ∀ H1, Ex H H1 → J s0 σ H1)
    (hd : ∀ σ' H', J r σ' H' → tz D σ' H')
    (hs : ∀ x s r' σ' H' (N : L2.St → Hp → Prop), m x s = some r' → J s σ' H' → (∀ σ2 H2, J r' σ2 H2 → N σ2 H2) → tu { D with nx := N, ct := N, bk := tz D } (σ'.set j (some (.int x))) H') :
    tSeq (tFor (iRng2 tA) (gName j) tu) tz D σ H := by
  obtain ⟨⟨r1, r2, r3, r4⟩, rfl⟩ := of_grd hr
  refine ha H (Ex.refl H) _ fun H1 e => ⟨lo, hi, rfl, ⟨r1, r2, r3, r4⟩, for_range (lo := lo) (n := (hi - lo).toNat) (D := { D with nx := tz D }) (fun i σ' H' => ∃ s, itM m ((rngI lo hi).drop i) s = some r ∧ J s σ' H') ⟨s0, hm, h0 H1 e⟩ ?_ ?_⟩
  · rintro i σ' H' hi' ⟨s, hm', hJ⟩
    have ed : (rngI lo hi).drop i = (lo + (i : Int)) :: (rngI lo hi).drop (i + 1) := by
      obtain ⟨h1, h2⟩ := List.getElem?_eq_some_iff.mp (rngI_get hi')
      rw [List.drop_eq_getElem_cons h1, h2]
    rw [ed] at hm'
    obtain ⟨r', e1, e2⟩ := itM_at hm'
    exact hs _ s r' σ' H' _ e1 hJ fun σ2 H2 hJ2 => ⟨r', e2, hJ2⟩
  · rintro σ' H' ⟨s, hm', hJ⟩
    rw [List.drop_of_length_le (by rw [rngI_length]; exact Nat.le_refl _)] at hm'
    cases hm'
    exact hd σ' H' hJ
theorem w_rngF1 {tA : TA} {hi : Int} {rs : List Int} {m : Int → S → Option (Fl S R)} {s0 : S} {r : Fl S R} (hr : rngC 0 hi = some rs) (hm : itF m rs s0 = some r) (J : S → L2.St → Hp → Prop) (ha : EvA tA σ H [.int hi]) (h0 : ∀ H1, Ex H H1 → J s0 σ H1)
    (hd : ∀ s σ' H', r = .nx s → J s σ' H' → tz D σ' H')
    (hs : ∀ x s r' σ' H' (N : L2.St → Hp → Prop), m x s = some r' → J s σ' H' → (∀ s', r' = .bk s' → r = .nx s') → (∀ q, r' = .rt q → r = .rt q) → (∀ s' σ2 H2, r = .nx s' → J s' σ2 H2 → tz D σ2 H2) → (∀ s' σ2 H2, r' = .nx s' → J s' σ2 H2 → N σ2 H2) → tu { D with nx := N, ct := N, bk := tz D } (σ'.set j (some (.int x))) H') :
    tSeq (tFor (iRng1 tA) (gName j) tu) tz D σ H := by
  obtain ⟨⟨r1, r2, r3, r4⟩, rfl⟩ := of_grd hr
  refine ha H (Ex.refl H) _ fun H1 e => ⟨hi, rfl, r3, r4, for_range (lo := 0) (n := hi.toNat) (D := { D with nx := tz D }) (fun i σ' H' => ∃ s, itF m ((rngI 0 hi).drop i) s = some r ∧ J s σ' H') ⟨s0, hm, h0 H1 e⟩ ?_ ?_⟩
  · rintro i σ' H' hi' ⟨s, hm', hJ⟩
    have ed : (rngI 0 hi).drop i = (0 + (i : Int)) :: (rngI 0 hi).drop (i + 1) := by
      obtain ⟨h1, h2⟩ := List.getElem?_eq_some_iff.mp (rngI_get (lo := 0) (by rw [Int.sub_zero]; exact hi'))
      rw [List.drop_eq_getElem_cons h1, h2]
    rw [ed] at hm'
    obtain ⟨r', e1, e2, e3, e4⟩ := itF_at hm'
    exact hs _ s r' σ' H' _ e1 hJ e3 e4 hd fun s' σ2 H2 er hJ2 => ⟨s', e2 s' er, hJ2⟩
  · rintro σ' H' ⟨s, hm', hJ⟩
    rw [List.drop_of_length_le (by rw [rngI_length, Int.sub_zero]; exact Nat.le_refl _)] at hm'
    cases hm'
    exact hd s σ' H' rfl hJ
theorem w_rngM1 {tA : TA} {hi : Int} {rs : List Int} {m : Int → S → Option S} {s0 r : S} (hr : rngC 0 hi = some rs) (hm : itM m rs s0 = some r) (J : S → L2.St → Hp → Prop) (ha : EvA tA σ H [.int hi]) (h0 : ∀ H1, Ex H H1 → J s0 σ H1)
    (hd : ∀ σ' H', J r σ' H' → tz D σ' H')
    (hs : ∀ x s r' σ' H' (N : L2.St → Hp → Prop), m x s = some r' → J s σ' H' → (∀ σ2 H2, J r' σ2 H2 → N σ2 H2) → tu { D with nx := N, ct := N, bk := tz D } (σ'.set j (some (.int x))) H') :
    tSeq (tFor (iRng1 tA) (gName j) tu) tz D σ H := by
  obtain ⟨⟨r1, r2, r3, r4⟩, rfl⟩ := of_grd hr
  refine ha H (Ex.refl H) _ fun H1 e => ⟨hi, rfl, r3, r4, for_range (lo := 0) (n := hi.toNat) (D := { D with nx := tz D }) (fun i σ' H' => ∃ s, itM m ((rngI 0 hi).drop i) s = some r ∧ J s σ' H') ⟨s0, hm, h0 H1 e⟩ ?_ ?_⟩
  · rintro i σ' H' hi' ⟨s, hm', hJ⟩
    have ed : (rngI 0 hi).drop i = (0 + (i : Int)) :: (rngI 0 hi).drop (i + 1) := by
      obtain ⟨h1, h2⟩ := List.getElem?_eq_some_iff.mp (rngI_get (lo := 0) (by rw [Int.sub_zero]; exact hi'))
      rw [List.drop_eq_getElem_cons h1, h2]
    rw [ed] at hm'
    obtain ⟨r', e1, e2⟩ := itM_at hm'
    exact hs _ s r' σ' H' _ e1 hJ fun σ2 H2 hJ2 => ⟨r', e2, hJ2⟩
  · rintro σ' H' ⟨s, hm', hJ⟩
    rw [List.drop_of_length_le (by rw [rngI_length, Int.sub_zero]; exact Nat.le_refl _)] at hm'
    cases hm'
    exact hd σ' H' hJ
/-- over a new list, at p -/
theorem w_forFN {m : A → S → Option (Fl S R)} {s0 : S} {r : Fl S R} (hm : itF m xs s0 = some r) (J : Addr → S → L2.St → Hp → Prop) (F : Fr B cs H) (ha : EvL tl σ H (xs.map f)) (h0 : ∀ p H1, Fr B (cs ++ [(p, .lst (xs.map f))]) H1 → J p s0 σ H1)
    (hl : ∀ p s σ' H', J p s σ' H' → SqL K H' p (xs.map f)) (hd : ∀ p s σ' H', r = .nx s → J p s σ' H' → tz D σ' H')
    (hs : ∀ p x s r' σ' H' (N : L2.St → Hp → Prop), m x s = some r' → J p s σ' H' → (∀ s', r' = .bk s' → r = .nx s') → (∀ q, r' = .rt q → r = .rt q) → (∀ s' σ2 H2, r = .nx s' → J p s' σ2 H2 → tz D σ2 H2) → (∀ s' σ2 H2, r' = .nx s' → J p s' σ2 H2 → N σ2 H2) → tu { D with nx := N, ct := N, bk := tz D } (σ'.set j (some (f x))) H') :
    tSeq (tFor (iList K tl) (gName j) tu) tz D σ H := by
  refine Evl.q_forNLn ha (fun p i σ' H' => ∃ s, itF m (xs.drop i) s = some r ∧ J p s σ' H') (fun p H1 hp e h1 => ⟨s0, hm, h0 p H1 (F.add hp e h1)⟩) (fun p i σ' H' _ ⟨s, _, h⟩ => hl p s σ' H' h) ?_ ?_
  · rintro p i v σ' H' hi ⟨s, hm', hJ⟩
    rw [List.getElem?_map] at hi
    cases hxi : xs[i]? with
    | none => rw [hxi] at hi; cases hi
    | some x =>
      rw [hxi] at hi
      cases hi
      have ed : xs.drop i = x :: xs.drop (i + 1) := by
        obtain ⟨h1, h2⟩ := List.getElem?_eq_some_iff.mp hxi
        rw [List.drop_eq_getElem_cons h1, h2]
      rw [ed] at hm'
      obtain ⟨r', e1, e2, e3, e4⟩ := itF_at hm'
      exact hs p x s r' σ' H' _ e1 hJ e3 e4 (hd p) fun s' σ2 H2 er hJ2 => ⟨s', e2 s' er, hJ2⟩
  · rintro p σ' H' ⟨s, hm', hJ⟩
    rw [List.length_map, List.drop_of_length_le (Nat.le_refl _)] at hm'
    cases hm'
    exact hd p s σ' H' rfl hJ
theorem w_forMN {m : A → S → Option S} {s0 r : S} (hm : itM m xs s0 = some r) (J : Addr → S → L2.St → Hp → Prop) (F : Fr B cs H) (ha : EvL tl σ H (xs.map f)) (h0 : ∀ p H1, Fr B (cs ++ [(p, .lst (xs.map f))]) H1 → J p s0 σ H1)
    (hl : ∀ p s σ' H', J p s σ' H' → SqL K H' p (xs.map f)) (hd : ∀ p σ' H', J p r σ' H' → tz D σ' H')
    (hs : ∀ p x s r' σ' H' (N : L2.St → Hp → Prop), m x s = some r' → J p s σ' H' → (∀ σ2 H2, J p r' σ2 H2 → N σ2 H2) → tu { D with nx := N, ct := N, bk := tz D } (σ'.set j (some (f x))) H') :
    tSeq (tFor (iList K tl) (gName j) tu) tz D σ H := by
  refine Evl.q_forNLn ha (fun p i σ' H' => ∃ s, itM m (xs.drop i) s = some r ∧ J p s σ' H') (fun p H1 hp e h1 => ⟨s0, hm, h0 p H1 (F.add hp e h1)⟩) (fun p i σ' H' _ ⟨s, _, h⟩ => hl p s σ' H' h) ?_ ?_
  · rintro p i v σ' H' hi ⟨s, hm', hJ⟩
    rw [List.getElem?_map] at hi
    cases hxi : xs[i]? with
    | none => rw [hxi] at hi; cases hi
    | some x =>
      rw [hxi] at hi
      cases hi
      have ed : xs.drop i = x :: xs.drop (i + 1) := by
        obtain ⟨h1, h2⟩ := List.getElem?_eq_some_iff.mp hxi
        rw [List.drop_eq_getElem_cons h1, h2]
      rw [ed] at hm'
      obtain ⟨r', e1, e2⟩ := itM_at hm'
      exact hs p x s r' σ' H' _ e1 hJ fun σ2 H2 hJ2 => ⟨r', e2, hJ2⟩
  · rintro p σ' H' ⟨s, hm', hJ⟩
    rw [List.length_map, List.drop_of_length_le (Nat.le_refl _)] at hm'
    cases hm'
    exact hd p σ' H' hJ
/-- while -/
theorem w_while {t : TT} {c : S → Option Bool} {m : S → Option (Fl S R)} {s0 : S} {r : Fl S R} {n0 : Nat} (hm : whF c m n0 s0 = some r) (J : S → L2.St → Hp → Prop) (h0 : J s0 σ H)
    (hc : ∀ s b σ' H', c s = some b → J s σ' H' → EvT t σ' H' b) (hJ : ∀ s σ' H' H1, J s σ' H' → Ex H' H1 → J s σ' H1) (hd : ∀ s σ' H', r = .nx s → J s σ' H' → tz D σ' H')
    (hs : ∀ s r' σ' H' (N : L2.St → Hp → Prop), m s = some r' → c s = some true → J s σ' H' → (∀ s', r' = .bk s' → r = .nx s') → (∀ q, r' = .rt q → r = .rt q) → (∀ s' σ2 H2, r = .nx s' → J s' σ2 H2 → tz D σ2 H2) → (∀ s' σ2 H2, r' = .nx s' → J s' σ2 H2 → N σ2 H2) → tu { D with nx := N, ct := N, bk := tz D } σ' H') :
    tSeq (tWhile t tu) tz D σ H := by
  refine Evl.q_while (fun n σ' H' => ∃ s, whF c m n s = some r ∧ J s σ' H') n0 ⟨s0, hm, h0⟩ ?_
  rintro n σ' H' ⟨s, hw, hj⟩
  cases n with
  | zero => cases hw
  | succ n =>
    obtain ⟨b, hb, hw⟩ := of_bind hw
    refine ⟨b, hc s b σ' H' hb hj, fun e H1 eH => ?_, fun e H1 eH => ?_⟩
    · subst e
      rw [if_pos rfl] at hw
      obtain ⟨r', hr, hw⟩ := of_bind hw
      refine ⟨fun σ2 H2 => ∃ s', r' = .nx s' ∧ J s' σ2 H2, ?_, hs s r' σ' H1 _ hr hb (hJ _ _ _ _ hj eH) ?_ ?_ hd fun s' σ2 H2 e2 hj2 => ⟨s', e2, hj2⟩⟩
      · rintro σ2 H2 ⟨s', rfl, hj2⟩
        exact ⟨n, Nat.lt_succ_self n, s', hw, hj2⟩
      · rintro s' rfl
        exact (Option.some.inj hw).symm
      · rintro q rfl
        exact (Option.some.inj hw).symm
    · subst e
      rw [if_neg Bool.false_ne_true] at hw
      exact hd s σ' H1 (Option.some.inj hw).symm (hJ _ _ _ _ hj eH)
end
/-- a def that is called by its name -/
structure Cal (K : PySem.W.Frag) (mg : Str → Option Value) (x : Str) (f : Addr) (fd : FuncData) (ps : List Str) : Prop where
  g : mg x = some (.ref f)
  k : PySem.W.keepIn K (.ref f) = true
  b : Binds K fd ps []
end Mn
/-! Cm: the mirrors' combinators in plain Lean -/
namespace Mn
open PySem L2
section
variable {A B C S R : Type}
theorem bind_ok {m : Option A} {f : A → Option B} {x : A} {r : Option B} (h : m = some x) (h2 : f x = r) : m.bind f = r := by subst h; exact h2
theorem itM_inv {f : A → S → Option S} (P : Nat → S → Prop) : ∀ (xs : List A) (s : S) (n : Nat), P n s → (∀ i x s, xs[i]? = some x → P (n + i) s → ∃ s', f x s = some s' ∧ P (n + i + 1) s') → ∃ s', itM f xs s = some s' ∧ P (n + xs.length) s'
  | [], s, n, h0, _ => ⟨s, rfl, h0⟩
  | x :: l, s, n, h0, hs => by
    obtain ⟨s1, h1, p1⟩ := hs 0 x s rfl h0
    obtain ⟨s2, h2, p2⟩ := itM_inv P l s1 (n + 1) p1 (fun i y t hy pt => by
      have e : n + 1 + i = n + (i + 1) := by omega
      rw [e] at pt
      obtain ⟨t', q1, q2⟩ := hs (i + 1) y t hy pt
      exact ⟨t', q1, by rw [e]; exact q2⟩)
    refine ⟨s2, bind_ok h1 h2, ?_⟩
    have e : n + (x :: l).length = n + 1 + l.length := by rw [List.length_cons]; omega
    rw [e]
    exact p2
theorem itM_ok {f : A → S → Option S} (P : Nat → S → Prop) {xs : List A} {s : S} (h0 : P 0 s) (hs : ∀ i x s, xs[i]? = some x → P i s → ∃ s', f x s = some s' ∧ P (i + 1) s') : ∃ s', itM f xs s = some s' ∧ P xs.length s' := by
  have := itM_inv (f := f) P xs s 0 h0 (fun i x s hx hp => by rw [Nat.zero_add] at hp ⊢; exact hs i x s hx hp)
  rw [Nat.zero_add] at this
  exact this
/-- a loop whose turn is a plain function -/
theorem itM_fold {f : A → S → Option S} {g : S → A → S} : ∀ {xs : List A} {s : S}, (∀ x s, x ∈ xs → f x s = some (g s x)) → itM f xs s = some (xs.foldl g s)
  | [], _, _ => rfl
  | x :: l, s, h => bind_ok (h x s List.mem_cons_self) (itM_fold fun y t hy => h y t (List.mem_cons_of_mem _ hy))
theorem itF_inv {f : A → S → Option (Fl S R)} (P : Nat → S → Prop) : ∀ (xs : List A) (s : S) (n : Nat), P n s → (∀ i x s, xs[i]? = some x → P (n + i) s → ∃ s', f x s = some (.nx s') ∧ P (n + i + 1) s') → ∃ s', itF f xs s = some (.nx s') ∧ P (n + xs.length) s'
  | [], s, n, h0, _ => ⟨s, rfl, h0⟩
  | x :: l, s, n, h0, hs => by
    obtain ⟨s1, h1, p1⟩ := hs 0 x s rfl h0
    obtain ⟨s2, h2, p2⟩ := itF_inv P l s1 (n + 1) p1 (fun i y t hy pt => by
      have e : n + 1 + i = n + (i + 1) := by omega
      rw [e] at pt
      obtain ⟨t', q1, q2⟩ := hs (i + 1) y t hy pt
      exact ⟨t', q1, by rw [e]; exact q2⟩)
    refine ⟨s2, bind_ok h1 h2, ?_⟩
    have e : n + (x :: l).length = n + 1 + l.length := by rw [List.length_cons]; omega
    rw [e]
    exact p2
theorem itF_ok {f : A → S → Option (Fl S R)} (P : Nat → S → Prop) {xs : List A} {s : S} (h0 : P 0 s) (hs : ∀ i x s, xs[i]? = some x → P i s → ∃ s', f x s = some (.nx s') ∧ P (i + 1) s') : ∃ s', itF f xs s = some (.nx s') ∧ P xs.length s' := by
  have := itF_inv (f := f) P xs s 0 h0 (fun i x s hx hp => by rw [Nat.zero_add] at hp ⊢; exact hs i x s hx hp)
  rw [Nat.zero_add] at this
  exact this
/-- a loop that may leave: told by what holds at its end -/
theorem itF_way {f : A → S → Option (Fl S R)} (P : Nat → S → Prop) (Q : Fl S R → Prop) : ∀ (xs : List A) (s : S) (n : Nat), P n s → (∀ i x s, xs[i]? = some x → P (n + i) s → ∃ r, f x s = some r ∧ match r with | .nx s' => P (n + i + 1) s' | .bk s' => Q (.nx s') | .rt q => Q (.rt q)) →
    (∀ s, P (n + xs.length) s → Q (.nx s)) → ∃ r, itF f xs s = some r ∧ Q r
  | [], s, n, h0, _, hd => ⟨.nx s, rfl, hd s h0⟩
  | x :: l, s, n, h0, hs, hd => by
    obtain ⟨r, h1, p1⟩ := hs 0 x s rfl h0
    cases r with
    | bk s' => exact ⟨.nx s', bind_ok h1 rfl, p1⟩
    | rt q => exact ⟨.rt q, bind_ok h1 rfl, p1⟩
    | nx s1 =>
      obtain ⟨r2, h2, p2⟩ := itF_way P Q l s1 (n + 1) p1 (fun i y t hy pt => by
        have e : n + 1 + i = n + (i + 1) := by omega
        rw [e] at pt
        obtain ⟨t', q1, q2⟩ := hs (i + 1) y t hy pt
        exact ⟨t', q1, by rw [e]; exact q2⟩) (fun t ht => hd t (by rw [List.length_cons]; have e : n + (l.length + 1) = n + 1 + l.length := by omega
                                                                   rw [e]; exact ht))
      exact ⟨r2, bind_ok h1 h2, p2⟩
theorem whF_inv {c : S → Option Bool} {f : S → Option (Fl S R)} (P : S → Prop) (μ : S → Nat) (Q : S → Prop) : ∀ (n : Nat) (s : S), μ s < n → P s → (∀ s, P s → (c s = some false ∧ Q s) ∨ (c s = some true ∧ ∃ s', f s = some (.nx s') ∧ P s' ∧ μ s' < μ s)) → ∃ s', whF c f n s = some (.nx s') ∧ Q s'
  | 0, s, h, _, _ => absurd h (Nat.not_lt_zero _)
  | n + 1, s, h, hp, hs => by
    rcases hs s hp with ⟨h1, h2⟩ | ⟨h1, s1, h2, h3, h4⟩
    · exact ⟨s, bind_ok h1 (if_neg Bool.false_ne_true), h2⟩
    · obtain ⟨s2, h5, h6⟩ := whF_inv P μ Q n s1 (by omega) h3 hs
      exact ⟨s2, bind_ok h1 ((if_pos rfl).trans (bind_ok h2 h5)), h6⟩
theorem fuel_eq : fuel = 1000000 := rfl
theorem mapO_ok {f : A → Option B} {g : A → B} : ∀ {xs : List A}, (∀ x ∈ xs, f x = some (g x)) → mapO f xs = some (xs.map g)
  | [], _ => rfl
  | x :: l, h => bind_ok (h x List.mem_cons_self) (bind_ok (mapO_ok fun y hy => h y (List.mem_cons_of_mem _ hy)) rfl)
theorem mapO_all {f : A → Option B} {Q : B → Prop} : ∀ {xs : List A}, (∀ x ∈ xs, ∃ y, f x = some y ∧ Q y) → ∃ ys, mapO f xs = some ys ∧ ys.length = xs.length ∧ ∀ y ∈ ys, Q y
  | [], _ => ⟨[], rfl, rfl, fun _ h => (nomatch h)⟩
  | x :: l, h => by
    obtain ⟨y, h1, h2⟩ := h x List.mem_cons_self
    obtain ⟨ys, h3, h4, h5⟩ := mapO_all (Q := Q) fun z hz => h z (List.mem_cons_of_mem _ hz)
    refine ⟨y :: ys, bind_ok h1 (bind_ok h3 rfl), by rw [List.length_cons, List.length_cons, h4], fun z hz => ?_⟩
    rcases List.mem_cons.mp hz with rfl | hz
    · exact h2
    · exact h5 z hz
theorem rngI_mem {lo hi x : Int} : x ∈ rngI lo hi ↔ lo ≤ x ∧ x < hi := by
  unfold rngI
  rw [List.mem_map]
  constructor
  · rintro ⟨i, hi', rfl⟩
    rw [List.mem_range] at hi'
    omega
  · rintro ⟨h1, h2⟩
    exact ⟨(x - lo).toNat, by rw [List.mem_range]; omega, by omega⟩
theorem rngC_ok {lo hi : Int} (h1 : -(2 ^ 62) ≤ lo) (h2 : lo < 2 ^ 62) (h3 : -(2 ^ 62) ≤ hi) (h4 : hi < 2 ^ 62) : rngC lo hi = some (rngI lo hi) := grd_ok ⟨h1, h2, h3, h4⟩
theorem modC_ok {i j : Int} (h : 0 < j) : modC i j = some (i % j) := grd_ok h
theorem divC_ok {i j : Int} (n : Nat) (h : 0 < j) (h2 : j.natAbs < 2 ^ n) (hn : n ≤ 9000 := by decide) : divC i j = some (i / j) := by
  refine grd_ok ⟨h, ?_⟩
  have := (Nat.log2_lt (by omega : j.natAbs ≠ 0)).mpr h2
  omega
theorem intBits_le {i : Int} {n : Nat} (h : i.natAbs < 2 ^ n) : Builtin.Int.intBits i ≤ n := by
  unfold Builtin.Int.intBits
  split
  · exact Nat.zero_le _
  · next h0 =>
    have e : i.natAbs ≠ 0 := by
      intro e
      apply h0
      have : i = 0 := by omega
      rw [this]; rfl
    have := (Nat.log2_lt e).mpr h
    omega
theorem shlC_ok {i j : Int} (n : Nat) (h0 : 0 ≤ j) (hi : i.natAbs < 2 ^ n) (hj : (n : Int) + j ≤ 2 ^ 27) : shlC i j = some (i * 2 ^ j.toNat) := by
  refine grd_ok ⟨h0, ?_⟩
  have := intBits_le hi
  omega
theorem shrC_ok {i j : Int} (h0 : 0 ≤ j) : shrC i j = some (i / 2 ^ j.toNat) := grd_ok h0
theorem mulC_ok {i j : Int} (h : i.natAbs < 2 ^ 64 ∨ j.natAbs < 2 ^ 64) : mulC i j = some (i * j) := by
  refine grd_ok ?_
  rcases h with h | h
  · exact IntMulOk.of_left (intBits_le h)
  · exact IntMulOk.of_right (intBits_le h)
theorem appC_ok {xs : List A} {x : A} (h : xs.length < 16777216) : appC xs x = some (xs ++ [x]) := grd_ok h
theorem catC_ok {xs ys : List A} (h : xs.length + ys.length ≤ 16777216) : catC xs ys = some (xs ++ ys) := grd_ok h
theorem repC_ok {xs : List A} {k : Int} (h1 : -(2 ^ 63) ≤ k) (h2 : k < 2 ^ 63) (h3 : xs.length * k.toNat ≤ 16777216) : repC xs k = some (List.replicate k.toNat xs).flatten := grd_ok ⟨h1, h2, h3⟩
theorem rep1 {x : A} (n : Nat) : (List.replicate n [x]).flatten = List.replicate n x := by
  induction n with
  | zero => rfl
  | succ n ih => rw [List.replicate_succ, List.flatten_cons, ih]; rfl
theorem repC1_ok {x : A} {k : Int} (h1 : -(2 ^ 63) ≤ k) (h2 : k ≤ 16777216) : repC [x] k = some (List.replicate k.toNat x) := by
  rw [repC_ok h1 (by omega) (by show 1 * k.toNat ≤ _; omega), rep1]
theorem atI_ok {xs : List A} {i : Int} (h0 : 0 ≤ i) (h : i < xs.length) : atI xs i = some (xs[i.toNat]'(by omega)) := by
  have e : i = ((i.toNat : Nat) : Int) := by omega
  have h2 : i.toNat < xs.length := by omega
  have := atI_nat (xs := xs) (j := i.toNat) (v := xs[i.toNat]) (List.getElem?_eq_getElem h2)
  rw [← e] at this
  exact this
theorem atI_get? {xs : List A} {i : Int} (h0 : 0 ≤ i) : atI xs i = xs[i.toNat]? := by
  by_cases h : i < xs.length
  · rw [atI_ok h0 h, List.getElem?_eq_getElem]
  · rw [List.getElem?_eq_none (by omega)]
    unfold atI ixN
    rw [if_pos h0, if_neg h]
    rfl
theorem setC_ok {xs : List A} {i : Int} {x : A} (h0 : 0 ≤ i) (h : i < xs.length) : setC xs i x = some (xs.set i.toNat x) := by
  unfold setC ixN
  rw [if_pos h0, if_pos h]
  rfl
theorem cut_to {xs : List A} {k : Int} (h : 0 ≤ k) : cut xs none (some k) = xs.take k.toNat := by
  unfold cut
  rw [HT.sIx_none]
  have e : k = ((k.toNat : Nat) : Int) := by omega
  rw [e, HT.sIx_nat, List.drop_zero, Nat.sub_zero]
  have : ((k.toNat : Nat) : Int).toNat = k.toNat := by omega
  rw [this]
  by_cases h2 : k.toNat ≤ xs.length
  · rw [Nat.min_eq_left h2]
  · rw [Nat.min_eq_right (by omega), List.take_of_length_le (Nat.le_refl _), List.take_of_length_le (by omega)]
theorem cut_from {xs : List A} {k : Int} (h : 0 ≤ k) : cut xs (some k) none = xs.drop k.toNat := by
  unfold cut
  have e : k = ((k.toNat : Nat) : Int) := by omega
  rw [e, HT.sIx_nat, HT.sIx_none]
  have : ((k.toNat : Nat) : Int).toNat = k.toNat := by omega
  rw [this]
  by_cases h2 : k.toNat ≤ xs.length
  · rw [Nat.min_eq_left h2, List.take_of_length_le (by rw [List.length_drop]; exact Nat.le_refl _)]
  · rw [Nat.min_eq_right (by omega), List.drop_of_length_le (Nat.le_refl _), List.drop_of_length_le (by omega), List.take_nil]
theorem cut_mid {xs : List A} {i j : Int} (h : 0 ≤ i) (h2 : i ≤ j) : cut xs (some i) (some j) = (xs.drop i.toNat).take (j - i).toNat := by
  unfold cut
  have e : i = ((i.toNat : Nat) : Int) := by omega
  have e' : j = ((j.toNat : Nat) : Int) := by omega
  have e3 : (j - i).toNat = j.toNat - i.toNat := by omega
  rw [e3]
  rw [e, e', HT.sIx_nat, HT.sIx_nat]
  have q1 : ((i.toNat : Nat) : Int).toNat = i.toNat := by omega
  have q2 : ((j.toNat : Nat) : Int).toNat = j.toNat := by omega
  rw [q1, q2]
  by_cases h3 : i.toNat ≤ xs.length
  · rw [Nat.min_eq_left h3]
    by_cases h4 : j.toNat ≤ xs.length
    · rw [Nat.min_eq_left h4]
    · rw [Nat.min_eq_right (by omega), List.take_of_length_le (by rw [List.length_drop]; omega), List.take_of_length_le (by rw [List.length_drop]; omega)]
  · have q3 : min i.toNat xs.length = xs.length := by omega
    rw [q3, List.drop_of_length_le (Nat.le_refl _), List.drop_of_length_le (by omega), List.take_nil, List.take_nil]
theorem ex_bind {m : Option A} {f : A → Option B} {x : A} {Q : B → Prop} (h : m = some x) (h2 : ∃ r, f x = some r ∧ Q r) : ∃ r, m.bind f = some r ∧ Q r := by
  subst h
  exact h2
theorem ex_some {x : A} {Q : A → Prop} (h : Q x) : ∃ r, some x = some r ∧ Q r := ⟨x, rfl, h⟩
theorem ex_if {b : Bool} {m1 m2 : Option A} {Q : A → Prop} (h1 : b = true → ∃ r, m1 = some r ∧ Q r) (h2 : b = false → ∃ r, m2 = some r ∧ Q r) : ∃ r, (if b = true then m1 else m2) = some r ∧ Q r := by
  cases b with
  | true => exact h1 rfl
  | false => exact h2 rfl
theorem ex_ifP {p : Prop} [Decidable p] {m1 m2 : Option A} {Q : A → Prop} (h1 : p → ∃ r, m1 = some r ∧ Q r) (h2 : ¬ p → ∃ r, m2 = some r ∧ Q r) : ∃ r, (if decide p = true then m1 else m2) = some r ∧ Q r := by
  by_cases h : p
  · rw [if_pos (decide_eq_true h)]
    exact h1 h
  · rw [if_neg (by simp [h])]
    exact h2 h
theorem ex_itM {f : A → S → Option S} {g : S → Option B} {xs : List A} {s : S} {Q : B → Prop} (P : Nat → S → Prop) (h0 : P 0 s) (hs : ∀ i x s, xs[i]? = some x → P i s → ∃ s', f x s = some s' ∧ P (i + 1) s') (hd : ∀ s', P xs.length s' → ∃ r, g s' = some r ∧ Q r) : ∃ r, (itM f xs s).bind g = some r ∧ Q r := by
  obtain ⟨s', h1, h2⟩ := itM_ok P h0 hs
  exact ex_bind h1 (hd s' h2)
theorem ex_itF {f : A → S → Option (Fl S R)} {g : Fl S R → Option B} {xs : List A} {s : S} {Q : B → Prop} (P : Nat → S → Prop) (h0 : P 0 s) (hs : ∀ i x s, xs[i]? = some x → P i s → ∃ s', f x s = some (.nx s') ∧ P (i + 1) s') (hd : ∀ s', P xs.length s' → ∃ r, g (.nx s') = some r ∧ Q r) : ∃ r, (itF f xs s).bind g = some r ∧ Q r := by
  obtain ⟨s', h1, h2⟩ := itF_ok P h0 hs
  exact ex_bind h1 (hd s' h2)
theorem ex_mapO {f : A → Option C} {h : List C → Option B} {xs : List A} {Q : B → Prop} {R : C → Prop} (hs : ∀ x ∈ xs, ∃ y, f x = some y ∧ R y) (hd : ∀ ys, ys.length = xs.length → (∀ y ∈ ys, R y) → ∃ r, h ys = some r ∧ Q r) : ∃ r, (mapO f xs).bind h = some r ∧ Q r := by
  obtain ⟨ys, h1, h2, h3⟩ := mapO_all hs
  exact ex_bind h1 (hd ys h2 h3)
theorem ex_mapG {f : A → Option C} (g : A → C) {h : List C → Option B} {xs : List A} {Q : B → Prop} (hs : ∀ x ∈ xs, f x = some (g x)) (hd : ∃ r, h (xs.map g) = some r ∧ Q r) : ∃ r, (mapO f xs).bind h = some r ∧ Q r := ex_bind (mapO_ok hs) hd
/-- a call whose answer is told by what holds of it -/
theorem ex_call {m : Option A} {f : A → Option B} {R : A → Prop} {Q : B → Prop} (h : ∃ x, m = some x ∧ R x) (h2 : ∀ x, R x → ∃ r, f x = some r ∧ Q r) : ∃ r, m.bind f = some r ∧ Q r := by
  obtain ⟨x, h1, h3⟩ := h
  exact ex_bind h1 (h2 x h3)
theorem of_ex {m : Option A} {x : A} (h : ∃ r, m = some r ∧ r = x) : m = some x := by
  obtain ⟨r, h1, rfl⟩ := h
  exact h1
theorem ex_grd {p : Prop} [Decidable p] {x : A} {f : A → Option B} {Q : B → Prop} (hp : p) (h2 : ∃ r, f x = some r ∧ Q r) : ∃ r, (grd p x).bind f = some r ∧ Q r := ex_bind (grd_ok hp) h2
theorem maxI_eq (i j : Int) : maxI i j = max i j := by unfold maxI; split <;> omega
theorem minI_eq (i j : Int) : minI i j = min i j := by unfold minI; split <;> omega
theorem absI_eq (i : Int) : absI i = (i.natAbs : Int) := by unfold absI; split <;> omega
theorem all_true {l : List A} {p : A → Bool} : (l.map p).all id = true ↔ ∀ x ∈ l, p x = true := by
  rw [List.all_map, List.all_eq_true]
  rfl
end
end Mn
/-! Bt: the bit operators on ints -/
namespace Bt
open PySem PySem.Builtin
theorem not_half (x : Int) : bitNot (x / 2) = bitNot x / 2 := by unfold bitNot; omega
theorem not_mod (x : Int) : bitNot x % 2 = 1 - x % 2 := by unfold bitNot; omega
theorem nand_half (a b : Nat) : (a &&& b) / 2 = a / 2 &&& b / 2 := Nat.and_div_two
theorem nand_mod (a b : Nat) : (a &&& b) % 2 = if a % 2 = 1 ∧ b % 2 = 1 then 1 else 0 := by
  split
  · next h => exact Nat.and_mod_two_eq_one.mpr h
  · next h =>
    have : ¬ (a &&& b) % 2 = 1 := fun e => h (Nat.and_mod_two_eq_one.mp e)
    omega
theorem and_nn {x y : Int} (hx : 0 ≤ x) (hy : 0 ≤ y) : bitAnd x y = ((x.toNat &&& y.toNat : Nat) : Int) := by
  unfold bitAnd
  rw [decide_eq_true hx, decide_eq_true hy]
theorem and_np {x y : Int} (hx : 0 ≤ x) (hy : ¬ 0 ≤ y) : bitAnd x y = x - ((x.toNat &&& (bitNot y).toNat : Nat) : Int) := by
  unfold bitAnd
  rw [decide_eq_true hx, decide_eq_false hy]
theorem and_pn {x y : Int} (hx : ¬ 0 ≤ x) (hy : 0 ≤ y) : bitAnd x y = y - ((y.toNat &&& (bitNot x).toNat : Nat) : Int) := by
  unfold bitAnd
  rw [decide_eq_false hx, decide_eq_true hy]
theorem and_pp {x y : Int} (hx : ¬ 0 ≤ x) (hy : ¬ 0 ≤ y) : bitAnd x y = bitNot (((bitNot x).toNat ||| (bitNot y).toNat : Nat) : Int) := by
  unfold bitAnd
  rw [decide_eq_false hx, decide_eq_false hy]
theorem nor_half (a b : Nat) : (a ||| b) / 2 = a / 2 ||| b / 2 := Nat.or_div_two
theorem nor_mod (a b : Nat) : (a ||| b) % 2 = if a % 2 = 1 ∨ b % 2 = 1 then 1 else 0 := by
  split
  · next h => exact Nat.or_mod_two_eq_one.mpr h
  · next h =>
    have : ¬ (a ||| b) % 2 = 1 := fun e => h (Nat.or_mod_two_eq_one.mp e)
    omega
theorem and_half (x y : Int) : bitAnd x y / 2 = bitAnd (x / 2) (y / 2) := by
  by_cases hx : 0 ≤ x <;> by_cases hy : 0 ≤ y
  · rw [and_nn hx hy, and_nn (by omega) (by omega)]
    have e1 : (x / 2).toNat = x.toNat / 2 := by omega
    have e2 : (y / 2).toNat = y.toNat / 2 := by omega
    rw [e1, e2, ← nand_half]
    omega
  · rw [and_np hx hy, and_np (by omega) (by omega), not_half]
    have e1 : (x / 2).toNat = x.toNat / 2 := by omega
    have e2 : (bitNot y / 2).toNat = (bitNot y).toNat / 2 := by unfold bitNot; omega
    rw [e1, e2, ← nand_half]
    have h1 := nand_mod x.toNat (bitNot y).toNat
    have h2 : (x.toNat &&& (bitNot y).toNat) ≤ x.toNat := Nat.and_le_left
    split at h1 <;> omega
  · rw [and_pn hx hy, and_pn (by omega) (by omega), not_half]
    have e1 : (y / 2).toNat = y.toNat / 2 := by omega
    have e2 : (bitNot x / 2).toNat = (bitNot x).toNat / 2 := by unfold bitNot; omega
    rw [e1, e2, ← nand_half]
    have h1 := nand_mod y.toNat (bitNot x).toNat
    split at h1 <;> omega
  · rw [and_pp hx hy, and_pp (by omega) (by omega), not_half, not_half]
    have e1 : (bitNot x / 2).toNat = (bitNot x).toNat / 2 := by unfold bitNot; omega
    have e2 : (bitNot y / 2).toNat = (bitNot y).toNat / 2 := by unfold bitNot; omega
    rw [e1, e2, ← nor_half]
    generalize (bitNot x).toNat ||| (bitNot y).toNat = z
    unfold bitNot
    omega
theorem and_mod (x y : Int) : bitAnd x y % 2 = if x % 2 = 1 ∧ y % 2 = 1 then 1 else 0 := by
  by_cases hx : 0 ≤ x <;> by_cases hy : 0 ≤ y
  · rw [and_nn hx hy]
    have h1 := nand_mod x.toNat y.toNat
    split at h1 <;> split <;> omega
  · rw [and_np hx hy]
    have h1 := nand_mod x.toNat (bitNot y).toNat
    have h2 : (x.toNat &&& (bitNot y).toNat) ≤ x.toNat := Nat.and_le_left
    have h3 : ((bitNot y).toNat : Int) = -y - 1 := by unfold bitNot; omega
    split at h1 <;> split <;> omega
  · rw [and_pn hx hy]
    have h1 := nand_mod y.toNat (bitNot x).toNat
    have h3 : ((bitNot x).toNat : Int) = -x - 1 := by unfold bitNot; omega
    split at h1 <;> split <;> omega
  · rw [and_pp hx hy]
    have h1 := nor_mod (bitNot x).toNat (bitNot y).toNat
    have h3 : ((bitNot x).toNat : Int) = -x - 1 := by unfold bitNot; omega
    have h4 : ((bitNot y).toNat : Int) = -y - 1 := by unfold bitNot; omega
    rw [not_mod]
    split at h1 <;> split <;> omega
theorem or_half (x y : Int) : bitOr x y / 2 = bitOr (x / 2) (y / 2) := by
  unfold bitOr
  rw [← not_half, and_half, ← not_half, ← not_half]
theorem or_mod (x y : Int) : bitOr x y % 2 = if x % 2 = 1 ∨ y % 2 = 1 then 1 else 0 := by
  unfold bitOr
  rw [not_mod, and_mod, not_mod, not_mod]
  split <;> split <;> omega
theorem xor_half (x y : Int) : bitXor x y / 2 = bitXor (x / 2) (y / 2) := by
  unfold bitXor
  rw [← or_half, ← and_half]
  have h1 := or_mod x y
  have h2 := and_mod x y
  split at h1 <;> split at h2 <;> omega
theorem xor_mod (x y : Int) : bitXor x y % 2 = (x + y) % 2 := by
  unfold bitXor
  have h1 := or_mod x y
  have h2 := and_mod x y
  split at h1 <;> split at h2 <;> omega
theorem or_nn {x y : Int} (hx : 0 ≤ x) (hy : 0 ≤ y) : bitOr x y = ((x.toNat ||| y.toNat : Nat) : Int) := L2.bitOr_nn hx hy
/-- what divides -/
theorem dvd_succ (k : Nat) (x : Int) : (2 : Int) ^ (k + 1) ∣ x ↔ x % 2 = 0 ∧ (2 : Int) ^ k ∣ x / 2 := by
  have e : (2 : Int) ^ (k + 1) = 2 ^ k * 2 := Int.pow_succ 2 k
  rw [e]
  constructor
  · rintro ⟨c, rfl⟩
    have h1 : 2 ^ k * 2 * c = 2 * (2 ^ k * c) := by rw [Int.mul_comm (2 ^ k) 2, Int.mul_assoc]
    rw [h1]
    refine ⟨by omega, ⟨c, by omega⟩⟩
  · rintro ⟨h, c, hc⟩
    refine ⟨c, ?_⟩
    have h1 : 2 ^ k * 2 * c = 2 * (2 ^ k * c) := by rw [Int.mul_comm (2 ^ k) 2, Int.mul_assoc]
    rw [h1, ← hc]
    omega
theorem dvd_or (k : Nat) (x y : Int) : (2 : Int) ^ k ∣ bitOr x y ↔ (2 : Int) ^ k ∣ x ∧ (2 : Int) ^ k ∣ y := by
  induction k generalizing x y with
  | zero => simp
  | succ k ih =>
    rw [dvd_succ, dvd_succ, dvd_succ, or_half, ih, or_mod]
    split
    · constructor
      · intro h; omega
      · intro h; omega
    · constructor
      · intro h; exact ⟨⟨by omega, h.2.1⟩, ⟨by omega, h.2.2⟩⟩
      · intro h; exact ⟨rfl, h.1.2, h.2.2⟩
/-- the lowest bit -/
theorem low_nat : ∀ (n : Nat), 0 < n → ∃ v : Nat, n - (n &&& (n - 1)) = 2 ^ v ∧ 2 ^ v ∣ n ∧ ¬ 2 ^ (v + 1) ∣ n := by
  intro n
  induction n using Nat.strongRecOn with
  | _ n ih =>
    intro hn
    have hh := nand_half n (n - 1)
    have hm := nand_mod n (n - 1)
    by_cases h : n % 2 = 1
    · refine ⟨0, ?_, by simp, by rw [Nat.pow_succ]; omega⟩
      have e : (n - 1) / 2 = n / 2 := by omega
      rw [e, Nat.and_self] at hh
      have : ¬ (n % 2 = 1 ∧ (n - 1) % 2 = 1) := by omega
      rw [if_neg this] at hm
      show _ = 1
      omega
    · obtain ⟨v, h1, h2, h3⟩ := ih (n / 2) (by omega) (by omega)
      have e : (n - 1) / 2 = n / 2 - 1 := by omega
      rw [e] at hh
      have : ¬ (n % 2 = 1 ∧ (n - 1) % 2 = 1) := by omega
      rw [if_neg this] at hm
      have hle : (n / 2 &&& (n / 2 - 1)) ≤ n / 2 := Nat.and_le_left
      refine ⟨v + 1, ?_, ?_, ?_⟩
      · rw [Nat.pow_succ]; omega
      · obtain ⟨c, hc⟩ := h2
        exact ⟨c, by rw [Nat.pow_succ, Nat.mul_assoc, Nat.mul_comm 2 c, ← Nat.mul_assoc, ← hc]; omega⟩
      · rintro ⟨c, hc⟩
        apply h3
        refine ⟨c, ?_⟩
        rw [Nat.pow_succ, Nat.mul_assoc, Nat.mul_comm 2 c, ← Nat.mul_assoc] at hc
        omega
theorem low_int {t : Int} (ht : t ≠ 0) : ∃ v : Nat, bitAnd t (-t) = 2 ^ v ∧ (2 : Int) ^ v ∣ t ∧ ¬ (2 : Int) ^ (v + 1) ∣ t := by
  obtain ⟨v, h1, h2, h3⟩ := low_nat t.natAbs (by omega)
  refine ⟨v, ?_, ?_, ?_⟩
  · have hle : (t.natAbs &&& (t.natAbs - 1)) ≤ t.natAbs := Nat.and_le_left
    have e : ((2 : Int) ^ v) = ((2 ^ v : Nat) : Int) := by simp
    rw [e, ← h1]
    by_cases hp : 0 ≤ t
    · rw [and_np hp (by omega)]
      have e1 : t.toNat = t.natAbs := by omega
      have e2 : (bitNot (-t)).toNat = t.natAbs - 1 := by unfold bitNot; omega
      rw [e1, e2]
      omega
    · rw [and_pn hp (by omega)]
      have e1 : (-t).toNat = t.natAbs := by omega
      have e2 : (bitNot t).toNat = t.natAbs - 1 := by unfold bitNot; omega
      rw [e1, e2]
      omega
  · rw [← Int.natAbs_dvd_natAbs]
    simpa [Int.natAbs_pow] using h2
  · rw [← Int.natAbs_dvd_natAbs]
    simpa [Int.natAbs_pow] using h3
theorem bits_pow (v : Nat) : Mn.bitsI (2 ^ v) = (v : Int) + 1 := by
  unfold Mn.bitsI Builtin.Int.intBits
  have h : (2 : Int) ^ v ≠ 0 := by
    have : 0 < (2 : Int) ^ v := Int.pow_pos (by decide)
    omega
  rw [if_neg (by simpa using h)]
  have e : ((2 : Int) ^ v).natAbs = 2 ^ v := by simp [Int.natAbs_pow]
  rw [e, Nat.log2_two_pow]
  omega
end Bt
namespace K67
open PySem L2 Mn
open Evl (Ex Ev EvL EvU EvT EvA EvO RV RU RC)
def m_l_cell (script_ : List Int) (k_ : Int) : Option Int :=
  if (decide (k_ < (script_.length : Int))) = true then (
  (atI script_ k_).bind fun x4 =>
  some x4
  ) else (
  some 0
  )
def m_l_row (cell_here_ : Int) (count_ : Int) (bound_ : Int) : Option (List Int) :=
  bnd ((absI cell_here_) : Int) fun rest_1 =>
  bnd (((cell_here_ % 1000003) + 1) : Int) fun mixed_4 =>
  (rngC 0 count_).bind fun r10 =>
  (itM (fun (k_11 : Int) (s12 : Int × Int × (List Int)) => (if (decide (bound_ ≤ s12.1)) = true then ( (modC s12.1 bound_).bind fun n27 => (appC s12.2.2 n27).bind fun l28 => (divC s12.1 bound_).bind fun n31 => some (n31, s12.2.1, l28) ) else ( bnd (((((s12.2.1 * 48271) + (11 * k_11)) + 7) % 2147483647) : Int) fun mixed_36 => (modC ((mixed_36 * 2862933555777941757) / 1024) bound_).bind fun n39 => (appC s12.2.2 n39).bind fun l40 => some (s12.1, mixed_36, l40) ) : Option (Int × Int × (List Int)))) r10 (rest_1, mixed_4, ([] : List Int))).bind fun r13 =>
  some r13.2.2
def m_wasted_bits (samples_ : List Int) : Option Int :=
  (itM (fun (value_3 : Int) (s4 : Int) => (bnd ((Builtin.bitOr s4 value_3) : Int) fun together_16 => some (together_16) : Option (Int))) samples_ (0)).bind fun r5 =>
  some ((bitsI (Builtin.bitAnd r5 (-r5))) - 1)
def m_l_integer (value_ : Int) : Option Bool :=
  some (true && (!false))
def m_law (script_ : List Int) : Option Bool :=
  (m_l_cell script_ 0).bind fun c1 =>
  (atI [4, 127, 4294967296] ((c1 / 20) % 3)).bind fun x4 =>
  (m_l_cell script_ 2).bind fun c7 =>
  bnd ((c7 % 32) : Int) fun power_8 =>
  bnd (((1 + (c1 % 20)) + (50 * (b2 (decide (((c1 / 60) % 6) = 1))))) : Int) fun count_11 =>
  (m_l_cell script_ 1).bind fun c17 =>
  (m_l_row c17 count_11 ((2 * x4) + 1)).bind fun c18 =>
  (grd (c18.length ≤ 16777216) ()).bind fun z19 =>
  (mapO (fun x_15 => ((shlC 1 power_8).bind fun n20 => (mulC (x_15 - x4) n20).bind fun n21 => some n21)) c18).bind fun l16 =>
  (m_l_cell script_ 2).bind fun c25 =>
  (if (decide (((c25 / 32) % 3) = 1)) = true then ((m_l_cell script_ 3).bind fun c32 => (modC c32 (l16.length : Int)).bind fun n33 => (rngC 0 (l16.length : Int)).bind fun r39 => (grd (r39.length ≤ 16777216) ()).bind fun z40 => (mapO (fun k_37 => ((atI l16 k_37).bind fun x41 => (mulC x41 (b2 (decide (k_37 = n33)))).bind fun n42 => some n42)) r39).bind fun l38 => some (l38)) else (some (l16)) : Option ((List Int))).bind fun s26 =>
  (grd (s26.length ≤ 16777216) ()).bind fun z54 =>
  (mapO (fun x_52 => (some (decide (x_52 = 0)))) s26).bind fun l53 =>
  (if (l53.all id) = true then ((shlC 1 power_8).bind fun n61 => (setC s26 0 n61).bind fun l62 => some (l62)) else (some (s26)) : Option ((List Int))).bind fun s55 =>
  (itM (fun (x_71 : Int) (s72 : Int) => (bnd ((absI x_71) : Int) fun rest_86 => (rngC 0 70).bind fun r89 => (itM (fun (k_90 : Int) (s91 : Int × Int) => (if ((!decide (s91.2 = 0)) && (decide (s91.2 = ((s91.2 / 2) * 2)))) = true then ( bnd ((s91.2 / 2) : Int) fun rest_106 => bnd ((s91.1 + 1) : Int) fun count_109 => some (count_109, rest_106) ) else ( some (s91.1, s91.2) ) : Option (Int × Int))) r89 (0, rest_86)).bind fun r92 => if (!decide (x_71 = 0)) = true then ( bnd ((minI s72 r92.1) : Int) fun expected_120 => some (expected_120) ) else ( some (s72) ) : Option (Int))) s55 (70)).bind fun r73 =>
  (m_wasted_bits s55).bind fun c131 =>
  (m_l_integer c131).bind fun c134 =>
  some (c134 && ((decide (c131 = r73)) && (decide (s55 = s55))))
end K67
-- COMMON: Cm Bt
namespace K67
open PySem L2 Mn
theorem cell_ok (ns : List Int) {k : Int} (h : 0 ≤ k) : ∃ c, m_l_cell ns k = some c ∧ True := by
  unfold m_l_cell
  refine ex_ifP (fun hk => ?_) (fun _ => ex_some trivial)
  exact ex_bind (atI_ok h hk) (ex_some trivial)
theorem row_ok (c : Int) {n b : Int} (h0 : 0 ≤ n) (h1 : n ≤ 1000) (hb : 0 < b) (hb2 : b < 2 ^ 40) : ∃ xs, m_l_row c n b = some xs ∧ xs.length = n.toNat ∧ ∀ x ∈ xs, 0 ≤ x ∧ x < b := by
  unfold m_l_row
  simp only [bnd_eq]
  refine ex_bind (rngC_ok (by omega) (by omega) (by omega) (by omega)) ?_
  refine ex_itM (fun i (s : Int × Int × List Int) => s.2.2.length = i ∧ ∀ x ∈ s.2.2, 0 ≤ x ∧ x < b) ⟨rfl, fun _ h => (nomatch h)⟩ (fun i x s hx hp => ?_) (fun s p => ex_some ⟨?_, p.2⟩)
  · have hi := (rngI_at hx).2
    have hm : ∀ y : Int, 0 ≤ y % b ∧ y % b < b := fun y => ⟨Int.emod_nonneg _ (by omega), Int.emod_lt_of_pos _ hb⟩
    have ha : ∀ y : Int, ∀ x ∈ s.2.2 ++ [y % b], 0 ≤ x ∧ x < b := by
      intro y x hx
      rcases List.mem_append.mp hx with h | h
      · exact hp.2 x h
      · rcases List.mem_singleton.mp h with rfl
        exact hm y
    refine ex_ifP (fun _ => ?_) (fun _ => ?_)
    · refine ex_bind (modC_ok hb) (ex_bind (appC_ok (by omega)) (ex_bind (divC_ok 64 hb (by omega)) (ex_some ⟨?_, ha _⟩)))
      rw [List.length_append, hp.1]; rfl
    · refine ex_bind (modC_ok hb) (ex_bind (appC_ok (by omega)) (ex_some ⟨?_, ha _⟩))
      rw [List.length_append, hp.1]; rfl
  · rw [p.1, rngI_length, Int.sub_zero]
theorem wasted_ok {xs : List Int} (h : ∃ x ∈ xs, x ≠ 0) : ∃ v : Nat, m_wasted_bits xs = some (v : Int) ∧ (∀ x ∈ xs, (2 : Int) ^ v ∣ x) ∧ ∃ x ∈ xs, ¬ (2 : Int) ^ (v + 1) ∣ x := by
  unfold m_wasted_bits
  simp only [bnd_eq]
  have key : ∀ (l : List Int) (a : Int), ∃ t, itM (fun (value_3 : Int) (s4 : Int) => (some (Builtin.bitOr s4 value_3) : Option Int)) l a = some t ∧ ∀ k : Nat, (2 : Int) ^ k ∣ t ↔ (2 : Int) ^ k ∣ a ∧ ∀ x ∈ l, (2 : Int) ^ k ∣ x := by
    intro l
    induction l with
    | nil => intro a; exact ⟨a, rfl, fun k => ⟨fun h => ⟨h, fun _ h => (nomatch h)⟩, fun h => h.1⟩⟩
    | cons y l ih =>
      intro a
      obtain ⟨t, h1, h2⟩ := ih (Builtin.bitOr a y)
      refine ⟨t, h1, fun k => ?_⟩
      rw [h2, Bt.dvd_or]
      simp only [List.mem_cons, forall_eq_or_imp, and_assoc]
  obtain ⟨t, h1, h2⟩ := key xs 0
  have ht : t ≠ 0 := by
    rintro rfl
    obtain ⟨x, hx, hx0⟩ := h
    have h3 := ((h2 x.natAbs).mp (Int.dvd_zero _)).2 x hx
    have h4 := Int.natAbs_dvd_natAbs.mpr h3
    have h5 := Nat.le_of_dvd (by omega) h4
    rw [Int.natAbs_pow] at h5
    have := Nat.lt_two_pow_self (n := x.natAbs)
    have e : (2 : Int).natAbs = 2 := rfl
    rw [e] at h5
    omega
  obtain ⟨v, e1, e2, e3⟩ := Bt.low_int ht
  refine ⟨v, ?_, fun x hx => ((h2 v).mp e2).2 x hx, ?_⟩
  · refine bind_ok h1 ?_
    rw [e1, Bt.bits_pow]
    congr 1
    omega
  · refine Classical.byContradiction fun hn => e3 ((h2 (v + 1)).mpr ⟨Int.dvd_zero _, fun x hx => ?_⟩)
    exact Classical.byContradiction fun hd => hn ⟨x, hx, hd⟩
/-- the law's count of halvings -/
theorem halve_ok (x : Int) (hx : x ≠ 0) (h : x.natAbs < 2 ^ 69) {f : Int → Int × Int → Option (Int × Int)}
    (hf : ∀ k s, f k s = if ((!decide (s.2 = 0)) && (decide (s.2 = ((s.2 / 2) * 2)))) = true then some (s.1 + 1, s.2 / 2) else some (s.1, s.2)) :
    ∃ (n : Nat) (r : Int), itM f (rngI 0 70) (0, absI x) = some ((n : Int), r) ∧ (2 : Int) ^ n ∣ x ∧ ¬ (2 : Int) ^ (n + 1) ∣ x ∧ n < 70 := by
  obtain ⟨s, hs, n, e1, e2, e3⟩ := itM_ok (f := f) (fun i (s : Int × Int) => ∃ n : Nat, s.1 = n ∧ (s.2 * 2 ^ n = (x.natAbs : Int)) ∧ (s.2 % 2 = 1 ∨ n = i)) (xs := rngI 0 70) (s := (0, absI x)) ⟨0, rfl, by rw [absI_eq]; simp, Or.inr rfl⟩ (fun i y s hy hp => by
    obtain ⟨n, e1, e2, e3⟩ := hp
    rw [hf]
    have h0 : s.2 ≠ 0 := by
      intro h0
      rw [h0] at e2
      omega
    by_cases hd : s.2 % 2 = 0
    · have c : ((!decide (s.2 = 0)) && (decide (s.2 = ((s.2 / 2) * 2)))) = true := by
        rw [Bool.and_eq_true]
        exact ⟨by simp [h0], decide_eq_true (by omega)⟩
      rw [if_pos c]
      refine ex_some ⟨n + 1, by show s.1 + 1 = _; rw [e1]; rfl, ?_, ?_⟩
      · show s.2 / 2 * 2 ^ (n + 1) = _
        rw [Int.pow_succ, ← e2]
        have : s.2 = s.2 / 2 * 2 := by omega
        rw [Int.mul_comm (2 ^ n) 2, ← Int.mul_assoc, ← this]
      · right
        rcases e3 with h | h <;> omega
    · have c : ¬ (((!decide (s.2 = 0)) && (decide (s.2 = ((s.2 / 2) * 2)))) = true) := by
        rw [Bool.and_eq_true]
        rintro ⟨_, h2⟩
        have := of_decide_eq_true h2
        omega
      rw [if_neg c]
      exact ex_some ⟨n, e1, e2, Or.inl (by show s.2 % 2 = 1; omega)⟩)
  have e70 : (rngI 0 70).length = 70 := rfl
  rw [e70] at e3
  have hp : 0 < (2 : Int) ^ n := Int.pow_pos (by decide)
  have hodd : s.2 % 2 = 1 := by
    rcases e3 with h | rfl
    · exact h
    · exfalso
      have h0 : s.2 ≠ 0 := by
        intro h0
        rw [h0] at e2
        omega
      have hpos : 0 < s.2 := by
        rcases Int.lt_or_gt_of_ne h0 with hneg | hpos
        · exfalso
          have := Int.mul_neg_of_neg_of_pos hneg hp
          omega
        · exact hpos
      have : (2 : Int) ^ 70 ≤ s.2 * 2 ^ 70 := by omega
      omega
  have hn : n < 70 := by
    refine Classical.byContradiction fun hc => ?_
    rcases e3 with h | h
    · have hpos : 0 < s.2 := by
        refine Classical.byContradiction fun hneg => ?_
        have h1 : s.2 < 0 := by omega
        have := Int.mul_neg_of_neg_of_pos h1 hp
        omega
      have h2 : (2 : Int) ^ 70 ≤ 2 ^ n := by
        have := Nat.pow_le_pow_right (show 0 < 2 by decide) (show 70 ≤ n by omega)
        exact_mod_cast this
      have h3 : (2 : Int) ^ n ≤ s.2 * 2 ^ n := by
        have := Int.mul_le_mul_of_nonneg_right (show (1 : Int) ≤ s.2 by omega) (Int.le_of_lt hp)
        omega
      omega
    · subst h
      have h0 : s.2 ≠ 0 := by omega
      have hpos : 0 < s.2 := by
        refine Classical.byContradiction fun hneg => ?_
        have h1 : s.2 < 0 := by omega
        have := Int.mul_neg_of_neg_of_pos h1 hp
        omega
      omega
  refine ⟨n, s.2, ?_, ?_, ?_, hn⟩
  · rw [hs, ← e1]
  · have : (2 : Int) ^ n ∣ (x.natAbs : Int) := ⟨s.2, by rw [← e2, Int.mul_comm]⟩
    exact Int.dvd_natAbs.mp this
  · intro hd
    have h1 : (2 : Int) ^ (n + 1) ∣ (x.natAbs : Int) := Int.dvd_natAbs.mpr hd
    obtain ⟨c, hc⟩ := h1
    rw [Int.pow_succ, ← e2, Int.mul_comm, Int.mul_assoc] at hc
    have := Int.eq_of_mul_eq_mul_left (by omega : (2 : Int) ^ n ≠ 0) hc
    omega

theorem pow_dvd {a b : Nat} {x : Int} (h : a ≤ b) (hx : (2 : Int) ^ b ∣ x) : (2 : Int) ^ a ∣ x := by
  have e : b = a + (b - a) := by omega
  rw [e, Int.pow_add] at hx
  exact Int.dvd_trans ⟨_, rfl⟩ hx
def Val (n : Nat) (x : Int) : Prop := (2 : Int) ^ n ∣ x ∧ ¬ (2 : Int) ^ (n + 1) ∣ x
theorem Val.le {n v : Nat} {x : Int} (h : Val n x) (hv : (2 : Int) ^ v ∣ x) : v ≤ n := Classical.byContradiction fun hc => h.2 (pow_dvd (by omega) hv)
theorem abs_mul_lt {a b : Int} {m n : Nat} (h1 : a.natAbs < 2 ^ m) (h2 : b.natAbs ≤ 2 ^ n) : (a * b).natAbs < 2 ^ (m + n) := by
  rw [Int.natAbs_mul, Nat.pow_add]
  exact Nat.lt_of_le_of_lt (Nat.mul_le_mul_left _ h2) (Nat.mul_lt_mul_of_pos_right h1 (Nat.two_pow_pos n))
theorem law_ex (ns : List Int) : ∃ r, m_law ns = some r ∧ r = true := by
  unfold m_law
  simp only [bnd_eq]
  refine ex_call (cell_ok ns (by decide)) fun first _ => ?_
  have h3 : 0 ≤ first / 20 % 3 ∧ first / 20 % 3 < 3 := by omega
  have hb : ∃ b, atI [4, 127, 4294967296] (first / 20 % 3) = some b ∧ 0 < b ∧ b ≤ (4294967296 : Int) := by
    have : first / 20 % 3 = 0 ∨ first / 20 % 3 = 1 ∨ first / 20 % 3 = 2 := by omega
    rcases this with e | e | e <;> rw [e]
    · exact ⟨4, rfl, by decide, by decide⟩
    · exact ⟨127, rfl, by decide, by decide⟩
    · exact ⟨4294967296, rfl, by decide, by decide⟩
  refine ex_call hb fun b ⟨hb0, hb1⟩ => ?_
  refine ex_call (cell_ok ns (by decide)) fun c2 _ => ?_
  refine ex_call (cell_ok ns (by decide)) fun c1 _ => ?_
  have hcount : ∀ q : Bool, 0 < 1 + first % 20 + 50 * b2 q ∧ 1 + first % 20 + 50 * b2 q ≤ 1000 := by
    intro q
    cases q <;> simp only [b2] <;> simp <;> omega
  refine ex_call (row_ok c1 (Int.le_of_lt (hcount _).1) (hcount _).2 (by omega) (by omega)) fun row ⟨hlen, hrow⟩ => ?_
  have hrl : 0 < row.length ∧ row.length ≤ 1000 := by
    have := hcount (decide (first / 60 % 6 = 1))
    omega
  refine ex_grd (by omega) ?_
  have hpw : ∀ k : Nat, ((1 : Int) * 2 ^ k).natAbs = 2 ^ k := by intro k; rw [Int.one_mul]; simp [Int.natAbs_pow]
  have hp32 : ((1 : Int) * 2 ^ (c2 % 32).toNat).natAbs ≤ 2 ^ 31 := by
    rw [hpw]
    exact Nat.pow_le_pow_right (by decide) (by omega)
  have hsh : shlC 1 (c2 % 32) = some (1 * 2 ^ (c2 % 32).toNat) := shlC_ok 1 (by omega) (by decide) (by omega)
  refine ex_mapO (R := fun y => y.natAbs < 2 ^ 64) (fun x hx => ?_) fun smp hl1 hR1 => ?_
  · have hx2 := hrow x hx
    refine ex_bind hsh (ex_bind (mulC_ok (Or.inl (by omega))) (ex_some ?_))
    exact abs_mul_lt (m := 33) (n := 31) (by omega) hp32
  refine ex_call (cell_ok ns (by decide)) fun c2' _ => ?_
  refine ex_call (R := fun s : List Int => s.length = smp.length ∧ ∀ y ∈ s, y.natAbs < 2 ^ 64) ?_ fun s26 ⟨hl2, hR2⟩ => ?_
  · refine ex_ifP (fun _ => ?_) (fun _ => ex_some ⟨rfl, hR1⟩)
    refine ex_call (cell_ok ns (by decide)) fun c3 _ => ?_
    refine ex_bind (modC_ok (by omega)) (ex_bind (rngC_ok (by omega) (by omega) (by omega) (by omega)) (ex_grd (by rw [rngI_length]; omega) ?_))
    refine ex_mapO (R := fun y => y.natAbs < 2 ^ 64) (fun x hx => ?_) fun ys hl hR => ex_some ⟨by rw [hl, rngI_length]; omega, hR⟩
    rw [rngI_mem] at hx
    refine ex_bind (atI_ok hx.1 hx.2) ?_
    have hy := hR1 _ (List.getElem_mem (show x.toNat < smp.length by omega))
    refine ex_bind (mulC_ok (Or.inl hy)) (ex_some ?_)
    have hb2 : ∀ q : Bool, (b2 q).natAbs ≤ 2 ^ 0 := by intro q; cases q <;> decide
    exact abs_mul_lt (m := 64) (n := 0) hy (hb2 _)
  refine ex_grd (by omega) ?_
  refine ex_mapG (fun x => decide (x = 0)) (fun x _ => rfl) ?_
  refine ex_call (R := fun s : List Int => (∀ y ∈ s, y.natAbs < 2 ^ 64) ∧ ∃ y ∈ s, y ≠ 0) ?_ fun s ⟨hs, hne⟩ => ?_
  · refine ex_if (fun _ => ?_) (fun hno => ex_some ⟨hR2, ?_⟩)
    · refine ex_bind hsh (ex_bind (setC_ok (by decide) (by omega)) (ex_some ⟨fun y hy => ?_, 1 * 2 ^ (c2 % 32).toNat, ?_, ?_⟩))
      · rcases List.mem_or_eq_of_mem_set hy with h | h
        · exact hR2 y h
        · rw [h]; exact Nat.lt_of_le_of_lt hp32 (by decide)
      · rw [List.mem_iff_getElem?]
        refine ⟨0, ?_⟩
        rw [List.getElem?_set, if_pos (show Int.toNat 0 = 0 from rfl), if_pos (show Int.toNat 0 < s26.length by show 0 < s26.length; omega)]
      · intro h0
        have h1 := hpw (c2 % 32).toNat
        rw [h0] at h1
        have := Nat.two_pow_pos (c2 % 32).toNat
        simp at h1
        omega
    · refine Classical.byContradiction fun hc => ?_
      have : ((s26.map fun x => decide (x = 0)).all id) = true := by
        rw [all_true]
        exact fun x hx => decide_eq_true (Classical.byContradiction fun hx0 => hc ⟨x, hx, hx0⟩)
      rw [this] at hno
      cases hno
  refine ex_itM (fun i (e : Int) => e ≤ 70 ∧ (∀ x ∈ s.take i, x ≠ 0 → ∃ n : Nat, Val n x ∧ n < 70 ∧ e ≤ n) ∧ (e = 70 ∨ ∃ x ∈ s.take i, x ≠ 0 ∧ ∃ n : Nat, Val n x ∧ e = n)) ⟨Int.le_refl _, by simp, Or.inl rfl⟩ (fun i x e hx hp => ?_) fun e hp => ?_
  · refine ex_bind (rngC_ok (by decide) (by decide) (by decide) (by decide)) ?_
    have hxs : x ∈ s := List.mem_of_getElem? hx
    have ht : s.take (i + 1) = s.take i ++ [x] := by rw [List.take_add_one, hx]; rfl
    by_cases h0 : x = 0
    · subst h0
      refine ex_itM (fun i (t : Int × Int) => t.2 = 0 ∧ t.1 = 0) ⟨rfl, rfl⟩ (fun i y t _ ht => ?_) fun t _ => ?_
      · refine ex_if (fun hc => ?_) (fun _ => ex_some ht)
        rw [ht.1] at hc
        cases hc
      · refine ex_if (fun h => by simp at h) (fun _ => ex_some ?_)
        rw [ht]
        refine ⟨hp.1, fun y hy hy0 => ?_, ?_⟩
        · rcases List.mem_append.mp hy with h | h
          · exact hp.2.1 y h hy0
          · exact absurd (List.mem_singleton.mp h) hy0
        · rcases hp.2.2 with h | ⟨y, hy, h⟩
          · exact Or.inl h
          · exact Or.inr ⟨y, List.mem_append_left _ hy, h⟩
    · obtain ⟨n, r, h1, h2, h3, h4⟩ := halve_ok x h0 (by have := hs x hxs; omega) (fun k t => rfl)
      refine ex_bind h1 ?_
      refine ex_if (fun _ => ex_some ?_) (fun hc => absurd hc (by simp [h0]))
      rw [ht, minI_eq]
      refine ⟨by show min e (n : Int) ≤ 70; omega, fun y hy hy0 => ?_, ?_⟩
      · rcases List.mem_append.mp hy with h | h
        · obtain ⟨m, hm1, hm2, hm3⟩ := hp.2.1 y h hy0
          exact ⟨m, hm1, hm2, by show min e (n : Int) ≤ m; omega⟩
        · rcases List.mem_singleton.mp h with rfl
          exact ⟨n, ⟨h2, h3⟩, h4, by show min e (n : Int) ≤ n; omega⟩
      · rcases Int.le_total e n with hle | hle
        · have em : min e (n : Int) = e := by omega
          show min e (n : Int) = 70 ∨ _
          rw [em]
          rcases hp.2.2 with h | ⟨y, hy, h⟩
          · exact Or.inl h
          · exact Or.inr ⟨y, List.mem_append_left _ hy, h⟩
        · refine Or.inr ⟨x, List.mem_append_right _ List.mem_cons_self, h0, n, ⟨h2, h3⟩, ?_⟩
          show min e (n : Int) = n
          omega
  · rw [List.take_length] at hp
    obtain ⟨v, h1, h2, x, hx, h3⟩ := wasted_ok hne
    refine ex_bind h1 (ex_bind rfl (ex_some ?_))
    have hx0 : x ≠ 0 := by
      rintro rfl
      exact h3 (Int.dvd_zero _)
    obtain ⟨n, hn1, hn2, hn3⟩ := hp.2.1 x hx hx0
    have e1 : n ≤ v := Classical.byContradiction fun hc => h3 (pow_dvd (by omega) hn1.1)
    have e2 : (v : Int) ≤ e := by
      rcases hp.2.2 with h | ⟨y, hy, hy0, m, hm, h⟩
      · omega
      · have := hm.le (h2 y hy)
        omega
    have e3 : (v : Int) = e := by omega
    simp [e3]
theorem law_true : ∀ ns : List Int, ns.length ≤ 63 → (∀ z ∈ ns, PySem.Builtin.Int.intBits z ≤ 1048576) → m_law ns = some true := fun ns _ _ => of_ex (law_ex ns)
end K67
namespace K67
open PySem L2 Mn
open Evl (Ex Ev EvL EvU EvT EvA EvO RV RU RC)
def topS (i : Nat) : Stmt := PySem.Challenge.pw_monochord_k67_wasted_bits.main.body.getD i (.Pass ⟨0, 0, 0, 0⟩)
structure Txt (K : PySem.W.Frag) (mg : Str → Option Value) : Prop where
  b_abs : mg "abs" = none
  b_all : mg "all" = none
  b_bool : mg "bool" = none
  b_int : mg "int" = none
  b_isinstance : mg "isinstance" = none
  b_len : mg "len" = none
  b_list : mg "list" = none
  b_min : mg "min" = none
  b_range : mg "range" = none
def sp_l_cell (K : PySem.W.Frag) : Sp := fun vs H Q _ => ∃ (a_script_ : Addr) (script_ : List Int) (k_ : Int) (res : Int), vs = [.ref a_script_, .int k_] ∧ SqL K H a_script_ (List.map V.int script_) ∧ m_l_cell script_ k_ = some res ∧ ∀ H', Fr H [] H' → Q (.int res) H'
theorem u_l_cell {K : PySem.W.Frag} {H : Hp} {script_ : List Int} {a_script_ : Addr} {k_ : Int} {res : Int} (h_script_ : SqL K H a_script_ (List.map V.int script_)) (hm : m_l_cell script_ k_ = some res) : Evl.SpV (sp_l_cell K) [.ref a_script_, .int k_] H (.int res) := fun H1 e Q q E => ⟨a_script_, script_, k_, res, rfl, Evl.ex_l e h_script_, hm, fun H' F => q H' F.base⟩
abbrev s_l_cell : Stmt := topS 3
theorem sc_l_cell : FnScope ["_law_script", "_law_k"] ["_law_script", "_law_k"] (defScope s_l_cell) := ⟨rfl, rfl, rfl, by decide +kernel, rfl, by decide +kernel, by decide +kernel⟩
theorem ok_l_cell {P : Program} {w : World} {K : PySem.W.Frag} {mg : Str → Option Value} {base : Heap} {fa : Addr} {fd : FuncData} (F : Fun K "_law_cell" "_law_cell" s_l_cell fa fd) (T : Txt K mg) : FnOk P w K mg base CX0 1 fa fd ["_law_script", "_law_k"] (sp_l_cell K) := by
  refine F.ok sc_l_cell (fun vs H Q E h => ?_) (fun cdv A outer s HB vs Q E hr h => ?_)
  · obtain ⟨a_script_, script_, k_, res, rfl, _⟩ := h
    rfl
  · obtain ⟨a_script_, script_, k_, res, rfl, b_script_, hm, k⟩ := h
    have F0 := Fr.refl HB
    unfold m_l_cell at hm
    refine ⟨_, (pss_cons (ps_if (pt_cmpR op_lt (pv 1) (pe_callB (kLen (K := K)) (by rfl) T.b_len (by decide +kernel) (pa_cons (pv 0) pa_nil)) (nomark _)) (pss_one (ps_ret (pe_ix (kIx (K := K)) (pv 0) (pv 1) (fun _ _ => rfl)))) pss_nil)
    (pss_one (ps_ret pe_int))), ?_⟩
    refine sl (σ' := [some (.ref a_script_), some (.int k_)]) rfl ?_
    refine g_when F0 (Evl.et_test (Evl.ev_op (Evl.ev_var (i := 1) rfl) (ev_len (f := V.int) (Evl.ex_l F0.base b_script_) (Evl.ev_var (i := 0) rfl)) rv_I0)) (fun hb1 H F => ?_) (fun hb1 H F => ?_)
    · have F3 := F
      replace hm := of_ifT hb1 hm
      obtain ⟨x4, hx4, hm⟩ := of_bind hm
      obtain rfl := Option.some.inj hm
      refine g_ret F3 (Evl.ev_op (Evl.ev_var (i := 0) rfl) (Evl.ev_var (i := 1) rfl) (rv_ix (f := V.int) hx4 (Evl.ex_l F3.base b_script_))) fun H5 F6 => ?_
      exact k _ F6
    · have F8 := F
      replace hm := of_ifF hb1 hm
      obtain rfl := Option.some.inj hm
      refine g_ret F8 Evl.ev_c fun H9 F10 => ?_
      exact k _ F10

def sp_l_row (K : PySem.W.Frag) : Sp := fun vs H Q _ => ∃ (cell_here_ : Int) (count_ : Int) (bound_ : Int) (res : List Int), vs = [.int cell_here_, .int count_, .int bound_] ∧ m_l_row cell_here_ count_ bound_ = some res ∧ ∀ p H', Fr H [(p, .lst (List.map V.int res))] H' → Q (.ref p) H'
theorem u_l_row {K : PySem.W.Frag} {H : Hp} {cell_here_ : Int} {count_ : Int} {bound_ : Int} {res : List Int} (hm : m_l_row cell_here_ count_ bound_ = some res) : Evl.SpL (sp_l_row K) [.int cell_here_, .int count_, .int bound_] H (List.map V.int res) := fun H1 e Q q E => ⟨cell_here_, count_, bound_, res, rfl, hm, fun p H' F => q p H' (F.fresh 0 rfl) F.base (F.get 0 rfl)⟩
abbrev s_l_row : Stmt := topS 6
theorem sc_l_row : FnScope ["_law_cell_here", "_law_count", "_law_bound", "_law_rest", "_law_mixed", "_law_row_here", "_law_k"] ["_law_cell_here", "_law_count", "_law_bound"] (defScope s_l_row) := ⟨rfl, rfl, rfl, by decide +kernel, rfl, by decide +kernel, by decide +kernel⟩
theorem ok_l_row {P : Program} {w : World} {K : PySem.W.Frag} {mg : Str → Option Value} {base : Heap} {fa : Addr} {fd : FuncData} (F : Fun K "_law_row" "_law_row" s_l_row fa fd) (T : Txt K mg) : FnOk P w K mg base CX0 1 fa fd ["_law_cell_here", "_law_count", "_law_bound"] (sp_l_row K) := by
  refine F.ok sc_l_row (fun vs H Q E h => ?_) (fun cdv A outer s HB vs Q E hr h => ?_)
  · obtain ⟨cell_here_, count_, bound_, res, rfl, _⟩ := h
    rfl
  · obtain ⟨cell_here_, count_, bound_, res, rfl, hm, k⟩ := h
    have F0 := Fr.refl HB
    unfold m_l_row at hm
    refine ⟨_, (pss_cons (ps_set (i := 3) sc_l_row.nd rfl (Or.inl rfl) (pe_callB cr_abs (by rfl) T.b_abs (by decide +kernel) (pa_cons (pe_callTy cr_int (by rfl) T.b_int (by decide +kernel) (pa_cons (pv 0) pa_nil)) pa_nil)))
    (pss_cons (ps_set (i := 4) sc_l_row.nd rfl (Or.inl rfl) (pe_op op_add (pe_op op_mod (pe_callTy cr_int (by rfl) T.b_int (by decide +kernel) (pa_cons (pv 0) pa_nil)) pe_int) pe_int))
    (pss_cons (ps_set (i := 5) sc_l_row.nd rfl (Or.inl rfl) (pe_lst pa_nil))
    (pss_cons (ps_for PassesOwn.never rfl (pi_range1 rfl T.b_range (pa_cons (pv 1) pa_nil)) (pg_name (i := 6) sc_l_row.nd rfl (Or.inl rfl))
      (pss_one (ps_if (pt_cmpR op_ge (pv 3) (pv 2) (nomark _)) (pss_cons (ps_expr (pe_bm PySem.F.plainAttrs_list PySem.F.slot_list_append PySem.F.type_list_append mt_append (pv 5) (pa_cons (pe_op op_mod (pe_callTy cr_int (by rfl) T.b_int (by decide +kernel) (pa_cons (pv 3) pa_nil)) (pv 2)) pa_nil)))
    (pss_cons (ps_set (i := 3) sc_l_row.nd rfl (Or.inl rfl) (pe_op op_fdivW (pv 3) (pv 2)))
    pss_nil)) (pss_cons (ps_set (i := 4) sc_l_row.nd rfl (Or.inl rfl) (pe_op op_mod (pe_callTy cr_int (by rfl) T.b_int (by decide +kernel) (pa_cons (pe_op op_add (pe_op op_add (pe_op op_mul (pv 4) pe_int) (pe_op op_mul pe_int (pv 6))) pe_int) pa_nil)) pe_int))
    (pss_cons (ps_expr (pe_bm PySem.F.plainAttrs_list PySem.F.slot_list_append PySem.F.type_list_append mt_append (pv 5) (pa_cons (pe_op op_mod (pe_callTy cr_int (by rfl) T.b_int (by decide +kernel) (pa_cons (pe_op op_fdiv (pe_op op_mul (pv 4) pe_int) pe_int) pa_nil)) (pv 2)) pa_nil)))
    pss_nil)))))
    (pss_one (ps_ret (pv 5))))))), ?_⟩
    refine sl (σ' := [some (.int cell_here_), some (.int count_), some (.int bound_), none, none, none, none]) rfl ?_
    obtain ⟨rest_1, hrest_1, hm⟩ := of_bnd hm
    refine g_asg (i := 3) (v := .int rest_1) (σ' := [some (.int cell_here_), some (.int count_), some (.int bound_), some (.int rest_1), none, none, none]) F0 (ev_cg (f := V.int) (ev_abs (ev_int (Evl.ev_var (i := 0) rfl))) hrest_1) rfl fun H2 F3 => ?_
    obtain ⟨mixed_4, hmixed_4, hm⟩ := of_bnd hm
    refine g_asg (i := 4) (v := .int mixed_4) (σ' := [some (.int cell_here_), some (.int count_), some (.int bound_), some (.int rest_1), some (.int mixed_4), none, none]) F3 (ev_cg (f := V.int) (Evl.ev_op (Evl.ev_op (ev_int (Evl.ev_var (i := 0) rfl)) Evl.ev_c (rv_modK _)) Evl.ev_c rv_I0) hmixed_4) rfl fun H5 F6 => ?_
    refine g_asgL (i := 5) (zs := List.map V.int ([] : List Int)) F6 (el_lst Evl.ea_nil) fun p7 H8 F9 => ?_
    refine sl (σ' := [some (.int cell_here_), some (.int count_), some (.int bound_), some (.int rest_1), some (.int mixed_4), some (.ref p7), none]) rfl ?_
    obtain ⟨r10, hr10, hm⟩ := of_bind hm
    obtain ⟨r13, hl43, hm⟩ := of_bind hm
    refine w_rngM1 hr10 hl43 (fun s12 σ H => ∃ (u_k_ : Option V) , σ = [some (.int cell_here_), some (.int count_), some (.int bound_), some (.int s12.1), some (.int s12.2.1), some (.ref p7), u_k_] ∧ Fr HB [(p7, .lst (List.map V.int s12.2.2))] H) (Evl.ea_cons (Evl.ev_var (i := 1) rfl) Evl.ea_nil) (fun H e => ?_) ?_ ?_
    · have F := F9.ex e
      exact ⟨_, rfl, F⟩
    · rintro _ H44 ⟨u_k_, rfl, F45⟩
      obtain rfl := Option.some.inj hm
      refine g_ret F45 (Evl.ev_var (i := 5) rfl) fun H46 F47 => ?_
      exact k _ _ F47
    · rintro k_11 s12 r20 _ H21 N hb ⟨u_k_, rfl, F22⟩ hN16
      have ho23 := hm; clear hm; have hm := hb; clear hb
      refine sl (σ' := [some (.int cell_here_), some (.int count_), some (.int bound_), some (.int s12.1), some (.int s12.2.1), some (.ref p7), some (.int k_11)]) rfl ?_
      refine s_if F22 (Evl.et_test (Evl.ev_op (Evl.ev_var (i := 3) rfl) (Evl.ev_var (i := 2) rfl) rv_I0)) (fun hb24 H F => ?_) (fun hb24 H F => ?_)
      · have F26 := F
        replace hm := of_ifT hb24 hm
        obtain ⟨n27, hn27, hm⟩ := of_bind hm
        obtain ⟨l28, hl28, hm⟩ := of_bind hm
        refine g_app (f := V.int) F26 hl28 (i := 0) rfl (Evl.ev_var (i := 5) rfl) (Evl.ev_op (ev_int (Evl.ev_var (i := 3) rfl)) (Evl.ev_var (i := 2) rfl) (rv_mod hn27)) rfl fun H29 F30 => ?_
        obtain ⟨n31, hn31, hm⟩ := of_bind hm
        refine g_asg (i := 3) (v := .int n31) (σ' := [some (.int cell_here_), some (.int count_), some (.int bound_), some (.int n31), some (.int s12.2.1), some (.ref p7), some (.int k_11)]) F30 (Evl.ev_op (Evl.ev_var (i := 3) rfl) (Evl.ev_var (i := 2) rfl) (rv_div hn31)) rfl fun H32 F33 => ?_
        obtain rfl := Option.some.inj hm
        exact hN16 _ _ ⟨_, rfl, F33⟩
      · have F35 := F
        replace hm := of_ifF hb24 hm
        obtain ⟨mixed_36, hmixed_36, hm⟩ := of_bnd hm
        refine g_asg (i := 4) (v := .int mixed_36) (σ' := [some (.int cell_here_), some (.int count_), some (.int bound_), some (.int s12.1), some (.int mixed_36), some (.ref p7), some (.int k_11)]) F35 (ev_cg (f := V.int) (Evl.ev_op (ev_int (Evl.ev_op (Evl.ev_op (Evl.ev_op (Evl.ev_var (i := 4) rfl) Evl.ev_c (rv_mulR _)) (Evl.ev_op Evl.ev_c (Evl.ev_var (i := 6) rfl) (rv_mulL _)) rv_I0) Evl.ev_c rv_I0)) Evl.ev_c (rv_modK _)) hmixed_36) rfl fun H37 F38 => ?_
        obtain ⟨n39, hn39, hm⟩ := of_bind hm
        obtain ⟨l40, hl40, hm⟩ := of_bind hm
        refine g_app (f := V.int) F38 hl40 (i := 0) rfl (Evl.ev_var (i := 5) rfl) (Evl.ev_op (ev_int (Evl.ev_op (Evl.ev_op (Evl.ev_var (i := 4) rfl) Evl.ev_c (rv_mulR _)) Evl.ev_c (rv_divK _))) (Evl.ev_var (i := 2) rfl) (rv_mod hn39)) rfl fun H41 F42 => ?_
        obtain rfl := Option.some.inj hm
        exact hN16 _ _ ⟨_, rfl, F42⟩

def sp_wasted_bits (K : PySem.W.Frag) : Sp := fun vs H Q _ => ∃ (a_samples_ : Addr) (samples_ : List Int) (res : Int), vs = [.ref a_samples_] ∧ H a_samples_ = some (.lst (List.map V.int samples_)) ∧ m_wasted_bits samples_ = some res ∧ ∀ H', Fr H [] H' → Q (.int res) H'
theorem u_wasted_bits {K : PySem.W.Frag} {H : Hp} {samples_ : List Int} {a_samples_ : Addr} {res : Int} (h_samples_ : H a_samples_ = some (.lst (List.map V.int samples_))) (hm : m_wasted_bits samples_ = some res) : Evl.SpV (sp_wasted_bits K) [.ref a_samples_] H (.int res) := fun H1 e Q q E => ⟨a_samples_, samples_, res, rfl, e _ _ h_samples_, hm, fun H' F => q H' F.base⟩
abbrev s_wasted_bits : Stmt := topS 1
theorem sc_wasted_bits : FnScope ["samples", "together", "value"] ["samples"] (defScope s_wasted_bits) := ⟨rfl, rfl, rfl, by decide +kernel, rfl, by decide +kernel, by decide +kernel⟩
theorem ok_wasted_bits {P : Program} {w : World} {K : PySem.W.Frag} {mg : Str → Option Value} {base : Heap} {fa : Addr} {fd : FuncData} (F : Fun K "wasted_bits" "wasted_bits" s_wasted_bits fa fd) (T : Txt K mg) : FnOk P w K mg base CX0 1 fa fd ["samples"] (sp_wasted_bits K) := by
  refine F.ok sc_wasted_bits (fun vs H Q E h => ?_) (fun cdv A outer s HB vs Q E hr h => ?_)
  · obtain ⟨a_samples_, samples_, res, rfl, _⟩ := h
    rfl
  · obtain ⟨a_samples_, samples_, res, rfl, b_samples_, hm, k⟩ := h
    have F0 := Fr.refl HB
    unfold m_wasted_bits at hm
    refine ⟨_, (pss_cons (ps_set (i := 1) sc_wasted_bits.nd rfl (Or.inl rfl) pe_int)
    (pss_cons (ps_for PassesOwn.never rfl (kpi_list (K := K) (pv 0)) (pg_name (i := 2) sc_wasted_bits.nd rfl (Or.inl rfl))
      (pss_cons (ps_aug (i := 1) sc_wasted_bits.nd rfl (Or.inl rfl) (pv 2) iop_or)
    pss_nil))
    (pss_one (ps_ret (pe_op op_sub (pe_bits (pe_op op_and (pv 1) (pe_un un_neg (pv 1)))) pe_int))))), ?_⟩
    refine sl (σ' := [some (.ref a_samples_), none, none]) rfl ?_
    refine g_asg (i := 1) (v := .int 0) (σ' := [some (.ref a_samples_), some (.int 0), none]) F0 Evl.ev_c rfl fun H1 F2 => ?_
    obtain ⟨r5, hl19, hm⟩ := of_bind hm
    refine w_forM (f := V.int) hl19 (fun s4 σ H => ∃ (u_value_ : Option V) , σ = [some (.ref a_samples_), some (.int s4), u_value_] ∧ Fr HB [] H) (Evl.ev_var (i := 0) rfl) (Evl.sq_of (F2.base _ _ b_samples_)) (fun H e => ?_) ?_ ?_ ?_
    · have F := F2.ex e
      exact ⟨_, rfl, F⟩
    · rintro s4 _ H ⟨_, rfl, F⟩
      exact (Evl.sq_of (F.base _ _ b_samples_))
    · rintro _ H20 ⟨u_value_, rfl, F21⟩
      obtain rfl := Option.some.inj hm
      refine g_ret F21 (Evl.ev_op (ev_bits (Evl.ev_op (Evl.ev_var (i := 1) rfl) (ev_neg (Evl.ev_var (i := 1) rfl)) rv_I0)) Evl.ev_c rv_I0) fun H22 F23 => ?_
      exact k _ F23
    · rintro value_3 s4 r12 _ H13 N hb ⟨u_value_, rfl, F14⟩ hN8
      have ho15 := hm; clear hm; have hm := hb; clear hb
      refine sl (σ' := [some (.ref a_samples_), some (.int s4), some (.int value_3)]) rfl ?_
      obtain ⟨together_16, htogether_16, hm⟩ := of_bnd hm
      refine g_aug (i := 1) (z := .int together_16) (σ' := [some (.ref a_samples_), some (.int together_16), some (.int value_3)]) F14 rfl (Evl.ev_var (i := 2) rfl) (rv_cg htogether_16 rv_I0) rfl fun H17 F18 => ?_
      obtain rfl := Option.some.inj hm
      exact hN8 _ _ ⟨_, rfl, F18⟩

def sp_l_integer (K : PySem.W.Frag) : Sp := fun vs H Q _ => ∃ (value_ : Int) (res : Bool), vs = [.int value_] ∧ m_l_integer value_ = some res ∧ ∀ H', Fr H [] H' → Q (.bl res) H'
theorem u_l_integer {K : PySem.W.Frag} {H : Hp} {value_ : Int} {res : Bool} (hm : m_l_integer value_ = some res) : Evl.SpV (sp_l_integer K) [.int value_] H (.bl res) := fun H1 e Q q E => ⟨value_, res, rfl, hm, fun H' F => q H' F.base⟩
abbrev s_l_integer : Stmt := topS 4
theorem sc_l_integer : FnScope ["_law_value"] ["_law_value"] (defScope s_l_integer) := ⟨rfl, rfl, rfl, by decide +kernel, rfl, by decide +kernel, by decide +kernel⟩
theorem ok_l_integer {P : Program} {w : World} {K : PySem.W.Frag} {mg : Str → Option Value} {base : Heap} {fa : Addr} {fd : FuncData} (F : Fun K "_law_integer" "_law_integer" s_l_integer fa fd) (T : Txt K mg) : FnOk P w K mg base CX0 1 fa fd ["_law_value"] (sp_l_integer K) := by
  refine F.ok sc_l_integer (fun vs H Q E h => ?_) (fun cdv A outer s HB vs Q E hr h => ?_)
  · obtain ⟨value_, res, rfl, _⟩ := h
    rfl
  · obtain ⟨value_, res, rfl, hm, k⟩ := h
    have F0 := Fr.refl HB
    unfold m_l_integer at hm
    refine ⟨_, (pss_one (ps_ret (pe_and (pe_callB (kIsi (K := K)) (by rfl) T.b_isinstance (by decide +kernel) (pa_cons (pv 0) (pa_cons (pe_bltn (v := .ty "int") (by rfl) T.b_int (by decide +kernel) rfl) pa_nil))) (pe_one (pe_not (pe_callB (kIsi (K := K)) (by rfl) T.b_isinstance (by decide +kernel) (pa_cons (pv 0) (pa_cons (pe_bltn (v := .ty "bool") (by rfl) T.b_bool (by decide +kernel) rfl) pa_nil)))))))), ?_⟩
    refine sl (σ' := [some (.int value_)]) rfl ?_
    obtain rfl := Option.some.inj hm
    refine g_ret F0 (Evl.ev_andV (ev_isi (b := true) (Evl.ev_var (i := 0) rfl) Evl.ev_c ty_int (kit_ty (by decide +kernel))) (fun _ => (Evl.ev_notV (ev_isi (b := false) (Evl.ev_var (i := 0) rfl) Evl.ev_c ty_int (kit_ty (by decide +kernel)))))) fun H1 F2 => ?_
    exact k _ F2

def sp_law (K : PySem.W.Frag) : Sp := fun vs H Q _ => ∃ (a_script_ : Addr) (script_ : List Int) (res : Bool), vs = [.ref a_script_] ∧ SqL K H a_script_ (List.map V.int script_) ∧ m_law script_ = some res ∧ ∀ H', Fr H [] H' → Q (.bl res) H'
theorem u_law {K : PySem.W.Frag} {H : Hp} {script_ : List Int} {a_script_ : Addr} {res : Bool} (h_script_ : SqL K H a_script_ (List.map V.int script_)) (hm : m_law script_ = some res) : Evl.SpV (sp_law K) [.ref a_script_] H (.bl res) := fun H1 e Q q E => ⟨a_script_, script_, res, rfl, Evl.ex_l e h_script_, hm, fun H' F => q H' F.base⟩
abbrev s_law : Stmt := topS 7
theorem sc_law : FnScope ["_law_script", "_law_first", "_law_bound", "_law_power", "_law_count", "_law_samples", "_law_x", "_law_kept", "_law_k", "_law_expected", "_law_rest", "_law_given", "_law_actual"] ["_law_script"] (defScope s_law) := ⟨rfl, rfl, rfl, by decide +kernel, rfl, by decide +kernel, by decide +kernel⟩
theorem ok_law {P : Program} {w : World} {K : PySem.W.Frag} {mg : Str → Option Value} {base : Heap} {fa : Addr} {fd : FuncData} (F : Fun K "law" "law" s_law fa fd) (T : Txt K mg) {f_l_cell : Addr} {fd_l_cell : FuncData} (G_l_cell : FnOk P w K mg base CX0 1 f_l_cell fd_l_cell ["_law_script", "_law_k"] (sp_l_cell K)) (C_l_cell : Cal K mg "_law_cell" f_l_cell fd_l_cell ["_law_script", "_law_k"]) {f_l_row : Addr} {fd_l_row : FuncData} (G_l_row : FnOk P w K mg base CX0 1 f_l_row fd_l_row ["_law_cell_here", "_law_count", "_law_bound"] (sp_l_row K)) (C_l_row : Cal K mg "_law_row" f_l_row fd_l_row ["_law_cell_here", "_law_count", "_law_bound"]) {f_wasted_bits : Addr} {fd_wasted_bits : FuncData} (G_wasted_bits : FnOk P w K mg base CX0 1 f_wasted_bits fd_wasted_bits ["samples"] (sp_wasted_bits K)) (C_wasted_bits : Cal K mg "wasted_bits" f_wasted_bits fd_wasted_bits ["samples"]) {f_l_integer : Addr} {fd_l_integer : FuncData} (G_l_integer : FnOk P w K mg base CX0 1 f_l_integer fd_l_integer ["_law_value"] (sp_l_integer K)) (C_l_integer : Cal K mg "_law_integer" f_l_integer fd_l_integer ["_law_value"]) : FnOk P w K mg base CX0 2 fa fd ["_law_script"] (sp_law K) := by
  refine F.ok sc_law (fun vs H Q E h => ?_) (fun cdv A outer s HB vs Q E hr h => ?_)
  · obtain ⟨a_script_, script_, res, rfl, _⟩ := h
    rfl
  · obtain ⟨a_script_, script_, res, rfl, b_script_, hm, k⟩ := h
    have F0 := Fr.refl HB
    unfold m_law at hm
    refine ⟨_, (pss_cons (ps_set (i := 1) sc_law.nd rfl (Or.inl rfl) (pe_call G_l_cell (hr.mono (by decide)) rfl C_l_cell.g C_l_cell.k C_l_cell.b .nil pass0 (pa_cons (pv 0) (pa_cons pe_int pa_nil))))
    (pss_cons (ps_set (i := 2) sc_law.nd rfl (Or.inr rfl) (pe_ix (kIx (K := K)) (pe_lst (pa_cons pe_int (pa_cons pe_int (pa_cons pe_int pa_nil)))) (pe_op op_mod (pe_op op_fdiv (pe_callTy cr_int (by rfl) T.b_int (by decide +kernel) (pa_cons (pv 1) pa_nil)) pe_int) pe_int) (fun _ _ => rfl)))
    (pss_cons (ps_set (i := 3) sc_law.nd rfl (Or.inr rfl) (pe_op op_mod (pe_callTy cr_int (by rfl) T.b_int (by decide +kernel) (pa_cons (pe_call G_l_cell (hr.mono (by decide)) rfl C_l_cell.g C_l_cell.k C_l_cell.b .nil pass0 (pa_cons (pv 0) (pa_cons pe_int pa_nil))) pa_nil)) pe_int))
    (pss_cons (ps_set (i := 4) sc_law.nd rfl (Or.inl rfl) (pe_op op_add (pe_op op_add pe_int (pe_op op_mod (pe_callTy cr_int (by rfl) T.b_int (by decide +kernel) (pa_cons (pv 1) pa_nil)) pe_int)) (pe_op op_mul pe_int (pe_callTy cr_int (by rfl) T.b_int (by decide +kernel) (pa_cons (pe_cmpR op_eq (pe_op op_mod (pe_op op_fdiv (pe_callTy cr_int (by rfl) T.b_int (by decide +kernel) (pa_cons (pv 1) pa_nil)) pe_int) pe_int) pe_int (nomark _)) pa_nil)))))
    (pss_cons (ps_set (i := 5) sc_law.nd rfl (Or.inr rfl) (pe_lc (own := [("_law_x", 6)]) (g := gName 6) (tt := tYes) rfl sc_law.nd (kpi_list (K := K) (pe_call G_l_row (hr.mono (by decide)) rfl C_l_row.g C_l_row.k C_l_row.b .nil pass0 (pa_cons (pe_call G_l_cell (hr.mono (by decide)) rfl C_l_cell.g C_l_cell.k C_l_cell.b .nil pass0 (pa_cons (pv 0) (pa_cons pe_int pa_nil))) (pa_cons (pv 4) (pa_cons (pe_op op_add (pe_op op_mul pe_int (pv 2)) pe_int) pa_nil))))) (blkOk_by (N := ["_law_script", "_law_first", "_law_bound", "_law_power", "_law_count", "_law_samples", "_law_x", "_law_kept", "_law_k", "_law_expected", "_law_rest", "_law_given", "_law_actual"]) (sc := defScope s_law) (by decide +kernel)) (fun _ _ _ _ _ => pg_name (i := 6) sc_law.nd rfl (Or.inl rfl)) (fun _ _ _ _ _ => pts_nil) (fun _ _ _ _ _ => (pe_op op_mulA (pe_op op_sub (pv 6) (pv 2)) (pe_op op_shlW pe_int (pv 3))))))
    (Evl.pss_cut (ps_if (pt_cmpR op_eq (pe_op op_mod (pe_op op_fdiv (pe_callTy cr_int (by rfl) T.b_int (by decide +kernel) (pa_cons (pe_call G_l_cell (hr.mono (by decide)) rfl C_l_cell.g C_l_cell.k C_l_cell.b .nil pass0 (pa_cons (pv 0) (pa_cons pe_int pa_nil))) pa_nil)) pe_int) pe_int) pe_int (nomark _)) (pss_cons (ps_set (i := 7) sc_law.nd rfl (Or.inr rfl) (pe_op op_mod (pe_callTy cr_int (by rfl) T.b_int (by decide +kernel) (pa_cons (pe_call G_l_cell (hr.mono (by decide)) rfl C_l_cell.g C_l_cell.k C_l_cell.b .nil pass0 (pa_cons (pv 0) (pa_cons pe_int pa_nil))) pa_nil)) (pe_callB (kLen (K := K)) (by rfl) T.b_len (by decide +kernel) (pa_cons (pv 5) pa_nil))))
    (pss_cons (ps_set (i := 5) sc_law.nd rfl (Or.inr rfl) (pe_lc (own := [("_law_k", 8)]) (g := gName 8) (tt := tYes) rfl sc_law.nd (pi_range1 rfl T.b_range (pa_cons (pe_callB (kLen (K := K)) (by rfl) T.b_len (by decide +kernel) (pa_cons (pv 5) pa_nil)) pa_nil)) (blkOk_by (N := ["_law_script", "_law_first", "_law_bound", "_law_power", "_law_count", "_law_samples", "_law_x", "_law_kept", "_law_k", "_law_expected", "_law_rest", "_law_given", "_law_actual"]) (sc := defScope s_law) (by decide +kernel)) (fun _ _ _ _ _ => pg_name (i := 8) sc_law.nd rfl (Or.inl rfl)) (fun _ _ _ _ _ => pts_nil) (fun _ _ _ _ _ => (pe_op op_mulA (pe_ix (kIx (K := K)) (pv 5) (pv 8) (fun _ _ => rfl)) (pe_callTy cr_int (by rfl) T.b_int (by decide +kernel) (pa_cons (pe_cmpR op_eq (pv 8) (pv 7) (nomark _)) pa_nil))))))
    pss_nil)) pss_nil)
    (Evl.pss_cut (ps_if (pt_val (pe_callB (kAll (K := K) rfl) (by rfl) T.b_all (by decide +kernel) (pa_cons (pe_lc (own := [("_law_x", 6)]) (g := gName 6) (tt := tYes) rfl sc_law.nd (kpi_list (K := K) (pv 5)) (blkOk_by (N := ["_law_script", "_law_first", "_law_bound", "_law_power", "_law_count", "_law_samples", "_law_x", "_law_kept", "_law_k", "_law_expected", "_law_rest", "_law_given", "_law_actual"]) (sc := defScope s_law) (by decide +kernel)) (fun _ _ _ _ _ => pg_name (i := 6) sc_law.nd rfl (Or.inl rfl)) (fun _ _ _ _ _ => pts_nil) (fun _ _ _ _ _ => (pe_cmpR op_eq (pv 6) pe_int (nomark _)))) pa_nil))) (pss_cons (ps_asg (pe_op op_shlW pe_int (pv 3)) (pg_sub (pv 5) pe_int set_list))
    pss_nil) pss_nil)
    (pss_cons (ps_set (i := 9) sc_law.nd rfl (Or.inl rfl) pe_int)
    (pss_cons (ps_for PassesOwn.never rfl (kpi_list (K := K) (pv 5)) (pg_name (i := 6) sc_law.nd rfl (Or.inl rfl))
      (pss_cons (ps_set (i := 4) sc_law.nd rfl (Or.inl rfl) pe_int)
    (pss_cons (ps_set (i := 10) sc_law.nd rfl (Or.inl rfl) (pe_callB cr_abs (by rfl) T.b_abs (by decide +kernel) (pa_cons (pv 6) pa_nil)))
    (pss_cons (ps_for PassesOwn.never rfl (pi_range1 rfl T.b_range (pa_cons pe_int pa_nil)) (pg_name (i := 8) sc_law.nd rfl (Or.inl rfl))
      (pss_one (ps_if (PW.pt (pw_and (pt_cmpR op_ne (pv 10) pe_int (nomark _)) (pw_and1 (pt_cmpR op_eq (pv 10) (pe_op op_mul (pe_op op_fdiv (pv 10) pe_int) pe_int) (nomark _))))) (pss_cons (ps_set (i := 10) sc_law.nd rfl (Or.inl rfl) (pe_op op_fdiv (pv 10) pe_int))
    (pss_cons (ps_set (i := 4) sc_law.nd rfl (Or.inl rfl) (pe_op op_add (pv 4) pe_int))
    pss_nil)) pss_nil)))
    (pss_one (ps_if (pt_cmpR op_ne (pv 6) pe_int (nomark _)) (pss_cons (ps_set (i := 9) sc_law.nd rfl (Or.inl rfl) (pe_callB (cr_min2 rfl) (by rfl) T.b_min (by decide +kernel) (pa_cons (pv 9) (pa_cons (pv 4) pa_nil))))
    pss_nil) pss_nil))))))
    (pss_cons (ps_set (i := 11) sc_law.nd rfl (Or.inl rfl) (pe_callTy (kLst (K := K)) (by rfl) T.b_list (by decide +kernel) (pa_cons (pv 5) pa_nil)))
    (pss_cons (ps_set (i := 12) sc_law.nd rfl (Or.inl rfl) (pe_call G_wasted_bits (hr.mono (by decide)) rfl C_wasted_bits.g C_wasted_bits.k C_wasted_bits.b .nil pass0 (pa_cons (pv 11) pa_nil)))
    (pss_one (ps_ret (pe_and (pe_call G_l_integer (hr.mono (by decide)) rfl C_l_integer.g C_l_integer.k C_l_integer.b .nil pass0 (pa_cons (pv 12) pa_nil)) (pe_and (pe_cmpR op_eq (pv 12) (pv 9) (nomark _)) (pe_one (pe_cmpR (kEq (K := K) hr.units) (pv 11) (pv 5) (nomark _)))))))))))))))))), ?_⟩
    refine sl (σ' := [some (.ref a_script_), none, none, none, none, none, none, none, none, none, none, none, none]) rfl ?_
    obtain ⟨c1, hc1, hm⟩ := of_bind hm
    refine g_asg (i := 1) (v := .int c1) (σ' := [some (.ref a_script_), some (.int c1), none, none, none, none, none, none, none, none, none, none, none]) F0 (Evl.ev_call (Evl.ea_cons (Evl.ev_var (i := 0) rfl) (Evl.ea_cons Evl.ev_c Evl.ea_nil)) (u_l_cell (Evl.ex_l F0.base b_script_) hc1)) rfl fun H2 F3 => ?_
    obtain ⟨x4, hx4, hm⟩ := of_bind hm
    refine g_asg (i := 2) (v := .int x4) (σ' := [some (.ref a_script_), some (.int c1), some (.int x4), none, none, none, none, none, none, none, none, none, none]) F3 (ev_ixN (f := V.int) hx4 (el_lst (Evl.ea_cons Evl.ev_c (Evl.ea_cons Evl.ev_c (Evl.ea_cons Evl.ev_c Evl.ea_nil)))) (Evl.ev_op (Evl.ev_op (ev_int (Evl.ev_var (i := 1) rfl)) Evl.ev_c (rv_divK _)) Evl.ev_c (rv_modK _))) rfl fun H5 F6 => ?_
    obtain ⟨c7, hc7, hm⟩ := of_bind hm
    obtain ⟨power_8, hpower_8, hm⟩ := of_bnd hm
    refine g_asg (i := 3) (v := .int power_8) (σ' := [some (.ref a_script_), some (.int c1), some (.int x4), some (.int power_8), none, none, none, none, none, none, none, none, none]) F6 (ev_cg (f := V.int) (Evl.ev_op (ev_int (Evl.ev_call (Evl.ea_cons (Evl.ev_var (i := 0) rfl) (Evl.ea_cons Evl.ev_c Evl.ea_nil)) (u_l_cell (Evl.ex_l F6.base b_script_) hc7))) Evl.ev_c (rv_modK _)) hpower_8) rfl fun H9 F10 => ?_
    obtain ⟨count_11, hcount_11, hm⟩ := of_bnd hm
    refine g_asg (i := 4) (v := .int count_11) (σ' := [some (.ref a_script_), some (.int c1), some (.int x4), some (.int power_8), some (.int count_11), none, none, none, none, none, none, none, none]) F10 (ev_cg (f := V.int) (Evl.ev_op (Evl.ev_op Evl.ev_c (Evl.ev_op (ev_int (Evl.ev_var (i := 1) rfl)) Evl.ev_c (rv_modK _)) rv_I0) (Evl.ev_op Evl.ev_c (ev_intB (Evl.ev_op (Evl.ev_op (Evl.ev_op (ev_int (Evl.ev_var (i := 1) rfl)) Evl.ev_c (rv_divK _)) Evl.ev_c (rv_modK _)) Evl.ev_c rv_eqI)) (rv_mulL _)) rv_I0) hcount_11) rfl fun H12 F13 => ?_
    obtain ⟨c17, hc17, hm⟩ := of_bind hm
    obtain ⟨c18, hc18, hm⟩ := of_bind hm
    obtain ⟨z19, hz19, hm⟩ := of_bind hm
    obtain ⟨l16, hl16, hm⟩ := of_bind hm
    refine g_asgL (i := 5) (zs := List.map V.int l16) F13 (el_mapLN (f := V.int) (g := V.int) hl16 (Evl.el_call (Evl.ea_cons (Evl.ev_call (Evl.ea_cons (Evl.ev_var (i := 0) rfl) (Evl.ea_cons Evl.ev_c Evl.ea_nil)) (u_l_cell (Evl.ex_l F13.base b_script_) hc17)) (Evl.ea_cons (Evl.ev_var (i := 4) rfl) (Evl.ea_cons (Evl.ev_op (Evl.ev_op Evl.ev_c (Evl.ev_var (i := 2) rfl) (rv_mulL _)) Evl.ev_c rv_I0) Evl.ea_nil))) (u_l_row hc18)) (of_grd hz19).1 (fun _ => rfl) (fun x_15 y H1 e14 hy => by obtain ⟨n20, hn20, hy⟩ := of_bind hy; obtain ⟨n21, hn21, hy⟩ := of_bind hy; obtain rfl := Option.some.inj hy; exact (Evl.ev_op (Evl.ev_op (Evl.ev_var (i := 6) rfl) (Evl.ev_var (i := 2) rfl) rv_I0) (Evl.ev_op Evl.ev_c (Evl.ev_var (i := 3) rfl) (rv_shl hn20)) (rv_mul hn21)))) fun p22 H23 F24 => ?_
    refine sl (σ' := [some (.ref a_script_), some (.int c1), some (.int x4), some (.int power_8), some (.int count_11), some (.ref p22), none, none, none, none, none, none, none]) rfl ?_
    obtain ⟨c25, hc25, hm⟩ := of_bind hm
    obtain ⟨s26, hj27, hm⟩ := of_bind hm
    refine Evl.q_cut (M := fun σ H => ∃ (p48 : Addr) (u_kept_ : Option V) , σ = [some (.ref a_script_), some (.int c1), some (.int x4), some (.int power_8), some (.int count_11), some (.ref p48), none, u_kept_, none, none, none, none, none] ∧ Fr HB [(p48, .lst (List.map V.int s26))] H) ?_ ?_
    · clear hm; have hm := hj27
      refine s_when F24 (Evl.et_test (Evl.ev_op (Evl.ev_op (Evl.ev_op (ev_int (Evl.ev_call (Evl.ea_cons (Evl.ev_var (i := 0) rfl) (Evl.ea_cons Evl.ev_c Evl.ea_nil)) (u_l_cell (Evl.ex_l F24.base b_script_) hc25))) Evl.ev_c (rv_divK _)) Evl.ev_c (rv_modK _)) Evl.ev_c rv_eqI)) (fun hb29 H F => ?_) (fun hb29 H F => ?_)
      · have F31 := F
        replace hm := of_ifT hb29 hm
        obtain ⟨c32, hc32, hm⟩ := of_bind hm
        obtain ⟨n33, hn33, hm⟩ := of_bind hm
        refine g_asg (i := 7) (v := .int n33) (σ' := [some (.ref a_script_), some (.int c1), some (.int x4), some (.int power_8), some (.int count_11), some (.ref p22), none, some (.int n33), none, none, none, none, none]) F31 (Evl.ev_op (ev_int (Evl.ev_call (Evl.ea_cons (Evl.ev_var (i := 0) rfl) (Evl.ea_cons Evl.ev_c Evl.ea_nil)) (u_l_cell (Evl.ex_l F31.base b_script_) hc32))) (ev_len (f := V.int) (Evl.sq_of (F31.get 0 rfl)) (Evl.ev_var (i := 5) rfl)) (rv_mod hn33)) rfl fun H34 F35 => ?_
        obtain ⟨r39, hr39, hm⟩ := of_bind hm
        obtain ⟨z40, hz40, hm⟩ := of_bind hm
        obtain ⟨l38, hl38, hm⟩ := of_bind hm
        refine g_asgL (i := 5) (zs := List.map V.int l38) F35 (el_mapR1 (g := V.int) hr39 hl38 (Evl.ea_cons (ev_len (f := V.int) (Evl.sq_of (F35.get 0 rfl)) (Evl.ev_var (i := 5) rfl)) Evl.ea_nil) (of_grd hz40).1 (fun _ => rfl) (fun k_37 y H1 e36 hy => by obtain ⟨x41, hx41, hy⟩ := of_bind hy; obtain ⟨n42, hn42, hy⟩ := of_bind hy; obtain rfl := Option.some.inj hy; exact (Evl.ev_op (Evl.ev_op (Evl.ev_var (i := 5) rfl) (Evl.ev_var (i := 8) rfl) (rv_ix (f := V.int) hx41 (Evl.sq_of (e36 _ _ (F35.get 0 rfl))))) (ev_intB (Evl.ev_op (Evl.ev_var (i := 8) rfl) (Evl.ev_var (i := 7) rfl) rv_eqI)) (rv_mul hn42)))) fun p43 H44 F45 => ?_
        refine sl (σ' := [some (.ref a_script_), some (.int c1), some (.int x4), some (.int power_8), some (.int count_11), some (.ref p43), none, some (.int n33), none, none, none, none, none]) rfl ?_
        obtain rfl := Option.some.inj hm
        exact ⟨p43, _, rfl, (F45.pick [1] (by decide) rfl)⟩
      · have F47 := F
        replace hm := of_ifF hb29 hm
        obtain rfl := Option.some.inj hm
        exact ⟨p22, _, rfl, F47⟩
    · rintro _ H49 ⟨p48, u_kept_, rfl, F50⟩
      obtain ⟨z54, hz54, hm⟩ := of_bind hm
      obtain ⟨l53, hl53, hm⟩ := of_bind hm
      obtain ⟨s55, hj56, hm⟩ := of_bind hm
      refine Evl.q_cut (M := fun σ H => σ = [some (.ref a_script_), some (.int c1), some (.int x4), some (.int power_8), some (.int count_11), some (.ref p48), none, u_kept_, none, none, none, none, none] ∧ Fr HB [(p48, .lst (List.map V.int s55))] H) ?_ ?_
      · clear hm; have hm := hj56
        refine s_when F50 (Evl.et_B (ev_allN (el_mapL (f := V.int) (g := V.bl) hl53 (Evl.sq_of (F50.get 0 rfl)) (Evl.ev_var (i := 5) rfl) (of_grd hz54).1 (fun _ => rfl) (fun x_52 y H1 e51 hy => by obtain rfl := Option.some.inj hy; exact (Evl.ev_op (Evl.ev_var (i := 6) rfl) Evl.ev_c rv_eqI))))) (fun hb58 H F => ?_) (fun hb58 H F => ?_)
        · have F60 := F
          replace hm := of_ifT hb58 hm
          obtain ⟨n61, hn61, hm⟩ := of_bind hm
          obtain ⟨l62, hl62, hm⟩ := of_bind hm
          refine g_set (f := V.int) F60 hl62 (i := 0) rfl (Evl.ev_op Evl.ev_c (Evl.ev_var (i := 3) rfl) (rv_shl hn61)) (Evl.ev_var (i := 5) rfl) Evl.ev_c rfl fun H63 F64 => ?_
          obtain rfl := Option.some.inj hm
          exact ⟨rfl, F64⟩
        · have F66 := F
          replace hm := of_ifF hb58 hm
          obtain rfl := Option.some.inj hm
          exact ⟨rfl, F66⟩
      · rintro _ H67 ⟨rfl, F68⟩
        refine g_asg (i := 9) (v := .int 70) (σ' := [some (.ref a_script_), some (.int c1), some (.int x4), some (.int power_8), some (.int count_11), some (.ref p48), none, u_kept_, none, some (.int 70), none, none, none]) F68 Evl.ev_c rfl fun H69 F70 => ?_
        obtain ⟨r73, hl125, hm⟩ := of_bind hm
        refine w_forM (f := V.int) hl125 (fun s72 σ H => ∃ (u_count_ : Option V) (u_x_ : Option V) (u_k_ : Option V) (u_rest_ : Option V) , σ = [some (.ref a_script_), some (.int c1), some (.int x4), some (.int power_8), u_count_, some (.ref p48), u_x_, u_kept_, u_k_, some (.int s72), u_rest_, none, none] ∧ Fr HB [(p48, .lst (List.map V.int s55))] H) (Evl.ev_var (i := 5) rfl) (Evl.sq_of (F70.get 0 rfl)) (fun H e => ?_) ?_ ?_ ?_
        · have F := F70.ex e
          exact ⟨_, _, _, _, rfl, F⟩
        · rintro s72 _ H ⟨_, _, _, _, rfl, F⟩
          exact (Evl.sq_of (F.get 0 rfl))
        · rintro _ H126 ⟨u_count_, u_x_, u_k_, u_rest_, rfl, F127⟩
          refine g_asgL (i := 11) (zs := List.map V.int s55) F127 (el_list (f := V.int) (Evl.sq_of (F127.get 0 rfl)) (Evl.ev_var (i := 5) rfl)) fun p128 H129 F130 => ?_
          refine sl (σ' := [some (.ref a_script_), some (.int c1), some (.int x4), some (.int power_8), u_count_, some (.ref p48), u_x_, u_kept_, u_k_, some (.int r73), u_rest_, some (.ref p128), none]) rfl ?_
          obtain ⟨c131, hc131, hm⟩ := of_bind hm
          refine g_asg (i := 12) (v := .int c131) (σ' := [some (.ref a_script_), some (.int c1), some (.int x4), some (.int power_8), u_count_, some (.ref p48), u_x_, u_kept_, u_k_, some (.int r73), u_rest_, some (.ref p128), some (.int c131)]) F130 (Evl.ev_call (Evl.ea_cons (Evl.ev_var (i := 11) rfl) Evl.ea_nil) (u_wasted_bits (F130.get 1 rfl) hc131)) rfl fun H132 F133 => ?_
          obtain ⟨c134, hc134, hm⟩ := of_bind hm
          obtain rfl := Option.some.inj hm
          refine g_ret F133 (Evl.ev_andV (Evl.ev_call (Evl.ea_cons (Evl.ev_var (i := 12) rfl) Evl.ea_nil) (u_l_integer hc134)) (fun _ => (Evl.ev_andV (Evl.ev_op (Evl.ev_var (i := 12) rfl) (Evl.ev_var (i := 9) rfl) rv_eqI) (fun _ => (Evl.ev_op (Evl.ev_var (i := 11) rfl) (Evl.ev_var (i := 5) rfl) (rv_eqL (Evl.sq_of (F133.get 1 rfl)) (Evl.sq_of (F133.get 0 rfl)))))))) fun H135 F136 => ?_
          exact k _ (F136.pick [] (by decide) rfl)
        · rintro x_71 s72 r80 _ H81 N hb ⟨u_count_, u_x_, u_k_, u_rest_, rfl, F82⟩ hN76
          have ho83 := hm; clear hm; have hm := hb; clear hb
          refine sl (σ' := [some (.ref a_script_), some (.int c1), some (.int x4), some (.int power_8), u_count_, some (.ref p48), some (.int x_71), u_kept_, u_k_, some (.int s72), u_rest_, none, none]) rfl ?_
          refine g_asg (i := 4) (v := .int 0) (σ' := [some (.ref a_script_), some (.int c1), some (.int x4), some (.int power_8), some (.int 0), some (.ref p48), some (.int x_71), u_kept_, u_k_, some (.int s72), u_rest_, none, none]) F82 Evl.ev_c rfl fun H84 F85 => ?_
          obtain ⟨rest_86, hrest_86, hm⟩ := of_bnd hm
          refine g_asg (i := 10) (v := .int rest_86) (σ' := [some (.ref a_script_), some (.int c1), some (.int x4), some (.int power_8), some (.int 0), some (.ref p48), some (.int x_71), u_kept_, u_k_, some (.int s72), some (.int rest_86), none, none]) F85 (ev_cg (f := V.int) (ev_abs (Evl.ev_var (i := 6) rfl)) hrest_86) rfl fun H87 F88 => ?_
          obtain ⟨r89, hr89, hm⟩ := of_bind hm
          obtain ⟨r92, hl114, hm⟩ := of_bind hm
          refine w_rngM1 hr89 hl114 (fun s91 σ H => ∃ (u_k_ : Option V) , σ = [some (.ref a_script_), some (.int c1), some (.int x4), some (.int power_8), some (.int s91.1), some (.ref p48), some (.int x_71), u_kept_, u_k_, some (.int s72), some (.int s91.2), none, none] ∧ Fr HB [(p48, .lst (List.map V.int s55))] H) (Evl.ea_cons Evl.ev_c Evl.ea_nil) (fun H e => ?_) ?_ ?_
          · have F := F88.ex e
            exact ⟨_, rfl, F⟩
          · rintro _ H115 ⟨u_k_, rfl, F116⟩
            refine s_when F116 (Evl.et_test (Evl.ev_op (Evl.ev_var (i := 6) rfl) Evl.ev_c rv_neI)) (fun hb117 H F => ?_) (fun hb117 H F => ?_)
            · have F119 := F
              replace hm := of_ifT hb117 hm
              obtain ⟨expected_120, hexpected_120, hm⟩ := of_bnd hm
              refine g_asg (i := 9) (v := .int expected_120) (σ' := [some (.ref a_script_), some (.int c1), some (.int x4), some (.int power_8), some (.int r92.1), some (.ref p48), some (.int x_71), u_kept_, u_k_, some (.int expected_120), some (.int r92.2), none, none]) F119 (ev_cg (f := V.int) (ev_min2 (Evl.ev_var (i := 9) rfl) (Evl.ev_var (i := 4) rfl)) hexpected_120) rfl fun H121 F122 => ?_
              obtain rfl := Option.some.inj hm
              exact hN76 _ _ ⟨_, _, _, _, rfl, F122⟩
            · have F124 := F
              replace hm := of_ifF hb117 hm
              obtain rfl := Option.some.inj hm
              exact hN76 _ _ ⟨_, _, _, _, rfl, F124⟩
          · rintro k_90 s91 r99 _ H100 N hb ⟨u_k_, rfl, F101⟩ hN95
            have ho102 := hm; clear hm; have hm := hb; clear hb
            refine sl (σ' := [some (.ref a_script_), some (.int c1), some (.int x4), some (.int power_8), some (.int s91.1), some (.ref p48), some (.int x_71), u_kept_, some (.int k_90), some (.int s72), some (.int s91.2), none, none]) rfl ?_
            refine s_when F101 (Evl.et_and (Evl.et_test (Evl.ev_op (Evl.ev_var (i := 10) rfl) Evl.ev_c rv_neI)) (fun _ => (Evl.et_test (Evl.ev_op (Evl.ev_var (i := 10) rfl) (Evl.ev_op (Evl.ev_op (Evl.ev_var (i := 10) rfl) Evl.ev_c (rv_divK _)) Evl.ev_c (rv_mulR _)) rv_eqI)))) (fun hb103 H F => ?_) (fun hb103 H F => ?_)
            · have F105 := F
              replace hm := of_ifT hb103 hm
              obtain ⟨rest_106, hrest_106, hm⟩ := of_bnd hm
              refine g_asg (i := 10) (v := .int rest_106) (σ' := [some (.ref a_script_), some (.int c1), some (.int x4), some (.int power_8), some (.int s91.1), some (.ref p48), some (.int x_71), u_kept_, some (.int k_90), some (.int s72), some (.int rest_106), none, none]) F105 (ev_cg (f := V.int) (Evl.ev_op (Evl.ev_var (i := 10) rfl) Evl.ev_c (rv_divK _)) hrest_106) rfl fun H107 F108 => ?_
              obtain ⟨count_109, hcount_109, hm⟩ := of_bnd hm
              refine g_asg (i := 4) (v := .int count_109) (σ' := [some (.ref a_script_), some (.int c1), some (.int x4), some (.int power_8), some (.int count_109), some (.ref p48), some (.int x_71), u_kept_, some (.int k_90), some (.int s72), some (.int rest_106), none, none]) F108 (ev_cg (f := V.int) (Evl.ev_op (Evl.ev_var (i := 4) rfl) Evl.ev_c rv_I0) hcount_109) rfl fun H110 F111 => ?_
              obtain rfl := Option.some.inj hm
              exact hN95 _ _ ⟨_, rfl, F111⟩
            · have F113 := F
              replace hm := of_ifF hb103 hm
              obtain rfl := Option.some.inj hm
              exact hN95 _ _ ⟨_, rfl, F113⟩

theorem all_mk {l : PySem.W.OpenLaw} {w : World} {K : PySem.W.Frag} {h : Heap} {mg : Str → Option Value} {fa : Addr} {f_l_cell : Addr} {f_l_row : Addr} {f_wasted_bits : Addr} {f_l_integer : Addr} {f_law : Addr} (X : K.In h) (G : h.Ns mainGlobals mg) (hfa : mg "law" = some (.ref fa))
    {od_l_cell an_l_cell : Option Addr} {sl_l_cell : Array (Option Value)} {oc_l_cell kV_l_cell dc_l_cell pm_l_cell cd_l_cell ct_l_cell : Value}
    {od_l_row an_l_row : Option Addr} {sl_l_row : Array (Option Value)} {oc_l_row kV_l_row dc_l_row pm_l_row cd_l_row ct_l_row : Value}
    {od_wasted_bits an_wasted_bits : Option Addr} {sl_wasted_bits : Array (Option Value)} {oc_wasted_bits kV_wasted_bits dc_wasted_bits pm_wasted_bits cd_wasted_bits ct_wasted_bits : Value}
    {od_l_integer an_l_integer : Option Addr} {sl_l_integer : Array (Option Value)} {oc_l_integer kV_l_integer dc_l_integer pm_l_integer cd_l_integer ct_l_integer : Value}
    {od_law an_law : Option Addr} {sl_law : Array (Option Value)} {oc_law kV_law dc_law pm_law cd_law ct_law : Value}
    (a_l_cell : PySem.W.nsIn K mainGlobals "_law_cell" = some (some (.ref f_l_cell))) (l_l_cell : K.lookup f_l_cell = some ⟨oc_l_cell, od_l_cell, .func (PySem.W.fnOf "_law_cell" "_law_cell" (defArgs s_l_cell) (defBody s_l_cell) (defScope s_l_cell) .none kV_l_cell dc_l_cell pm_l_cell an_l_cell cd_l_cell ct_l_cell), sl_l_cell⟩) (c_l_cell : PySem.W.codeIn K cd_l_cell "_law_cell" = true) (k_l_cell : PySem.W.keepIn K (.ref f_l_cell) = true)
    (a_l_row : PySem.W.nsIn K mainGlobals "_law_row" = some (some (.ref f_l_row))) (l_l_row : K.lookup f_l_row = some ⟨oc_l_row, od_l_row, .func (PySem.W.fnOf "_law_row" "_law_row" (defArgs s_l_row) (defBody s_l_row) (defScope s_l_row) .none kV_l_row dc_l_row pm_l_row an_l_row cd_l_row ct_l_row), sl_l_row⟩) (c_l_row : PySem.W.codeIn K cd_l_row "_law_row" = true) (k_l_row : PySem.W.keepIn K (.ref f_l_row) = true)
    (a_wasted_bits : PySem.W.nsIn K mainGlobals "wasted_bits" = some (some (.ref f_wasted_bits))) (l_wasted_bits : K.lookup f_wasted_bits = some ⟨oc_wasted_bits, od_wasted_bits, .func (PySem.W.fnOf "wasted_bits" "wasted_bits" (defArgs s_wasted_bits) (defBody s_wasted_bits) (defScope s_wasted_bits) .none kV_wasted_bits dc_wasted_bits pm_wasted_bits an_wasted_bits cd_wasted_bits ct_wasted_bits), sl_wasted_bits⟩) (c_wasted_bits : PySem.W.codeIn K cd_wasted_bits "wasted_bits" = true) (k_wasted_bits : PySem.W.keepIn K (.ref f_wasted_bits) = true)
    (a_l_integer : PySem.W.nsIn K mainGlobals "_law_integer" = some (some (.ref f_l_integer))) (l_l_integer : K.lookup f_l_integer = some ⟨oc_l_integer, od_l_integer, .func (PySem.W.fnOf "_law_integer" "_law_integer" (defArgs s_l_integer) (defBody s_l_integer) (defScope s_l_integer) .none kV_l_integer dc_l_integer pm_l_integer an_l_integer cd_l_integer ct_l_integer), sl_l_integer⟩) (c_l_integer : PySem.W.codeIn K cd_l_integer "_law_integer" = true) (k_l_integer : PySem.W.keepIn K (.ref f_l_integer) = true)
    (a_law : PySem.W.nsIn K mainGlobals "law" = some (some (.ref f_law))) (l_law : K.lookup f_law = some ⟨oc_law, od_law, .func (PySem.W.fnOf "law" "law" (defArgs s_law) (defBody s_law) (defScope s_law) .none kV_law dc_law pm_law an_law cd_law ct_law), sl_law⟩) (c_law : PySem.W.codeIn K cd_law "law" = true) (k_law : PySem.W.keepIn K (.ref f_law) = true)
    (z_abs : PySem.W.nsIn K mainGlobals "abs" = some none)
    (z_all : PySem.W.nsIn K mainGlobals "all" = some none)
    (z_bool : PySem.W.nsIn K mainGlobals "bool" = some none)
    (z_int : PySem.W.nsIn K mainGlobals "int" = some none)
    (z_isinstance : PySem.W.nsIn K mainGlobals "isinstance" = some none)
    (z_len : PySem.W.nsIn K mainGlobals "len" = some none)
    (z_list : PySem.W.nsIn K mainGlobals "list" = some none)
    (z_min : PySem.W.nsIn K mainGlobals "min" = some none)
    (z_range : PySem.W.nsIn K mainGlobals "range" = some none) :
    ∃ fd : FuncData, (∀ (s : Shared) (v : Value), BindsTo s fd ⟨[v], []⟩ [("_law_script", v)]) ∧ ∀ base : Heap, K.In base → base.Ns mainGlobals mg → FnOk l.prog w K mg base CX0 2 fa fd ["_law_script"] (sp_law K) := by
  have e := hfa.symm.trans (PySem.W.mg_of X G a_law)
  cases e
  have T : Txt K mg := ⟨PySem.W.mg_none_of X G z_abs, PySem.W.mg_none_of X G z_all, PySem.W.mg_none_of X G z_bool, PySem.W.mg_none_of X G z_int, PySem.W.mg_none_of X G z_isinstance, PySem.W.mg_none_of X G z_len, PySem.W.mg_none_of X G z_list, PySem.W.mg_none_of X G z_min, PySem.W.mg_none_of X G z_range⟩
  have F_l_cell := fun_mk (st := s_l_cell) l_l_cell c_l_cell k_l_cell
  have b_l_cell := F_l_cell.binds (ps := ["_law_script", "_law_k"]) fun _ _ _ _ _ _ us hl => match us, hl with | [_, _], _ => rfl
  have C_l_cell : Cal K mg "_law_cell" f_l_cell _ _ := ⟨PySem.W.mg_of X G a_l_cell, k_l_cell, b_l_cell⟩
  have F_l_row := fun_mk (st := s_l_row) l_l_row c_l_row k_l_row
  have b_l_row := F_l_row.binds (ps := ["_law_cell_here", "_law_count", "_law_bound"]) fun _ _ _ _ _ _ us hl => match us, hl with | [_, _, _], _ => rfl
  have C_l_row : Cal K mg "_law_row" f_l_row _ _ := ⟨PySem.W.mg_of X G a_l_row, k_l_row, b_l_row⟩
  have F_wasted_bits := fun_mk (st := s_wasted_bits) l_wasted_bits c_wasted_bits k_wasted_bits
  have b_wasted_bits := F_wasted_bits.binds (ps := ["samples"]) fun _ _ _ _ _ _ us hl => match us, hl with | [_], _ => rfl
  have C_wasted_bits : Cal K mg "wasted_bits" f_wasted_bits _ _ := ⟨PySem.W.mg_of X G a_wasted_bits, k_wasted_bits, b_wasted_bits⟩
  have F_l_integer := fun_mk (st := s_l_integer) l_l_integer c_l_integer k_l_integer
  have b_l_integer := F_l_integer.binds (ps := ["_law_value"]) fun _ _ _ _ _ _ us hl => match us, hl with | [_], _ => rfl
  have C_l_integer : Cal K mg "_law_integer" f_l_integer _ _ := ⟨PySem.W.mg_of X G a_l_integer, k_l_integer, b_l_integer⟩
  have F_law := fun_mk (st := s_law) l_law c_law k_law
  refine ⟨PySem.W.fnOf "law" "law" (defArgs s_law) (defBody s_law) (defScope s_law) .none kV_law dc_law pm_law an_law cd_law ct_law, fun s v => .of_eq rfl, fun base _ _ => ?_⟩
  have G_l_cell := ok_l_cell (P := l.prog) (w := w) (base := base) F_l_cell T
  have G_l_row := ok_l_row (P := l.prog) (w := w) (base := base) F_l_row T
  have G_wasted_bits := ok_wasted_bits (P := l.prog) (w := w) (base := base) F_wasted_bits T
  have G_l_integer := ok_l_integer (P := l.prog) (w := w) (base := base) F_l_integer T
  exact ok_law F_law T G_l_cell C_l_cell G_l_row C_l_row G_wasted_bits C_wasted_bits G_l_integer C_l_integer
theorem walk {l : PySem.W.OpenLaw} {q : Program} {loose : List Str} {XP : (Str → Option Value) → Heap → Prop} {YP : World → Heap → Prop} {d : DefRec} {K : Params → PySem.W.Frag} (hn : l.most = some 63) (hdf : d.params.defaults = [])
    (true_ : ∀ ns : List Int, ns.length ≤ 63 → (∀ z ∈ ns, Builtin.Int.intBits z ≤ 1048576) → m_law ns = some true)
    (hY : ∀ (w : World) (h : Heap), YP w h → (K w.params).In h)
    (F : ∀ (w : World) (mg : Str → Option Value) (fa : Addr) (h : Heap), (K w.params).In h → h.Ns mainGlobals mg → mg d.name = some (.ref fa) →
      ∃ fd : FuncData, (∀ (s : Shared) (u : Value), BindsTo s fd ⟨[u], []⟩ [("_law_script", u)]) ∧ ∀ base : Heap, (K w.params).In base → base.Ns mainGlobals mg → FnOk l.prog w (K w.params) mg base CX0 2 fa fd ["_law_script"] (sp_law (K w.params))) :
    PySem.W.WalkO q loose XP YP l.row.toRowW d [] (fun f vs => PySem.call f vs) :=
  L2.walk_ofB (n := 63) (k := 2) (x := "_law_script") (CX := fun _ => CX0) (sp := fun w => sp_law (K w.params)) hn (by decide) hdf ⟨rfl, by decide, by decide⟩ hY F (fun _ _ a ns hl hb _ hS => ⟨a, ns, true, rfl, hS, true_ ns hl hb, fun _ _ => rfl⟩) fun _ _ _ _ _ z => z
end K67
open PySem PySem.W PyProof.Rows
set_option maxRecDepth 100000 in
set_option maxHeartbeats 0 in
theorem PySem.Challenge.cw_monochord_k67_wasted_bits_holds : PySem.Challenge.rw_monochord_k67_wasted_bits.Holds := by
  w_on; o_law; k_head; (case hw => w_witness2)
  k_fill
  refine K67.walk (l := PySem.Challenge.rw_monochord_k67_wasted_bits) rfl rfl K67.law_true (fun w h Y => PySem.W.kIn_of Y) ?F
  case F =>
    intro w mg fa h KX G hmg
    refine' K67.all_mk KX G hmg ?a_l_cell ?l_l_cell ?c_l_cell ?k_l_cell ?a_l_row ?l_l_row ?c_l_row ?k_l_row ?a_wasted_bits ?l_wasted_bits ?c_wasted_bits ?k_wasted_bits ?a_l_integer ?l_l_integer ?c_l_integer ?k_l_integer ?a_law ?l_law ?c_law ?k_law ?z_abs ?z_all ?z_bool ?z_int ?z_isinstance ?z_len ?z_list ?z_min ?z_range
    (case a_l_cell => k_is)
    (case l_l_cell => k_is)
    (case c_l_cell => k_is)
    (case k_l_cell => k_is)
    (case a_l_row => k_is)
    (case l_l_row => k_is)
    (case c_l_row => k_is)
    (case k_l_row => k_is)
    (case a_wasted_bits => k_is)
    (case l_wasted_bits => k_is)
    (case c_wasted_bits => k_is)
    (case k_wasted_bits => k_is)
    (case a_l_integer => k_is)
    (case l_l_integer => k_is)
    (case c_l_integer => k_is)
    (case k_l_integer => k_is)
    (case a_law => k_is)
    (case l_law => k_is)
    (case c_law => k_is)
    (case k_law => k_is)
    (case z_abs => k_is)
    (case z_all => k_is)
    (case z_bool => k_is)
    (case z_int => k_is)
    (case z_isinstance => k_is)
    (case z_len => k_is)
    (case z_list => k_is)
    (case z_min => k_is)
    (case z_range => k_is)
