import PyProof.Rows.All
import Wide.All
import OpenK.AllK
import Wide.FinOn
import HandS.ForMost
import HandS.Evl
import HandS.IsInst
import HandS.Wide
import HandS.WideBits
import HandS.Flow
import HandS.EndBits
import PySem.Challenge.RW_monochord_k63_rice_bits_and_raw_width
set_option Elab.async false
set_option linter.all false
set_option maxRecDepth 100000
set_option maxHeartbeats 4000000
/-! Mn: mirrors in the option monad, and how a reading of a def meets its mirror -/
namespace Mn
open PySem L2
open Evl (Ex Ev EvL EvU EvT EvA EvO RV RU RC)
/-! ### mirrors -/
theorem of_bind {A B : Type} {m : Option A} {f : A → Option B} {r : B} (h : m.bind f = some r) : ∃ x, m = some x ∧ f x = some r := by
  cases m with
  | none => cases h
  | some x => exact ⟨x, rfl, h⟩
def bnd {A B : Type} (e : A) (f : A → B) : B := f e
theorem of_bnd {A B : Type} {e : A} {f : A → B} {r : B} (h : bnd e f = r) : ∃ x, e = x ∧ f x = r := ⟨e, rfl, h⟩
@[simp] theorem bnd_eq {A B : Type} (e : A) (f : A → B) : bnd e f = f e := rfl
@[simp] theorem some_bind' {A B : Type} (e : A) (f : A → Option B) : (some e).bind f = f e := rfl
inductive Fl (S R : Type) where
  | nx (s : S) | bk (s : S) | rt (r : R)
def itM {A S : Type} (f : A → S → Option S) : List A → S → Option S
  | [], s => some s
  | x :: l, s => (f x s).bind fun s' => itM f l s'
def itF {A S R : Type} (f : A → S → Option (Fl S R)) : List A → S → Option (Fl S R)
  | [], s => some (.nx s)
  | x :: l, s => (f x s).bind fun r => match r with
    | .nx s' => itF f l s'
    | .bk s' => some (.nx s')
    | .rt q => some (.rt q)
/-- while, in at most so many turns -/
def whF {S R : Type} (c : S → Option Bool) (f : S → Option (Fl S R)) : Nat → S → Option (Fl S R)
  | 0, _ => none
  | n + 1, s => (c s).bind fun b => if b = true then (f s).bind fun r => match r with
      | .nx s' => whF c f n s'
      | .bk s' => some (.nx s')
      | .rt q => some (.rt q)
    else some (.nx s)
def mapO {A B : Type} (f : A → Option B) : List A → Option (List B)
  | [] => some []
  | x :: l => (f x).bind fun y => (mapO f l).bind fun r => some (y :: r)
/-- [e for x in xs if c] -/
def fmO {A B : Type} (c : A → Option Bool) (f : A → Option B) : List A → Option (List B)
  | [] => some []
  | x :: l => (c x).bind fun b => if b = true then (f x).bind fun y => (fmO c f l).bind fun r => some (y :: r) else fmO c f l
def rngI (lo hi : Int) : List Int := (List.range (hi - lo).toNat).map fun (i : Nat) => lo + (i : Int)
instance {i j : Int} : Decidable (IntMulOk i j) := by unfold IntMulOk; infer_instance
instance {i j : Int} : Decidable (CShl i j) := by unfold CShl; infer_instance
instance {i j : Int} : Decidable (CPow i j) := by unfold CPow; infer_instance
def grd {A : Type} (p : Prop) [Decidable p] (e : A) : Option A := if p then some e else none
theorem of_grd {A : Type} {p : Prop} [Decidable p] {e r : A} (h : grd p e = some r) : p ∧ e = r := by
  unfold grd at h
  split at h
  · next hp => exact ⟨hp, Option.some.inj h⟩
  · cases h
theorem grd_ok {A : Type} {p : Prop} [Decidable p] {e : A} (h : p) : grd p e = some e := if_pos h
def modC (i j : Int) : Option Int := grd (0 < j) (i % j)
def divC (i j : Int) : Option Int := grd (0 < j ∧ j.natAbs.log2 < 9000) (i / j)
def mulC (i j : Int) : Option Int := grd (IntMulOk i j) (i * j)
def shlC (i j : Int) : Option Int := grd (CShl i j) (i * 2 ^ j.toNat)
def shrC (i j : Int) : Option Int := grd (0 ≤ j) (i / 2 ^ j.toNat)
def powC (i j : Int) : Option Int := grd (CPow i j) (i ^ j.toNat)
def sizeC : Nat := 16777216
theorem sizeC_eq : sizeC = sizeLine := by rw [sizeLine_eq]; rfl
def appC {A : Type} (xs : List A) (x : A) : Option (List A) := grd (xs.length < 16777216) (xs ++ [x])
def catC {A : Type} (xs ys : List A) : Option (List A) := grd (xs.length + ys.length ≤ 16777216) (xs ++ ys)
def repC {A : Type} (xs : List A) (k : Int) : Option (List A) := grd (-(2 ^ 63) ≤ k ∧ k < 2 ^ 63 ∧ xs.length * k.toNat ≤ 16777216) (List.replicate k.toNat xs).flatten
def setC {A : Type} (xs : List A) (i : Int) (x : A) : Option (List A) := (ixN xs.length i).map fun j => xs.set j x
def cut {A : Type} (xs : List A) (lo hi : Option Int) : List A := (xs.drop (HT.sIx xs.length 0 lo)).take (HT.sIx xs.length xs.length hi - HT.sIx xs.length 0 lo)
/-- a range's ends -/
def rngC (lo hi : Int) : Option (List Int) := grd (-(2 ^ 62) ≤ lo ∧ lo < 2 ^ 62 ∧ -(2 ^ 62) ≤ hi ∧ hi < 2 ^ 62) (rngI lo hi)
def andC (a : Bool) (b : Option Bool) : Option Bool := if a = true then b else some false
def orC (a : Bool) (b : Option Bool) : Option Bool := if a = true then some true else b
def maxI (i j : Int) : Int := if j > i then j else i
def minI (i j : Int) : Int := if j < i then j else i
def absI (i : Int) : Int := if i < 0 then -i else i
def b2 (b : Bool) : Int := if b then 1 else 0
def bitsI (i : Int) : Int := (Builtin.Int.intBits i : Nat)
/-- max and min of a list -/
def maxL (xs : List Int) : Option Int := match xs with
  | [] => none
  | x :: r => some (r.foldl (fun a b => if b > a then b else a) x)
def minL (xs : List Int) : Option Int := match xs with
  | [] => none
  | x :: r => some (r.foldl (fun a b => if b < a then b else a) x)

theorem of_ifT {A : Type} {b : Bool} {x y r : A} (hb : b = true) (h : (if b = true then x else y) = r) : x = r := by
  rw [if_pos hb] at h
  exact h
theorem of_ifF {A : Type} {b : Bool} {x y r : A} (hb : b = false) (h : (if b = true then x else y) = r) : y = r := by
  rw [if_neg (by rw [hb]; exact Bool.false_ne_true)] at h
  exact h
def fuel : Nat := 1000000

/-! ### heaps: what stood (B), own cells (cs) -/
structure Fr (B : Hp) (cs : List (Addr × HO)) (H : Hp) : Prop where
  base : Ex B H
  own : ∀ c ∈ cs, H c.1 = some c.2
  new : ∀ c ∈ cs, B c.1 = none
  nd : (cs.map (·.1)).Nodup
section
variable {B H H' : Hp} {cs ds : List (Addr × HO)} {p : Addr} {o : HO} {K : PySem.W.Frag}
theorem Fr.refl (H : Hp) : Fr H [] H := ⟨Ex.refl H, fun _ h => (nomatch h), fun _ h => (nomatch h), List.nodup_nil⟩
theorem Fr.of (e : Ex H H') : Fr H [] H' := ⟨e, fun _ h => (nomatch h), fun _ h => (nomatch h), List.nodup_nil⟩
theorem Fr.ex (F : Fr B cs H) (e : Ex H H') : Fr B cs H' := ⟨F.base.trans e, fun c h => e _ _ (F.own c h), F.new, F.nd⟩
theorem Fr.get (F : Fr B cs H) (i : Nat) {c : Addr × HO} (h : cs[i]? = some c) : H c.1 = some c.2 := F.own c (List.mem_of_getElem? h)
theorem Fr.fresh (F : Fr B cs H) (i : Nat) {c : Addr × HO} (h : cs[i]? = some c) : B c.1 = none := F.new c (List.mem_of_getElem? h)
theorem Fr.add (F : Fr B cs H) (hp : H p = none) (e : Ex H H') (h : H' p = some o) : Fr B (cs ++ [(p, o)]) H' where
  base := F.base.trans e
  own := fun c hc => by
    rcases List.mem_append.mp hc with q | q
    · exact e _ _ (F.own c q)
    · rcases List.mem_singleton.mp q with rfl
      exact h
  new := fun c hc => by
    rcases List.mem_append.mp hc with q | q
    · exact F.new c q
    · rcases List.mem_singleton.mp q with rfl
      exact Evl.fresh_back F.base hp
  nd := by
    rw [List.map_append, List.nodup_append]
    refine ⟨F.nd, by simp, fun a ha b hb => ?_⟩
    rcases List.mem_map.mp ha with ⟨c, hc, rfl⟩
    have : b = p := by simpa using hb
    subst this
    intro e2
    have := F.own c hc
    rw [e2, hp] at this
    cases this
theorem Fr.app (F : Fr B cs H) (G : Fr H ds H') : Fr B (cs ++ ds) H' where
  base := F.base.trans G.base
  own := fun c hc => by
    rcases List.mem_append.mp hc with q | q
    · exact G.base _ _ (F.own c q)
    · exact G.own c q
  new := fun c hc => by
    rcases List.mem_append.mp hc with q | q
    · exact F.new c q
    · exact Evl.fresh_back F.base (G.new c q)
  nd := by
    rw [List.map_append, List.nodup_append]
    refine ⟨F.nd, G.nd, fun a ha b hb => ?_⟩
    rcases List.mem_map.mp ha with ⟨c, hc, rfl⟩
    rcases List.mem_map.mp hb with ⟨d, hd, rfl⟩
    intro e2
    have h1 := F.own c hc
    have h2 := G.new d hd
    rw [← e2, h1] at h2
    cases h2
theorem Fr.upd (F : Fr B cs H) (i : Nat) {o' : HO} (h : cs[i]? = some (p, o)) : Fr B (cs.set i (p, o')) (upd H p o') where
  base := fun a u ha => by
    have hb := F.fresh i h
    have : a ≠ p := by
      intro e
      subst e
      rw [ha] at hb
      cases hb
    rw [upd_ne this]
    exact F.base a u ha
  own := fun c hc => by
    obtain ⟨j, hj⟩ := List.mem_iff_getElem?.mp hc
    rw [List.getElem?_set] at hj
    by_cases e : i = j
    · subst e
      rw [if_pos rfl] at hj
      split at hj
      · cases hj
        exact upd_same
      · cases hj
    · rw [if_neg e] at hj
      have hne : c.1 ≠ p := by
        intro e2
        have e3 : (cs.map (·.1))[i]? = some p := by rw [List.getElem?_map, h]; rfl
        have e4 : (cs.map (·.1))[j]? = some p := by rw [List.getElem?_map, hj]; exact congrArg some e2
        exact e (nd_ix F.nd e3 e4)
      rw [upd_ne hne]
      exact F.own c (List.mem_of_getElem? hj)
  new := fun c hc => by
    rcases List.mem_or_eq_of_mem_set hc with q | q
    · exact F.new c q
    · subst q
      exact F.new (p, o) (List.mem_of_getElem? h)
  nd := by
    have : (cs.set i (p, o')).map (·.1) = cs.map (·.1) := by
      rw [List.map_set]
      apply List.ext_getElem?
      intro j
      rw [List.getElem?_set]
      split
      · next e =>
        subst e
        split
        · rw [List.getElem?_map, h]; rfl
        · next hl =>
          rw [List.getElem?_eq_none (by omega)]
      · rfl
    rw [this]
    exact F.nd
theorem Fr.sub (F : Fr B cs H) (h : List.Sublist ds cs) : Fr B ds H := ⟨F.base, fun c hc => F.own c (h.subset hc), fun c hc => F.new c (h.subset hc), (h.map _).nodup F.nd⟩
/-- an order of the cells -/
theorem Fr.perm (F : Fr B cs H) (h : ds.Perm cs) : Fr B ds H := ⟨F.base, fun c hc => F.own c (h.mem_iff.mp hc), fun c hc => F.new c (h.mem_iff.mp hc), ((h.map (·.1)).nodup_iff).mpr F.nd⟩
theorem Fr.pick (F : Fr B cs H) (ix : List Nat) (hn : ix.Nodup) (h : (ix.map fun i => cs[i]?) = ds.map some) : Fr B ds H := by
  have mem : ∀ (k : Nat) (d : Addr × HO), ds[k]? = some d → ∃ i, ix[k]? = some i ∧ cs[i]? = some d := by
    intro k d hd
    have e : (ds.map some)[k]? = some (some d) := by rw [List.getElem?_map, hd]; rfl
    rw [← h, List.getElem?_map] at e
    cases hi : ix[k]? with
    | none => rw [hi] at e; cases e
    | some i =>
      rw [hi] at e
      exact ⟨i, rfl, Option.some.inj e⟩
  refine ⟨F.base, fun c hc => ?_, fun c hc => ?_, ?_⟩
  · obtain ⟨k, hk⟩ := List.mem_iff_getElem?.mp hc
    obtain ⟨i, _, hi⟩ := mem k c hk
    exact F.get i hi
  · obtain ⟨k, hk⟩ := List.mem_iff_getElem?.mp hc
    obtain ⟨i, _, hi⟩ := mem k c hk
    exact F.fresh i hi
  · rw [List.nodup_iff_pairwise_ne, List.pairwise_iff_getElem]
    intro k1 k2 h1 h2 hlt e
    rw [List.length_map] at h1 h2
    rw [List.getElem_map, List.getElem_map] at e
    obtain ⟨i1, hi1, hc1⟩ := mem k1 _ (List.getElem?_eq_getElem h1)
    obtain ⟨i2, hi2, hc2⟩ := mem k2 _ (List.getElem?_eq_getElem h2)
    have e1 : (cs.map (·.1))[i1]? = some (ds[k1]).1 := by rw [List.getElem?_map, hc1]; rfl
    have e2 : (cs.map (·.1))[i2]? = some (ds[k1]).1 := by rw [List.getElem?_map, hc2, e]; rfl
    have := nd_ix F.nd e1 e2
    subst this
    have := nd_ix hn hi1 hi2
    omega
/-- an own cell is laid to what stands -/
theorem Fr.rest (F : Fr B ((p, o) :: cs) H) : Fr (L2.upd B p o) cs H where
  base := fun a u ha => by
    by_cases e : a = p
    · subst e
      rw [upd_same] at ha
      cases ha
      exact F.own _ List.mem_cons_self
    · rw [upd_ne e] at ha
      exact F.base a u ha
  own := fun c hc => F.own c (List.mem_cons_of_mem _ hc)
  new := fun c hc => by
    have hn := F.nd
    rw [List.map_cons, List.nodup_cons] at hn
    have : c.1 ≠ p := fun e => hn.1 (List.mem_map.mpr ⟨c, hc, e⟩)
    rw [upd_ne this]
    exact F.new c (List.mem_cons_of_mem _ hc)
  nd := by
    have hn := F.nd
    rw [List.map_cons, List.nodup_cons] at hn
    exact hn.2
theorem Ex.upd_new (h : B p = none) : Ex B (L2.upd B p o) := Evl.Ex.new h
end

/-! ### values -/
abbrev LI (xs : List Int) : HO := .lst (xs.map V.int)
abbrev LB (xs : List Bool) : HO := .lst (xs.map V.bl)
theorem atI_map {A C : Type} (f : A → C) (xs : List A) (i : Int) : atI (xs.map f) i = (atI xs i).map f := by
  unfold atI
  rw [List.length_map]
  cases ixN xs.length i with
  | none => rfl
  | some j =>
    show (xs.map f)[j]? = (xs[j]?).map f
    rw [List.getElem?_map]
theorem cut_map {A : Type} (f : A → V) (xs : List A) (lo hi : Option Int) : cutV (xs.map f) lo hi = (cut xs lo hi).map f := by
  unfold cutV cut
  rw [List.length_map, List.drop_map_comm, List.take_map_comm]
where
  List.drop_map_comm : ∀ {n : Nat} {l : List A}, (l.map f).drop n = (l.drop n).map f := by intros; rw [List.map_drop]
  List.take_map_comm : ∀ {n : Nat} {l : List A}, (l.map f).take n = (l.take n).map f := by intros; rw [List.map_take]
section
variable {K : PySem.W.Frag} {σ σ' : L2.St} {H H' B : Hp} {ta tb te tx : TE} {t u : TT} {x y z v : V} {r : R2} {i j m : Int} {a p q : Addr} {A : Type} {f : A → V} {xs ys : List A} {b c : Bool}
theorem ev_cg {e e' : A} (h : Ev te σ H (f e)) (hx : e = e') : Ev te σ H (f e') := hx ▸ h
theorem evl_cg {e e' : List A} (h : EvL te σ H (e.map f)) (hx : e = e') : EvL te σ H (e'.map f) := hx ▸ h
theorem et_cg (h : EvT t σ H b) (hx : b = c) : EvT t σ H c := hx ▸ h
/-- numbers -/
def rMulA : R2 := rI IntMulOk fun i j => .int (i * j)
theorem op_mulA {X : Cx} : OpR X (binaryOp .Mult) rMulA := opI fun _ _ _ _ _ _ _ hc q => PyProof.Rows.mul_int q hc
theorem iop_mulA {X : Cx} : OpR X (inplaceOp .Mult) (rI CMul fun i j => .int (i * j)) := iop_mul
theorem rv_I0 {g : Int → Int → V} : RV (rI0 g) (.int i) (.int j) H (g i j) := Evl.rv_I0
theorem rv_I {C : Int → Int → Prop} {g : Int → Int → V} (hc : C i j) : RV (rI C g) (.int i) (.int j) H (g i j) := Evl.rv_I hc
theorem rv_mod (h : modC i j = some m) : RV (rI (fun _ j => 0 < j) fun i j => .int (i % j)) (.int i) (.int j) H (.int m) := by
  obtain ⟨hc, rfl⟩ := of_grd h
  exact rv_I hc
theorem rv_div (h : divC i j = some m) : RV (rI CDivW fun i j => .int (i / j)) (.int i) (.int j) H (.int m) := by
  obtain ⟨hc, rfl⟩ := of_grd h
  exact rv_I hc
theorem rv_mul (h : mulC i j = some m) : RV rMulA (.int i) (.int j) H (.int m) := by
  obtain ⟨hc, rfl⟩ := of_grd h
  exact rv_I hc
theorem rv_shl (h : shlC i j = some m) : RV (rI CShl fun i j => .int (i * 2 ^ j.toNat)) (.int i) (.int j) H (.int m) := by
  obtain ⟨hc, rfl⟩ := of_grd h
  exact rv_I hc
theorem rv_shr (h : shrC i j = some m) : RV (rI (fun _ j => 0 ≤ j) fun i j => .int (i / 2 ^ j.toNat)) (.int i) (.int j) H (.int m) := by
  obtain ⟨hc, rfl⟩ := of_grd h
  exact rv_I hc
theorem rv_pow (h : powC i j = some m) : RV (rI CPow fun i j => .int (i ^ j.toNat)) (.int i) (.int j) H (.int m) := by
  obtain ⟨hc, rfl⟩ := of_grd h
  exact rv_I hc
/-- constants beside a number: no word is asked -/
theorem rv_mulL (k : Int) (hk : -(2 ^ 64) < k ∧ k < 2 ^ 64 := by decide) : RV (rI CMul fun i j => .int (i * j)) (.int k) (.int j) H (.int (k * j)) := rv_I (Or.inl hk)
theorem rv_mulR (k : Int) (hk : -(2 ^ 64) < k ∧ k < 2 ^ 64 := by decide) : RV (rI CMul fun i j => .int (i * j)) (.int i) (.int k) H (.int (i * k)) := rv_I (Or.inr hk)
theorem rv_modK (k : Int) (hk : 0 < k := by decide) : RV (rI (fun _ j => 0 < j) fun i j => .int (i % j)) (.int i) (.int k) H (.int (i % k)) := rv_I hk
theorem rv_divK (k : Int) (hk : 0 < k ∧ k < 1073741824 := by decide) : RV (rI CDiv fun i j => .int (i / j)) (.int i) (.int k) H (.int (i / k)) := rv_I hk
theorem rv_shrK (k : Int) (n : Nat) (hk : 0 ≤ k := by decide) (hn : k.toNat = n := by rfl) : RV (rI (fun _ j => 0 ≤ j) fun i j => .int (i / 2 ^ j.toNat)) (.int i) (.int k) H (.int (i / 2 ^ n)) := by
  subst hn
  exact rv_I hk
theorem rv_shlK (k : Int) (n : Int) {d : Nat} (hk : CPow k n := by decide) (hd : n.toNat = d := by rfl) : RV (rI CPow fun i j => .int (i * 2 ^ j.toNat)) (.int k) (.int n) H (.int (k * 2 ^ d)) := by
  subst hd
  exact rv_I hk
theorem rv_powK (k : Int) (n : Int) {d : Nat} (hk : CPow k n := by decide) (hd : n.toNat = d := by rfl) : RV (rI CPow fun i j => .int (i ^ j.toNat)) (.int k) (.int n) H (.int (k ^ d)) := by
  subst hd
  exact rv_I hk
theorem rv_cg {e e' : Int} (hx : e = e') (h : RV r x y H (.int e)) : RV r x y H (.int e') := hx ▸ h
theorem rv_isN (h : decide (x = .non) = b) : RV (fun x y H Q => y = .non ∧ Q (.bl (decide (x = .non))) H) x .non H (.bl b) := fun H1 _ _ q => ⟨rfl, by rw [h]; exact q H1 (Ex.refl H1)⟩
theorem rv_notN (h : (!decide (x = .non)) = b) : RV (fun x y H Q => y = .non ∧ Q (.bl (!decide (x = .non))) H) x .non H (.bl b) := fun H1 _ _ q => ⟨rfl, by rw [h]; exact q H1 (Ex.refl H1)⟩
theorem ev_chain {r r' : R2} {tc : TE} {w : V} (ha : Ev ta σ H x) (hb : Ev tb σ H y) (hc : Ev tc σ H w) (h1 : RV r x y H (.bl b)) (h2 : RV r' y w H (.bl c)) : Ev (tChain r r' ta tb tc) σ H (.bl (b && c)) := fun H1 e Q q =>
  ha H1 e _ fun H2 e2 => hb H2 (e.trans e2) _ fun H3 e3 => h1 H3 ((e.trans e2).trans e3) _ fun H4 e4 => ⟨b, rfl, by
    cases b with
    | true =>
      show tc σ H4 _
      exact hc H4 (((e.trans e2).trans e3).trans e4) _ fun H5 e5 => h2 H5 ((((e.trans e2).trans e3).trans e4).trans e5) _ fun H6 e6 => q H6 ((((e2.trans e3).trans e4).trans e5).trans e6)
    | false =>
      show Q (.bl false) H4
      exact q H4 ((e2.trans e3).trans e4)⟩
/-- tests -/
theorem rv_eqI : RV rEq (.int i) (.int j) H (.bl (decide (i = j))) := by
  have h : (.bl (decide (i = j)) : V) = .bl (decide (V.int i = V.int j)) := by congr 1; simp
  rw [h]
  exact Evl.rv_eq rfl
theorem rv_neI : RV rNe (.int i) (.int j) H (.bl (!decide (i = j))) := by
  have h : (.bl (!decide (i = j)) : V) = .bl (!decide (V.int i = V.int j)) := by congr 2; simp
  rw [h]
  exact Evl.rv_ne rfl
theorem rv_eqB : RV rEq (.bl b) (.bl c) H (.bl (decide (b = c))) := by
  have h : (.bl (decide (b = c)) : V) = .bl (decide (V.bl b = V.bl c)) := by congr 1; simp
  rw [h]
  exact Evl.rv_eq rfl
theorem rv_neB : RV rNe (.bl b) (.bl c) H (.bl (!decide (b = c))) := by
  have h : (.bl (!decide (b = c)) : V) = .bl (!decide (V.bl b = V.bl c)) := by congr 2; simp
  rw [h]
  exact Evl.rv_ne rfl
theorem et_andO {m : Option Bool} (hm : andC b m = some c) (h1 : EvT t σ H b) (h2 : ∀ y, m = some y → EvT u σ H y) : EvT (tAnd t u) σ H c := by
  unfold andC at hm
  cases b with
  | true =>
    have := Evl.et_and h1 (fun _ => h2 c hm)
    exact this
  | false =>
    cases hm
    exact Evl.et_and (b := false) h1 (fun q => (nomatch q))
theorem et_orO {m : Option Bool} (hm : orC b m = some c) (h1 : EvT t σ H b) (h2 : ∀ y, m = some y → EvT u σ H y) : EvT (tOr t u) σ H c := by
  unfold orC at hm
  cases b with
  | true =>
    cases hm
    exact Evl.et_or (b := false) h1 (fun q => (nomatch q))
  | false =>
    have := Evl.et_or h1 (fun _ => h2 c hm)
    exact this
theorem ev_andVO {m : Option Bool} (hm : andC b m = some c) (h1 : Ev ta σ H (.bl b)) (h2 : ∀ y, m = some y → Ev tb σ H (.bl y)) : Ev (tAndV ta tb) σ H (.bl c) := by
  unfold andC at hm
  cases b with
  | true =>
    have := Evl.ev_andV h1 (fun _ => h2 c hm)
    exact this
  | false =>
    cases hm
    exact Evl.ev_andV (b := false) h1 (fun q => (nomatch q))
theorem ev_orVO {m : Option Bool} (hm : orC b m = some c) (h1 : Ev ta σ H (.bl b)) (h2 : ∀ y, m = some y → Ev tb σ H (.bl y)) : Ev (tOrV ta tb) σ H (.bl c) := by
  unfold orC at hm
  cases b with
  | true =>
    cases hm
    exact Evl.ev_orV (b := false) h1 (fun q => (nomatch q))
  | false =>
    have := Evl.ev_orV h1 (fun _ => h2 c hm)
    exact this
/-- len -/
def rLen (K : PySem.W.Frag) : List V → Hp → VK → Prop := fun xs H Q => ∃ p ys, xs = [.ref p] ∧ (SqL K H p ys ∨ SqT K H p ys) ∧ Q (.int ys.length) H
theorem cr_len {X : Cx} : CallR X (.builtin "len") (rLen X.K) := call_len_seq
theorem ev_len (h : SqL K H a (xs.map f)) (ha : Ev ta σ H (.ref a)) : Ev (tCB (rLen K) (tCons ta tNil)) σ H (.int (xs.length : Int)) := fun H1 e Q q =>
  ha H1 e _ fun H2 e2 => ⟨a, xs.map f, rfl, Or.inl (Evl.ex_l (e.trans e2) h), by rw [List.length_map]; exact q H2 e2⟩
theorem ev_lenN (ha : EvL ta σ H (xs.map f)) : Ev (tCB (rLen K) (tCons ta tNil)) σ H (.int (xs.length : Int)) := fun H1 e Q q =>
  ha H1 e _ fun p H2 _ e2 hp => ⟨p, xs.map f, rfl, Or.inl (Evl.sq_of hp), by rw [List.length_map]; exact q H2 e2⟩
/-- items -/
theorem rv_ix {w : A} (hv : atI xs i = some w) (h : SqL K H a (xs.map f)) : RV (rIxL K) (.ref a) (.int i) H (f w) := Evl.rv_ixL h (by rw [atI_map, hv]; rfl)
theorem rv_ixT {w : A} (hv : atI xs i = some w) (h : SqT K H a (xs.map f)) : RV (rIxT K) (.ref a) (.int i) H (f w) := Evl.rv_ixT h (by rw [atI_map, hv]; rfl)
theorem ev_ixN {w : A} (hv : atI xs i = some w) (ha : EvL ta σ H (xs.map f)) (hb : Ev tb σ H (.int i)) : Ev (tOp (rIxL K) ta tb) σ H (f w) :=
  Evl.ev_opL1 ha (fun H1 e => hb.mono e) fun p H1 h e => rv_ix hv (Evl.sq_of h)
/-- list(..) -/
def rLst (K : PySem.W.Frag) : List V → Hp → VK → Prop := fun xs H Q => ∃ p ys, xs = [.ref p] ∧ (SqL K H p ys ∨ SqT K H p ys) ∧ ∀ l, H l = none → Q (.ref l) (upd H l (.lst ys))
theorem cr_list {X : Cx} : CallR X (.type "list") (rLst X.K) := call_list_of
theorem el_list (h : SqL K H a (xs.map f)) (ha : Ev ta σ H (.ref a)) : EvL (tCB (rLst K) (tCons ta tNil)) σ H (xs.map f) := Evl.el_list ha h
theorem el_listN (h : EvL ta σ H (xs.map f)) : EvL (tCB (rLst K) (tCons ta tNil)) σ H (xs.map f) := fun H1 e _ q =>
  h H1 e _ fun p H2 hp e2 h2 => ⟨p, xs.map f, rfl, Or.inl (Evl.sq_of h2), fun l hl => q l _ (Evl.fresh_back e2 hl) (e2.trans (Evl.Ex.new hl)) upd_same⟩
/-- slices -/
theorem el_sl {tl th : TO} {lo hi : Option Int} (h : SqL K H a (xs.map f)) (ha : Ev ta σ H (.ref a)) (h1 : EvO tl σ H lo) (h2 : EvO th σ H hi) : EvL (tSl (rSlL K) ta tl th) σ H ((cut xs lo hi).map f) := by
  rw [← cut_map]
  exact Evl.el_sl ha h1 h2 h
/-- displays -/
theorem el_lst {tA : TA} {vs : List V} (h : EvA tA σ H vs) (hl : vs.length ≤ 100000 := by decide) : EvL (tLst tA) σ H vs := Evl.el_lst h hl
/-- + and * of lists -/
theorem el_cat {zs : List A} (hm : catC xs ys = some zs) (h1 : H p = some (.lst (xs.map f))) (ha : Ev ta σ H (.ref p)) (h2 : H q = some (.lst (ys.map f))) (hb : Ev tb σ H (.ref q)) : EvL (tOp rCat ta tb) σ H (zs.map f) := by
  obtain ⟨hc, rfl⟩ := of_grd hm
  exact fun H1 e Q k => ha H1 e _ fun H2 e2 => hb H2 (e.trans e2) _ fun H3 e3 => ⟨p, q, xs.map f, ys.map f, rfl, rfl, (e.trans (e2.trans e3)) _ _ h1, (e.trans (e2.trans e3)) _ _ h2, by rw [List.length_map, List.length_map, sizeLine_eq]; exact hc,
    fun l hl => k l _ (Evl.fresh_back (e2.trans e3) hl) ((e2.trans e3).trans (Evl.Ex.new hl)) (by rw [List.map_append]; exact upd_same)⟩
theorem el_catN {zs : List A} (hm : catC xs ys = some zs) (h1 : H p = some (.lst (xs.map f))) (ha : Ev ta σ H (.ref p)) (hb : EvL tb σ H (ys.map f)) : EvL (tOp rCat ta tb) σ H (zs.map f) := by
  obtain ⟨hc, rfl⟩ := of_grd hm
  exact fun H1 e Q k => ha H1 e _ fun H2 e2 => hb H2 (e.trans e2) _ fun q H3 _ e3 h2 => ⟨p, q, xs.map f, ys.map f, rfl, rfl, (e.trans (e2.trans e3)) _ _ h1, h2, by rw [List.length_map, List.length_map, sizeLine_eq]; exact hc,
    fun l hl => k l _ (Evl.fresh_back (e2.trans e3) hl) ((e2.trans e3).trans (Evl.Ex.new hl)) (by rw [List.map_append]; exact upd_same)⟩
theorem el_catNN {zs : List A} (hm : catC xs ys = some zs) (ha : EvL ta σ H (xs.map f)) (hb : EvL tb σ H (ys.map f)) : EvL (tOp rCat ta tb) σ H (zs.map f) := by
  obtain ⟨hc, rfl⟩ := of_grd hm
  exact fun H1 e Q k => ha H1 e _ fun p H2 _ e2 h1 => hb H2 (e.trans e2) _ fun q H3 _ e3 h2 => ⟨p, q, xs.map f, ys.map f, rfl, rfl, e3 _ _ h1, h2, by rw [List.length_map, List.length_map, sizeLine_eq]; exact hc,
    fun l hl => k l _ (Evl.fresh_back (e2.trans e3) hl) ((e2.trans e3).trans (Evl.Ex.new hl)) (by rw [List.map_append]; exact upd_same)⟩
theorem map_flat (f : A → V) (xs : List A) (n : Nat) : (List.replicate n (xs.map f)).flatten = ((List.replicate n xs).flatten).map f := by
  induction n with
  | zero => rfl
  | succ n ih => rw [List.replicate_succ, List.replicate_succ, List.flatten_cons, List.flatten_cons, ih, List.map_append]
theorem el_repN {zs : List A} {k : Int} (hm : repC xs k = some zs) (ha : EvL ta σ H (xs.map f)) (hb : Ev tb σ H (.int k)) : EvL (tOp rRep ta tb) σ H (zs.map f) := by
  obtain ⟨hc, rfl⟩ := of_grd hm
  exact fun H1 e Q kk => ha H1 e _ fun p H2 _ e2 h1 => hb H2 (e.trans e2) _ fun H3 e3 => ⟨p, k, xs.map f, rfl, rfl, e3 _ _ h1, hc.1, hc.2.1, by rw [List.length_map, sizeLine_eq]; exact hc.2.2,
    fun l hl => kk l _ (Evl.fresh_back (e2.trans e3) hl) ((e2.trans e3).trans (Evl.Ex.new hl)) (by rw [map_flat]; exact upd_same)⟩
/-- == of lists of numbers -/
theorem dp_ints {xs : List Int} (h : SqL K H a (xs.map V.int)) : Dp K H (.ref a) (.list (xs.map PyData.int)) := by
  refine .lst h ?_
  clear h
  induction xs with
  | nil => exact .nil
  | cons n l ih => exact .cons (.int n) ih
theorem lay_ints : ∀ xs : List Int, PyData.canLayAll0 (xs.map PyData.int) = true
  | [] => rfl
  | x :: l => by
    show (PyData.canLay0 (.int x) && PyData.canLayAll0 (l.map PyData.int)) = true
    rw [lay_ints l]
    rfl
theorem depth_ints : ∀ xs : List Int, PyData.depthAll (xs.map PyData.int) ≤ 1
  | [] => by decide
  | x :: l => by
    have := depth_ints l
    simp only [List.map_cons, PyData.depthAll, PyData.depth]
    omega
theorem shaped_ints (xs : List Int) : SeqAt.shaped (.list (xs.map PyData.int)) = true := by
  unfold SeqAt.shaped
  rw [Bool.and_eq_true]
  refine ⟨lay_ints xs, decide_eq_true ?_⟩
  have := depth_ints xs
  simp only [PyData.depth]
  omega
theorem eqvAll_ints : ∀ xs ys : List Int, PyData.eqvAll (xs.map PyData.int) (ys.map PyData.int) = decide (xs = ys)
  | [], [] => by simp [PyData.eqvAll]
  | [], _ :: _ => by simp [PyData.eqvAll]
  | _ :: _, [] => by simp [PyData.eqvAll]
  | x :: l, y :: r => by
    rw [List.map_cons, List.map_cons, PyData.eqvAll, eqvAll_ints l r]
    by_cases h : x = y <;> by_cases h2 : l = r <;> simp [h, h2, PyData.eqv]
theorem eqv_ints (xs ys : List Int) : PyData.eqv (.list (xs.map PyData.int)) (.list (ys.map PyData.int)) = decide (xs = ys) := by
  rw [← eqvAll_ints]
  simp [PyData.eqv]
theorem rv_eqL {xs ys : List Int} (h1 : SqL K H p (xs.map V.int)) (h2 : SqL K H q (ys.map V.int)) : RV (rEqD K) (.ref p) (.ref q) H (.bl (decide (xs = ys))) := fun H1 e Q k =>
  ⟨_, _, dp_ints (Evl.ex_l e h1), dp_ints (Evl.ex_l e h2), shaped_ints _, shaped_ints _, by rw [eqv_ints]; exact k H1 (Ex.refl H1)⟩
theorem rv_neL {xs ys : List Int} (h1 : SqL K H p (xs.map V.int)) (h2 : SqL K H q (ys.map V.int)) : RV (rNeD K) (.ref p) (.ref q) H (.bl (!decide (xs = ys))) := fun H1 e Q k =>
  ⟨_, _, dp_ints (Evl.ex_l e h1), dp_ints (Evl.ex_l e h2), shaped_ints _, shaped_ints _, by rw [eqv_ints]; exact k H1 (Ex.refl H1)⟩
theorem ev_opLr {r : R2} {zs : List V} (hb : EvL tb σ H zs) (ha : Ev ta σ H x) (hr : ∀ p H1, H1 p = some (.lst zs) → Ex H H1 → RV r x (.ref p) H1 z) : Ev (tOp r ta tb) σ H z := Evl.ev_opL ha hb hr
theorem ev_eqN {xs ys : List Int} (h1 : SqL K H p (xs.map V.int)) (ha : Ev ta σ H (.ref p)) (hb : EvL tb σ H (ys.map V.int)) : Ev (tOp (rEqD K) ta tb) σ H (.bl (decide (xs = ys))) := ev_opLr hb ha fun _ _ h e => rv_eqL (Evl.ex_l e h1) (Evl.sq_of h)
theorem ev_neN {xs ys : List Int} (h1 : SqL K H p (xs.map V.int)) (ha : Ev ta σ H (.ref p)) (hb : EvL tb σ H (ys.map V.int)) : Ev (tOp (rNeD K) ta tb) σ H (.bl (!decide (xs = ys))) := ev_opLr hb ha fun _ _ h e => rv_neL (Evl.ex_l e h1) (Evl.sq_of h)
theorem ev_eqNN {xs ys : List Int} (ha : EvL ta σ H (xs.map V.int)) (hb : EvL tb σ H (ys.map V.int)) : Ev (tOp (rEqD K) ta tb) σ H (.bl (decide (xs = ys))) := Evl.ev_opLL ha hb fun _ _ _ h h' e => rv_eqL (Evl.sq_of h) (Evl.sq_of h')
theorem ev_neNN {xs ys : List Int} (ha : EvL ta σ H (xs.map V.int)) (hb : EvL tb σ H (ys.map V.int)) : Ev (tOp (rNeD K) ta tb) σ H (.bl (!decide (xs = ys))) := Evl.ev_opLL ha hb fun _ _ _ h h' e => rv_neL (Evl.sq_of h) (Evl.sq_of h')
theorem ev_eqN1 {xs ys : List Int} (h1 : SqL K H p (ys.map V.int)) (ha : EvL ta σ H (xs.map V.int)) (hb : Ev tb σ H (.ref p)) : Ev (tOp (rEqD K) ta tb) σ H (.bl (decide (xs = ys))) := Evl.ev_opL1 ha (fun _ e => hb.mono e) fun _ _ h e => rv_eqL (Evl.sq_of h) (Evl.ex_l e h1)
theorem ev_neN1 {xs ys : List Int} (h1 : SqL K H p (ys.map V.int)) (ha : EvL ta σ H (xs.map V.int)) (hb : Ev tb σ H (.ref p)) : Ev (tOp (rNeD K) ta tb) σ H (.bl (!decide (xs = ys))) := Evl.ev_opL1 ha (fun _ e => hb.mono e) fun _ _ h e => rv_neL (Evl.sq_of h) (Evl.ex_l e h1)
/-- built-ins of numbers -/
def rAbs : List V → Hp → VK → Prop := fun xs H Q => ∃ i, xs = [.int i] ∧ Q (.int (if i < 0 then -i else i)) H
theorem cr_abs {X : Cx} : CallR X (.builtin "abs") rAbs := call_abs
theorem ev_abs (h : Ev ta σ H (.int i)) : Ev (tCB rAbs (tCons ta tNil)) σ H (.int (absI i)) := fun H1 e _ q => h H1 e _ fun H2 e2 => ⟨i, rfl, q H2 e2⟩
def rMax2 : List V → Hp → VK → Prop := fun xs H Q => ∃ i j, xs = [.int i, .int j] ∧ Q (.int (if j > i then j else i)) H
def rMin2 : List V → Hp → VK → Prop := fun xs H Q => ∃ i j, xs = [.int i, .int j] ∧ Q (.int (if j < i then j else i)) H
theorem cr_max2 {X : Cx} (hc : X.calm = true) : CallR X (.builtin "max") rMax2 := call_max2 hc
theorem cr_min2 {X : Cx} (hc : X.calm = true) : CallR X (.builtin "min") rMin2 := call_min2 hc
theorem ev_max2 (ha : Ev ta σ H (.int i)) (hb : Ev tb σ H (.int j)) : Ev (tCB rMax2 (tCons ta (tCons tb tNil))) σ H (.int (maxI i j)) := fun H1 e _ q => ha H1 e _ fun H2 e2 => hb H2 (e.trans e2) _ fun H3 e3 => ⟨i, j, rfl, q H3 (e2.trans e3)⟩
theorem ev_min2 (ha : Ev ta σ H (.int i)) (hb : Ev tb σ H (.int j)) : Ev (tCB rMin2 (tCons ta (tCons tb tNil))) σ H (.int (minI i j)) := fun H1 e _ q => ha H1 e _ fun H2 e2 => hb H2 (e.trans e2) _ fun H3 e3 => ⟨i, j, rfl, q H3 (e2.trans e3)⟩
def rInt : List V → Hp → VK → Prop := fun xs H Q => (∃ i, xs = [.int i] ∧ Q (.int i) H) ∨ ∃ k, xs = [.bl k] ∧ Q (.int (if k then 1 else 0)) H
theorem cr_int {X : Cx} : CallR X (.type "int") rInt := call_int1
theorem ev_int (h : Ev ta σ H (.int i)) : Ev (tCB rInt (tCons ta tNil)) σ H (.int i) := fun H1 e _ q => h H1 e _ fun H2 e2 => Or.inl ⟨i, rfl, q H2 e2⟩
theorem ev_intB (h : Ev ta σ H (.bl b)) : Ev (tCB rInt (tCons ta tNil)) σ H (.int (b2 b)) := fun H1 e _ q => h H1 e _ fun H2 e2 => Or.inr ⟨b, rfl, q H2 e2⟩
theorem ev_bits (h : Ev ta σ H (.int i)) : Ev (tBits ta) σ H (.int (bitsI i)) := fun H1 e _ q => h H1 e _ fun H2 e2 => ⟨i, rfl, q H2 e2⟩
theorem ev_neg (h : Ev ta σ H (.int i)) : Ev (tUn (rU fun i => .int (-i)) ta) σ H (.int (-i)) := Evl.ev_un h Evl.ru_neg
theorem ev_inv (h : Ev ta σ H (.int i)) : Ev (tUn (rU fun i => .int (Builtin.bitNot i)) ta) σ H (.int (Builtin.bitNot i)) := Evl.ev_un h fun H1 _ _ q => ⟨i, rfl, q H1 (Ex.refl H1)⟩
/-- isinstance -/
theorem ev_isi {w : Value} {n : String} (ha : Ev ta σ H x) (hb : Ev tb σ H (.ty n)) (ty : ∀ H1, Ex H H1 → TyX K H1 x w) (hk : PySem.W.kitOne K w (.type n) = some b) : Ev (tCB (rIsi K) (tCons ta (tCons tb tNil))) σ H (.bl b) := fun H1 e _ q =>
  ha H1 e _ fun H2 e2 => hb H2 (e.trans e2) _ fun H3 e3 => ⟨x, .ty n, w, .type n, b, rfl, .ty n, ty H3 ((e.trans e2).trans e3), hk, q H3 (e2.trans e3)⟩
theorem ty_int {i : Int} (H1 : Hp) (_ : Ex H H1) : TyX K H1 (.int i) (.type "int") := .base (.int i)
theorem ty_bl {k : Bool} (H1 : Hp) (_ : Ex H H1) : TyX K H1 (.bl k) (.type "bool") := .base (.bl k)
theorem ty_lst {vs : List V} (h : H a = some (.lst vs)) (H1 : Hp) (e : Ex H H1) : TyX K H1 (.ref a) (.type "list") := .base (.lst (e _ _ h))
theorem ty_tup {vs : List V} (h : H a = some (.tup vs)) (H1 : Hp) (e : Ex H H1) : TyX K H1 (.ref a) (.type "tuple") := .base (.tup (e _ _ h))
/-- sum, all, any -/
theorem ev_sum {xs : List Int} (h : SqL K H a (xs.map V.int)) (ha : Ev ta σ H (.ref a)) : Ev (tCB (rSum K) (tCons ta tNil)) σ H (.int xs.sum) := fun H1 e _ q => ha H1 e _ fun H2 e2 => ⟨a, xs, rfl, Evl.ex_l (e.trans e2) h, q H2 e2⟩
theorem ev_sumN {xs : List Int} (ha : EvL ta σ H (xs.map V.int)) : Ev (tCB (rSum K) (tCons ta tNil)) σ H (.int xs.sum) := fun H1 e _ q => ha H1 e _ fun p H2 _ e2 h => ⟨p, xs, rfl, Evl.sq_of h, q H2 e2⟩
theorem ev_allN {xs : List Bool} (ha : EvL ta σ H (xs.map V.bl)) : Ev (tCB (rAll K) (tCons ta tNil)) σ H (.bl (xs.all id)) := fun H1 e _ q => ha H1 e _ fun p H2 _ e2 h => ⟨p, xs, rfl, Evl.sq_of h, q H2 e2⟩
theorem ev_anyN {xs : List Bool} (ha : EvL ta σ H (xs.map V.bl)) : Ev (tCB (rAny K) (tCons ta tNil)) σ H (.bl (xs.any id)) := fun H1 e _ q => ha H1 e _ fun p H2 _ e2 h => ⟨p, xs, rfl, Evl.sq_of h, q H2 e2⟩
/-- a if c else b -/
theorem ev_ifV {w : A} {m1 m2 : Option A} (hm : (if b = true then m1 else m2) = some w) (h : EvT t σ H b) (h1 : ∀ y, m1 = some y → Ev ta σ H (f y)) (h2 : ∀ y, m2 = some y → Ev tb σ H (f y)) : Ev (tIf t ta tb) σ H (f w) :=
  Evl.ev_if h (fun hb => h1 w (by rw [if_pos hb] at hm; exact hm)) (fun hb => h2 w (by rw [if_neg (by rw [hb]; exact Bool.false_ne_true)] at hm; exact hm))
/-- arguments: a new list among them -/
theorem ta_val {tr : TA} {Q : List V → Hp → Prop} (h : Ev te σ H v) (k : ∀ H1, Ex H H1 → tr σ H1 fun vs H2 => Q (v :: vs) H2) : tCons te tr σ H Q := h H (Ex.refl H) _ k
theorem ta_new {tr : TA} {Q : List V → Hp → Prop} {zs : List V} (h : EvL te σ H zs) (k : ∀ p H1, H p = none → Ex H H1 → H1 p = some (.lst zs) → tr σ H1 fun vs H2 => Q (.ref p :: vs) H2) : tCons te tr σ H Q := h H (Ex.refl H) _ k
theorem ta_newU {tr : TA} {Q : List V → Hp → Prop} {zs : List V} (h : EvU te σ H zs) (k : ∀ p H1, H p = none → Ex H H1 → H1 p = some (.tup zs) → tr σ H1 fun vs H2 => Q (.ref p :: vs) H2) : tCons te tr σ H Q := h H (Ex.refl H) _ k
end

/-! ### comprehensions -/
theorem mapO_some {A C : Type} {f : A → Option C} : ∀ {xs : List A} {ys : List C}, mapO f xs = some ys → ys.length = xs.length ∧ ∀ (i : Nat) x, xs[i]? = some x → ∃ y, ys[i]? = some y ∧ f x = some y
  | [], ys, h => by
    cases h
    exact ⟨rfl, fun i x hx => by simp at hx⟩
  | x :: l, ys, h => by
    obtain ⟨y, hy, h⟩ := of_bind h
    obtain ⟨r, hr, h⟩ := of_bind h
    cases h
    obtain ⟨h1, h2⟩ := mapO_some hr
    refine ⟨by rw [List.length_cons, List.length_cons, h1], fun i z hz => ?_⟩
    cases i with
    | zero =>
      cases hz
      exact ⟨y, rfl, hy⟩
    | succ i => exact h2 i z hz
section
variable {K : PySem.W.Frag} {σ : L2.St} {H : Hp} {tl te : TE} {tt : TT} {a : Addr} {A C : Type} {f : A → V} {g : C → V} {xs : List A} {ys : List C} {j : Nat} {vs : List Nat}
def Lc (H : Hp) (ys : List V) (D : Addr) (i : Nat) (H' : Hp) : Prop := H D = none ∧ Ex H H' ∧ H' D = some (.lst (ys.take i))
theorem lc_turn {H H' : Hp} {ys : List V} {D : Addr} {i : Nat} {y : V} {σ2 : L2.St} (p : Lc H ys D i H') (hi : ys[i]? = some y) (hz : i < 16777216) (he : Ev te σ2 H y) :
    tYes σ2 H' fun b H3 => if b = true then te σ2 H3 fun y H4 => ∃ acc, H4 D = some (.lst acc) ∧ acc.length < sizeLine ∧ Lc H ys D (i + 1) (upd H4 D (.lst (acc ++ [y]))) else Lc H ys D (i + 1) H3 := by
  obtain ⟨p1, p2, p3⟩ := p
  show te σ2 H' fun y H4 => ∃ acc, H4 D = some (.lst acc) ∧ acc.length < sizeLine ∧ Lc H ys D (i + 1) (upd H4 D (.lst (acc ++ [y])))
  refine he H' p2 _ fun H4 e4 => ⟨ys.take i, e4 D _ p3, ?_, p1, (p2.trans e4).mut p1, ?_⟩
  · rw [sizeLine_eq, List.length_take]
    omega
  · rw [upd_same, List.take_add_one, hi]
    rfl
theorem el_mapL {m : A → Option C} (hm : mapO m xs = some ys) (hx : SqL K H a (xs.map f)) (ha : Ev tl σ H (.ref a)) (hz : xs.length ≤ 16777216) (hw : ∀ x, wipe ((wipe σ vs).set j (some x)) vs = wipe σ vs)
    (he : ∀ x y H1, Ex H H1 → m x = some y → Ev te ((wipe σ vs).set j (some (f x))) H1 (g y)) : EvL (tLc (iList K tl) (gName j) tYes te vs) σ H (ys.map g) := by
  obtain ⟨hl, hs⟩ := mapO_some hm
  refine fun H0 e Q q => ha H0 e _ fun H1 e1 => ⟨a, rfl, ⟨xs.map f, Evl.ex_l (e.trans e1) hx⟩, fun Dl hD =>
    lc_list (xs := xs.map f) (Lc H1 (ys.map g) Dl) ⟨hD, Evl.Ex.new hD, upd_same⟩ (fun i H' _ p => Evl.ex_l ((e.trans e1).trans p.2.1) hx) (fun i v H' hi p => ⟨hw v, ?_⟩) (fun H' p => q Dl H' (Evl.fresh_back e1 p.1) (e1.trans p.2.1) ?_)⟩
  · rw [List.getElem?_map] at hi
    cases hxi : xs[i]? with
    | none => rw [hxi] at hi; cases hi
    | some x =>
      rw [hxi] at hi
      cases hi
      obtain ⟨y, hy, hf⟩ := hs i x hxi
      have hlt := (List.getElem?_eq_some_iff.mp hxi).1
      exact lc_turn p (y := g y) (by rw [List.getElem?_map, hy]; rfl) (by omega) (he x y H1 (e.trans e1) hf)
  · have := p.2.2
    rw [List.length_map, ← hl, List.take_of_length_le (by rw [List.length_map]; exact Nat.le_refl _)] at this
    exact this
theorem el_mapLN {m : A → Option C} (hm : mapO m xs = some ys) (ha : EvL tl σ H (xs.map f)) (hz : xs.length ≤ 16777216) (hw : ∀ x, wipe ((wipe σ vs).set j (some x)) vs = wipe σ vs)
    (he : ∀ x y H1, Ex H H1 → m x = some y → Ev te ((wipe σ vs).set j (some (f x))) H1 (g y)) : EvL (tLc (iList K tl) (gName j) tYes te vs) σ H (ys.map g) := by
  obtain ⟨hl, hs⟩ := mapO_some hm
  refine fun H0 e Q q => ha H0 e _ fun a H1 _ e1 hx => ⟨a, rfl, ⟨xs.map f, Evl.sq_of hx⟩, fun Dl hD =>
    lc_list (xs := xs.map f) (Lc H1 (ys.map g) Dl) ⟨hD, Evl.Ex.new hD, upd_same⟩ (fun i H' _ p => Evl.sq_of (p.2.1 _ _ hx)) (fun i v H' hi p => ⟨hw v, ?_⟩) (fun H' p => q Dl H' (Evl.fresh_back e1 p.1) (e1.trans p.2.1) ?_)⟩
  · rw [List.getElem?_map] at hi
    cases hxi : xs[i]? with
    | none => rw [hxi] at hi; cases hi
    | some x =>
      rw [hxi] at hi
      cases hi
      obtain ⟨y, hy, hf⟩ := hs i x hxi
      have hlt := (List.getElem?_eq_some_iff.mp hxi).1
      exact lc_turn p (y := g y) (by rw [List.getElem?_map, hy]; rfl) (by omega) (he x y H1 (e.trans e1) hf)
  · have := p.2.2
    rw [List.length_map, ← hl, List.take_of_length_le (by rw [List.length_map]; exact Nat.le_refl _)] at this
    exact this
theorem rngI_at {lo hi : Int} {i : Nat} {x : Int} (h : (rngI lo hi)[i]? = some x) : x = lo + (i : Int) ∧ i < (hi - lo).toNat := by
  unfold rngI at h
  rw [List.getElem?_map] at h
  cases e : (List.range (hi - lo).toNat)[i]? with
  | none => rw [e] at h; cases h
  | some k =>
    rw [e] at h
    obtain ⟨h1, h2⟩ := List.getElem?_eq_some_iff.mp e
    rw [List.length_range] at h1
    rw [List.getElem_range] at h2
    cases h
    rw [← h2]
    exact ⟨rfl, h1⟩
theorem rngI_get {lo hi : Int} {i : Nat} (h : i < (hi - lo).toNat) : (rngI lo hi)[i]? = some (lo + (i : Int)) := by
  unfold rngI
  rw [List.getElem?_map, List.getElem?_range h]
  rfl
theorem rngI_length (lo hi : Int) : (rngI lo hi).length = (hi - lo).toNat := by
  unfold rngI
  rw [List.length_map, List.length_range]
theorem el_mapR2 {tA : TA} {lo hi : Int} {rs : List Int} {m : Int → Option C} (hr : rngC lo hi = some rs) (hm : mapO m rs = some ys) (ha : EvA tA σ H [.int lo, .int hi]) (hz : rs.length ≤ 16777216) (hw : ∀ x, wipe ((wipe σ vs).set j (some x)) vs = wipe σ vs)
    (he : ∀ x y H1, Ex H H1 → m x = some y → Ev te ((wipe σ vs).set j (some (.int x))) H1 (g y)) : EvL (tLc (iRng2 tA) (gName j) tYes te vs) σ H (ys.map g) := by
  obtain ⟨⟨r1, r2, r3, r4⟩, rfl⟩ := of_grd hr
  obtain ⟨hl, hs⟩ := mapO_some hm
  rw [rngI_length] at hl hz
  refine fun H0 e Q q => ha H0 e _ fun H1 e1 => ⟨lo, hi, rfl, ⟨r1, r2, r3, r4⟩, fun Dl hD =>
    lc_range (lo := lo) (n := (hi - lo).toNat) (Lc H1 (ys.map g) Dl) ⟨hD, Evl.Ex.new hD, upd_same⟩ (fun i H' hi' p => ⟨hw _, ?_⟩) (fun H' p => q Dl H' (Evl.fresh_back e1 p.1) (e1.trans p.2.1) ?_)⟩
  · obtain ⟨y, hy, hf⟩ := hs i _ (rngI_get hi')
    exact lc_turn p (y := g y) (by rw [List.getElem?_map, hy]; rfl) (by omega) (he _ y H1 (e.trans e1) hf)
  · have := p.2.2
    rw [← hl, List.take_of_length_le (by rw [List.length_map]; exact Nat.le_refl _)] at this
    exact this
theorem el_mapR1 {tA : TA} {hi : Int} {rs : List Int} {m : Int → Option C} (hr : rngC 0 hi = some rs) (hm : mapO m rs = some ys) (ha : EvA tA σ H [.int hi]) (hz : rs.length ≤ 16777216) (hw : ∀ x, wipe ((wipe σ vs).set j (some x)) vs = wipe σ vs)
    (he : ∀ x y H1, Ex H H1 → m x = some y → Ev te ((wipe σ vs).set j (some (.int x))) H1 (g y)) : EvL (tLc (iRng1 tA) (gName j) tYes te vs) σ H (ys.map g) := by
  obtain ⟨⟨r1, r2, r3, r4⟩, rfl⟩ := of_grd hr
  obtain ⟨hl, hs⟩ := mapO_some hm
  rw [rngI_length] at hl hz
  have e0 : (hi - 0).toNat = hi.toNat := by rw [Int.sub_zero]
  rw [e0] at hl hz
  refine fun H0 e Q q => ha H0 e _ fun H1 e1 => ⟨hi, rfl, r3, r4, fun Dl hD =>
    lc_range (lo := 0) (n := hi.toNat) (Lc H1 (ys.map g) Dl) ⟨hD, Evl.Ex.new hD, upd_same⟩ (fun i H' hi' p => ⟨hw _, ?_⟩) (fun H' p => q Dl H' (Evl.fresh_back e1 p.1) (e1.trans p.2.1) ?_)⟩
  · obtain ⟨y, hy, hf⟩ := hs i _ (rngI_get (lo := 0) (by rw [e0]; exact hi'))
    exact lc_turn p (y := g y) (by rw [List.getElem?_map, hy]; rfl) (by omega) (he _ y H1 (e.trans e1) hf)
  · have := p.2.2
    rw [← hl, List.take_of_length_le (by rw [List.length_map]; exact Nat.le_refl _)] at this
    exact this
end

/-! ### statements: the heap's state F goes on from one to the next -/
section
variable {K : PySem.W.Frag} {σ σ' : L2.St} {B H H' : Hp} {cs cs' : List (Addr × HO)} {ta tb te tx : TE} {t u : TT} {x y z v : V} {D : Ends} {tu tw tz : TS} {i j k : Nat} {p : Addr} {A : Type} {f : A → V}
theorem g_asg (F : Fr B cs H) (h : Ev te σ H v) (hσ : σ.set i (some v) = σ') (k : ∀ H1, Fr B cs H1 → tz D σ' H1) : tSeq (tAsg te (gName i)) tz D σ H := by
  subst hσ
  exact Evl.q_asg h fun H1 e => k H1 (F.ex e)
theorem g_asgL (F : Fr B cs H) {zs : List V} (h : EvL te σ H zs) (k : ∀ p H1, Fr B (cs ++ [(p, .lst zs)]) H1 → tz D (σ.set i (some (.ref p))) H1) : tSeq (tAsg te (gName i)) tz D σ H :=
  Evl.q_asgL h fun p H1 hp e h1 => k p H1 (F.add hp e h1)
theorem g_asgU (F : Fr B cs H) {zs : List V} (h : EvU te σ H zs) (k : ∀ p H1, Fr B (cs ++ [(p, .tup zs)]) H1 → tz D (σ.set i (some (.ref p))) H1) : tSeq (tAsg te (gName i)) tz D σ H :=
  Evl.q_asgU h fun p H1 hp e h1 => k p H1 (F.add hp e h1)
theorem g_ret (F : Fr B cs H) (h : Ev te σ H v) (k : ∀ H1, Fr B cs H1 → D.rt v H1) : tRet te D σ H := Evl.s_ret h fun H1 e => k H1 (F.ex e)
theorem g_retL (F : Fr B cs H) {zs : List V} (h : EvL te σ H zs) (k : ∀ p H1, Fr B (cs ++ [(p, .lst zs)]) H1 → D.rt (.ref p) H1) : tRet te D σ H := Evl.s_retL h fun p H1 hp e h1 => k p H1 (F.add hp e h1)
theorem g_retU (F : Fr B cs H) {zs : List V} (h : EvU te σ H zs) (k : ∀ p H1, Fr B (cs ++ [(p, .tup zs)]) H1 → D.rt (.ref p) H1) : tRet te D σ H := Evl.s_retU h fun p H1 hp e h1 => k p H1 (F.add hp e h1)
theorem g_aug {r : R2} (F : Fr B cs H) (hx : σ[i]? = some (some x)) (h : Ev te σ H y) (hr : RV r x y H z) (hσ : σ.set i (some z) = σ') (k : ∀ H1, Fr B cs H1 → tz D σ' H1) : tSeq (tAug i te r) tz D σ H := by
  subst hσ
  exact ⟨x, hx, h H (Ex.refl H) _ fun H1 e => hr H1 e _ fun H2 e2 => k H2 (F.ex (e.trans e2))⟩
theorem g_drop (F : Fr B cs H) (h : Ev te σ H v) (k : ∀ H1, Fr B cs H1 → tz D σ H1) : tSeq (tDrop te) tz D σ H := Evl.q_drop h fun H1 e => k H1 (F.ex e)
/-- xs.append(e) -/
theorem g_app {xs zs : List A} {w : A} (F : Fr B cs H) (hm : appC xs w = some zs) (hi : cs[i]? = some (p, .lst (xs.map f))) (ha : Ev ta σ H (.ref p)) (h : Ev te σ H (f w)) (hcs : cs.set i (p, .lst (zs.map f)) = cs') (k : ∀ H1, Fr B cs' H1 → tz D σ H1) :
    tSeq (tDrop (tBM K "list" rAppend ta (tCons te tNil))) tz D σ H := by
  subst hcs
  obtain ⟨hz, rfl⟩ := of_grd hm
  have hl := F.get i hi
  refine ha H (Ex.refl H) _ fun H1 e1 => ⟨Or.inl ⟨rfl, xs.map f, Evl.sq_of (e1 p _ hl)⟩, h H1 e1 _ fun H2 e2 => ⟨p, xs.map f, f w, rfl, rfl, e2 p _ (e1 p _ hl), by rw [List.length_map, sizeLine_eq]; exact hz, ?_⟩⟩
  have := (F.ex (e1.trans e2)).upd i (o' := .lst ((xs ++ [w]).map f)) hi
  rw [List.map_append] at this
  rw [List.map_append] at k
  exact k _ this
/-- xs.extend(new) -/
theorem g_extN {xs ys zs : List A} (F : Fr B cs H) (hm : catC xs ys = some zs) (hi : cs[i]? = some (p, .lst (xs.map f))) (ha : Ev ta σ H (.ref p)) (h : EvL te σ H (ys.map f)) (hcs : cs.set i (p, .lst (zs.map f)) = cs') (k : ∀ H1, Fr B cs' H1 → tz D σ H1) :
    tSeq (tDrop (tBM K "list" rExtend ta (tCons te tNil))) tz D σ H := by
  subst hcs
  obtain ⟨hz, rfl⟩ := of_grd hm
  have hl := F.get i hi
  refine ha H (Ex.refl H) _ fun H1 e1 => ⟨Or.inl ⟨rfl, xs.map f, Evl.sq_of (e1 p _ hl)⟩, h H1 e1 _ fun q H2 _ e2 h2 => ⟨p, q, xs.map f, ys.map f, rfl, rfl, e2 p _ (e1 p _ hl), h2, by rw [List.length_map, List.length_map, sizeLine_eq]; exact hz, ?_⟩⟩
  have := (F.ex (e1.trans e2)).upd i (o' := .lst ((xs ++ ys).map f)) hi
  rw [List.map_append] at this
  rw [List.map_append] at k
  exact k _ this
theorem g_ext {xs ys zs : List A} {q : Addr} (F : Fr B cs H) (hm : catC xs ys = some zs) (hi : cs[i]? = some (p, .lst (xs.map f))) (ha : Ev ta σ H (.ref p)) (hq : H q = some (.lst (ys.map f))) (h : Ev te σ H (.ref q)) (hcs : cs.set i (p, .lst (zs.map f)) = cs') (k : ∀ H1, Fr B cs' H1 → tz D σ H1) :
    tSeq (tDrop (tBM K "list" rExtend ta (tCons te tNil))) tz D σ H := by
  subst hcs
  obtain ⟨hz, rfl⟩ := of_grd hm
  have hl := F.get i hi
  refine ha H (Ex.refl H) _ fun H1 e1 => ⟨Or.inl ⟨rfl, xs.map f, Evl.sq_of (e1 p _ hl)⟩, h H1 e1 _ fun H2 e2 => ⟨p, q, xs.map f, ys.map f, rfl, rfl, e2 p _ (e1 p _ hl), e2 _ _ (e1 _ _ hq), by rw [List.length_map, List.length_map, sizeLine_eq]; exact hz, ?_⟩⟩
  have := (F.ex (e1.trans e2)).upd i (o' := .lst ((xs ++ ys).map f)) hi
  rw [List.map_append] at this
  rw [List.map_append] at k
  exact k _ this
/-- xs[n] = e -/
theorem g_set {xs zs : List A} {w : A} {n : Int} (F : Fr B cs H) (hm : setC xs n w = some zs) (hi : cs[i]? = some (p, .lst (xs.map f))) (h : Ev te σ H (f w)) (ha : Ev ta σ H (.ref p)) (hb : Ev tb σ H (.int n)) (hcs : cs.set i (p, .lst (zs.map f)) = cs') (k : ∀ H1, Fr B cs' H1 → tz D σ H1) :
    tSeq (tAsg te (gSub ta tb rSetL)) tz D σ H := by
  subst hcs
  unfold setC at hm
  cases hj : ixN xs.length n with
  | none => rw [hj] at hm; cases hm
  | some j =>
    rw [hj] at hm
    cases hm
    have hl := F.get i hi
    refine h H (Ex.refl H) _ fun H1 e1 => ha H1 e1 _ fun H2 e2 => hb H2 (e1.trans e2) _ fun H3 e3 => ⟨p, xs.map f, n, j, rfl, rfl, ((e1.trans e2).trans e3) p _ hl, by rw [List.length_map]; exact hj, ?_⟩
    have := (F.ex ((e1.trans e2).trans e3)).upd i (o' := .lst ((xs.set j w).map f)) hi
    rw [List.map_set] at this
    rw [List.map_set] at k
    exact k _ this
/-- if: a way at a time -/
theorem g_if (F : Fr B cs H) {b : Bool} (h : EvT t σ H b) (h1 : b = true → ∀ H1, Fr B cs H1 → tu { D with nx := tz D } σ H1) (h2 : b = false → ∀ H1, Fr B cs H1 → tw { D with nx := tz D } σ H1) : tSeq (tIfS t tu tw) tz D σ H :=
  Evl.q_if h (fun hb H1 e => h1 hb H1 (F.ex e)) (fun hb H1 e => h2 hb H1 (F.ex e))
theorem s_if (F : Fr B cs H) {b : Bool} (h : EvT t σ H b) (h1 : b = true → ∀ H1, Fr B cs H1 → tu D σ H1) (h2 : b = false → ∀ H1, Fr B cs H1 → tw D σ H1) : tIfS t tu tw D σ H :=
  Evl.s_if h (fun hb H1 e => h1 hb H1 (F.ex e)) (fun hb H1 e => h2 hb H1 (F.ex e))
theorem g_when (F : Fr B cs H) {b : Bool} (h : EvT t σ H b) (h1 : b = true → ∀ H1, Fr B cs H1 → tu { D with nx := tz D } σ H1) (h2 : b = false → ∀ H1, Fr B cs H1 → tz D σ H1) : tSeq (tIfS t tu tNext) tz D σ H :=
  Evl.q_when h (fun hb H1 e => h1 hb H1 (F.ex e)) (fun hb H1 e => h2 hb H1 (F.ex e))
theorem s_when (F : Fr B cs H) {b : Bool} (h : EvT t σ H b) (h1 : b = true → ∀ H1, Fr B cs H1 → tu D σ H1) (h2 : b = false → ∀ H1, Fr B cs H1 → D.nx σ H1) : tIfS t tu tNext D σ H :=
  Evl.s_when h (fun hb H1 e => h1 hb H1 (F.ex e)) (fun hb H1 e => h2 hb H1 (F.ex e))
end
/-! ### rules whose written part K is told -/
section
variable {X : Cx} {K : PySem.W.Frag}
theorem kLen (h : X.K = K := by rfl) : CallR X (.builtin "len") (rLen K) := h ▸ cr_len
theorem kLst (h : X.K = K := by rfl) : CallR X (.type "list") (rLst K) := h ▸ cr_list
theorem kIx (h : X.K = K := by rfl) : IxR X (rIxL K) := h ▸ ix_list
theorem kIxT (h : X.K = K := by rfl) : IxR X (rIxT K) := h ▸ ix_tup
theorem kSl (h : X.K = K := by rfl) : SlR X (rSlL K) := h ▸ sl_list
theorem kEq (hu : X.A.units + 64 < cLine) (h : X.K = K := by rfl) : OpR X (compareOp .Eq) (rEqD K) := h ▸ op_eqD hu
theorem kNe (hu : X.A.units + 64 < cLine) (h : X.K = K := by rfl) : OpR X (compareOp .NotEq) (rNeD K) := h ▸ op_neD hu
theorem kIsi (h : X.K = K := by rfl) : CallR X (.builtin "isinstance") (rIsi K) := h ▸ call_isi
theorem kSum (hc : X.calm = true) (h : X.K = K := by rfl) : CallR X (.builtin "sum") (rSum K) := h ▸ cr_sum hc
theorem kAll (hc : X.calm = true) (h : X.K = K := by rfl) : CallR X (.builtin "all") (rAll K) := h ▸ cr_all hc
theorem kAny (hc : X.calm = true) (h : X.K = K := by rfl) : CallR X (.builtin "any") (rAny K) := h ▸ cr_any hc
theorem kpi_list {tg l : Expr} {tl : TE} (hl : PE X l tl) (h : X.K = K := by rfl) : PI X tg l (iList K tl) := h ▸ pi_list hl
end
/-- a reading at slots told otherwise -/
theorem sl {t : L2.St → Hp → Prop} {σ σ' : L2.St} {H : Hp} (e : σ = σ') (h : t σ' H) : t σ H := e ▸ h
/-! ### loops -/
section
variable {K : PySem.W.Frag} {σ : L2.St} {B H : Hp} {cs : List (Addr × HO)} {tl : TE} {D : Ends} {tu tz : TS} {j : Nat} {a : Addr} {A S R : Type} {f : A → V} {xs : List A}
/-- the loop's own words of the loop body: N the next turn -/
def Next (J : S → L2.St → Hp → Prop) (r' : Fl S R) (N : L2.St → Hp → Prop) : Prop := ∀ s' σ2 H2, r' = .nx s' → J s' σ2 H2 → N σ2 H2
theorem itF_at {m : A → S → Option (Fl S R)} {r : Fl S R} : ∀ {xs : List A} {x : A} {s : S}, itF m (x :: xs) s = some r → ∃ r', m x s = some r' ∧ (∀ s', r' = .nx s' → itF m xs s' = some r) ∧ (∀ s', r' = .bk s' → r = .nx s') ∧ (∀ q, r' = .rt q → r = .rt q) := by
  intro xs x s h
  obtain ⟨r', h1, h2⟩ := of_bind h
  refine ⟨r', h1, fun s' e => ?_, fun s' e => ?_, fun q e => ?_⟩
  · subst e
    exact h2
  · subst e
    exact (Option.some.inj h2).symm
  · subst e
    exact (Option.some.inj h2).symm
theorem w_forF {m : A → S → Option (Fl S R)} {s0 : S} {r : Fl S R} (hm : itF m xs s0 = some r) (J : S → L2.St → Hp → Prop) (ha : Ev tl σ H (.ref a)) (hx : SqL K H a (xs.map f)) (h0 : ∀ H1, Ex H H1 → J s0 σ H1)
    (hl : ∀ s σ' H', J s σ' H' → SqL K H' a (xs.map f)) (hd : ∀ s σ' H', r = .nx s → J s σ' H' → tz D σ' H')
    (hs : ∀ x s r' σ' H' (N : L2.St → Hp → Prop), m x s = some r' → J s σ' H' → (∀ s', r' = .bk s' → r = .nx s') → (∀ q, r' = .rt q → r = .rt q) → (∀ s' σ2 H2, r = .nx s' → J s' σ2 H2 → tz D σ2 H2) → (∀ s' σ2 H2, r' = .nx s' → J s' σ2 H2 → N σ2 H2) → tu { D with nx := N, ct := N, bk := tz D } (σ'.set j (some (f x))) H') :
    tSeq (tFor (iList K tl) (gName j) tu) tz D σ H := by
  refine Evl.q_forLn ha hx (fun i σ' H' => ∃ s, itF m (xs.drop i) s = some r ∧ J s σ' H') (fun H1 e => ⟨s0, hm, h0 H1 e⟩) (fun i σ' H' _ ⟨s, _, h⟩ => hl s σ' H' h) ?_ ?_
  · rintro i v σ' H' hi ⟨s, hm', hJ⟩
    rw [List.getElem?_map] at hi
    cases hxi : xs[i]? with
    | none => rw [hxi] at hi; cases hi
    | some x =>
      rw [hxi] at hi
      cases hi
      have ed : xs.drop i = x :: xs.drop (i + 1) := by
        obtain ⟨h1, h2⟩ := List.getElem?_eq_some_iff.mp hxi
        rw [List.drop_eq_getElem_cons h1, h2]
      rw [ed] at hm'
      obtain ⟨r', e1, e2, e3, e4⟩ := itF_at hm'
      refine hs x s r' σ' H' _ e1 hJ e3 e4 hd fun s' σ2 H2 er hJ2 => ⟨s', e2 s' er, hJ2⟩
  · rintro σ' H' ⟨s, hm', hJ⟩
    rw [List.length_map, List.drop_of_length_le (Nat.le_refl _)] at hm'
    cases hm'
    exact hd s σ' H' rfl hJ
theorem itM_at {m : A → S → Option S} {r : S} {xs : List A} {x : A} {s : S} (h : itM m (x :: xs) s = some r) : ∃ s', m x s = some s' ∧ itM m xs s' = some r := of_bind h
theorem w_forM {m : A → S → Option S} {s0 r : S} (hm : itM m xs s0 = some r) (J : S → L2.St → Hp → Prop) (ha : Ev tl σ H (.ref a)) (hx : SqL K H a (xs.map f)) (h0 : ∀ H1, Ex H H1 → J s0 σ H1)
    (hl : ∀ s σ' H', J s σ' H' → SqL K H' a (xs.map f)) (hd : ∀ σ' H', J r σ' H' → tz D σ' H')
    (hs : ∀ x s r' σ' H' (N : L2.St → Hp → Prop), m x s = some r' → J s σ' H' → (∀ σ2 H2, J r' σ2 H2 → N σ2 H2) → tu { D with nx := N, ct := N, bk := tz D } (σ'.set j (some (f x))) H') :
    tSeq (tFor (iList K tl) (gName j) tu) tz D σ H := by
  refine Evl.q_forLn ha hx (fun i σ' H' => ∃ s, itM m (xs.drop i) s = some r ∧ J s σ' H') (fun H1 e => ⟨s0, hm, h0 H1 e⟩) (fun i σ' H' _ ⟨s, _, h⟩ => hl s σ' H' h) ?_ ?_
  · rintro i v σ' H' hi ⟨s, hm', hJ⟩
    rw [List.getElem?_map] at hi
    cases hxi : xs[i]? with
    | none => rw [hxi] at hi; cases hi
    | some x =>
      rw [hxi] at hi
      cases hi
      have ed : xs.drop i = x :: xs.drop (i + 1) := by
        obtain ⟨h1, h2⟩ := List.getElem?_eq_some_iff.mp hxi
        rw [List.drop_eq_getElem_cons h1, h2]
      rw [ed] at hm'
      obtain ⟨r', e1, e2⟩ := itM_at hm'
      exact hs x s r' σ' H' _ e1 hJ fun σ2 H2 hJ2 => ⟨r', e2, hJ2⟩
  · rintro σ' H' ⟨s, hm', hJ⟩
    rw [List.length_map, List.drop_of_length_le (Nat.le_refl _)] at hm'
    cases hm'
    exact hd σ' H' hJ
/-- over a range -/
theorem w_rngF2 {tA : TA} {lo hi : Int} {rs : List Int} {m : Int → S → Option (Fl S R)} {s0 : S} {r : Fl S R} (hr : rngC lo hi = some rs) (hm : itF m rs s0 = some r) (J : S → L2.St → Hp → Prop) (ha : EvA tA σ H [.int lo, .int hi]) (h0 : ∀ H1, Ex H H1 → J s0 σ H1)
    (hd : ∀ s σ' H', r = .nx s → J s σ' H' → tz D σ' H')
    (hs : ∀ x s r' σ' H' (N : L2.St → Hp → Prop), m x s = some r' → J s σ' H' → (∀ s', r' = .bk s' → r = .nx s') → (∀ q, r' = .rt q → r = .rt q) → (∀ s' σ2 H2, r = .nx s' → J s' σ2 H2 → tz D σ2 H2) → (∀ s' σ2 H2, r' = .nx s' → J s' σ2 H2 → N σ2 H2) → tu { D with nx := N, ct := N, bk := tz D } (σ'.set j (some (.int x))) H') :
    tSeq (tFor (iRng2 tA) (gName j) tu) tz D σ H := by
  obtain ⟨⟨r1, r2, r3, r4⟩, rfl⟩ := of_grd hr
  refine ha H (Ex.refl H) _ fun H1 e => ⟨lo, hi, rfl, ⟨r1, r2, r3, r4⟩, for_range (lo := lo) (n := (hi - lo).toNat) (D := { D with nx := tz D }) (fun i σ' H' => ∃ s, itF m ((rngI lo hi).drop i) s = some r ∧ J s σ' H') ⟨s0, hm, h0 H1 e⟩ ?_ ?_⟩
  · rintro i σ' H' hi' ⟨s, hm', hJ⟩
    have ed : (rngI lo hi).drop i = (lo + (i : Int)) :: (rngI lo hi).drop (i + 1) := by
      obtain ⟨h1, h2⟩ := List.getElem?_eq_some_iff.mp (rngI_get hi')
      rw [List.drop_eq_getElem_cons h1, h2]
    rw [ed] at hm'
    obtain ⟨r', e1, e2, e3, e4⟩ := itF_at hm'
    exact hs _ s r' σ' H' _ e1 hJ e3 e4 hd fun s' σ2 H2 er hJ2 => ⟨s', e2 s' er, hJ2⟩
  · rintro σ' H' ⟨s, hm', hJ⟩
    rw [List.drop_of_length_le (by rw [rngI_length]; exact Nat.le_refl _)] at hm'
    cases hm'
    exact hd s σ' H' rfl hJ
theorem w_rngM2 {tA : TA} {lo hi : Int} {rs : List Int} {m : Int → S → Option S} {s0 r : S} (hr : rngC lo hi = some rs) (hm : itM m rs s0 = some r) (J : S → L2.St → Hp → Prop) (ha : EvA tA σ H [.int lo, .int hi]) (h0 : ∀ H1, Ex H H1 → J s0 σ H1)
    (hd : ∀ σ' H', J r σ' H' → tz D σ' H')
    (hs : ∀ x s r' σ' H' (N : L2.St → Hp → Prop), m x s = some r' → J s σ' H' → (∀ σ2 H2, J r' σ2 H2 → N σ2 H2) → tu { D with nx := N, ct := N, bk := tz D } (σ'.set j (some (.int x))) H') :
    tSeq (tFor (iRng2 tA) (gName j) tu) tz D σ H := by
  obtain ⟨⟨r1, r2, r3, r4⟩, rfl⟩ := of_grd hr
  refine ha H (Ex.refl H) _ fun H1 e => ⟨lo, hi, rfl, ⟨r1, r2, r3, r4⟩, for_range (lo := lo) (n := (hi - lo).toNat) (D := { D with nx := tz D }) (fun i σ' H' => ∃ s, itM m ((rngI lo hi).drop i) s = some r ∧ J s σ' H') ⟨s0, hm, h0 H1 e⟩ ?_ ?_⟩
  · rintro i σ' H' hi' ⟨s, hm', hJ⟩
    have ed : (rngI lo hi).drop i = (lo + (i : Int)) :: (rngI lo hi).drop (i + 1) := by
      obtain ⟨h1, h2⟩ := List.getElem?_eq_some_iff.mp (rngI_get hi')
      rw [List.drop_eq_getElem_cons h1, h2]
    rw [ed] at hm'
    obtain ⟨r', e1, e2⟩ := itM_at hm'
    exact hs _ s r' σ' H' _ e1 hJ fun σ2 H2 hJ2 => ⟨r', e2, hJ2⟩
  · rintro σ' H' ⟨s, hm', hJ⟩
    rw [List.drop_of_length_le (by rw [rngI_length]; exact Nat.le_refl _)] at hm'
    cases hm'
    exact hd σ' H' hJ
theorem w_rngF1 {tA : TA} {hi : Int} {rs : List Int} {m : Int → S → Option (Fl S R)} {s0 : S} {r : Fl S R} (hr : rngC 0 hi = some rs) (hm : itF m rs s0 = some r) (J : S → L2.St → Hp → Prop) (ha : EvA tA σ H [.int hi]) (h0 : ∀ H1, Ex H H1 → J s0 σ H1)
    (hd : ∀ s σ' H', r = .nx s → J s σ' H' → tz D σ' H')
    (hs : ∀ x s r' σ' H' (N : L2.St → Hp → Prop), m x s = some r' → J s σ' H' → (∀ s', r' = .bk s' → r = .nx s') → (∀ q, r' = .rt q → r = .rt q) → (∀ s' σ2 H2, r = .nx s' → J s' σ2 H2 → tz D σ2 H2) → (∀ s' σ2 H2, r' = .nx s' → J s' σ2 H2 → N σ2 H2) → tu { D with nx := N, ct := N, bk := tz D } (σ'.set j (some (.int x))) H') :
    tSeq (tFor (iRng1 tA) (gName j) tu) tz D σ H := by
  obtain ⟨⟨r1, r2, r3, r4⟩, rfl⟩ := of_grd hr
  refine ha H (Ex.refl H) _ fun H1 e => ⟨hi, rfl, r3, r4, for_range (lo := 0) (n := hi.toNat) (D := { D with nx := tz D }) (fun i σ' H' => ∃ s, itF m ((rngI 0 hi).drop i) s = some r ∧ J s σ' H') ⟨s0, hm, h0 H1 e⟩ ?_ ?_⟩
  · rintro i σ' H' hi' ⟨s, hm', hJ⟩
    have ed : (rngI 0 hi).drop i = (0 + (i : Int)) :: (rngI 0 hi).drop (i + 1) := by
      obtain ⟨h1, h2⟩ := List.getElem?_eq_some_iff.mp (rngI_get (lo := 0) (by rw [Int.sub_zero]; exact hi'))
      rw [List.drop_eq_getElem_cons h1, h2]
    rw [ed] at hm'
    obtain ⟨r', e1, e2, e3, e4⟩ := itF_at hm'
    exact hs _ s r' σ' H' _ e1 hJ e3 e4 hd fun s' σ2 H2 er hJ2 => ⟨s', e2 s' er, hJ2⟩
  · rintro σ' H' ⟨s, hm', hJ⟩
    rw [List.drop_of_length_le (by rw [rngI_length, Int.sub_zero]; exact Nat.le_refl _)] at hm'
    cases hm'
    exact hd s σ' H' rfl hJ
theorem w_rngM1 {tA : TA} {hi : Int} {rs : List Int} {m : Int → S → Option S} {s0 r : S} (hr : rngC 0 hi = some rs) (hm : itM m rs s0 = some r) (J : S → L2.St → Hp → Prop) (ha : EvA tA σ H [.int hi]) (h0 : ∀ H1, Ex H H1 → J s0 σ H1)
    (hd : ∀ σ' H', J r σ' H' → tz D σ' H')
    (hs : ∀ x s r' σ' H' (N : L2.St → Hp → Prop), m x s = some r' → J s σ' H' → (∀ σ2 H2, J r' σ2 H2 → N σ2 H2) → tu { D with nx := N, ct := N, bk := tz D } (σ'.set j (some (.int x))) H') :
    tSeq (tFor (iRng1 tA) (gName j) tu) tz D σ H := by
  obtain ⟨⟨r1, r2, r3, r4⟩, rfl⟩ := of_grd hr
  refine ha H (Ex.refl H) _ fun H1 e => ⟨hi, rfl, r3, r4, for_range (lo := 0) (n := hi.toNat) (D := { D with nx := tz D }) (fun i σ' H' => ∃ s, itM m ((rngI 0 hi).drop i) s = some r ∧ J s σ' H') ⟨s0, hm, h0 H1 e⟩ ?_ ?_⟩
  · rintro i σ' H' hi' ⟨s, hm', hJ⟩
    have ed : (rngI 0 hi).drop i = (0 + (i : Int)) :: (rngI 0 hi).drop (i + 1) := by
      obtain ⟨h1, h2⟩ := List.getElem?_eq_some_iff.mp (rngI_get (lo := 0) (by rw [Int.sub_zero]; exact hi'))
      rw [List.drop_eq_getElem_cons h1, h2]
    rw [ed] at hm'
    obtain ⟨r', e1, e2⟩ := itM_at hm'
    exact hs _ s r' σ' H' _ e1 hJ fun σ2 H2 hJ2 => ⟨r', e2, hJ2⟩
  · rintro σ' H' ⟨s, hm', hJ⟩
    rw [List.drop_of_length_le (by rw [rngI_length, Int.sub_zero]; exact Nat.le_refl _)] at hm'
    cases hm'
    exact hd σ' H' hJ
/-- over a new list, at p -/
theorem w_forFN {m : A → S → Option (Fl S R)} {s0 : S} {r : Fl S R} (hm : itF m xs s0 = some r) (J : Addr → S → L2.St → Hp → Prop) (F : Fr B cs H) (ha : EvL tl σ H (xs.map f)) (h0 : ∀ p H1, Fr B (cs ++ [(p, .lst (xs.map f))]) H1 → J p s0 σ H1)
    (hl : ∀ p s σ' H', J p s σ' H' → SqL K H' p (xs.map f)) (hd : ∀ p s σ' H', r = .nx s → J p s σ' H' → tz D σ' H')
    (hs : ∀ p x s r' σ' H' (N : L2.St → Hp → Prop), m x s = some r' → J p s σ' H' → (∀ s', r' = .bk s' → r = .nx s') → (∀ q, r' = .rt q → r = .rt q) → (∀ s' σ2 H2, r = .nx s' → J p s' σ2 H2 → tz D σ2 H2) → (∀ s' σ2 H2, r' = .nx s' → J p s' σ2 H2 → N σ2 H2) → tu { D with nx := N, ct := N, bk := tz D } (σ'.set j (some (f x))) H') :
    tSeq (tFor (iList K tl) (gName j) tu) tz D σ H := by
  refine Evl.q_forNLn ha (fun p i σ' H' => ∃ s, itF m (xs.drop i) s = some r ∧ J p s σ' H') (fun p H1 hp e h1 => ⟨s0, hm, h0 p H1 (F.add hp e h1)⟩) (fun p i σ' H' _ ⟨s, _, h⟩ => hl p s σ' H' h) ?_ ?_
  · rintro p i v σ' H' hi ⟨s, hm', hJ⟩
    rw [List.getElem?_map] at hi
    cases hxi : xs[i]? with
    | none => rw [hxi] at hi; cases hi
    | some x =>
      rw [hxi] at hi
      cases hi
      have ed : xs.drop i = x :: xs.drop (i + 1) := by
        obtain ⟨h1, h2⟩ := List.getElem?_eq_some_iff.mp hxi
        rw [List.drop_eq_getElem_cons h1, h2]
      rw [ed] at hm'
      obtain ⟨r', e1, e2, e3, e4⟩ := itF_at hm'
      exact hs p x s r' σ' H' _ e1 hJ e3 e4 (hd p) fun s' σ2 H2 er hJ2 => ⟨s', e2 s' er, hJ2⟩
  · rintro p σ' H' ⟨s, hm', hJ⟩
    rw [List.length_map, List.drop_of_length_le (Nat.le_refl _)] at hm'
    cases hm'
    exact hd p s σ' H' rfl hJ
theorem w_forMN {m : A → S → Option S} {s0 r : S} (hm : itM m xs s0 = some r) (J : Addr → S → L2.St → Hp → Prop) (F : Fr B cs H) (ha : EvL tl σ H (xs.map f)) (h0 : ∀ p H1, Fr B (cs ++ [(p, .lst (xs.map f))]) H1 → J p s0 σ H1)
    (hl : ∀ p s σ' H', J p s σ' H' → SqL K H' p (xs.map f)) (hd : ∀ p σ' H', J p r σ' H' → tz D σ' H')
    (hs : ∀ p x s r' σ' H' (N : L2.St → Hp → Prop), m x s = some r' → J p s σ' H' → (∀ σ2 H2, J p r' σ2 H2 → N σ2 H2) → tu { D with nx := N, ct := N, bk := tz D } (σ'.set j (some (f x))) H') :
    tSeq (tFor (iList K tl) (gName j) tu) tz D σ H := by
  refine Evl.q_forNLn ha (fun p i σ' H' => ∃ s, itM m (xs.drop i) s = some r ∧ J p s σ' H') (fun p H1 hp e h1 => ⟨s0, hm, h0 p H1 (F.add hp e h1)⟩) (fun p i σ' H' _ ⟨s, _, h⟩ => hl p s σ' H' h) ?_ ?_
  · rintro p i v σ' H' hi ⟨s, hm', hJ⟩
    rw [List.getElem?_map] at hi
    cases hxi : xs[i]? with
    | none => rw [hxi] at hi; cases hi
    | some x =>
      rw [hxi] at hi
      cases hi
      have ed : xs.drop i = x :: xs.drop (i + 1) := by
        obtain ⟨h1, h2⟩ := List.getElem?_eq_some_iff.mp hxi
        rw [List.drop_eq_getElem_cons h1, h2]
      rw [ed] at hm'
      obtain ⟨r', e1, e2⟩ := itM_at hm'
      exact hs p x s r' σ' H' _ e1 hJ fun σ2 H2 hJ2 => ⟨r', e2, hJ2⟩
  · rintro p σ' H' ⟨s, hm', hJ⟩
    rw [List.length_map, List.drop_of_length_le (Nat.le_refl _)] at hm'
    cases hm'
    exact hd p σ' H' hJ
/-- while -/
theorem w_while {t : TT} {c : S → Option Bool} {m : S → Option (Fl S R)} {s0 : S} {r : Fl S R} {n0 : Nat} (hm : whF c m n0 s0 = some r) (J : S → L2.St → Hp → Prop) (h0 : J s0 σ H)
    (hc : ∀ s b σ' H', c s = some b → J s σ' H' → EvT t σ' H' b) (hJ : ∀ s σ' H' H1, J s σ' H' → Ex H' H1 → J s σ' H1) (hd : ∀ s σ' H', r = .nx s → J s σ' H' → tz D σ' H')
    (hs : ∀ s r' σ' H' (N : L2.St → Hp → Prop), m s = some r' → c s = some true → J s σ' H' → (∀ s', r' = .bk s' → r = .nx s') → (∀ q, r' = .rt q → r = .rt q) → (∀ s' σ2 H2, r = .nx s' → J s' σ2 H2 → tz D σ2 H2) → (∀ s' σ2 H2, r' = .nx s' → J s' σ2 H2 → N σ2 H2) → tu { D with nx := N, ct := N, bk := tz D } σ' H') :
    tSeq (tWhile t tu) tz D σ H := by
  refine Evl.q_while (fun n σ' H' => ∃ s, whF c m n s = some r ∧ J s σ' H') n0 ⟨s0, hm, h0⟩ ?_
  rintro n σ' H' ⟨s, hw, hj⟩
  cases n with
  | zero => cases hw
  | succ n =>
    obtain ⟨b, hb, hw⟩ := of_bind hw
    refine ⟨b, hc s b σ' H' hb hj, fun e H1 eH => ?_, fun e H1 eH => ?_⟩
    · subst e
      rw [if_pos rfl] at hw
      obtain ⟨r', hr, hw⟩ := of_bind hw
      refine ⟨fun σ2 H2 => ∃ s', r' = .nx s' ∧ J s' σ2 H2, ?_, hs s r' σ' H1 _ hr hb (hJ _ _ _ _ hj eH) ?_ ?_ hd fun s' σ2 H2 e2 hj2 => ⟨s', e2, hj2⟩⟩
      · rintro σ2 H2 ⟨s', rfl, hj2⟩
        exact ⟨n, Nat.lt_succ_self n, s', hw, hj2⟩
      · rintro s' rfl
        exact (Option.some.inj hw).symm
      · rintro q rfl
        exact (Option.some.inj hw).symm
    · subst e
      rw [if_neg Bool.false_ne_true] at hw
      exact hd s σ' H1 (Option.some.inj hw).symm (hJ _ _ _ _ hj eH)
end
/-- a def that is called by its name -/
structure Cal (K : PySem.W.Frag) (mg : Str → Option Value) (x : Str) (f : Addr) (fd : FuncData) (ps : List Str) : Prop where
  g : mg x = some (.ref f)
  k : PySem.W.keepIn K (.ref f) = true
  b : Binds K fd ps []
end Mn
/-! Cm: the mirrors' combinators in plain Lean -/
namespace Mn
open PySem L2
section
variable {A B C S R : Type}
theorem bind_ok {m : Option A} {f : A → Option B} {x : A} {r : Option B} (h : m = some x) (h2 : f x = r) : m.bind f = r := by subst h; exact h2
theorem itM_inv {f : A → S → Option S} (P : Nat → S → Prop) : ∀ (xs : List A) (s : S) (n : Nat), P n s → (∀ i x s, xs[i]? = some x → P (n + i) s → ∃ s', f x s = some s' ∧ P (n + i + 1) s') → ∃ s', itM f xs s = some s' ∧ P (n + xs.length) s'
  | [], s, n, h0, _ => ⟨s, rfl, h0⟩
  | x :: l, s, n, h0, hs => by
    obtain ⟨s1, h1, p1⟩ := hs 0 x s rfl h0
    obtain ⟨s2, h2, p2⟩ := itM_inv P l s1 (n + 1) p1 (fun i y t hy pt => by
      have e : n + 1 + i = n + (i + 1) := by omega
      rw [e] at pt
      obtain ⟨t', q1, q2⟩ := hs (i + 1) y t hy pt
      exact ⟨t', q1, by rw [e]; exact q2⟩)
    refine ⟨s2, bind_ok h1 h2, ?_⟩
    have e : n + (x :: l).length = n + 1 + l.length := by rw [List.length_cons]; omega
    rw [e]
    exact p2
theorem itM_ok {f : A → S → Option S} (P : Nat → S → Prop) {xs : List A} {s : S} (h0 : P 0 s) (hs : ∀ i x s, xs[i]? = some x → P i s → ∃ s', f x s = some s' ∧ P (i + 1) s') : ∃ s', itM f xs s = some s' ∧ P xs.length s' := by
  have := itM_inv (f := f) P xs s 0 h0 (fun i x s hx hp => by rw [Nat.zero_add] at hp ⊢; exact hs i x s hx hp)
  rw [Nat.zero_add] at this
  exact this
/-- a loop whose turn is a plain function -/
theorem itM_fold {f : A → S → Option S} {g : S → A → S} : ∀ {xs : List A} {s : S}, (∀ x s, x ∈ xs → f x s = some (g s x)) → itM f xs s = some (xs.foldl g s)
  | [], _, _ => rfl
  | x :: l, s, h => bind_ok (h x s List.mem_cons_self) (itM_fold fun y t hy => h y t (List.mem_cons_of_mem _ hy))
theorem itF_inv {f : A → S → Option (Fl S R)} (P : Nat → S → Prop) : ∀ (xs : List A) (s : S) (n : Nat), P n s → (∀ i x s, xs[i]? = some x → P (n + i) s → ∃ s', f x s = some (.nx s') ∧ P (n + i + 1) s') → ∃ s', itF f xs s = some (.nx s') ∧ P (n + xs.length) s'
  | [], s, n, h0, _ => ⟨s, rfl, h0⟩
  | x :: l, s, n, h0, hs => by
    obtain ⟨s1, h1, p1⟩ := hs 0 x s rfl h0
    obtain ⟨s2, h2, p2⟩ := itF_inv P l s1 (n + 1) p1 (fun i y t hy pt => by
      have e : n + 1 + i = n + (i + 1) := by omega
      rw [e] at pt
      obtain ⟨t', q1, q2⟩ := hs (i + 1) y t hy pt
      exact ⟨t', q1, by rw [e]; exact q2⟩)
    refine ⟨s2, bind_ok h1 h2, ?_⟩
    have e : n + (x :: l).length = n + 1 + l.length := by rw [List.length_cons]; omega
    rw [e]
    exact p2
theorem itF_ok {f : A → S → Option (Fl S R)} (P : Nat → S → Prop) {xs : List A} {s : S} (h0 : P 0 s) (hs : ∀ i x s, xs[i]? = some x → P i s → ∃ s', f x s = some (.nx s') ∧ P (i + 1) s') : ∃ s', itF f xs s = some (.nx s') ∧ P xs.length s' := by
  have := itF_inv (f := f) P xs s 0 h0 (fun i x s hx hp => by rw [Nat.zero_add] at hp ⊢; exact hs i x s hx hp)
  rw [Nat.zero_add] at this
  exact this
/-- a loop that may leave: told by what holds at its end -/
theorem itF_way {f : A → S → Option (Fl S R)} (P : Nat → S → Prop) (Q : Fl S R → Prop) : ∀ (xs : List A) (s : S) (n : Nat), P n s → (∀ i x s, xs[i]? = some x → P (n + i) s → ∃ r, f x s = some r ∧ match r with | .nx s' => P (n + i + 1) s' | .bk s' => Q (.nx s') | .rt q => Q (.rt q)) →
    (∀ s, P (n + xs.length) s → Q (.nx s)) → ∃ r, itF f xs s = some r ∧ Q r
  | [], s, n, h0, _, hd => ⟨.nx s, rfl, hd s h0⟩
  | x :: l, s, n, h0, hs, hd => by
    obtain ⟨r, h1, p1⟩ := hs 0 x s rfl h0
    cases r with
    | bk s' => exact ⟨.nx s', bind_ok h1 rfl, p1⟩
    | rt q => exact ⟨.rt q, bind_ok h1 rfl, p1⟩
    | nx s1 =>
      obtain ⟨r2, h2, p2⟩ := itF_way P Q l s1 (n + 1) p1 (fun i y t hy pt => by
        have e : n + 1 + i = n + (i + 1) := by omega
        rw [e] at pt
        obtain ⟨t', q1, q2⟩ := hs (i + 1) y t hy pt
        exact ⟨t', q1, by rw [e]; exact q2⟩) (fun t ht => hd t (by rw [List.length_cons]; have e : n + (l.length + 1) = n + 1 + l.length := by omega
                                                                   rw [e]; exact ht))
      exact ⟨r2, bind_ok h1 h2, p2⟩
theorem whF_inv {c : S → Option Bool} {f : S → Option (Fl S R)} (P : S → Prop) (μ : S → Nat) (Q : S → Prop) : ∀ (n : Nat) (s : S), μ s < n → P s → (∀ s, P s → (c s = some false ∧ Q s) ∨ (c s = some true ∧ ∃ s', f s = some (.nx s') ∧ P s' ∧ μ s' < μ s)) → ∃ s', whF c f n s = some (.nx s') ∧ Q s'
  | 0, s, h, _, _ => absurd h (Nat.not_lt_zero _)
  | n + 1, s, h, hp, hs => by
    rcases hs s hp with ⟨h1, h2⟩ | ⟨h1, s1, h2, h3, h4⟩
    · exact ⟨s, bind_ok h1 (if_neg Bool.false_ne_true), h2⟩
    · obtain ⟨s2, h5, h6⟩ := whF_inv P μ Q n s1 (by omega) h3 hs
      exact ⟨s2, bind_ok h1 ((if_pos rfl).trans (bind_ok h2 h5)), h6⟩
theorem fuel_eq : fuel = 1000000 := rfl
theorem mapO_ok {f : A → Option B} {g : A → B} : ∀ {xs : List A}, (∀ x ∈ xs, f x = some (g x)) → mapO f xs = some (xs.map g)
  | [], _ => rfl
  | x :: l, h => bind_ok (h x List.mem_cons_self) (bind_ok (mapO_ok fun y hy => h y (List.mem_cons_of_mem _ hy)) rfl)
theorem mapO_all {f : A → Option B} {Q : B → Prop} : ∀ {xs : List A}, (∀ x ∈ xs, ∃ y, f x = some y ∧ Q y) → ∃ ys, mapO f xs = some ys ∧ ys.length = xs.length ∧ ∀ y ∈ ys, Q y
  | [], _ => ⟨[], rfl, rfl, fun _ h => (nomatch h)⟩
  | x :: l, h => by
    obtain ⟨y, h1, h2⟩ := h x List.mem_cons_self
    obtain ⟨ys, h3, h4, h5⟩ := mapO_all (Q := Q) fun z hz => h z (List.mem_cons_of_mem _ hz)
    refine ⟨y :: ys, bind_ok h1 (bind_ok h3 rfl), by rw [List.length_cons, List.length_cons, h4], fun z hz => ?_⟩
    rcases List.mem_cons.mp hz with rfl | hz
    · exact h2
    · exact h5 z hz
theorem itM_congr {f g : A → S → Option S} : ∀ {xs : List A} {s : S}, (∀ x s, x ∈ xs → f x s = g x s) → itM f xs s = itM g xs s
  | [], _, _ => rfl
  | x :: l, s, h => by
    show (f x s).bind _ = (g x s).bind _
    rw [h x s List.mem_cons_self]
    congr 1
    funext t
    exact itM_congr fun y u hy => h y u (List.mem_cons_of_mem _ hy)
theorem ex_itF_way {f : A → S → Option (Fl S R)} {g : Fl S R → Option B} {xs : List A} {s : S} {Q : B → Prop} (P : Nat → S → Prop) (W : Fl S R → Prop) (h0 : P 0 s) (hs : ∀ i x s, xs[i]? = some x → P i s → ∃ r, f x s = some r ∧ match r with | .nx s' => P (i + 1) s' | .bk s' => W (.nx s') | .rt q => W (.rt q)) (he : ∀ s, P xs.length s → W (.nx s)) (hd : ∀ r, W r → ∃ y, g r = some y ∧ Q y) : ∃ y, (itF f xs s).bind g = some y ∧ Q y := by
  obtain ⟨r, h1, h2⟩ := itF_way (f := f) P W xs s 0 h0 (fun i x s hx hp => by rw [Nat.zero_add] at hp ⊢; exact hs i x s hx hp) (fun s h => he s (by rw [Nat.zero_add] at h; exact h))
  obtain ⟨y, h3, h4⟩ := hd r h2
  exact ⟨y, bind_ok h1 h3, h4⟩
theorem rngI_mem {lo hi x : Int} : x ∈ rngI lo hi ↔ lo ≤ x ∧ x < hi := by
  unfold rngI
  rw [List.mem_map]
  constructor
  · rintro ⟨i, hi', rfl⟩
    rw [List.mem_range] at hi'
    omega
  · rintro ⟨h1, h2⟩
    exact ⟨(x - lo).toNat, by rw [List.mem_range]; omega, by omega⟩
theorem rngC_ok {lo hi : Int} (h1 : -(2 ^ 62) ≤ lo) (h2 : lo < 2 ^ 62) (h3 : -(2 ^ 62) ≤ hi) (h4 : hi < 2 ^ 62) : rngC lo hi = some (rngI lo hi) := grd_ok ⟨h1, h2, h3, h4⟩
theorem modC_ok {i j : Int} (h : 0 < j) : modC i j = some (i % j) := grd_ok h
theorem divC_ok {i j : Int} (n : Nat) (h : 0 < j) (h2 : j.natAbs < 2 ^ n) (hn : n ≤ 9000 := by decide) : divC i j = some (i / j) := by
  refine grd_ok ⟨h, ?_⟩
  have := (Nat.log2_lt (by omega : j.natAbs ≠ 0)).mpr h2
  omega
theorem intBits_le {i : Int} {n : Nat} (h : i.natAbs < 2 ^ n) : Builtin.Int.intBits i ≤ n := by
  unfold Builtin.Int.intBits
  split
  · exact Nat.zero_le _
  · next h0 =>
    have e : i.natAbs ≠ 0 := by
      intro e
      apply h0
      have : i = 0 := by omega
      rw [this]; rfl
    have := (Nat.log2_lt e).mpr h
    omega
theorem intBits_iff {i : Int} {n : Nat} : Builtin.Int.intBits i ≤ n ↔ i.natAbs < 2 ^ n := by
  refine ⟨fun h => ?_, intBits_le⟩
  by_cases h0 : i = 0
  · subst h0
    exact Nat.two_pow_pos n
  · unfold Builtin.Int.intBits at h
    rw [if_neg (by simpa using h0)] at h
    exact (Nat.log2_lt (by omega)).mp (by omega)
theorem shlC_ok {i j : Int} (n : Nat) (h0 : 0 ≤ j) (hi : i.natAbs < 2 ^ n) (hj : (n : Int) + j ≤ 2 ^ 27) : shlC i j = some (i * 2 ^ j.toNat) := by
  refine grd_ok ⟨h0, ?_⟩
  have := intBits_le hi
  omega
theorem shrC_ok {i j : Int} (h0 : 0 ≤ j) : shrC i j = some (i / 2 ^ j.toNat) := grd_ok h0
theorem mulC_ok {i j : Int} (h : i.natAbs < 2 ^ 64 ∨ j.natAbs < 2 ^ 64) : mulC i j = some (i * j) := by
  refine grd_ok ?_
  rcases h with h | h
  · exact IntMulOk.of_left (intBits_le h)
  · exact IntMulOk.of_right (intBits_le h)
theorem appC_ok {xs : List A} {x : A} (h : xs.length < 16777216) : appC xs x = some (xs ++ [x]) := grd_ok h
theorem catC_ok {xs ys : List A} (h : xs.length + ys.length ≤ 16777216) : catC xs ys = some (xs ++ ys) := grd_ok h
theorem repC_ok {xs : List A} {k : Int} (h1 : -(2 ^ 63) ≤ k) (h2 : k < 2 ^ 63) (h3 : xs.length * k.toNat ≤ 16777216) : repC xs k = some (List.replicate k.toNat xs).flatten := grd_ok ⟨h1, h2, h3⟩
theorem rep1 {x : A} (n : Nat) : (List.replicate n [x]).flatten = List.replicate n x := by
  induction n with
  | zero => rfl
  | succ n ih => rw [List.replicate_succ, List.flatten_cons, ih]; rfl
theorem repC1_ok {x : A} {k : Int} (h1 : -(2 ^ 63) ≤ k) (h2 : k ≤ 16777216) : repC [x] k = some (List.replicate k.toNat x) := by
  rw [repC_ok h1 (by omega) (by show 1 * k.toNat ≤ _; omega), rep1]
theorem atI_ok {xs : List A} {i : Int} (h0 : 0 ≤ i) (h : i < xs.length) : atI xs i = some (xs[i.toNat]'(by omega)) := by
  have e : i = ((i.toNat : Nat) : Int) := by omega
  have h2 : i.toNat < xs.length := by omega
  have := atI_nat (xs := xs) (j := i.toNat) (v := xs[i.toNat]) (List.getElem?_eq_getElem h2)
  rw [← e] at this
  exact this
theorem atI_get? {xs : List A} {i : Int} (h0 : 0 ≤ i) : atI xs i = xs[i.toNat]? := by
  by_cases h : i < xs.length
  · rw [atI_ok h0 h, List.getElem?_eq_getElem]
  · rw [List.getElem?_eq_none (by omega)]
    unfold atI ixN
    rw [if_pos h0, if_neg h]
    rfl
theorem setC_ok {xs : List A} {i : Int} {x : A} (h0 : 0 ≤ i) (h : i < xs.length) : setC xs i x = some (xs.set i.toNat x) := by
  unfold setC ixN
  rw [if_pos h0, if_pos h]
  rfl
theorem cut_to {xs : List A} {k : Int} (h : 0 ≤ k) : cut xs none (some k) = xs.take k.toNat := by
  unfold cut
  rw [HT.sIx_none]
  have e : k = ((k.toNat : Nat) : Int) := by omega
  rw [e, HT.sIx_nat, List.drop_zero, Nat.sub_zero]
  have : ((k.toNat : Nat) : Int).toNat = k.toNat := by omega
  rw [this]
  by_cases h2 : k.toNat ≤ xs.length
  · rw [Nat.min_eq_left h2]
  · rw [Nat.min_eq_right (by omega), List.take_of_length_le (Nat.le_refl _), List.take_of_length_le (by omega)]
theorem cut_from {xs : List A} {k : Int} (h : 0 ≤ k) : cut xs (some k) none = xs.drop k.toNat := by
  unfold cut
  have e : k = ((k.toNat : Nat) : Int) := by omega
  rw [e, HT.sIx_nat, HT.sIx_none]
  have : ((k.toNat : Nat) : Int).toNat = k.toNat := by omega
  rw [this]
  by_cases h2 : k.toNat ≤ xs.length
  · rw [Nat.min_eq_left h2, List.take_of_length_le (by rw [List.length_drop]; exact Nat.le_refl _)]
  · rw [Nat.min_eq_right (by omega), List.drop_of_length_le (Nat.le_refl _), List.drop_of_length_le (by omega), List.take_nil]
theorem cut_mid {xs : List A} {i j : Int} (h : 0 ≤ i) (h2 : i ≤ j) : cut xs (some i) (some j) = (xs.drop i.toNat).take (j - i).toNat := by
  unfold cut
  have e : i = ((i.toNat : Nat) : Int) := by omega
  have e' : j = ((j.toNat : Nat) : Int) := by omega
  have e3 : (j - i).toNat = j.toNat - i.toNat := by omega
  rw [e3]
  rw [e, e', HT.sIx_nat, HT.sIx_nat]
  have q1 : ((i.toNat : Nat) : Int).toNat = i.toNat := by omega
  have q2 : ((j.toNat : Nat) : Int).toNat = j.toNat := by omega
  rw [q1, q2]
  by_cases h3 : i.toNat ≤ xs.length
  · rw [Nat.min_eq_left h3]
    by_cases h4 : j.toNat ≤ xs.length
    · rw [Nat.min_eq_left h4]
    · rw [Nat.min_eq_right (by omega), List.take_of_length_le (by rw [List.length_drop]; omega), List.take_of_length_le (by rw [List.length_drop]; omega)]
  · have q3 : min i.toNat xs.length = xs.length := by omega
    rw [q3, List.drop_of_length_le (Nat.le_refl _), List.drop_of_length_le (by omega), List.take_nil, List.take_nil]
theorem ex_bind {m : Option A} {f : A → Option B} {x : A} {Q : B → Prop} (h : m = some x) (h2 : ∃ r, f x = some r ∧ Q r) : ∃ r, m.bind f = some r ∧ Q r := by
  subst h
  exact h2
theorem ex_some {x : A} {Q : A → Prop} (h : Q x) : ∃ r, some x = some r ∧ Q r := ⟨x, rfl, h⟩
theorem ex_if {b : Bool} {m1 m2 : Option A} {Q : A → Prop} (h1 : b = true → ∃ r, m1 = some r ∧ Q r) (h2 : b = false → ∃ r, m2 = some r ∧ Q r) : ∃ r, (if b = true then m1 else m2) = some r ∧ Q r := by
  cases b with
  | true => exact h1 rfl
  | false => exact h2 rfl
theorem ex_ifP {p : Prop} [Decidable p] {m1 m2 : Option A} {Q : A → Prop} (h1 : p → ∃ r, m1 = some r ∧ Q r) (h2 : ¬ p → ∃ r, m2 = some r ∧ Q r) : ∃ r, (if decide p = true then m1 else m2) = some r ∧ Q r := by
  by_cases h : p
  · rw [if_pos (decide_eq_true h)]
    exact h1 h
  · rw [if_neg (by simp [h])]
    exact h2 h
theorem ex_itM {f : A → S → Option S} {g : S → Option B} {xs : List A} {s : S} {Q : B → Prop} (P : Nat → S → Prop) (h0 : P 0 s) (hs : ∀ i x s, xs[i]? = some x → P i s → ∃ s', f x s = some s' ∧ P (i + 1) s') (hd : ∀ s', P xs.length s' → ∃ r, g s' = some r ∧ Q r) : ∃ r, (itM f xs s).bind g = some r ∧ Q r := by
  obtain ⟨s', h1, h2⟩ := itM_ok P h0 hs
  exact ex_bind h1 (hd s' h2)
theorem ex_itF {f : A → S → Option (Fl S R)} {g : Fl S R → Option B} {xs : List A} {s : S} {Q : B → Prop} (P : Nat → S → Prop) (h0 : P 0 s) (hs : ∀ i x s, xs[i]? = some x → P i s → ∃ s', f x s = some (.nx s') ∧ P (i + 1) s') (hd : ∀ s', P xs.length s' → ∃ r, g (.nx s') = some r ∧ Q r) : ∃ r, (itF f xs s).bind g = some r ∧ Q r := by
  obtain ⟨s', h1, h2⟩ := itF_ok P h0 hs
  exact ex_bind h1 (hd s' h2)
theorem ex_mapO {f : A → Option C} {h : List C → Option B} {xs : List A} {Q : B → Prop} {R : C → Prop} (hs : ∀ x ∈ xs, ∃ y, f x = some y ∧ R y) (hd : ∀ ys, ys.length = xs.length → (∀ y ∈ ys, R y) → ∃ r, h ys = some r ∧ Q r) : ∃ r, (mapO f xs).bind h = some r ∧ Q r := by
  obtain ⟨ys, h1, h2, h3⟩ := mapO_all hs
  exact ex_bind h1 (hd ys h2 h3)
theorem ex_mapG {f : A → Option C} (g : A → C) {h : List C → Option B} {xs : List A} {Q : B → Prop} (hs : ∀ x ∈ xs, f x = some (g x)) (hd : ∃ r, h (xs.map g) = some r ∧ Q r) : ∃ r, (mapO f xs).bind h = some r ∧ Q r := ex_bind (mapO_ok hs) hd
/-- a call whose answer is told by what holds of it -/
theorem ex_call {m : Option A} {f : A → Option B} {R : A → Prop} {Q : B → Prop} (h : ∃ x, m = some x ∧ R x) (h2 : ∀ x, R x → ∃ r, f x = some r ∧ Q r) : ∃ r, m.bind f = some r ∧ Q r := by
  obtain ⟨x, h1, h3⟩ := h
  exact ex_bind h1 (h2 x h3)
theorem of_ex {m : Option A} {x : A} (h : ∃ r, m = some r ∧ r = x) : m = some x := by
  obtain ⟨r, h1, rfl⟩ := h
  exact h1
theorem ex_grd {p : Prop} [Decidable p] {x : A} {f : A → Option B} {Q : B → Prop} (hp : p) (h2 : ∃ r, f x = some r ∧ Q r) : ∃ r, (grd p x).bind f = some r ∧ Q r := ex_bind (grd_ok hp) h2
theorem maxI_eq (i j : Int) : maxI i j = max i j := by unfold maxI; split <;> omega
theorem minI_eq (i j : Int) : minI i j = min i j := by unfold minI; split <;> omega
theorem absI_eq (i : Int) : absI i = (i.natAbs : Int) := by unfold absI; split <;> omega
theorem all_true {l : List A} {p : A → Bool} : (l.map p).all id = true ↔ ∀ x ∈ l, p x = true := by
  rw [List.all_map, List.all_eq_true]
  rfl
end
end Mn
/-! Bt: the bit operators on ints -/
namespace Bt
open PySem PySem.Builtin
theorem not_half (x : Int) : bitNot (x / 2) = bitNot x / 2 := by unfold bitNot; omega
theorem not_mod (x : Int) : bitNot x % 2 = 1 - x % 2 := by unfold bitNot; omega
theorem nand_half (a b : Nat) : (a &&& b) / 2 = a / 2 &&& b / 2 := Nat.and_div_two
theorem nand_mod (a b : Nat) : (a &&& b) % 2 = if a % 2 = 1 ∧ b % 2 = 1 then 1 else 0 := by
  split
  · next h => exact Nat.and_mod_two_eq_one.mpr h
  · next h =>
    have : ¬ (a &&& b) % 2 = 1 := fun e => h (Nat.and_mod_two_eq_one.mp e)
    omega
theorem and_nn {x y : Int} (hx : 0 ≤ x) (hy : 0 ≤ y) : bitAnd x y = ((x.toNat &&& y.toNat : Nat) : Int) := by
  unfold bitAnd
  rw [decide_eq_true hx, decide_eq_true hy]
theorem and_np {x y : Int} (hx : 0 ≤ x) (hy : ¬ 0 ≤ y) : bitAnd x y = x - ((x.toNat &&& (bitNot y).toNat : Nat) : Int) := by
  unfold bitAnd
  rw [decide_eq_true hx, decide_eq_false hy]
theorem and_pn {x y : Int} (hx : ¬ 0 ≤ x) (hy : 0 ≤ y) : bitAnd x y = y - ((y.toNat &&& (bitNot x).toNat : Nat) : Int) := by
  unfold bitAnd
  rw [decide_eq_false hx, decide_eq_true hy]
theorem and_pp {x y : Int} (hx : ¬ 0 ≤ x) (hy : ¬ 0 ≤ y) : bitAnd x y = bitNot (((bitNot x).toNat ||| (bitNot y).toNat : Nat) : Int) := by
  unfold bitAnd
  rw [decide_eq_false hx, decide_eq_false hy]
theorem nor_half (a b : Nat) : (a ||| b) / 2 = a / 2 ||| b / 2 := Nat.or_div_two
theorem nor_mod (a b : Nat) : (a ||| b) % 2 = if a % 2 = 1 ∨ b % 2 = 1 then 1 else 0 := by
  split
  · next h => exact Nat.or_mod_two_eq_one.mpr h
  · next h =>
    have : ¬ (a ||| b) % 2 = 1 := fun e => h (Nat.or_mod_two_eq_one.mp e)
    omega
theorem and_half (x y : Int) : bitAnd x y / 2 = bitAnd (x / 2) (y / 2) := by
  by_cases hx : 0 ≤ x <;> by_cases hy : 0 ≤ y
  · rw [and_nn hx hy, and_nn (by omega) (by omega)]
    have e1 : (x / 2).toNat = x.toNat / 2 := by omega
    have e2 : (y / 2).toNat = y.toNat / 2 := by omega
    rw [e1, e2, ← nand_half]
    omega
  · rw [and_np hx hy, and_np (by omega) (by omega), not_half]
    have e1 : (x / 2).toNat = x.toNat / 2 := by omega
    have e2 : (bitNot y / 2).toNat = (bitNot y).toNat / 2 := by unfold bitNot; omega
    rw [e1, e2, ← nand_half]
    have h1 := nand_mod x.toNat (bitNot y).toNat
    have h2 : (x.toNat &&& (bitNot y).toNat) ≤ x.toNat := Nat.and_le_left
    split at h1 <;> omega
  · rw [and_pn hx hy, and_pn (by omega) (by omega), not_half]
    have e1 : (y / 2).toNat = y.toNat / 2 := by omega
    have e2 : (bitNot x / 2).toNat = (bitNot x).toNat / 2 := by unfold bitNot; omega
    rw [e1, e2, ← nand_half]
    have h1 := nand_mod y.toNat (bitNot x).toNat
    split at h1 <;> omega
  · rw [and_pp hx hy, and_pp (by omega) (by omega), not_half, not_half]
    have e1 : (bitNot x / 2).toNat = (bitNot x).toNat / 2 := by unfold bitNot; omega
    have e2 : (bitNot y / 2).toNat = (bitNot y).toNat / 2 := by unfold bitNot; omega
    rw [e1, e2, ← nor_half]
    generalize (bitNot x).toNat ||| (bitNot y).toNat = z
    unfold bitNot
    omega
theorem and_mod (x y : Int) : bitAnd x y % 2 = if x % 2 = 1 ∧ y % 2 = 1 then 1 else 0 := by
  by_cases hx : 0 ≤ x <;> by_cases hy : 0 ≤ y
  · rw [and_nn hx hy]
    have h1 := nand_mod x.toNat y.toNat
    split at h1 <;> split <;> omega
  · rw [and_np hx hy]
    have h1 := nand_mod x.toNat (bitNot y).toNat
    have h2 : (x.toNat &&& (bitNot y).toNat) ≤ x.toNat := Nat.and_le_left
    have h3 : ((bitNot y).toNat : Int) = -y - 1 := by unfold bitNot; omega
    split at h1 <;> split <;> omega
  · rw [and_pn hx hy]
    have h1 := nand_mod y.toNat (bitNot x).toNat
    have h3 : ((bitNot x).toNat : Int) = -x - 1 := by unfold bitNot; omega
    split at h1 <;> split <;> omega
  · rw [and_pp hx hy]
    have h1 := nor_mod (bitNot x).toNat (bitNot y).toNat
    have h3 : ((bitNot x).toNat : Int) = -x - 1 := by unfold bitNot; omega
    have h4 : ((bitNot y).toNat : Int) = -y - 1 := by unfold bitNot; omega
    rw [not_mod]
    split at h1 <;> split <;> omega
theorem or_half (x y : Int) : bitOr x y / 2 = bitOr (x / 2) (y / 2) := by
  unfold bitOr
  rw [← not_half, and_half, ← not_half, ← not_half]
theorem or_mod (x y : Int) : bitOr x y % 2 = if x % 2 = 1 ∨ y % 2 = 1 then 1 else 0 := by
  unfold bitOr
  rw [not_mod, and_mod, not_mod, not_mod]
  split <;> split <;> omega
theorem xor_half (x y : Int) : bitXor x y / 2 = bitXor (x / 2) (y / 2) := by
  unfold bitXor
  rw [← or_half, ← and_half]
  have h1 := or_mod x y
  have h2 := and_mod x y
  split at h1 <;> split at h2 <;> omega
theorem xor_mod (x y : Int) : bitXor x y % 2 = (x + y) % 2 := by
  unfold bitXor
  have h1 := or_mod x y
  have h2 := and_mod x y
  split at h1 <;> split at h2 <;> omega
theorem or_nn {x y : Int} (hx : 0 ≤ x) (hy : 0 ≤ y) : bitOr x y = ((x.toNat ||| y.toNat : Nat) : Int) := L2.bitOr_nn hx hy
/-- what divides -/
theorem dvd_succ (k : Nat) (x : Int) : (2 : Int) ^ (k + 1) ∣ x ↔ x % 2 = 0 ∧ (2 : Int) ^ k ∣ x / 2 := by
  have e : (2 : Int) ^ (k + 1) = 2 ^ k * 2 := Int.pow_succ 2 k
  rw [e]
  constructor
  · rintro ⟨c, rfl⟩
    have h1 : 2 ^ k * 2 * c = 2 * (2 ^ k * c) := by rw [Int.mul_comm (2 ^ k) 2, Int.mul_assoc]
    rw [h1]
    refine ⟨by omega, ⟨c, by omega⟩⟩
  · rintro ⟨h, c, hc⟩
    refine ⟨c, ?_⟩
    have h1 : 2 ^ k * 2 * c = 2 * (2 ^ k * c) := by rw [Int.mul_comm (2 ^ k) 2, Int.mul_assoc]
    rw [h1, ← hc]
    omega
theorem dvd_or (k : Nat) (x y : Int) : (2 : Int) ^ k ∣ bitOr x y ↔ (2 : Int) ^ k ∣ x ∧ (2 : Int) ^ k ∣ y := by
  induction k generalizing x y with
  | zero => simp
  | succ k ih =>
    rw [dvd_succ, dvd_succ, dvd_succ, or_half, ih, or_mod]
    split
    · constructor
      · intro h; omega
      · intro h; omega
    · constructor
      · intro h; exact ⟨⟨by omega, h.2.1⟩, ⟨by omega, h.2.2⟩⟩
      · intro h; exact ⟨rfl, h.1.2, h.2.2⟩
/-- the lowest bit -/
theorem low_nat : ∀ (n : Nat), 0 < n → ∃ v : Nat, n - (n &&& (n - 1)) = 2 ^ v ∧ 2 ^ v ∣ n ∧ ¬ 2 ^ (v + 1) ∣ n := by
  intro n
  induction n using Nat.strongRecOn with
  | _ n ih =>
    intro hn
    have hh := nand_half n (n - 1)
    have hm := nand_mod n (n - 1)
    by_cases h : n % 2 = 1
    · refine ⟨0, ?_, by simp, by rw [Nat.pow_succ]; omega⟩
      have e : (n - 1) / 2 = n / 2 := by omega
      rw [e, Nat.and_self] at hh
      have : ¬ (n % 2 = 1 ∧ (n - 1) % 2 = 1) := by omega
      rw [if_neg this] at hm
      show _ = 1
      omega
    · obtain ⟨v, h1, h2, h3⟩ := ih (n / 2) (by omega) (by omega)
      have e : (n - 1) / 2 = n / 2 - 1 := by omega
      rw [e] at hh
      have : ¬ (n % 2 = 1 ∧ (n - 1) % 2 = 1) := by omega
      rw [if_neg this] at hm
      have hle : (n / 2 &&& (n / 2 - 1)) ≤ n / 2 := Nat.and_le_left
      refine ⟨v + 1, ?_, ?_, ?_⟩
      · rw [Nat.pow_succ]; omega
      · obtain ⟨c, hc⟩ := h2
        exact ⟨c, by rw [Nat.pow_succ, Nat.mul_assoc, Nat.mul_comm 2 c, ← Nat.mul_assoc, ← hc]; omega⟩
      · rintro ⟨c, hc⟩
        apply h3
        refine ⟨c, ?_⟩
        rw [Nat.pow_succ, Nat.mul_assoc, Nat.mul_comm 2 c, ← Nat.mul_assoc] at hc
        omega
theorem low_int {t : Int} (ht : t ≠ 0) : ∃ v : Nat, bitAnd t (-t) = 2 ^ v ∧ (2 : Int) ^ v ∣ t ∧ ¬ (2 : Int) ^ (v + 1) ∣ t := by
  obtain ⟨v, h1, h2, h3⟩ := low_nat t.natAbs (by omega)
  refine ⟨v, ?_, ?_, ?_⟩
  · have hle : (t.natAbs &&& (t.natAbs - 1)) ≤ t.natAbs := Nat.and_le_left
    have e : ((2 : Int) ^ v) = ((2 ^ v : Nat) : Int) := by simp
    rw [e, ← h1]
    by_cases hp : 0 ≤ t
    · rw [and_np hp (by omega)]
      have e1 : t.toNat = t.natAbs := by omega
      have e2 : (bitNot (-t)).toNat = t.natAbs - 1 := by unfold bitNot; omega
      rw [e1, e2]
      omega
    · rw [and_pn hp (by omega)]
      have e1 : (-t).toNat = t.natAbs := by omega
      have e2 : (bitNot t).toNat = t.natAbs - 1 := by unfold bitNot; omega
      rw [e1, e2]
      omega
  · rw [← Int.natAbs_dvd_natAbs]
    simpa [Int.natAbs_pow] using h2
  · rw [← Int.natAbs_dvd_natAbs]
    simpa [Int.natAbs_pow] using h3
theorem bits_pow (v : Nat) : Mn.bitsI (2 ^ v) = (v : Int) + 1 := by
  unfold Mn.bitsI Builtin.Int.intBits
  have h : (2 : Int) ^ v ≠ 0 := by
    have : 0 < (2 : Int) ^ v := Int.pow_pos (by decide)
    omega
  rw [if_neg (by simpa using h)]
  have e : ((2 : Int) ^ v).natAbs = 2 ^ v := by simp [Int.natAbs_pow]
  rw [e, Nat.log2_two_pow]
  omega
end Bt
namespace K63
open PySem L2 Mn
open Evl (Ex Ev EvL EvU EvT EvA EvO RV RU RC)
def m_l_cell (script_ : List Int) (k_ : Int) : Option Int :=
  if (decide (k_ < (script_.length : Int))) = true then (
  (atI script_ k_).bind fun x4 =>
  some x4
  ) else (
  some 0
  )
def m_l_row (cell_here_ : Int) (count_ : Int) (bound_ : Int) : Option (List Int) :=
  bnd ((absI cell_here_) : Int) fun rest_1 =>
  bnd (((cell_here_ % 1000003) + 1) : Int) fun mixed_4 =>
  (rngC 0 count_).bind fun r10 =>
  (itM (fun (k_11 : Int) (s12 : Int × Int × (List Int)) => (if (decide (bound_ ≤ s12.1)) = true then ( (modC s12.1 bound_).bind fun n27 => (appC s12.2.2 n27).bind fun l28 => (divC s12.1 bound_).bind fun n31 => some (n31, s12.2.1, l28) ) else ( bnd (((((s12.2.1 * 48271) + (11 * k_11)) + 7) % 2147483647) : Int) fun mixed_36 => (modC ((mixed_36 * 2862933555777941757) / 1024) bound_).bind fun n39 => (appC s12.2.2 n39).bind fun l40 => some (s12.1, mixed_36, l40) ) : Option (Int × Int × (List Int)))) r10 (rest_1, mixed_4, ([] : List Int))).bind fun r13 =>
  some r13.2.2
def m_l_residuals (cell_here_ : Int) (count_ : Int) (shape_ : Int) : Option (List Int) :=
  if (decide (shape_ = 0)) = true then (
  (repC [0] count_).bind fun l4 =>
  some l4
  ) else (
  (atI [9, 201, 4294967295] (shape_ % 3)).bind fun x10 =>
  (m_l_row cell_here_ count_ x10).bind fun c16 =>
  (grd (c16.length ≤ 16777216) ()).bind fun z17 =>
  (mapO (fun x_14 => (some (x_14 - (x10 / 2)))) c16).bind fun l15 =>
  (if (decide (shape_ = 4)) = true then ((rngC 0 (count_ / 2)).bind fun r27 => (itM (fun (k_28 : Int) (s29 : (List Int)) => ((setC s29 k_28 0).bind fun l41 => some (l41) : Option ((List Int)))) r27 (l15)).bind fun r30 => some (r30)) else (some (l15)) : Option ((List Int))).bind fun s21 =>
  some s21
  )
def m_fold (n_ : Int) : Option Int :=
  if (decide (0 ≤ n_)) = true then (
  some (2 * n_)
  ) else (
  some (((-2) * n_) - 1)
  )
def m_rice_bits (residuals_ : List Int) (k_ : Int) : Option Int :=
  (itM (fun (value_3 : Int) (s4 : Int) => ((m_fold value_3).bind fun c16 => (shrC c16 k_).bind fun n17 => bnd ((s4 + ((1 + k_) + n17)) : Int) fun total_18 => some (total_18) : Option (Int))) residuals_ (0)).bind fun r5 =>
  some r5
def m_raw_width (residuals_ : List Int) : Option Int :=
  (itM (fun (value_3 : Int) (s4 : Int) => (if (!decide (value_3 = 0)) = true then ( (if (decide (0 < value_3)) = true then (some value_3) else (some ((-value_3) - 1))).bind fun w19 => bnd ((maxI s4 ((bitsI w19) + 1)) : Int) fun width_22 => some (width_22) ) else ( some (s4) ) : Option (Int))) residuals_ (0)).bind fun r5 =>
  some r5
def m_l_integer (value_ : Int) : Option Bool :=
  some (true && (!false))
def m_l_width (values_ : List Int) : Option Int :=
  (rngC 0 34).bind fun r1 =>
  (itF (fun (width_here_2 : Int) (s3 : Unit) => ((shlC 1 width_here_2).bind fun n15 => bnd ((n15 / 2) : Int) fun half_16 => (grd (values_.length ≤ 16777216) ()).bind fun z22 => (mapO (fun value_20 => (some ((decide ((-half_16) ≤ value_20)) && (decide (value_20 < (maxI 1 half_16)))))) values_).bind fun l21 => if (l21.all id) = true then ( some (.rt width_here_2) ) else ( some (.nx ()) ) : Option (Fl (Unit) Int))) r1 ()).bind fun r4 => match r4 with
  | .bk _ => none | .rt q32 => some q32 | .nx s31 =>
  some 34
def m_law (script_ : List Int) : Option Bool :=
  (m_l_cell script_ 0).bind fun c1 =>
  bnd (((c1 % 21) + (50 * (b2 (decide (((c1 / 126) % 6) = 1))))) : Int) fun count_4 =>
  (m_l_cell script_ 1).bind fun c7 =>
  (m_l_residuals c7 count_4 ((c1 / 21) % 6)).bind fun c8 =>
  (m_l_cell script_ 2).bind fun c12 =>
  bnd ((c12 % 31) : Int) fun k_13 =>
  (itM (fun (value_18 : Int) (s19 : Int) => (bnd ((2 * value_18) : Int) fun folded_31 => (if (decide (value_18 < 0)) = true then (bnd ((((-2) * value_18) - 1) : Int) fun folded_40 => some (folded_40)) else (some (folded_31)) : Option (Int)).bind fun s34 => (shlC 1 k_13).bind fun n47 => (divC s34 n47).bind fun n48 => bnd ((((s19 + 1) + k_13) + n48) : Int) fun expected_49 => some (expected_49) : Option (Int))) c8 (0)).bind fun r20 =>
  (m_rice_bits c8 k_13).bind fun c58 =>
  (m_raw_width c8).bind fun c61 =>
  (m_l_integer c58).bind fun c64 =>
  (orC (!c64) ((m_l_integer c61).bind fun c65 => some ((!c65) || (!decide (c8 = c8))))).bind fun b66 =>
  if b66 = true then (
  some false
  ) else (
  (andC (decide (c58 = r20)) ((m_l_width c8).bind fun c74 => some (decide (c61 = c74)))).bind fun b75 =>
  some b75
  )
end K63
-- COMMON: Cm Bt
namespace K63
open PySem L2 Mn
theorem cell_ok (ns : List Int) {k : Int} (h : 0 ≤ k) : ∃ c, m_l_cell ns k = some c ∧ True := by
  unfold m_l_cell
  refine ex_ifP (fun hk => ?_) (fun _ => ex_some trivial)
  exact ex_bind (atI_ok h hk) (ex_some trivial)
theorem row_ok (c : Int) {n b : Int} (h0 : 0 ≤ n) (h1 : n ≤ 1000) (hb : 0 < b) (hb2 : b < 2 ^ 40) : ∃ xs, m_l_row c n b = some xs ∧ xs.length = n.toNat ∧ ∀ x ∈ xs, 0 ≤ x ∧ x < b := by
  unfold m_l_row
  simp only [bnd_eq]
  refine ex_bind (rngC_ok (by omega) (by omega) (by omega) (by omega)) ?_
  refine ex_itM (fun i (s : Int × Int × List Int) => s.2.2.length = i ∧ ∀ x ∈ s.2.2, 0 ≤ x ∧ x < b) ⟨rfl, fun _ h => (nomatch h)⟩ (fun i x s hx hp => ?_) (fun s p => ex_some ⟨?_, p.2⟩)
  · have hi := (rngI_at hx).2
    have hm : ∀ y : Int, 0 ≤ y % b ∧ y % b < b := fun y => ⟨Int.emod_nonneg _ (by omega), Int.emod_lt_of_pos _ hb⟩
    have ha : ∀ y : Int, ∀ x ∈ s.2.2 ++ [y % b], 0 ≤ x ∧ x < b := by
      intro y x hx
      rcases List.mem_append.mp hx with h | h
      · exact hp.2 x h
      · rcases List.mem_singleton.mp h with rfl
        exact hm y
    refine ex_ifP (fun _ => ?_) (fun _ => ?_)
    · refine ex_bind (modC_ok hb) (ex_bind (appC_ok (by omega)) (ex_bind (divC_ok 64 hb (by omega)) (ex_some ⟨?_, ha _⟩)))
      rw [List.length_append, hp.1]; rfl
    · refine ex_bind (modC_ok hb) (ex_bind (appC_ok (by omega)) (ex_some ⟨?_, ha _⟩))
      rw [List.length_append, hp.1]; rfl
  · rw [p.1, rngI_length, Int.sub_zero]
theorem residuals_ok (c : Int) {n sh : Int} (h0 : 0 ≤ n) (h1 : n ≤ 100) (hs : 0 ≤ sh) : ∃ xs, m_l_residuals c n sh = some xs ∧ xs.length ≤ 100 ∧ ∀ x ∈ xs, -(2 ^ 31) < x ∧ x < 2 ^ 31 := by
  unfold m_l_residuals
  refine ex_ifP (fun _ => ?_) (fun _ => ?_)
  · refine ex_bind (repC1_ok (by omega) (by omega)) (ex_some ⟨by rw [List.length_replicate]; omega, fun x hx => ?_⟩)
    rw [List.eq_of_mem_replicate hx]
    decide
  have hb : ∃ b, atI [9, 201, 4294967295] (sh % 3) = some b ∧ 0 < b ∧ b ≤ (4294967295 : Int) ∧ b % 2 = 1 := by
    have : sh % 3 = 0 ∨ sh % 3 = 1 ∨ sh % 3 = 2 := by omega
    rcases this with e | e | e <;> rw [e]
    · exact ⟨9, rfl, by decide, by decide, by decide⟩
    · exact ⟨201, rfl, by decide, by decide, by decide⟩
    · exact ⟨4294967295, rfl, by decide, by decide, by decide⟩
  refine ex_call hb fun b ⟨hb0, hb1, hb2⟩ => ?_
  refine ex_call (row_ok c h0 (by omega) hb0 (by omega)) fun row ⟨hl, hr⟩ => ?_
  refine ex_grd (by omega) ?_
  refine ex_mapO (R := fun x => -(2 ^ 31) < x ∧ x < 2 ^ 31) (fun x hx => ex_some (by have := hr x hx; omega)) fun ys hl2 hR => ?_
  refine ex_call (R := fun s : List Int => s.length ≤ 100 ∧ ∀ x ∈ s, -(2 ^ 31) < x ∧ x < 2 ^ 31) ?_ fun s h => ex_some h
  refine ex_ifP (fun _ => ?_) (fun _ => ex_some ⟨by omega, hR⟩)
  refine ex_bind (rngC_ok (by omega) (by omega) (by omega) (by omega)) ?_
  refine ex_itM (fun i (s : List Int) => s.length = ys.length ∧ ∀ x ∈ s, -(2 ^ 31) < x ∧ x < 2 ^ 31) ⟨rfl, hR⟩ (fun i x s hx hp => ?_) fun s hp => ex_some ⟨by omega, hp.2⟩
  have hx2 := rngI_at hx
  refine ex_bind (setC_ok (by omega) (by omega)) (ex_some ⟨by rw [List.length_set]; exact hp.1, fun y hy => ?_⟩)
  rcases List.mem_or_eq_of_mem_set hy with h | h
  · exact hp.2 y h
  · rw [h]; decide
/-- the folded value -/
def fd (n : Int) : Int := if 0 ≤ n then 2 * n else -2 * n - 1
theorem fold_ok (n : Int) : m_fold n = some (fd n) := by
  unfold m_fold fd
  by_cases h : 0 ≤ n
  · rw [if_pos (decide_eq_true h), if_pos h]
  · rw [if_neg (by simpa using h), if_neg h]
def bitsOf (k : Nat) (xs : List Int) : Int := xs.foldl (fun s v => s + ((1 + (k : Int)) + fd v / 2 ^ k)) 0
theorem rice_ok (xs : List Int) (k : Nat) : m_rice_bits xs (k : Int) = some (bitsOf k xs) := by
  unfold m_rice_bits
  simp only [bnd_eq]
  refine bind_ok (itM_fold (g := fun s v => s + ((1 + (k : Int)) + fd v / 2 ^ k)) fun x s _ => ?_) rfl
  exact bind_ok (fold_ok x) (bind_ok (shrC_ok (by omega)) (by simp))
/-- the width of one value -/
def wd (v : Int) : Int := if v = 0 then 0 else bitsI (if 0 < v then v else -v - 1) + 1
def width (xs : List Int) : Int := xs.foldl (fun s v => if v = 0 then s else maxI s (wd v)) 0
theorem width_ok (xs : List Int) : m_raw_width xs = some (width xs) := by
  unfold m_raw_width
  simp only [bnd_eq]
  refine bind_ok (itM_fold (g := fun s v => if v = 0 then s else maxI s (wd v)) fun x s _ => ?_) rfl
  by_cases h : x = 0
  · rw [if_neg (by simp [h]), if_pos h]
  · rw [if_pos (by simp [h]), if_neg h]
    unfold wd
    rw [if_neg h]
    by_cases h2 : 0 < x
    · rw [if_pos (decide_eq_true h2), if_pos h2]; rfl
    · rw [if_neg (by simpa using h2), if_neg h2]; rfl
theorem width_spec (xs : List Int) : ∀ w : Int, width xs ≤ w ↔ 0 ≤ w ∧ ∀ x ∈ xs, x ≠ 0 → wd x ≤ w := by
  have key : ∀ (l : List Int) (a w : Int), l.foldl (fun s v => if v = 0 then s else maxI s (wd v)) a ≤ w ↔ a ≤ w ∧ ∀ x ∈ l, x ≠ 0 → wd x ≤ w := by
    intro l
    induction l with
    | nil => intro a w; simp
    | cons y l ih =>
      intro a w
      rw [List.foldl_cons, ih]
      by_cases h : y = 0
      · rw [if_pos h]
        constructor
        · rintro ⟨h1, h2⟩
          refine ⟨h1, fun x hx hx0 => ?_⟩
          rcases List.mem_cons.mp hx with rfl | hx
          · exact absurd h hx0
          · exact h2 x hx hx0
        · rintro ⟨h1, h2⟩
          exact ⟨h1, fun x hx => h2 x (List.mem_cons_of_mem _ hx)⟩
      · rw [if_neg h, maxI_eq]
        constructor
        · rintro ⟨h1, h2⟩
          refine ⟨by omega, fun x hx hx0 => ?_⟩
          rcases List.mem_cons.mp hx with rfl | hx
          · omega
          · exact h2 x hx hx0
        · rintro ⟨h1, h2⟩
          have := h2 y List.mem_cons_self h
          exact ⟨by omega, fun x hx => h2 x (List.mem_cons_of_mem _ hx)⟩
  intro w
  exact key xs 0 w
theorem pow_half (w : Nat) : (1 : Int) * 2 ^ (w + 1) / 2 = 2 ^ w := by
  rw [Int.one_mul, Int.pow_succ]
  omega
theorem fits (v : Int) (w : Nat) : (-((1 : Int) * 2 ^ w / 2) ≤ v ∧ v < maxI 1 ((1 : Int) * 2 ^ w / 2)) ↔ (v ≠ 0 → wd v ≤ w) := by
  rw [maxI_eq]
  by_cases h0 : v = 0
  · subst h0
    cases w with
    | zero =>
      simp
      decide
    | succ w =>
      rw [pow_half]
      have : 0 < (2 : Int) ^ w := Int.pow_pos (by decide)
      constructor
      · intro _ h; exact absurd rfl h
      · intro _; omega
  cases w with
  | zero =>
    have e : (1 : Int) * 2 ^ 0 / 2 = 0 := rfl
    rw [e]
    constructor
    · intro h; omega
    · intro h
      have := h h0
      unfold wd at this
      rw [if_neg h0] at this
      have : 0 ≤ bitsI (if 0 < v then v else -v - 1) := by unfold bitsI; omega
      omega
  | succ w =>
    rw [pow_half]
    have hp : 0 < (2 : Int) ^ w := Int.pow_pos (by decide)
    have hi : wd v ≤ ((w + 1 : Nat) : Int) ↔ (if 0 < v then v else -v - 1).natAbs < 2 ^ w := by
      unfold wd
      rw [if_neg h0, ← intBits_iff]
      unfold bitsI
      omega
    have hc : (2 : Int) ^ w = ((2 ^ w : Nat) : Int) := by simp
    constructor
    · intro h _
      rw [hi]
      split <;> omega
    · intro h
      have h2 := hi.mp (h h0)
      split at h2 <;> omega
theorem lwidth_ok {xs : List Int} (hl : xs.length ≤ 100) (hx : ∀ x ∈ xs, -(2 ^ 31) < x ∧ x < 2 ^ 31) : ∃ w, m_l_width xs = some w ∧ w = width xs := by
  unfold m_l_width
  simp only [bnd_eq]
  have h0 : 0 ≤ width xs := ((width_spec xs (width xs)).mp (Int.le_refl _)).1
  have h32 : width xs ≤ 32 := by
    rw [width_spec]
    refine ⟨by decide, fun x hx2 hx0 => ?_⟩
    have := hx x hx2
    exact (fits x 32).mp ⟨by have e : (1 : Int) * 2 ^ 32 / 2 = 2 ^ 31 := rfl
                             rw [e]; omega, by have e : maxI 1 ((1 : Int) * 2 ^ 32 / 2) = 2 ^ 31 := rfl
                                               rw [e]; omega⟩ hx0
  refine ex_bind (rngC_ok (by decide) (by decide) (by decide) (by decide)) ?_
  refine ex_itF_way (fun i _ => (i : Int) ≤ width xs) (fun r => r = .rt (width xs)) h0 (fun i x s hi hp => ?_) (fun s h => ?_) (fun r hr => ?_)
  · have hx2 := rngI_at hi
    have ex : x = (i : Int) := by omega
    subst ex
    refine ex_bind (shlC_ok 1 (by omega) (by decide) (by omega)) (ex_grd (by omega) ?_)
    have et : ((i : Int)).toNat = i := by omega
    rw [et]
    refine ex_mapG (fun v => decide (-((1 : Int) * 2 ^ i / 2) ≤ v) && decide (v < maxI 1 ((1 : Int) * 2 ^ i / 2))) (fun x _ => rfl) ?_
    refine ex_if (fun h => ?_) (fun h => ?_)
    · refine ex_some ?_
      show Fl.rt (i : Int) = Fl.rt (width xs)
      have : width xs ≤ i := by
        rw [width_spec]
        refine ⟨by omega, fun y hy hy0 => (fits y i).mp ?_ hy0⟩
        have := all_true.mp h y hy
        rw [Bool.and_eq_true] at this
        exact ⟨of_decide_eq_true this.1, of_decide_eq_true this.2⟩
      have e : (i : Int) = width xs := by omega
      rw [e]
    · refine ex_some ?_
      show ((i + 1 : Nat) : Int) ≤ width xs
      have : ¬ width xs ≤ i := by
        intro hle
        have := ((width_spec xs i).mp hle).2
        have : ((xs.map fun v => decide (-((1 : Int) * 2 ^ i / 2) ≤ v) && decide (v < maxI 1 ((1 : Int) * 2 ^ i / 2))).all id) = true := by
          rw [all_true]
          intro y hy
          have := (fits y i).mpr (this y hy)
          rw [Bool.and_eq_true]
          exact ⟨decide_eq_true this.1, decide_eq_true this.2⟩
        rw [this] at h
        cases h
      omega
  · exfalso
    have e34 : (rngI 0 34).length = 34 := rfl
    rw [e34] at h
    omega
  · subst hr
    exact ex_some rfl
theorem law_ex (ns : List Int) : ∃ r, m_law ns = some r ∧ r = true := by
  unfold m_law
  simp only [bnd_eq]
  refine ex_call (cell_ok ns (by decide)) fun first _ => ?_
  refine ex_call (cell_ok ns (by decide)) fun c1 _ => ?_
  have hcount : ∀ q : Bool, 0 ≤ first % 21 + 50 * b2 q ∧ first % 21 + 50 * b2 q ≤ 100 := by
    intro q
    cases q <;> simp only [b2] <;> simp <;> omega
  refine ex_call (residuals_ok c1 (hcount _).1 (hcount _).2 (by omega)) fun xs ⟨hl, hx⟩ => ?_
  refine ex_call (cell_ok ns (by decide)) fun c2 _ => ?_
  obtain ⟨k, hk⟩ : ∃ k : Nat, c2 % 31 = k ∧ k < 31 := ⟨(c2 % 31).toNat, by omega, by omega⟩
  rw [hk.1]
  have hsum : ∃ r, itM (fun (v s : Int) => ((if (decide (v < 0)) = true then (some (((-2) * v) - 1)) else (some (2 * v)) : Option (Int)).bind fun s34 => (shlC 1 (k : Int)).bind fun n47 => (divC s34 n47).bind fun n48 => some (((s + 1) + k) + n48))) xs 0 = some r ∧ r = bitsOf k xs := by
    refine ⟨_, itM_fold (g := fun s v => s + ((1 + (k : Int)) + fd v / 2 ^ k)) fun x s _ => ?_, rfl⟩
    have e1 : (if (decide (x < 0)) = true then (some (((-2) * x) - 1)) else (some (2 * x)) : Option (Int)) = some (fd x) := by
      unfold fd
      by_cases h : 0 ≤ x
      · rw [if_neg (by simpa using h), if_pos h]
      · rw [if_pos (by simpa using h), if_neg h]
    have hp : 0 < (2 : Int) ^ k := Int.pow_pos (by decide)
    refine bind_ok e1 (bind_ok (shlC_ok 1 (by omega) (by decide) (by omega)) (bind_ok (divC_ok 32 ?_ ?_) ?_))
    · simp; omega
    · have : ((2 : Int) ^ k).natAbs = 2 ^ k := by simp [Int.natAbs_pow]
      simp only [Int.one_mul, Int.toNat_natCast]
      rw [this]
      exact Nat.pow_lt_pow_right (by decide) (by omega)
    · simp only [Int.one_mul, Int.toNat_natCast]
      congr 1
      omega
  refine ex_call hsum fun r hr => ?_
  refine ex_bind (rice_ok xs k) ?_
  refine ex_bind (width_ok xs) ?_
  obtain ⟨w, hw1, hw2⟩ := lwidth_ok hl hx
  subst hr
  refine ex_bind rfl ?_
  simp [m_l_integer, orC, andC, hw1, hw2]
theorem law_true : ∀ ns : List Int, ns.length ≤ 63 → (∀ z ∈ ns, PySem.Builtin.Int.intBits z ≤ 1048576) → m_law ns = some true := fun ns _ _ => of_ex (law_ex ns)
end K63
namespace K63
open PySem L2 Mn
open Evl (Ex Ev EvL EvU EvT EvA EvO RV RU RC)
def topS (i : Nat) : Stmt := PySem.Challenge.pw_monochord_k63_rice_bits_and_raw_width.main.body.getD i (.Pass ⟨0, 0, 0, 0⟩)
structure Txt (K : PySem.W.Frag) (mg : Str → Option Value) : Prop where
  b_abs : mg "abs" = none
  b_all : mg "all" = none
  b_bool : mg "bool" = none
  b_int : mg "int" = none
  b_isinstance : mg "isinstance" = none
  b_len : mg "len" = none
  b_list : mg "list" = none
  b_max : mg "max" = none
  b_range : mg "range" = none
def sp_l_cell (K : PySem.W.Frag) : Sp := fun vs H Q _ => ∃ (a_script_ : Addr) (script_ : List Int) (k_ : Int) (res : Int), vs = [.ref a_script_, .int k_] ∧ SqL K H a_script_ (List.map V.int script_) ∧ m_l_cell script_ k_ = some res ∧ ∀ H', Fr H [] H' → Q (.int res) H'
theorem u_l_cell {K : PySem.W.Frag} {H : Hp} {script_ : List Int} {a_script_ : Addr} {k_ : Int} {res : Int} (h_script_ : SqL K H a_script_ (List.map V.int script_)) (hm : m_l_cell script_ k_ = some res) : Evl.SpV (sp_l_cell K) [.ref a_script_, .int k_] H (.int res) := fun H1 e Q q E => ⟨a_script_, script_, k_, res, rfl, Evl.ex_l e h_script_, hm, fun H' F => q H' F.base⟩
abbrev s_l_cell : Stmt := topS 6
theorem sc_l_cell : FnScope ["_law_script", "_law_k"] ["_law_script", "_law_k"] (defScope s_l_cell) := ⟨rfl, rfl, rfl, by decide +kernel, rfl, by decide +kernel, by decide +kernel⟩
theorem ok_l_cell {P : Program} {w : World} {K : PySem.W.Frag} {mg : Str → Option Value} {base : Heap} {fa : Addr} {fd : FuncData} (F : Fun K "_law_cell" "_law_cell" s_l_cell fa fd) (T : Txt K mg) : FnOk P w K mg base CX0 1 fa fd ["_law_script", "_law_k"] (sp_l_cell K) := by
  refine F.ok sc_l_cell (fun vs H Q E h => ?_) (fun cdv A outer s HB vs Q E hr h => ?_)
  · obtain ⟨a_script_, script_, k_, res, rfl, _⟩ := h
    rfl
  · obtain ⟨a_script_, script_, k_, res, rfl, b_script_, hm, k⟩ := h
    have F0 := Fr.refl HB
    unfold m_l_cell at hm
    refine ⟨_, (pss_cons (ps_if (pt_cmpR op_lt (pv 1) (pe_callB (kLen (K := K)) (by rfl) T.b_len (by decide +kernel) (pa_cons (pv 0) pa_nil)) (nomark _)) (pss_one (ps_ret (pe_ix (kIx (K := K)) (pv 0) (pv 1) (fun _ _ => rfl)))) pss_nil)
    (pss_one (ps_ret pe_int))), ?_⟩
    refine sl (σ' := [some (.ref a_script_), some (.int k_)]) rfl ?_
    refine g_when F0 (Evl.et_test (Evl.ev_op (Evl.ev_var (i := 1) rfl) (ev_len (f := V.int) (Evl.ex_l F0.base b_script_) (Evl.ev_var (i := 0) rfl)) rv_I0)) (fun hb1 H F => ?_) (fun hb1 H F => ?_)
    · have F3 := F
      replace hm := of_ifT hb1 hm
      obtain ⟨x4, hx4, hm⟩ := of_bind hm
      obtain rfl := Option.some.inj hm
      refine g_ret F3 (Evl.ev_op (Evl.ev_var (i := 0) rfl) (Evl.ev_var (i := 1) rfl) (rv_ix (f := V.int) hx4 (Evl.ex_l F3.base b_script_))) fun H5 F6 => ?_
      exact k _ F6
    · have F8 := F
      replace hm := of_ifF hb1 hm
      obtain rfl := Option.some.inj hm
      refine g_ret F8 Evl.ev_c fun H9 F10 => ?_
      exact k _ F10

def sp_l_row (K : PySem.W.Frag) : Sp := fun vs H Q _ => ∃ (cell_here_ : Int) (count_ : Int) (bound_ : Int) (res : List Int), vs = [.int cell_here_, .int count_, .int bound_] ∧ m_l_row cell_here_ count_ bound_ = some res ∧ ∀ p H', Fr H [(p, .lst (List.map V.int res))] H' → Q (.ref p) H'
theorem u_l_row {K : PySem.W.Frag} {H : Hp} {cell_here_ : Int} {count_ : Int} {bound_ : Int} {res : List Int} (hm : m_l_row cell_here_ count_ bound_ = some res) : Evl.SpL (sp_l_row K) [.int cell_here_, .int count_, .int bound_] H (List.map V.int res) := fun H1 e Q q E => ⟨cell_here_, count_, bound_, res, rfl, hm, fun p H' F => q p H' (F.fresh 0 rfl) F.base (F.get 0 rfl)⟩
abbrev s_l_row : Stmt := topS 9
theorem sc_l_row : FnScope ["_law_cell_here", "_law_count", "_law_bound", "_law_rest", "_law_mixed", "_law_row_here", "_law_k"] ["_law_cell_here", "_law_count", "_law_bound"] (defScope s_l_row) := ⟨rfl, rfl, rfl, by decide +kernel, rfl, by decide +kernel, by decide +kernel⟩
theorem ok_l_row {P : Program} {w : World} {K : PySem.W.Frag} {mg : Str → Option Value} {base : Heap} {fa : Addr} {fd : FuncData} (F : Fun K "_law_row" "_law_row" s_l_row fa fd) (T : Txt K mg) : FnOk P w K mg base CX0 1 fa fd ["_law_cell_here", "_law_count", "_law_bound"] (sp_l_row K) := by
  refine F.ok sc_l_row (fun vs H Q E h => ?_) (fun cdv A outer s HB vs Q E hr h => ?_)
  · obtain ⟨cell_here_, count_, bound_, res, rfl, _⟩ := h
    rfl
  · obtain ⟨cell_here_, count_, bound_, res, rfl, hm, k⟩ := h
    have F0 := Fr.refl HB
    unfold m_l_row at hm
    refine ⟨_, (pss_cons (ps_set (i := 3) sc_l_row.nd rfl (Or.inl rfl) (pe_callB cr_abs (by rfl) T.b_abs (by decide +kernel) (pa_cons (pe_callTy cr_int (by rfl) T.b_int (by decide +kernel) (pa_cons (pv 0) pa_nil)) pa_nil)))
    (pss_cons (ps_set (i := 4) sc_l_row.nd rfl (Or.inl rfl) (pe_op op_add (pe_op op_mod (pe_callTy cr_int (by rfl) T.b_int (by decide +kernel) (pa_cons (pv 0) pa_nil)) pe_int) pe_int))
    (pss_cons (ps_set (i := 5) sc_l_row.nd rfl (Or.inl rfl) (pe_lst pa_nil))
    (pss_cons (ps_for PassesOwn.never rfl (pi_range1 rfl T.b_range (pa_cons (pv 1) pa_nil)) (pg_name (i := 6) sc_l_row.nd rfl (Or.inl rfl))
      (pss_one (ps_if (pt_cmpR op_ge (pv 3) (pv 2) (nomark _)) (pss_cons (ps_expr (pe_bm PySem.F.plainAttrs_list PySem.F.slot_list_append PySem.F.type_list_append mt_append (pv 5) (pa_cons (pe_op op_mod (pe_callTy cr_int (by rfl) T.b_int (by decide +kernel) (pa_cons (pv 3) pa_nil)) (pv 2)) pa_nil)))
    (pss_cons (ps_set (i := 3) sc_l_row.nd rfl (Or.inl rfl) (pe_op op_fdivW (pv 3) (pv 2)))
    pss_nil)) (pss_cons (ps_set (i := 4) sc_l_row.nd rfl (Or.inl rfl) (pe_op op_mod (pe_callTy cr_int (by rfl) T.b_int (by decide +kernel) (pa_cons (pe_op op_add (pe_op op_add (pe_op op_mul (pv 4) pe_int) (pe_op op_mul pe_int (pv 6))) pe_int) pa_nil)) pe_int))
    (pss_cons (ps_expr (pe_bm PySem.F.plainAttrs_list PySem.F.slot_list_append PySem.F.type_list_append mt_append (pv 5) (pa_cons (pe_op op_mod (pe_callTy cr_int (by rfl) T.b_int (by decide +kernel) (pa_cons (pe_op op_fdiv (pe_op op_mul (pv 4) pe_int) pe_int) pa_nil)) (pv 2)) pa_nil)))
    pss_nil)))))
    (pss_one (ps_ret (pv 5))))))), ?_⟩
    refine sl (σ' := [some (.int cell_here_), some (.int count_), some (.int bound_), none, none, none, none]) rfl ?_
    obtain ⟨rest_1, hrest_1, hm⟩ := of_bnd hm
    refine g_asg (i := 3) (v := .int rest_1) (σ' := [some (.int cell_here_), some (.int count_), some (.int bound_), some (.int rest_1), none, none, none]) F0 (ev_cg (f := V.int) (ev_abs (ev_int (Evl.ev_var (i := 0) rfl))) hrest_1) rfl fun H2 F3 => ?_
    obtain ⟨mixed_4, hmixed_4, hm⟩ := of_bnd hm
    refine g_asg (i := 4) (v := .int mixed_4) (σ' := [some (.int cell_here_), some (.int count_), some (.int bound_), some (.int rest_1), some (.int mixed_4), none, none]) F3 (ev_cg (f := V.int) (Evl.ev_op (Evl.ev_op (ev_int (Evl.ev_var (i := 0) rfl)) Evl.ev_c (rv_modK _)) Evl.ev_c rv_I0) hmixed_4) rfl fun H5 F6 => ?_
    refine g_asgL (i := 5) (zs := List.map V.int ([] : List Int)) F6 (el_lst Evl.ea_nil) fun p7 H8 F9 => ?_
    refine sl (σ' := [some (.int cell_here_), some (.int count_), some (.int bound_), some (.int rest_1), some (.int mixed_4), some (.ref p7), none]) rfl ?_
    obtain ⟨r10, hr10, hm⟩ := of_bind hm
    obtain ⟨r13, hl43, hm⟩ := of_bind hm
    refine w_rngM1 hr10 hl43 (fun s12 σ H => ∃ (u_k_ : Option V) , σ = [some (.int cell_here_), some (.int count_), some (.int bound_), some (.int s12.1), some (.int s12.2.1), some (.ref p7), u_k_] ∧ Fr HB [(p7, .lst (List.map V.int s12.2.2))] H) (Evl.ea_cons (Evl.ev_var (i := 1) rfl) Evl.ea_nil) (fun H e => ?_) ?_ ?_
    · have F := F9.ex e
      exact ⟨_, rfl, F⟩
    · rintro _ H44 ⟨u_k_, rfl, F45⟩
      obtain rfl := Option.some.inj hm
      refine g_ret F45 (Evl.ev_var (i := 5) rfl) fun H46 F47 => ?_
      exact k _ _ F47
    · rintro k_11 s12 r20 _ H21 N hb ⟨u_k_, rfl, F22⟩ hN16
      have ho23 := hm; clear hm; have hm := hb; clear hb
      refine sl (σ' := [some (.int cell_here_), some (.int count_), some (.int bound_), some (.int s12.1), some (.int s12.2.1), some (.ref p7), some (.int k_11)]) rfl ?_
      refine s_if F22 (Evl.et_test (Evl.ev_op (Evl.ev_var (i := 3) rfl) (Evl.ev_var (i := 2) rfl) rv_I0)) (fun hb24 H F => ?_) (fun hb24 H F => ?_)
      · have F26 := F
        replace hm := of_ifT hb24 hm
        obtain ⟨n27, hn27, hm⟩ := of_bind hm
        obtain ⟨l28, hl28, hm⟩ := of_bind hm
        refine g_app (f := V.int) F26 hl28 (i := 0) rfl (Evl.ev_var (i := 5) rfl) (Evl.ev_op (ev_int (Evl.ev_var (i := 3) rfl)) (Evl.ev_var (i := 2) rfl) (rv_mod hn27)) rfl fun H29 F30 => ?_
        obtain ⟨n31, hn31, hm⟩ := of_bind hm
        refine g_asg (i := 3) (v := .int n31) (σ' := [some (.int cell_here_), some (.int count_), some (.int bound_), some (.int n31), some (.int s12.2.1), some (.ref p7), some (.int k_11)]) F30 (Evl.ev_op (Evl.ev_var (i := 3) rfl) (Evl.ev_var (i := 2) rfl) (rv_div hn31)) rfl fun H32 F33 => ?_
        obtain rfl := Option.some.inj hm
        exact hN16 _ _ ⟨_, rfl, F33⟩
      · have F35 := F
        replace hm := of_ifF hb24 hm
        obtain ⟨mixed_36, hmixed_36, hm⟩ := of_bnd hm
        refine g_asg (i := 4) (v := .int mixed_36) (σ' := [some (.int cell_here_), some (.int count_), some (.int bound_), some (.int s12.1), some (.int mixed_36), some (.ref p7), some (.int k_11)]) F35 (ev_cg (f := V.int) (Evl.ev_op (ev_int (Evl.ev_op (Evl.ev_op (Evl.ev_op (Evl.ev_var (i := 4) rfl) Evl.ev_c (rv_mulR _)) (Evl.ev_op Evl.ev_c (Evl.ev_var (i := 6) rfl) (rv_mulL _)) rv_I0) Evl.ev_c rv_I0)) Evl.ev_c (rv_modK _)) hmixed_36) rfl fun H37 F38 => ?_
        obtain ⟨n39, hn39, hm⟩ := of_bind hm
        obtain ⟨l40, hl40, hm⟩ := of_bind hm
        refine g_app (f := V.int) F38 hl40 (i := 0) rfl (Evl.ev_var (i := 5) rfl) (Evl.ev_op (ev_int (Evl.ev_op (Evl.ev_op (Evl.ev_var (i := 4) rfl) Evl.ev_c (rv_mulR _)) Evl.ev_c (rv_divK _))) (Evl.ev_var (i := 2) rfl) (rv_mod hn39)) rfl fun H41 F42 => ?_
        obtain rfl := Option.some.inj hm
        exact hN16 _ _ ⟨_, rfl, F42⟩

def sp_l_residuals (K : PySem.W.Frag) : Sp := fun vs H Q _ => ∃ (cell_here_ : Int) (count_ : Int) (shape_ : Int) (res : List Int), vs = [.int cell_here_, .int count_, .int shape_] ∧ m_l_residuals cell_here_ count_ shape_ = some res ∧ ∀ p H', Fr H [(p, .lst (List.map V.int res))] H' → Q (.ref p) H'
theorem u_l_residuals {K : PySem.W.Frag} {H : Hp} {cell_here_ : Int} {count_ : Int} {shape_ : Int} {res : List Int} (hm : m_l_residuals cell_here_ count_ shape_ = some res) : Evl.SpL (sp_l_residuals K) [.int cell_here_, .int count_, .int shape_] H (List.map V.int res) := fun H1 e Q q E => ⟨cell_here_, count_, shape_, res, rfl, hm, fun p H' F => q p H' (F.fresh 0 rfl) F.base (F.get 0 rfl)⟩
abbrev s_l_residuals : Stmt := topS 11
theorem sc_l_residuals : FnScope ["_law_cell_here", "_law_count", "_law_shape", "_law_bound", "_law_row_here", "_law_x", "_law_k"] ["_law_cell_here", "_law_count", "_law_shape"] (defScope s_l_residuals) := ⟨rfl, rfl, rfl, by decide +kernel, rfl, by decide +kernel, by decide +kernel⟩
theorem ok_l_residuals {P : Program} {w : World} {K : PySem.W.Frag} {mg : Str → Option Value} {base : Heap} {fa : Addr} {fd : FuncData} (F : Fun K "_law_residuals" "_law_residuals" s_l_residuals fa fd) (T : Txt K mg) {f_l_row : Addr} {fd_l_row : FuncData} (G_l_row : FnOk P w K mg base CX0 1 f_l_row fd_l_row ["_law_cell_here", "_law_count", "_law_bound"] (sp_l_row K)) (C_l_row : Cal K mg "_law_row" f_l_row fd_l_row ["_law_cell_here", "_law_count", "_law_bound"]) : FnOk P w K mg base CX0 2 fa fd ["_law_cell_here", "_law_count", "_law_shape"] (sp_l_residuals K) := by
  refine F.ok sc_l_residuals (fun vs H Q E h => ?_) (fun cdv A outer s HB vs Q E hr h => ?_)
  · obtain ⟨cell_here_, count_, shape_, res, rfl, _⟩ := h
    rfl
  · obtain ⟨cell_here_, count_, shape_, res, rfl, hm, k⟩ := h
    have F0 := Fr.refl HB
    unfold m_l_residuals at hm
    refine ⟨_, (pss_cons (ps_if (pt_cmpR op_eq (pv 2) pe_int (nomark _)) (pss_one (ps_ret (pe_op op_rep (pe_lst (pa_cons pe_int pa_nil)) (pv 1)))) pss_nil)
    (pss_cons (ps_set (i := 3) sc_l_residuals.nd rfl (Or.inr rfl) (pe_ix (kIx (K := K)) (pe_lst (pa_cons pe_int (pa_cons pe_int (pa_cons pe_int pa_nil)))) (pe_op op_mod (pv 2) pe_int) (fun _ _ => rfl)))
    (pss_cons (ps_setLc (i := 4) (own := [("_law_x", 5)]) (g := gName 5) (tt := tYes) rfl sc_l_residuals.nd rfl rfl (sw_true rfl rfl rfl (by decide +kernel)) (kpi_list (K := K) (pe_call G_l_row (hr.mono (by decide)) rfl C_l_row.g C_l_row.k C_l_row.b .nil pass0 (pa_cons (pv 0) (pa_cons (pv 1) (pa_cons (pv 3) pa_nil))))) (blkOk_by (N := ["_law_cell_here", "_law_count", "_law_shape", "_law_bound", "_law_row_here", "_law_x", "_law_k"]) (sc := defScope s_l_residuals) (by decide +kernel)) (fun _ _ _ _ _ => pg_name (i := 5) sc_l_residuals.nd rfl (Or.inl rfl)) (fun _ _ _ _ _ => pts_nil) (fun _ _ _ _ _ => (pe_op op_sub (pv 5) (pe_op op_fdiv (pv 3) pe_int))))
    (Evl.pss_cut (ps_if (pt_cmpR op_eq (pv 2) pe_int (nomark _)) (pss_cons (ps_for PassesOwn.never rfl (pi_range1 rfl T.b_range (pa_cons (pe_op op_fdiv (pv 1) pe_int) pa_nil)) (pg_name (i := 6) sc_l_residuals.nd rfl (Or.inl rfl))
      (pss_cons (ps_asg pe_int (pg_sub (pv 4) (pv 6) set_list))
    pss_nil))
    pss_nil) pss_nil)
    (pss_one (ps_ret (pv 4))))))), ?_⟩
    refine sl (σ' := [some (.int cell_here_), some (.int count_), some (.int shape_), none, none, none, none]) rfl ?_
    refine g_when F0 (Evl.et_test (Evl.ev_op (Evl.ev_var (i := 2) rfl) Evl.ev_c rv_eqI)) (fun hb1 H F => ?_) (fun hb1 H F => ?_)
    · have F3 := F
      replace hm := of_ifT hb1 hm
      obtain ⟨l4, hl4, hm⟩ := of_bind hm
      obtain rfl := Option.some.inj hm
      refine g_retL (zs := List.map V.int l4) F3 (el_repN (f := V.int) hl4 (el_lst (Evl.ea_cons Evl.ev_c Evl.ea_nil)) (Evl.ev_var (i := 1) rfl)) fun p7 H5 F6 => ?_
      exact k _ _ F6
    · have F9 := F
      replace hm := of_ifF hb1 hm
      obtain ⟨x10, hx10, hm⟩ := of_bind hm
      refine g_asg (i := 3) (v := .int x10) (σ' := [some (.int cell_here_), some (.int count_), some (.int shape_), some (.int x10), none, none, none]) F9 (ev_ixN (f := V.int) hx10 (el_lst (Evl.ea_cons Evl.ev_c (Evl.ea_cons Evl.ev_c (Evl.ea_cons Evl.ev_c Evl.ea_nil)))) (Evl.ev_op (Evl.ev_var (i := 2) rfl) Evl.ev_c (rv_modK _))) rfl fun H11 F12 => ?_
      obtain ⟨c16, hc16, hm⟩ := of_bind hm
      obtain ⟨z17, hz17, hm⟩ := of_bind hm
      obtain ⟨l15, hl15, hm⟩ := of_bind hm
      refine g_asgL (i := 4) (zs := List.map V.int l15) F12 (el_mapLN (f := V.int) (g := V.int) hl15 (Evl.el_call (Evl.ea_cons (Evl.ev_var (i := 0) rfl) (Evl.ea_cons (Evl.ev_var (i := 1) rfl) (Evl.ea_cons (Evl.ev_var (i := 3) rfl) Evl.ea_nil))) (u_l_row hc16)) (of_grd hz17).1 (fun _ => rfl) (fun x_14 y H1 e13 hy => by obtain rfl := Option.some.inj hy; exact (Evl.ev_op (Evl.ev_var (i := 5) rfl) (Evl.ev_op (Evl.ev_var (i := 3) rfl) Evl.ev_c (rv_divK _)) rv_I0))) fun p18 H19 F20 => ?_
      refine sl (σ' := [some (.int cell_here_), some (.int count_), some (.int shape_), some (.int x10), some (.ref p18), none, none]) rfl ?_
      obtain ⟨s21, hj22, hm⟩ := of_bind hm
      refine Evl.q_cut (M := fun σ H => ∃ (u_k_ : Option V) , σ = [some (.int cell_here_), some (.int count_), some (.int shape_), some (.int x10), some (.ref p18), none, u_k_] ∧ Fr HB [(p18, .lst (List.map V.int s21))] H) ?_ ?_
      · clear hm; have hm := hj22
        refine s_when F20 (Evl.et_test (Evl.ev_op (Evl.ev_var (i := 2) rfl) Evl.ev_c rv_eqI)) (fun hb24 H F => ?_) (fun hb24 H F => ?_)
        · have F26 := F
          replace hm := of_ifT hb24 hm
          obtain ⟨r27, hr27, hm⟩ := of_bind hm
          obtain ⟨r30, hl44, hm⟩ := of_bind hm
          refine w_rngM1 hr27 hl44 (fun s29 σ H => ∃ (u_k_ : Option V) , σ = [some (.int cell_here_), some (.int count_), some (.int shape_), some (.int x10), some (.ref p18), none, u_k_] ∧ Fr HB [(p18, .lst (List.map V.int s29))] H) (Evl.ea_cons (Evl.ev_op (Evl.ev_var (i := 1) rfl) Evl.ev_c (rv_divK _)) Evl.ea_nil) (fun H e => ?_) ?_ ?_
          · have F := F26.ex e
            exact ⟨_, rfl, F⟩
          · rintro _ H45 ⟨u_k_, rfl, F46⟩
            obtain rfl := Option.some.inj hm
            exact ⟨_, rfl, F46⟩
          · rintro k_28 s29 r37 _ H38 N hb ⟨u_k_, rfl, F39⟩ hN33
            have ho40 := hm; clear hm; have hm := hb; clear hb
            refine sl (σ' := [some (.int cell_here_), some (.int count_), some (.int shape_), some (.int x10), some (.ref p18), none, some (.int k_28)]) rfl ?_
            obtain ⟨l41, hl41, hm⟩ := of_bind hm
            refine g_set (f := V.int) F39 hl41 (i := 0) rfl Evl.ev_c (Evl.ev_var (i := 4) rfl) (Evl.ev_var (i := 6) rfl) rfl fun H42 F43 => ?_
            obtain rfl := Option.some.inj hm
            exact hN33 _ _ ⟨_, rfl, F43⟩
        · have F48 := F
          replace hm := of_ifF hb24 hm
          obtain rfl := Option.some.inj hm
          exact ⟨_, rfl, F48⟩
      · rintro _ H49 ⟨u_k_, rfl, F50⟩
        obtain rfl := Option.some.inj hm
        refine g_ret F50 (Evl.ev_var (i := 4) rfl) fun H51 F52 => ?_
        exact k _ _ F52

def sp_fold (K : PySem.W.Frag) : Sp := fun vs H Q _ => ∃ (n_ : Int) (res : Int), vs = [.int n_] ∧ m_fold n_ = some res ∧ ∀ H', Fr H [] H' → Q (.int res) H'
theorem u_fold {K : PySem.W.Frag} {H : Hp} {n_ : Int} {res : Int} (hm : m_fold n_ = some res) : Evl.SpV (sp_fold K) [.int n_] H (.int res) := fun H1 e Q q E => ⟨n_, res, rfl, hm, fun H' F => q H' F.base⟩
abbrev s_fold : Stmt := topS 1
theorem sc_fold : FnScope ["n"] ["n"] (defScope s_fold) := ⟨rfl, rfl, rfl, by decide +kernel, rfl, by decide +kernel, by decide +kernel⟩
theorem ok_fold {P : Program} {w : World} {K : PySem.W.Frag} {mg : Str → Option Value} {base : Heap} {fa : Addr} {fd : FuncData} (F : Fun K "fold" "fold" s_fold fa fd) (T : Txt K mg) : FnOk P w K mg base CX0 1 fa fd ["n"] (sp_fold K) := by
  refine F.ok sc_fold (fun vs H Q E h => ?_) (fun cdv A outer s HB vs Q E hr h => ?_)
  · obtain ⟨n_, res, rfl, _⟩ := h
    rfl
  · obtain ⟨n_, res, rfl, hm, k⟩ := h
    have F0 := Fr.refl HB
    unfold m_fold at hm
    refine ⟨_, (pss_cons (ps_if (pt_cmpR op_ge (pv 0) pe_int (nomark _)) (pss_one (ps_ret (pe_op op_mul pe_int (pv 0)))) pss_nil)
    (pss_one (ps_ret (pe_op op_sub (pe_op op_mul (pe_un un_neg pe_int) (pv 0)) pe_int)))), ?_⟩
    refine sl (σ' := [some (.int n_)]) rfl ?_
    refine g_when F0 (Evl.et_test (Evl.ev_op (Evl.ev_var (i := 0) rfl) Evl.ev_c rv_I0)) (fun hb1 H F => ?_) (fun hb1 H F => ?_)
    · have F3 := F
      replace hm := of_ifT hb1 hm
      obtain rfl := Option.some.inj hm
      refine g_ret F3 (Evl.ev_op Evl.ev_c (Evl.ev_var (i := 0) rfl) (rv_mulL _)) fun H4 F5 => ?_
      exact k _ F5
    · have F7 := F
      replace hm := of_ifF hb1 hm
      obtain rfl := Option.some.inj hm
      refine g_ret F7 (Evl.ev_op (Evl.ev_op (ev_neg Evl.ev_c) (Evl.ev_var (i := 0) rfl) (rv_mulL _)) Evl.ev_c rv_I0) fun H8 F9 => ?_
      exact k _ F9

def sp_rice_bits (K : PySem.W.Frag) : Sp := fun vs H Q _ => ∃ (a_residuals_ : Addr) (residuals_ : List Int) (k_ : Int) (res : Int), vs = [.ref a_residuals_, .int k_] ∧ H a_residuals_ = some (.lst (List.map V.int residuals_)) ∧ m_rice_bits residuals_ k_ = some res ∧ ∀ H', Fr H [] H' → Q (.int res) H'
theorem u_rice_bits {K : PySem.W.Frag} {H : Hp} {residuals_ : List Int} {a_residuals_ : Addr} {k_ : Int} {res : Int} (h_residuals_ : H a_residuals_ = some (.lst (List.map V.int residuals_))) (hm : m_rice_bits residuals_ k_ = some res) : Evl.SpV (sp_rice_bits K) [.ref a_residuals_, .int k_] H (.int res) := fun H1 e Q q E => ⟨a_residuals_, residuals_, k_, res, rfl, e _ _ h_residuals_, hm, fun H' F => q H' F.base⟩
abbrev s_rice_bits : Stmt := topS 3
theorem sc_rice_bits : FnScope ["residuals", "k", "total", "value"] ["residuals", "k"] (defScope s_rice_bits) := ⟨rfl, rfl, rfl, by decide +kernel, rfl, by decide +kernel, by decide +kernel⟩
theorem ok_rice_bits {P : Program} {w : World} {K : PySem.W.Frag} {mg : Str → Option Value} {base : Heap} {fa : Addr} {fd : FuncData} (F : Fun K "rice_bits" "rice_bits" s_rice_bits fa fd) (T : Txt K mg) {f_fold : Addr} {fd_fold : FuncData} (G_fold : FnOk P w K mg base CX0 1 f_fold fd_fold ["n"] (sp_fold K)) (C_fold : Cal K mg "fold" f_fold fd_fold ["n"]) : FnOk P w K mg base CX0 2 fa fd ["residuals", "k"] (sp_rice_bits K) := by
  refine F.ok sc_rice_bits (fun vs H Q E h => ?_) (fun cdv A outer s HB vs Q E hr h => ?_)
  · obtain ⟨a_residuals_, residuals_, k_, res, rfl, _⟩ := h
    rfl
  · obtain ⟨a_residuals_, residuals_, k_, res, rfl, b_residuals_, hm, k⟩ := h
    have F0 := Fr.refl HB
    unfold m_rice_bits at hm
    refine ⟨_, (pss_cons (ps_set (i := 2) sc_rice_bits.nd rfl (Or.inl rfl) pe_int)
    (pss_cons (ps_for PassesOwn.never rfl (kpi_list (K := K) (pv 0)) (pg_name (i := 3) sc_rice_bits.nd rfl (Or.inl rfl))
      (pss_cons (ps_aug (i := 2) sc_rice_bits.nd rfl (Or.inl rfl) (pe_op op_add (pe_op op_add pe_int (pv 1)) (pe_op op_shr (pe_call G_fold (hr.mono (by decide)) rfl C_fold.g C_fold.k C_fold.b .nil pass0 (pa_cons (pv 3) pa_nil)) (pv 1))) iop_add)
    pss_nil))
    (pss_one (ps_ret (pv 2))))), ?_⟩
    refine sl (σ' := [some (.ref a_residuals_), some (.int k_), none, none]) rfl ?_
    refine g_asg (i := 2) (v := .int 0) (σ' := [some (.ref a_residuals_), some (.int k_), some (.int 0), none]) F0 Evl.ev_c rfl fun H1 F2 => ?_
    obtain ⟨r5, hl21, hm⟩ := of_bind hm
    refine w_forM (f := V.int) hl21 (fun s4 σ H => ∃ (u_value_ : Option V) , σ = [some (.ref a_residuals_), some (.int k_), some (.int s4), u_value_] ∧ Fr HB [] H) (Evl.ev_var (i := 0) rfl) (Evl.sq_of (F2.base _ _ b_residuals_)) (fun H e => ?_) ?_ ?_ ?_
    · have F := F2.ex e
      exact ⟨_, rfl, F⟩
    · rintro s4 _ H ⟨_, rfl, F⟩
      exact (Evl.sq_of (F.base _ _ b_residuals_))
    · rintro _ H22 ⟨u_value_, rfl, F23⟩
      obtain rfl := Option.some.inj hm
      refine g_ret F23 (Evl.ev_var (i := 2) rfl) fun H24 F25 => ?_
      exact k _ F25
    · rintro value_3 s4 r12 _ H13 N hb ⟨u_value_, rfl, F14⟩ hN8
      have ho15 := hm; clear hm; have hm := hb; clear hb
      refine sl (σ' := [some (.ref a_residuals_), some (.int k_), some (.int s4), some (.int value_3)]) rfl ?_
      obtain ⟨c16, hc16, hm⟩ := of_bind hm
      obtain ⟨n17, hn17, hm⟩ := of_bind hm
      obtain ⟨total_18, htotal_18, hm⟩ := of_bnd hm
      refine g_aug (i := 2) (z := .int total_18) (σ' := [some (.ref a_residuals_), some (.int k_), some (.int total_18), some (.int value_3)]) F14 rfl (Evl.ev_op (Evl.ev_op Evl.ev_c (Evl.ev_var (i := 1) rfl) rv_I0) (Evl.ev_op (Evl.ev_call (Evl.ea_cons (Evl.ev_var (i := 3) rfl) Evl.ea_nil) (u_fold hc16)) (Evl.ev_var (i := 1) rfl) (rv_shr hn17)) rv_I0) (rv_cg htotal_18 rv_I0) rfl fun H19 F20 => ?_
      obtain rfl := Option.some.inj hm
      exact hN8 _ _ ⟨_, rfl, F20⟩

def sp_raw_width (K : PySem.W.Frag) : Sp := fun vs H Q _ => ∃ (a_residuals_ : Addr) (residuals_ : List Int) (res : Int), vs = [.ref a_residuals_] ∧ H a_residuals_ = some (.lst (List.map V.int residuals_)) ∧ m_raw_width residuals_ = some res ∧ ∀ H', Fr H [] H' → Q (.int res) H'
theorem u_raw_width {K : PySem.W.Frag} {H : Hp} {residuals_ : List Int} {a_residuals_ : Addr} {res : Int} (h_residuals_ : H a_residuals_ = some (.lst (List.map V.int residuals_))) (hm : m_raw_width residuals_ = some res) : Evl.SpV (sp_raw_width K) [.ref a_residuals_] H (.int res) := fun H1 e Q q E => ⟨a_residuals_, residuals_, res, rfl, e _ _ h_residuals_, hm, fun H' F => q H' F.base⟩
abbrev s_raw_width : Stmt := topS 4
theorem sc_raw_width : FnScope ["residuals", "width", "value", "reach"] ["residuals"] (defScope s_raw_width) := ⟨rfl, rfl, rfl, by decide +kernel, rfl, by decide +kernel, by decide +kernel⟩
theorem ok_raw_width {P : Program} {w : World} {K : PySem.W.Frag} {mg : Str → Option Value} {base : Heap} {fa : Addr} {fd : FuncData} (F : Fun K "raw_width" "raw_width" s_raw_width fa fd) (T : Txt K mg) : FnOk P w K mg base CX0 1 fa fd ["residuals"] (sp_raw_width K) := by
  refine F.ok sc_raw_width (fun vs H Q E h => ?_) (fun cdv A outer s HB vs Q E hr h => ?_)
  · obtain ⟨a_residuals_, residuals_, res, rfl, _⟩ := h
    rfl
  · obtain ⟨a_residuals_, residuals_, res, rfl, b_residuals_, hm, k⟩ := h
    have F0 := Fr.refl HB
    unfold m_raw_width at hm
    refine ⟨_, (pss_cons (ps_set (i := 1) sc_raw_width.nd rfl (Or.inl rfl) pe_int)
    (pss_cons (ps_for PassesOwn.never rfl (kpi_list (K := K) (pv 0)) (pg_name (i := 2) sc_raw_width.nd rfl (Or.inl rfl))
      (pss_one (ps_if (pt_cmpR op_ne (pv 2) pe_int (nomark _)) (pss_cons (ps_set (i := 3) sc_raw_width.nd rfl (Or.inl rfl) (pe_ifExp (pt_cmpR op_gt (pv 2) pe_int (nomark _)) (pv 2) (pe_op op_sub (pe_un un_neg (pv 2)) pe_int)))
    (pss_cons (ps_set (i := 1) sc_raw_width.nd rfl (Or.inl rfl) (pe_callB (cr_max2 rfl) (by rfl) T.b_max (by decide +kernel) (pa_cons (pv 1) (pa_cons (pe_op op_add (pe_bits (pv 3)) pe_int) pa_nil))))
    pss_nil)) pss_nil)))
    (pss_one (ps_ret (pv 1))))), ?_⟩
    refine sl (σ' := [some (.ref a_residuals_), none, none, none]) rfl ?_
    refine g_asg (i := 1) (v := .int 0) (σ' := [some (.ref a_residuals_), some (.int 0), none, none]) F0 Evl.ev_c rfl fun H1 F2 => ?_
    obtain ⟨r5, hl27, hm⟩ := of_bind hm
    refine w_forM (f := V.int) hl27 (fun s4 σ H => ∃ (u_value_ : Option V) (u_reach_ : Option V) , σ = [some (.ref a_residuals_), some (.int s4), u_value_, u_reach_] ∧ Fr HB [] H) (Evl.ev_var (i := 0) rfl) (Evl.sq_of (F2.base _ _ b_residuals_)) (fun H e => ?_) ?_ ?_ ?_
    · have F := F2.ex e
      exact ⟨_, _, rfl, F⟩
    · rintro s4 _ H ⟨_, _, rfl, F⟩
      exact (Evl.sq_of (F.base _ _ b_residuals_))
    · rintro _ H28 ⟨u_value_, u_reach_, rfl, F29⟩
      obtain rfl := Option.some.inj hm
      refine g_ret F29 (Evl.ev_var (i := 1) rfl) fun H30 F31 => ?_
      exact k _ F31
    · rintro value_3 s4 r12 _ H13 N hb ⟨u_value_, u_reach_, rfl, F14⟩ hN8
      have ho15 := hm; clear hm; have hm := hb; clear hb
      refine sl (σ' := [some (.ref a_residuals_), some (.int s4), some (.int value_3), u_reach_]) rfl ?_
      refine s_when F14 (Evl.et_test (Evl.ev_op (Evl.ev_var (i := 2) rfl) Evl.ev_c rv_neI)) (fun hb16 H F => ?_) (fun hb16 H F => ?_)
      · have F18 := F
        replace hm := of_ifT hb16 hm
        obtain ⟨w19, hw19, hm⟩ := of_bind hm
        refine g_asg (i := 3) (v := .int w19) (σ' := [some (.ref a_residuals_), some (.int s4), some (.int value_3), some (.int w19)]) F18 (ev_ifV (f := V.int) hw19 (Evl.et_test (Evl.ev_op (Evl.ev_var (i := 2) rfl) Evl.ev_c rv_I0)) (fun y hy => by obtain rfl := Option.some.inj hy; exact (Evl.ev_var (i := 2) rfl)) (fun y hy => by obtain rfl := Option.some.inj hy; exact (Evl.ev_op (ev_neg (Evl.ev_var (i := 2) rfl)) Evl.ev_c rv_I0))) rfl fun H20 F21 => ?_
        obtain ⟨width_22, hwidth_22, hm⟩ := of_bnd hm
        refine g_asg (i := 1) (v := .int width_22) (σ' := [some (.ref a_residuals_), some (.int width_22), some (.int value_3), some (.int w19)]) F21 (ev_cg (f := V.int) (ev_max2 (Evl.ev_var (i := 1) rfl) (Evl.ev_op (ev_bits (Evl.ev_var (i := 3) rfl)) Evl.ev_c rv_I0)) hwidth_22) rfl fun H23 F24 => ?_
        obtain rfl := Option.some.inj hm
        exact hN8 _ _ ⟨_, _, rfl, F24⟩
      · have F26 := F
        replace hm := of_ifF hb16 hm
        obtain rfl := Option.some.inj hm
        exact hN8 _ _ ⟨_, _, rfl, F26⟩

def sp_l_integer (K : PySem.W.Frag) : Sp := fun vs H Q _ => ∃ (value_ : Int) (res : Bool), vs = [.int value_] ∧ m_l_integer value_ = some res ∧ ∀ H', Fr H [] H' → Q (.bl res) H'
theorem u_l_integer {K : PySem.W.Frag} {H : Hp} {value_ : Int} {res : Bool} (hm : m_l_integer value_ = some res) : Evl.SpV (sp_l_integer K) [.int value_] H (.bl res) := fun H1 e Q q E => ⟨value_, res, rfl, hm, fun H' F => q H' F.base⟩
abbrev s_l_integer : Stmt := topS 7
theorem sc_l_integer : FnScope ["_law_value"] ["_law_value"] (defScope s_l_integer) := ⟨rfl, rfl, rfl, by decide +kernel, rfl, by decide +kernel, by decide +kernel⟩
theorem ok_l_integer {P : Program} {w : World} {K : PySem.W.Frag} {mg : Str → Option Value} {base : Heap} {fa : Addr} {fd : FuncData} (F : Fun K "_law_integer" "_law_integer" s_l_integer fa fd) (T : Txt K mg) : FnOk P w K mg base CX0 1 fa fd ["_law_value"] (sp_l_integer K) := by
  refine F.ok sc_l_integer (fun vs H Q E h => ?_) (fun cdv A outer s HB vs Q E hr h => ?_)
  · obtain ⟨value_, res, rfl, _⟩ := h
    rfl
  · obtain ⟨value_, res, rfl, hm, k⟩ := h
    have F0 := Fr.refl HB
    unfold m_l_integer at hm
    refine ⟨_, (pss_one (ps_ret (pe_and (pe_callB (kIsi (K := K)) (by rfl) T.b_isinstance (by decide +kernel) (pa_cons (pv 0) (pa_cons (pe_bltn (v := .ty "int") (by rfl) T.b_int (by decide +kernel) rfl) pa_nil))) (pe_one (pe_not (pe_callB (kIsi (K := K)) (by rfl) T.b_isinstance (by decide +kernel) (pa_cons (pv 0) (pa_cons (pe_bltn (v := .ty "bool") (by rfl) T.b_bool (by decide +kernel) rfl) pa_nil)))))))), ?_⟩
    refine sl (σ' := [some (.int value_)]) rfl ?_
    obtain rfl := Option.some.inj hm
    refine g_ret F0 (Evl.ev_andV (ev_isi (b := true) (Evl.ev_var (i := 0) rfl) Evl.ev_c ty_int (kit_ty (by decide +kernel))) (fun _ => (Evl.ev_notV (ev_isi (b := false) (Evl.ev_var (i := 0) rfl) Evl.ev_c ty_int (kit_ty (by decide +kernel)))))) fun H1 F2 => ?_
    exact k _ F2

def sp_l_width (K : PySem.W.Frag) : Sp := fun vs H Q _ => ∃ (a_values_ : Addr) (values_ : List Int) (res : Int), vs = [.ref a_values_] ∧ H a_values_ = some (.lst (List.map V.int values_)) ∧ m_l_width values_ = some res ∧ ∀ H', Fr H [] H' → Q (.int res) H'
theorem u_l_width {K : PySem.W.Frag} {H : Hp} {values_ : List Int} {a_values_ : Addr} {res : Int} (h_values_ : H a_values_ = some (.lst (List.map V.int values_))) (hm : m_l_width values_ = some res) : Evl.SpV (sp_l_width K) [.ref a_values_] H (.int res) := fun H1 e Q q E => ⟨a_values_, values_, res, rfl, e _ _ h_values_, hm, fun H' F => q H' F.base⟩
abbrev s_l_width : Stmt := topS 10
theorem sc_l_width : FnScope ["_law_values", "_law_width_here", "_law_half", "_law_value"] ["_law_values"] (defScope s_l_width) := ⟨rfl, rfl, rfl, by decide +kernel, rfl, by decide +kernel, by decide +kernel⟩
theorem ok_l_width {P : Program} {w : World} {K : PySem.W.Frag} {mg : Str → Option Value} {base : Heap} {fa : Addr} {fd : FuncData} (F : Fun K "_law_width" "_law_width" s_l_width fa fd) (T : Txt K mg) : FnOk P w K mg base CX0 1 fa fd ["_law_values"] (sp_l_width K) := by
  refine F.ok sc_l_width (fun vs H Q E h => ?_) (fun cdv A outer s HB vs Q E hr h => ?_)
  · obtain ⟨a_values_, values_, res, rfl, _⟩ := h
    rfl
  · obtain ⟨a_values_, values_, res, rfl, b_values_, hm, k⟩ := h
    have F0 := Fr.refl HB
    unfold m_l_width at hm
    refine ⟨_, (pss_cons (ps_for PassesOwn.never rfl (pi_range1 rfl T.b_range (pa_cons pe_int pa_nil)) (pg_name (i := 1) sc_l_width.nd rfl (Or.inl rfl))
      (pss_cons (ps_set (i := 2) sc_l_width.nd rfl (Or.inr rfl) (pe_op op_fdiv (pe_op op_shlW pe_int (pv 1)) pe_int))
    (pss_one (ps_if (pt_val (pe_callB (kAll (K := K) rfl) (by rfl) T.b_all (by decide +kernel) (pa_cons (pe_lc (own := [("_law_value", 3)]) (g := gName 3) (tt := tYes) rfl sc_l_width.nd (kpi_list (K := K) (pv 0)) (blkOk_by (N := ["_law_values", "_law_width_here", "_law_half", "_law_value"]) (sc := defScope s_l_width) (by decide +kernel)) (fun _ _ _ _ _ => pg_name (i := 3) sc_l_width.nd rfl (Or.inl rfl)) (fun _ _ _ _ _ => pts_nil) (fun _ _ _ _ _ => (pe_chain op_le op_lt (pe_un un_neg (pv 2)) (pv 3) (pe_callB (cr_max2 rfl) (by rfl) T.b_max (by decide +kernel) (pa_cons pe_int (pa_cons (pv 2) pa_nil)))))) pa_nil))) (pss_one (ps_ret (pv 1))) pss_nil))))
    (pss_one (ps_ret pe_int))), ?_⟩
    refine sl (σ' := [some (.ref a_values_), none, none, none]) rfl ?_
    obtain ⟨r1, hr1, hm⟩ := of_bind hm
    obtain ⟨r4, hl30, hm⟩ := of_bind hm
    refine w_rngF1 hr1 hl30 (fun s3 σ H => ∃ (u_width_here_ : Option V) (u_half_ : Option V) , σ = [some (.ref a_values_), u_width_here_, u_half_, none] ∧ Fr HB [] H) (Evl.ea_cons Evl.ev_c Evl.ea_nil) (fun H e => ?_) ?_ ?_
    · have F := F0.ex e
      exact ⟨_, _, rfl, F⟩
    · rintro s31 _ H33 rfl ⟨u_width_here_, u_half_, rfl, F34⟩
      dsimp only at hm
      obtain rfl := Option.some.inj hm
      refine g_ret F34 Evl.ev_c fun H35 F36 => ?_
      exact k _ F36
    · rintro width_here_2 s3 r11 _ H12 N hb ⟨u_width_here_, u_half_, rfl, F13⟩ hk8 hq9 hd10 hN7
      have ho14 := hm; clear hm; have hm := hb; clear hb
      refine sl (σ' := [some (.ref a_values_), some (.int width_here_2), u_half_, none]) rfl ?_
      obtain ⟨n15, hn15, hm⟩ := of_bind hm
      obtain ⟨half_16, hhalf_16, hm⟩ := of_bnd hm
      refine g_asg (i := 2) (v := .int half_16) (σ' := [some (.ref a_values_), some (.int width_here_2), some (.int half_16), none]) F13 (ev_cg (f := V.int) (Evl.ev_op (Evl.ev_op Evl.ev_c (Evl.ev_var (i := 1) rfl) (rv_shl hn15)) Evl.ev_c (rv_divK _)) hhalf_16) rfl fun H17 F18 => ?_
      obtain ⟨z22, hz22, hm⟩ := of_bind hm
      obtain ⟨l21, hl21, hm⟩ := of_bind hm
      refine s_when F18 (Evl.et_B (ev_allN (el_mapL (f := V.int) (g := V.bl) hl21 (Evl.sq_of (F18.base _ _ b_values_)) (Evl.ev_var (i := 0) rfl) (of_grd hz22).1 (fun _ => rfl) (fun value_20 y H1 e19 hy => by obtain rfl := Option.some.inj hy; exact (ev_chain (ev_neg (Evl.ev_var (i := 2) rfl)) (Evl.ev_var (i := 3) rfl) (ev_max2 Evl.ev_c (Evl.ev_var (i := 2) rfl)) rv_I0 rv_I0))))) (fun hb23 H F => ?_) (fun hb23 H F => ?_)
      · have F25 := F
        replace hm := of_ifT hb23 hm
        obtain rfl := Option.some.inj hm
        obtain rfl := hq9 _ rfl
        replace hm := ho14
        obtain rfl := Option.some.inj hm
        refine g_ret F25 (Evl.ev_var (i := 1) rfl) fun H26 F27 => ?_
        exact k _ F27
      · have F29 := F
        replace hm := of_ifF hb23 hm
        obtain rfl := Option.some.inj hm
        exact hN7 _ _ _ rfl ⟨_, _, rfl, F29⟩

def sp_law (K : PySem.W.Frag) : Sp := fun vs H Q _ => ∃ (a_script_ : Addr) (script_ : List Int) (res : Bool), vs = [.ref a_script_] ∧ SqL K H a_script_ (List.map V.int script_) ∧ m_law script_ = some res ∧ ∀ H', Fr H [] H' → Q (.bl res) H'
theorem u_law {K : PySem.W.Frag} {H : Hp} {script_ : List Int} {a_script_ : Addr} {res : Bool} (h_script_ : SqL K H a_script_ (List.map V.int script_)) (hm : m_law script_ = some res) : Evl.SpV (sp_law K) [.ref a_script_] H (.bl res) := fun H1 e Q q E => ⟨a_script_, script_, res, rfl, Evl.ex_l e h_script_, hm, fun H' F => q H' F.base⟩
abbrev s_law : Stmt := topS 12
theorem sc_law : FnScope ["_law_script", "_law_first", "_law_count", "_law_values", "_law_k", "_law_expected", "_law_value", "_law_folded", "_law_given", "_law_bits", "_law_width_here"] ["_law_script"] (defScope s_law) := ⟨rfl, rfl, rfl, by decide +kernel, rfl, by decide +kernel, by decide +kernel⟩
theorem ok_law {P : Program} {w : World} {K : PySem.W.Frag} {mg : Str → Option Value} {base : Heap} {fa : Addr} {fd : FuncData} (F : Fun K "law" "law" s_law fa fd) (T : Txt K mg) {f_l_cell : Addr} {fd_l_cell : FuncData} (G_l_cell : FnOk P w K mg base CX0 1 f_l_cell fd_l_cell ["_law_script", "_law_k"] (sp_l_cell K)) (C_l_cell : Cal K mg "_law_cell" f_l_cell fd_l_cell ["_law_script", "_law_k"]) {f_l_residuals : Addr} {fd_l_residuals : FuncData} (G_l_residuals : FnOk P w K mg base CX0 2 f_l_residuals fd_l_residuals ["_law_cell_here", "_law_count", "_law_shape"] (sp_l_residuals K)) (C_l_residuals : Cal K mg "_law_residuals" f_l_residuals fd_l_residuals ["_law_cell_here", "_law_count", "_law_shape"]) {f_rice_bits : Addr} {fd_rice_bits : FuncData} (G_rice_bits : FnOk P w K mg base CX0 2 f_rice_bits fd_rice_bits ["residuals", "k"] (sp_rice_bits K)) (C_rice_bits : Cal K mg "rice_bits" f_rice_bits fd_rice_bits ["residuals", "k"]) {f_raw_width : Addr} {fd_raw_width : FuncData} (G_raw_width : FnOk P w K mg base CX0 1 f_raw_width fd_raw_width ["residuals"] (sp_raw_width K)) (C_raw_width : Cal K mg "raw_width" f_raw_width fd_raw_width ["residuals"]) {f_l_integer : Addr} {fd_l_integer : FuncData} (G_l_integer : FnOk P w K mg base CX0 1 f_l_integer fd_l_integer ["_law_value"] (sp_l_integer K)) (C_l_integer : Cal K mg "_law_integer" f_l_integer fd_l_integer ["_law_value"]) {f_l_width : Addr} {fd_l_width : FuncData} (G_l_width : FnOk P w K mg base CX0 1 f_l_width fd_l_width ["_law_values"] (sp_l_width K)) (C_l_width : Cal K mg "_law_width" f_l_width fd_l_width ["_law_values"]) : FnOk P w K mg base CX0 3 fa fd ["_law_script"] (sp_law K) := by
  refine F.ok sc_law (fun vs H Q E h => ?_) (fun cdv A outer s HB vs Q E hr h => ?_)
  · obtain ⟨a_script_, script_, res, rfl, _⟩ := h
    rfl
  · obtain ⟨a_script_, script_, res, rfl, b_script_, hm, k⟩ := h
    have F0 := Fr.refl HB
    unfold m_law at hm
    refine ⟨_, (pss_cons (ps_set (i := 1) sc_law.nd rfl (Or.inl rfl) (pe_call G_l_cell (hr.mono (by decide)) rfl C_l_cell.g C_l_cell.k C_l_cell.b .nil pass0 (pa_cons (pv 0) (pa_cons pe_int pa_nil))))
    (pss_cons (ps_set (i := 2) sc_law.nd rfl (Or.inl rfl) (pe_op op_add (pe_op op_mod (pe_callTy cr_int (by rfl) T.b_int (by decide +kernel) (pa_cons (pv 1) pa_nil)) pe_int) (pe_op op_mul pe_int (pe_callTy cr_int (by rfl) T.b_int (by decide +kernel) (pa_cons (pe_cmpR op_eq (pe_op op_mod (pe_op op_fdiv (pe_callTy cr_int (by rfl) T.b_int (by decide +kernel) (pa_cons (pv 1) pa_nil)) pe_int) pe_int) pe_int (nomark _)) pa_nil)))))
    (pss_cons (ps_set (i := 3) sc_law.nd rfl (Or.inl rfl) (pe_call G_l_residuals (hr.mono (by decide)) rfl C_l_residuals.g C_l_residuals.k C_l_residuals.b .nil pass0 (pa_cons (pe_call G_l_cell (hr.mono (by decide)) rfl C_l_cell.g C_l_cell.k C_l_cell.b .nil pass0 (pa_cons (pv 0) (pa_cons pe_int pa_nil))) (pa_cons (pv 2) (pa_cons (pe_op op_mod (pe_op op_fdiv (pe_callTy cr_int (by rfl) T.b_int (by decide +kernel) (pa_cons (pv 1) pa_nil)) pe_int) pe_int) pa_nil)))))
    (pss_cons (ps_set (i := 4) sc_law.nd rfl (Or.inl rfl) (pe_op op_mod (pe_callTy cr_int (by rfl) T.b_int (by decide +kernel) (pa_cons (pe_call G_l_cell (hr.mono (by decide)) rfl C_l_cell.g C_l_cell.k C_l_cell.b .nil pass0 (pa_cons (pv 0) (pa_cons pe_int pa_nil))) pa_nil)) pe_int))
    (pss_cons (ps_set (i := 5) sc_law.nd rfl (Or.inl rfl) pe_int)
    (pss_cons (ps_for PassesOwn.never rfl (kpi_list (K := K) (pv 3)) (pg_name (i := 6) sc_law.nd rfl (Or.inl rfl))
      (pss_cons (ps_set (i := 7) sc_law.nd rfl (Or.inl rfl) (pe_op op_mul pe_int (pv 6)))
    (Evl.pss_cut (ps_if (pt_cmpR op_lt (pv 6) pe_int (nomark _)) (pss_cons (ps_set (i := 7) sc_law.nd rfl (Or.inl rfl) (pe_op op_sub (pe_op op_mul (pe_un un_neg pe_int) (pv 6)) pe_int))
    pss_nil) pss_nil)
    (pss_cons (ps_set (i := 5) sc_law.nd rfl (Or.inl rfl) (pe_op op_add (pe_op op_add (pe_op op_add (pv 5) pe_int) (pv 4)) (pe_op op_fdivW (pv 7) (pe_op op_shlW pe_int (pv 4)))))
    pss_nil))))
    (pss_cons (ps_set (i := 8) sc_law.nd rfl (Or.inl rfl) (pe_callTy (kLst (K := K)) (by rfl) T.b_list (by decide +kernel) (pa_cons (pv 3) pa_nil)))
    (pss_cons (ps_set (i := 9) sc_law.nd rfl (Or.inl rfl) (pe_call G_rice_bits (hr.mono (by decide)) rfl C_rice_bits.g C_rice_bits.k C_rice_bits.b .nil pass0 (pa_cons (pv 8) (pa_cons (pv 4) pa_nil))))
    (pss_cons (ps_set (i := 10) sc_law.nd rfl (Or.inl rfl) (pe_call G_raw_width (hr.mono (by decide)) rfl C_raw_width.g C_raw_width.k C_raw_width.b .nil pass0 (pa_cons (pv 8) pa_nil)))
    (pss_cons (ps_if (PW.pt (pw_or (pt_not (pt_val (pe_call G_l_integer (hr.mono (by decide)) rfl C_l_integer.g C_l_integer.k C_l_integer.b .nil pass0 (pa_cons (pv 9) pa_nil)))) (pw_or (pt_not (pt_val (pe_call G_l_integer (hr.mono (by decide)) rfl C_l_integer.g C_l_integer.k C_l_integer.b .nil pass0 (pa_cons (pv 10) pa_nil)))) (pw_or1 (pt_cmpR (kNe (K := K) hr.units) (pv 8) (pv 3) (nomark _)))))) (pss_one (ps_ret pe_bl)) pss_nil)
    (pss_one (ps_ret (pe_and (pe_cmpR op_eq (pv 9) (pv 5) (nomark _)) (pe_one (pe_cmpR op_eq (pv 10) (pe_call G_l_width (hr.mono (by decide)) rfl C_l_width.g C_l_width.k C_l_width.b .nil pass0 (pa_cons (pv 3) pa_nil)) (nomark _)))))))))))))))), ?_⟩
    refine sl (σ' := [some (.ref a_script_), none, none, none, none, none, none, none, none, none, none]) rfl ?_
    obtain ⟨c1, hc1, hm⟩ := of_bind hm
    refine g_asg (i := 1) (v := .int c1) (σ' := [some (.ref a_script_), some (.int c1), none, none, none, none, none, none, none, none, none]) F0 (Evl.ev_call (Evl.ea_cons (Evl.ev_var (i := 0) rfl) (Evl.ea_cons Evl.ev_c Evl.ea_nil)) (u_l_cell (Evl.ex_l F0.base b_script_) hc1)) rfl fun H2 F3 => ?_
    obtain ⟨count_4, hcount_4, hm⟩ := of_bnd hm
    refine g_asg (i := 2) (v := .int count_4) (σ' := [some (.ref a_script_), some (.int c1), some (.int count_4), none, none, none, none, none, none, none, none]) F3 (ev_cg (f := V.int) (Evl.ev_op (Evl.ev_op (ev_int (Evl.ev_var (i := 1) rfl)) Evl.ev_c (rv_modK _)) (Evl.ev_op Evl.ev_c (ev_intB (Evl.ev_op (Evl.ev_op (Evl.ev_op (ev_int (Evl.ev_var (i := 1) rfl)) Evl.ev_c (rv_divK _)) Evl.ev_c (rv_modK _)) Evl.ev_c rv_eqI)) (rv_mulL _)) rv_I0) hcount_4) rfl fun H5 F6 => ?_
    obtain ⟨c7, hc7, hm⟩ := of_bind hm
    obtain ⟨c8, hc8, hm⟩ := of_bind hm
    refine g_asgL (i := 3) (zs := List.map V.int c8) F6 (Evl.el_call (Evl.ea_cons (Evl.ev_call (Evl.ea_cons (Evl.ev_var (i := 0) rfl) (Evl.ea_cons Evl.ev_c Evl.ea_nil)) (u_l_cell (Evl.ex_l F6.base b_script_) hc7)) (Evl.ea_cons (Evl.ev_var (i := 2) rfl) (Evl.ea_cons (Evl.ev_op (Evl.ev_op (ev_int (Evl.ev_var (i := 1) rfl)) Evl.ev_c (rv_divK _)) Evl.ev_c (rv_modK _)) Evl.ea_nil))) (u_l_residuals hc8)) fun p9 H10 F11 => ?_
    refine sl (σ' := [some (.ref a_script_), some (.int c1), some (.int count_4), some (.ref p9), none, none, none, none, none, none, none]) rfl ?_
    obtain ⟨c12, hc12, hm⟩ := of_bind hm
    obtain ⟨k_13, hk_13, hm⟩ := of_bnd hm
    refine g_asg (i := 4) (v := .int k_13) (σ' := [some (.ref a_script_), some (.int c1), some (.int count_4), some (.ref p9), some (.int k_13), none, none, none, none, none, none]) F11 (ev_cg (f := V.int) (Evl.ev_op (ev_int (Evl.ev_call (Evl.ea_cons (Evl.ev_var (i := 0) rfl) (Evl.ea_cons Evl.ev_c Evl.ea_nil)) (u_l_cell (Evl.ex_l F11.base b_script_) hc12))) Evl.ev_c (rv_modK _)) hk_13) rfl fun H14 F15 => ?_
    refine g_asg (i := 5) (v := .int 0) (σ' := [some (.ref a_script_), some (.int c1), some (.int count_4), some (.ref p9), some (.int k_13), some (.int 0), none, none, none, none, none]) F15 Evl.ev_c rfl fun H16 F17 => ?_
    obtain ⟨r20, hl52, hm⟩ := of_bind hm
    refine w_forM (f := V.int) hl52 (fun s19 σ H => ∃ (u_value_ : Option V) (u_folded_ : Option V) , σ = [some (.ref a_script_), some (.int c1), some (.int count_4), some (.ref p9), some (.int k_13), some (.int s19), u_value_, u_folded_, none, none, none] ∧ Fr HB [(p9, .lst (List.map V.int c8))] H) (Evl.ev_var (i := 3) rfl) (Evl.sq_of (F17.get 0 rfl)) (fun H e => ?_) ?_ ?_ ?_
    · have F := F17.ex e
      exact ⟨_, _, rfl, F⟩
    · rintro s19 _ H ⟨_, _, rfl, F⟩
      exact (Evl.sq_of (F.get 0 rfl))
    · rintro _ H53 ⟨u_value_, u_folded_, rfl, F54⟩
      refine g_asgL (i := 8) (zs := List.map V.int c8) F54 (el_list (f := V.int) (Evl.sq_of (F54.get 0 rfl)) (Evl.ev_var (i := 3) rfl)) fun p55 H56 F57 => ?_
      refine sl (σ' := [some (.ref a_script_), some (.int c1), some (.int count_4), some (.ref p9), some (.int k_13), some (.int r20), u_value_, u_folded_, some (.ref p55), none, none]) rfl ?_
      obtain ⟨c58, hc58, hm⟩ := of_bind hm
      refine g_asg (i := 9) (v := .int c58) (σ' := [some (.ref a_script_), some (.int c1), some (.int count_4), some (.ref p9), some (.int k_13), some (.int r20), u_value_, u_folded_, some (.ref p55), some (.int c58), none]) F57 (Evl.ev_call (Evl.ea_cons (Evl.ev_var (i := 8) rfl) (Evl.ea_cons (Evl.ev_var (i := 4) rfl) Evl.ea_nil)) (u_rice_bits (F57.get 1 rfl) hc58)) rfl fun H59 F60 => ?_
      obtain ⟨c61, hc61, hm⟩ := of_bind hm
      refine g_asg (i := 10) (v := .int c61) (σ' := [some (.ref a_script_), some (.int c1), some (.int count_4), some (.ref p9), some (.int k_13), some (.int r20), u_value_, u_folded_, some (.ref p55), some (.int c58), some (.int c61)]) F60 (Evl.ev_call (Evl.ea_cons (Evl.ev_var (i := 8) rfl) Evl.ea_nil) (u_raw_width (F60.get 1 rfl) hc61)) rfl fun H62 F63 => ?_
      obtain ⟨c64, hc64, hm⟩ := of_bind hm
      obtain ⟨b66, hb66, hm⟩ := of_bind hm
      refine g_when F63 (et_orO hb66 (Evl.et_not (Evl.et_B (Evl.ev_call (Evl.ea_cons (Evl.ev_var (i := 9) rfl) Evl.ea_nil) (u_l_integer hc64)))) (fun y hy => by obtain ⟨c65, hc65, hy⟩ := of_bind hy; obtain rfl := Option.some.inj hy; exact (Evl.et_or (Evl.et_not (Evl.et_B (Evl.ev_call (Evl.ea_cons (Evl.ev_var (i := 10) rfl) Evl.ea_nil) (u_l_integer hc65)))) (fun _ => (Evl.et_test (Evl.ev_op (Evl.ev_var (i := 8) rfl) (Evl.ev_var (i := 3) rfl) (rv_neL (Evl.sq_of (F63.get 1 rfl)) (Evl.sq_of (F63.get 0 rfl))))))))) (fun hb67 H F => ?_) (fun hb67 H F => ?_)
      · have F69 := F
        replace hm := of_ifT hb67 hm
        obtain rfl := Option.some.inj hm
        refine g_ret F69 Evl.ev_c fun H70 F71 => ?_
        exact k _ (F71.pick [] (by decide) rfl)
      · have F73 := F
        replace hm := of_ifF hb67 hm
        obtain ⟨b75, hb75, hm⟩ := of_bind hm
        obtain rfl := Option.some.inj hm
        refine g_ret F73 (ev_andVO hb75 (Evl.ev_op (Evl.ev_var (i := 9) rfl) (Evl.ev_var (i := 5) rfl) rv_eqI) (fun y hy => by obtain ⟨c74, hc74, hy⟩ := of_bind hy; obtain rfl := Option.some.inj hy; exact (Evl.ev_op (Evl.ev_var (i := 10) rfl) (Evl.ev_call (Evl.ea_cons (Evl.ev_var (i := 3) rfl) Evl.ea_nil) (u_l_width (F73.get 0 rfl) hc74)) rv_eqI))) fun H76 F77 => ?_
        exact k _ (F77.pick [] (by decide) rfl)
    · rintro value_18 s19 r27 _ H28 N hb ⟨u_value_, u_folded_, rfl, F29⟩ hN23
      have ho30 := hm; clear hm; have hm := hb; clear hb
      refine sl (σ' := [some (.ref a_script_), some (.int c1), some (.int count_4), some (.ref p9), some (.int k_13), some (.int s19), some (.int value_18), u_folded_, none, none, none]) rfl ?_
      obtain ⟨folded_31, hfolded_31, hm⟩ := of_bnd hm
      refine g_asg (i := 7) (v := .int folded_31) (σ' := [some (.ref a_script_), some (.int c1), some (.int count_4), some (.ref p9), some (.int k_13), some (.int s19), some (.int value_18), some (.int folded_31), none, none, none]) F29 (ev_cg (f := V.int) (Evl.ev_op Evl.ev_c (Evl.ev_var (i := 6) rfl) (rv_mulL _)) hfolded_31) rfl fun H32 F33 => ?_
      obtain ⟨s34, hj35, hm⟩ := of_bind hm
      refine Evl.q_cut (M := fun σ H => σ = [some (.ref a_script_), some (.int c1), some (.int count_4), some (.ref p9), some (.int k_13), some (.int s19), some (.int value_18), some (.int s34), none, none, none] ∧ Fr HB [(p9, .lst (List.map V.int c8))] H) ?_ ?_
      · clear hm; have hm := hj35
        refine s_when F33 (Evl.et_test (Evl.ev_op (Evl.ev_var (i := 6) rfl) Evl.ev_c rv_I0)) (fun hb37 H F => ?_) (fun hb37 H F => ?_)
        · have F39 := F
          replace hm := of_ifT hb37 hm
          obtain ⟨folded_40, hfolded_40, hm⟩ := of_bnd hm
          refine g_asg (i := 7) (v := .int folded_40) (σ' := [some (.ref a_script_), some (.int c1), some (.int count_4), some (.ref p9), some (.int k_13), some (.int s19), some (.int value_18), some (.int folded_40), none, none, none]) F39 (ev_cg (f := V.int) (Evl.ev_op (Evl.ev_op (ev_neg Evl.ev_c) (Evl.ev_var (i := 6) rfl) (rv_mulL _)) Evl.ev_c rv_I0) hfolded_40) rfl fun H41 F42 => ?_
          obtain rfl := Option.some.inj hm
          exact ⟨rfl, F42⟩
        · have F44 := F
          replace hm := of_ifF hb37 hm
          obtain rfl := Option.some.inj hm
          exact ⟨rfl, F44⟩
      · rintro _ H45 ⟨rfl, F46⟩
        obtain ⟨n47, hn47, hm⟩ := of_bind hm
        obtain ⟨n48, hn48, hm⟩ := of_bind hm
        obtain ⟨expected_49, hexpected_49, hm⟩ := of_bnd hm
        refine g_asg (i := 5) (v := .int expected_49) (σ' := [some (.ref a_script_), some (.int c1), some (.int count_4), some (.ref p9), some (.int k_13), some (.int expected_49), some (.int value_18), some (.int s34), none, none, none]) F46 (ev_cg (f := V.int) (Evl.ev_op (Evl.ev_op (Evl.ev_op (Evl.ev_var (i := 5) rfl) Evl.ev_c rv_I0) (Evl.ev_var (i := 4) rfl) rv_I0) (Evl.ev_op (Evl.ev_var (i := 7) rfl) (Evl.ev_op Evl.ev_c (Evl.ev_var (i := 4) rfl) (rv_shl hn47)) (rv_div hn48)) rv_I0) hexpected_49) rfl fun H50 F51 => ?_
        obtain rfl := Option.some.inj hm
        exact hN23 _ _ ⟨_, _, rfl, F51⟩

theorem all_mk {l : PySem.W.OpenLaw} {w : World} {K : PySem.W.Frag} {h : Heap} {mg : Str → Option Value} {fa : Addr} {f_l_cell : Addr} {f_l_row : Addr} {f_l_residuals : Addr} {f_fold : Addr} {f_rice_bits : Addr} {f_raw_width : Addr} {f_l_integer : Addr} {f_l_width : Addr} {f_law : Addr} (X : K.In h) (G : h.Ns mainGlobals mg) (hfa : mg "law" = some (.ref fa))
    {od_l_cell an_l_cell : Option Addr} {sl_l_cell : Array (Option Value)} {oc_l_cell kV_l_cell dc_l_cell pm_l_cell cd_l_cell ct_l_cell : Value}
    {od_l_row an_l_row : Option Addr} {sl_l_row : Array (Option Value)} {oc_l_row kV_l_row dc_l_row pm_l_row cd_l_row ct_l_row : Value}
    {od_l_residuals an_l_residuals : Option Addr} {sl_l_residuals : Array (Option Value)} {oc_l_residuals kV_l_residuals dc_l_residuals pm_l_residuals cd_l_residuals ct_l_residuals : Value}
    {od_fold an_fold : Option Addr} {sl_fold : Array (Option Value)} {oc_fold kV_fold dc_fold pm_fold cd_fold ct_fold : Value}
    {od_rice_bits an_rice_bits : Option Addr} {sl_rice_bits : Array (Option Value)} {oc_rice_bits kV_rice_bits dc_rice_bits pm_rice_bits cd_rice_bits ct_rice_bits : Value}
    {od_raw_width an_raw_width : Option Addr} {sl_raw_width : Array (Option Value)} {oc_raw_width kV_raw_width dc_raw_width pm_raw_width cd_raw_width ct_raw_width : Value}
    {od_l_integer an_l_integer : Option Addr} {sl_l_integer : Array (Option Value)} {oc_l_integer kV_l_integer dc_l_integer pm_l_integer cd_l_integer ct_l_integer : Value}
    {od_l_width an_l_width : Option Addr} {sl_l_width : Array (Option Value)} {oc_l_width kV_l_width dc_l_width pm_l_width cd_l_width ct_l_width : Value}
    {od_law an_law : Option Addr} {sl_law : Array (Option Value)} {oc_law kV_law dc_law pm_law cd_law ct_law : Value}
    (a_l_cell : PySem.W.nsIn K mainGlobals "_law_cell" = some (some (.ref f_l_cell))) (l_l_cell : K.lookup f_l_cell = some ⟨oc_l_cell, od_l_cell, .func (PySem.W.fnOf "_law_cell" "_law_cell" (defArgs s_l_cell) (defBody s_l_cell) (defScope s_l_cell) .none kV_l_cell dc_l_cell pm_l_cell an_l_cell cd_l_cell ct_l_cell), sl_l_cell⟩) (c_l_cell : PySem.W.codeIn K cd_l_cell "_law_cell" = true) (k_l_cell : PySem.W.keepIn K (.ref f_l_cell) = true)
    (a_l_row : PySem.W.nsIn K mainGlobals "_law_row" = some (some (.ref f_l_row))) (l_l_row : K.lookup f_l_row = some ⟨oc_l_row, od_l_row, .func (PySem.W.fnOf "_law_row" "_law_row" (defArgs s_l_row) (defBody s_l_row) (defScope s_l_row) .none kV_l_row dc_l_row pm_l_row an_l_row cd_l_row ct_l_row), sl_l_row⟩) (c_l_row : PySem.W.codeIn K cd_l_row "_law_row" = true) (k_l_row : PySem.W.keepIn K (.ref f_l_row) = true)
    (a_l_residuals : PySem.W.nsIn K mainGlobals "_law_residuals" = some (some (.ref f_l_residuals))) (l_l_residuals : K.lookup f_l_residuals = some ⟨oc_l_residuals, od_l_residuals, .func (PySem.W.fnOf "_law_residuals" "_law_residuals" (defArgs s_l_residuals) (defBody s_l_residuals) (defScope s_l_residuals) .none kV_l_residuals dc_l_residuals pm_l_residuals an_l_residuals cd_l_residuals ct_l_residuals), sl_l_residuals⟩) (c_l_residuals : PySem.W.codeIn K cd_l_residuals "_law_residuals" = true) (k_l_residuals : PySem.W.keepIn K (.ref f_l_residuals) = true)
    (a_fold : PySem.W.nsIn K mainGlobals "fold" = some (some (.ref f_fold))) (l_fold : K.lookup f_fold = some ⟨oc_fold, od_fold, .func (PySem.W.fnOf "fold" "fold" (defArgs s_fold) (defBody s_fold) (defScope s_fold) .none kV_fold dc_fold pm_fold an_fold cd_fold ct_fold), sl_fold⟩) (c_fold : PySem.W.codeIn K cd_fold "fold" = true) (k_fold : PySem.W.keepIn K (.ref f_fold) = true)
    (a_rice_bits : PySem.W.nsIn K mainGlobals "rice_bits" = some (some (.ref f_rice_bits))) (l_rice_bits : K.lookup f_rice_bits = some ⟨oc_rice_bits, od_rice_bits, .func (PySem.W.fnOf "rice_bits" "rice_bits" (defArgs s_rice_bits) (defBody s_rice_bits) (defScope s_rice_bits) .none kV_rice_bits dc_rice_bits pm_rice_bits an_rice_bits cd_rice_bits ct_rice_bits), sl_rice_bits⟩) (c_rice_bits : PySem.W.codeIn K cd_rice_bits "rice_bits" = true) (k_rice_bits : PySem.W.keepIn K (.ref f_rice_bits) = true)
    (a_raw_width : PySem.W.nsIn K mainGlobals "raw_width" = some (some (.ref f_raw_width))) (l_raw_width : K.lookup f_raw_width = some ⟨oc_raw_width, od_raw_width, .func (PySem.W.fnOf "raw_width" "raw_width" (defArgs s_raw_width) (defBody s_raw_width) (defScope s_raw_width) .none kV_raw_width dc_raw_width pm_raw_width an_raw_width cd_raw_width ct_raw_width), sl_raw_width⟩) (c_raw_width : PySem.W.codeIn K cd_raw_width "raw_width" = true) (k_raw_width : PySem.W.keepIn K (.ref f_raw_width) = true)
    (a_l_integer : PySem.W.nsIn K mainGlobals "_law_integer" = some (some (.ref f_l_integer))) (l_l_integer : K.lookup f_l_integer = some ⟨oc_l_integer, od_l_integer, .func (PySem.W.fnOf "_law_integer" "_law_integer" (defArgs s_l_integer) (defBody s_l_integer) (defScope s_l_integer) .none kV_l_integer dc_l_integer pm_l_integer an_l_integer cd_l_integer ct_l_integer), sl_l_integer⟩) (c_l_integer : PySem.W.codeIn K cd_l_integer "_law_integer" = true) (k_l_integer : PySem.W.keepIn K (.ref f_l_integer) = true)
    (a_l_width : PySem.W.nsIn K mainGlobals "_law_width" = some (some (.ref f_l_width))) (l_l_width : K.lookup f_l_width = some ⟨oc_l_width, od_l_width, .func (PySem.W.fnOf "_law_width" "_law_width" (defArgs s_l_width) (defBody s_l_width) (defScope s_l_width) .none kV_l_width dc_l_width pm_l_width an_l_width cd_l_width ct_l_width), sl_l_width⟩) (c_l_width : PySem.W.codeIn K cd_l_width "_law_width" = true) (k_l_width : PySem.W.keepIn K (.ref f_l_width) = true)
    (a_law : PySem.W.nsIn K mainGlobals "law" = some (some (.ref f_law))) (l_law : K.lookup f_law = some ⟨oc_law, od_law, .func (PySem.W.fnOf "law" "law" (defArgs s_law) (defBody s_law) (defScope s_law) .none kV_law dc_law pm_law an_law cd_law ct_law), sl_law⟩) (c_law : PySem.W.codeIn K cd_law "law" = true) (k_law : PySem.W.keepIn K (.ref f_law) = true)
    (z_abs : PySem.W.nsIn K mainGlobals "abs" = some none)
    (z_all : PySem.W.nsIn K mainGlobals "all" = some none)
    (z_bool : PySem.W.nsIn K mainGlobals "bool" = some none)
    (z_int : PySem.W.nsIn K mainGlobals "int" = some none)
    (z_isinstance : PySem.W.nsIn K mainGlobals "isinstance" = some none)
    (z_len : PySem.W.nsIn K mainGlobals "len" = some none)
    (z_list : PySem.W.nsIn K mainGlobals "list" = some none)
    (z_max : PySem.W.nsIn K mainGlobals "max" = some none)
    (z_range : PySem.W.nsIn K mainGlobals "range" = some none) :
    ∃ fd : FuncData, (∀ (s : Shared) (v : Value), BindsTo s fd ⟨[v], []⟩ [("_law_script", v)]) ∧ ∀ base : Heap, K.In base → base.Ns mainGlobals mg → FnOk l.prog w K mg base CX0 3 fa fd ["_law_script"] (sp_law K) := by
  have e := hfa.symm.trans (PySem.W.mg_of X G a_law)
  cases e
  have T : Txt K mg := ⟨PySem.W.mg_none_of X G z_abs, PySem.W.mg_none_of X G z_all, PySem.W.mg_none_of X G z_bool, PySem.W.mg_none_of X G z_int, PySem.W.mg_none_of X G z_isinstance, PySem.W.mg_none_of X G z_len, PySem.W.mg_none_of X G z_list, PySem.W.mg_none_of X G z_max, PySem.W.mg_none_of X G z_range⟩
  have F_l_cell := fun_mk (st := s_l_cell) l_l_cell c_l_cell k_l_cell
  have b_l_cell := F_l_cell.binds (ps := ["_law_script", "_law_k"]) fun _ _ _ _ _ _ us hl => match us, hl with | [_, _], _ => rfl
  have C_l_cell : Cal K mg "_law_cell" f_l_cell _ _ := ⟨PySem.W.mg_of X G a_l_cell, k_l_cell, b_l_cell⟩
  have F_l_row := fun_mk (st := s_l_row) l_l_row c_l_row k_l_row
  have b_l_row := F_l_row.binds (ps := ["_law_cell_here", "_law_count", "_law_bound"]) fun _ _ _ _ _ _ us hl => match us, hl with | [_, _, _], _ => rfl
  have C_l_row : Cal K mg "_law_row" f_l_row _ _ := ⟨PySem.W.mg_of X G a_l_row, k_l_row, b_l_row⟩
  have F_l_residuals := fun_mk (st := s_l_residuals) l_l_residuals c_l_residuals k_l_residuals
  have b_l_residuals := F_l_residuals.binds (ps := ["_law_cell_here", "_law_count", "_law_shape"]) fun _ _ _ _ _ _ us hl => match us, hl with | [_, _, _], _ => rfl
  have C_l_residuals : Cal K mg "_law_residuals" f_l_residuals _ _ := ⟨PySem.W.mg_of X G a_l_residuals, k_l_residuals, b_l_residuals⟩
  have F_fold := fun_mk (st := s_fold) l_fold c_fold k_fold
  have b_fold := F_fold.binds (ps := ["n"]) fun _ _ _ _ _ _ us hl => match us, hl with | [_], _ => rfl
  have C_fold : Cal K mg "fold" f_fold _ _ := ⟨PySem.W.mg_of X G a_fold, k_fold, b_fold⟩
  have F_rice_bits := fun_mk (st := s_rice_bits) l_rice_bits c_rice_bits k_rice_bits
  have b_rice_bits := F_rice_bits.binds (ps := ["residuals", "k"]) fun _ _ _ _ _ _ us hl => match us, hl with | [_, _], _ => rfl
  have C_rice_bits : Cal K mg "rice_bits" f_rice_bits _ _ := ⟨PySem.W.mg_of X G a_rice_bits, k_rice_bits, b_rice_bits⟩
  have F_raw_width := fun_mk (st := s_raw_width) l_raw_width c_raw_width k_raw_width
  have b_raw_width := F_raw_width.binds (ps := ["residuals"]) fun _ _ _ _ _ _ us hl => match us, hl with | [_], _ => rfl
  have C_raw_width : Cal K mg "raw_width" f_raw_width _ _ := ⟨PySem.W.mg_of X G a_raw_width, k_raw_width, b_raw_width⟩
  have F_l_integer := fun_mk (st := s_l_integer) l_l_integer c_l_integer k_l_integer
  have b_l_integer := F_l_integer.binds (ps := ["_law_value"]) fun _ _ _ _ _ _ us hl => match us, hl with | [_], _ => rfl
  have C_l_integer : Cal K mg "_law_integer" f_l_integer _ _ := ⟨PySem.W.mg_of X G a_l_integer, k_l_integer, b_l_integer⟩
  have F_l_width := fun_mk (st := s_l_width) l_l_width c_l_width k_l_width
  have b_l_width := F_l_width.binds (ps := ["_law_values"]) fun _ _ _ _ _ _ us hl => match us, hl with | [_], _ => rfl
  have C_l_width : Cal K mg "_law_width" f_l_width _ _ := ⟨PySem.W.mg_of X G a_l_width, k_l_width, b_l_width⟩
  have F_law := fun_mk (st := s_law) l_law c_law k_law
  refine ⟨PySem.W.fnOf "law" "law" (defArgs s_law) (defBody s_law) (defScope s_law) .none kV_law dc_law pm_law an_law cd_law ct_law, fun s v => .of_eq rfl, fun base _ _ => ?_⟩
  have G_l_cell := ok_l_cell (P := l.prog) (w := w) (base := base) F_l_cell T
  have G_l_row := ok_l_row (P := l.prog) (w := w) (base := base) F_l_row T
  have G_l_residuals := ok_l_residuals (P := l.prog) (w := w) (base := base) F_l_residuals T G_l_row C_l_row
  have G_fold := ok_fold (P := l.prog) (w := w) (base := base) F_fold T
  have G_rice_bits := ok_rice_bits (P := l.prog) (w := w) (base := base) F_rice_bits T G_fold C_fold
  have G_raw_width := ok_raw_width (P := l.prog) (w := w) (base := base) F_raw_width T
  have G_l_integer := ok_l_integer (P := l.prog) (w := w) (base := base) F_l_integer T
  have G_l_width := ok_l_width (P := l.prog) (w := w) (base := base) F_l_width T
  exact ok_law F_law T G_l_cell C_l_cell G_l_residuals C_l_residuals G_rice_bits C_rice_bits G_raw_width C_raw_width G_l_integer C_l_integer G_l_width C_l_width
theorem walk {l : PySem.W.OpenLaw} {q : Program} {loose : List Str} {XP : (Str → Option Value) → Heap → Prop} {YP : World → Heap → Prop} {d : DefRec} {K : Params → PySem.W.Frag} (hn : l.most = some 63) (hdf : d.params.defaults = [])
    (true_ : ∀ ns : List Int, ns.length ≤ 63 → (∀ z ∈ ns, Builtin.Int.intBits z ≤ 1048576) → m_law ns = some true)
    (hY : ∀ (w : World) (h : Heap), YP w h → (K w.params).In h)
    (F : ∀ (w : World) (mg : Str → Option Value) (fa : Addr) (h : Heap), (K w.params).In h → h.Ns mainGlobals mg → mg d.name = some (.ref fa) →
      ∃ fd : FuncData, (∀ (s : Shared) (u : Value), BindsTo s fd ⟨[u], []⟩ [("_law_script", u)]) ∧ ∀ base : Heap, (K w.params).In base → base.Ns mainGlobals mg → FnOk l.prog w (K w.params) mg base CX0 3 fa fd ["_law_script"] (sp_law (K w.params))) :
    PySem.W.WalkO q loose XP YP l.row.toRowW d [] (fun f vs => PySem.call f vs) :=
  L2.walk_ofB (n := 63) (k := 3) (x := "_law_script") (CX := fun _ => CX0) (sp := fun w => sp_law (K w.params)) hn (by decide) hdf ⟨rfl, by decide, by decide⟩ hY F (fun _ _ a ns hl hb _ hS => ⟨a, ns, true, rfl, hS, true_ ns hl hb, fun _ _ => rfl⟩) fun _ _ _ _ _ z => z
end K63
open PySem PySem.W PyProof.Rows
set_option maxRecDepth 100000 in
set_option maxHeartbeats 0 in
theorem PySem.Challenge.cw_monochord_k63_rice_bits_and_raw_width_holds : PySem.Challenge.rw_monochord_k63_rice_bits_and_raw_width.Holds := by
  w_on; o_law; k_head; (case hw => w_witness2)
  k_fill
  refine K63.walk (l := PySem.Challenge.rw_monochord_k63_rice_bits_and_raw_width) rfl rfl K63.law_true (fun w h Y => PySem.W.kIn_of Y) ?F
  case F =>
    intro w mg fa h KX G hmg
    refine' K63.all_mk KX G hmg ?a_l_cell ?l_l_cell ?c_l_cell ?k_l_cell ?a_l_row ?l_l_row ?c_l_row ?k_l_row ?a_l_residuals ?l_l_residuals ?c_l_residuals ?k_l_residuals ?a_fold ?l_fold ?c_fold ?k_fold ?a_rice_bits ?l_rice_bits ?c_rice_bits ?k_rice_bits ?a_raw_width ?l_raw_width ?c_raw_width ?k_raw_width ?a_l_integer ?l_l_integer ?c_l_integer ?k_l_integer ?a_l_width ?l_l_width ?c_l_width ?k_l_width ?a_law ?l_law ?c_law ?k_law ?z_abs ?z_all ?z_bool ?z_int ?z_isinstance ?z_len ?z_list ?z_max ?z_range
    (case a_l_cell => k_is)
    (case l_l_cell => k_is)
    (case c_l_cell => k_is)
    (case k_l_cell => k_is)
    (case a_l_row => k_is)
    (case l_l_row => k_is)
    (case c_l_row => k_is)
    (case k_l_row => k_is)
    (case a_l_residuals => k_is)
    (case l_l_residuals => k_is)
    (case c_l_residuals => k_is)
    (case k_l_residuals => k_is)
    (case a_fold => k_is)
    (case l_fold => k_is)
    (case c_fold => k_is)
    (case k_fold => k_is)
    (case a_rice_bits => k_is)
    (case l_rice_bits => k_is)
    (case c_rice_bits => k_is)
    (case k_rice_bits => k_is)
    (case a_raw_width => k_is)
    (case l_raw_width => k_is)
    (case c_raw_width => k_is)
    (case k_raw_width => k_is)
    (case a_l_integer => k_is)
    (case l_l_integer => k_is)
    (case c_l_integer => k_is)
    (case k_l_integer => k_is)
    (case a_l_width => k_is)
    (case l_l_width => k_is)
    (case c_l_width => k_is)
    (case k_l_width => k_is)
    (case a_law => k_is)
    (case l_law => k_is)
    (case c_law => k_is)
    (case k_law => k_is)
    (case z_abs => k_is)
    (case z_all => k_is)
    (case z_bool => k_is)
    (case z_int => k_is)
    (case z_isinstance => k_is)
    (case z_len => k_is)
    (case z_list => k_is)
    (case z_max => k_is)
    (case z_range => k_is)
