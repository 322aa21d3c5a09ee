import PyProof.Rows.All
import HandS.ForMost
import HandS.Gcd
import HandS.IsInst
import HandS.Conv
import HandS.Wide
import HandS.Walk
import HandS.Rev
import HandS.RevRange
import HandS.Flow
import HandS.Zip
import HandS.RaiseMore
import HandS.TupAny
import HandS.TupMul
import HandS.TupLe
import HandS.WideBits
import HandS.EndBits
import KE.IntBitsLaws
import HandS.Sort
import KE.GoesNew
import KE.DataAny
import HandS.NoneIn
import PyProof.Rows.StrMul
import PyProof.StrLawsRepr
import PySem.Challenge.RW_leastnest_k13_planted_non_squares
set_option Elab.async false
set_option linter.all false
set_option maxRecDepth 100000
set_option maxHeartbeats 4000000
set_option exponentiation.threshold 2000000
namespace DL
open PySem PySem.Spec PyProof.Rows L2
/-! what is asked of sizes, shut off from unfolding -/
structure Fit (n : Nat) : Prop where
  le : n ≤ sizeLine
theorem Fit.of {n : Nat} (h : n ≤ 16777216) : Fit n := ⟨by rw [sizeLine_eq]; exact h⟩
structure MulOk (i j : Int) : Prop where
  ok : IntMulOk i j
theorem MulOk.of_le {a b : Int} {m n : Nat} (ha : Builtin.Int.intBits a ≤ m) (hb : Builtin.Int.intBits b ≤ n) (h : m + n ≤ 134217728) : MulOk a b := ⟨IntMulOk.of_le ha hb h⟩
structure CDivZ (i j : Int) : Prop where
  nz : j ≠ 0
  np : Builtin.divisionGoesByPylong i j = false
structure PowOk (i j : Int) : Prop where
  ok : CPow i j
structure ShlOk (i j : Int) : Prop where
  ok : CShl i j
structure Rng (j : Int) : Prop where
  lo : -(2 ^ 62) ≤ j
  hi : j < 2 ^ 62
theorem Rng.of {j : Int} (h : -1000000000000 ≤ j) (h' : j ≤ 1000000000000) : Rng j := ⟨by omega, by omega⟩
abbrev D := PyData
abbrev Frag := PySem.W.Frag

/-! ### heaps: F what stays, H what is there -/
theorem Mut.some_of {o : Option HO} (m : Mut o) : ∃ u, o = some u := by
  cases o with
  | none => exact m.elim
  | some u => exact ⟨u, rfl⟩
theorem mut_same {H H' : Hp} {p : Addr} (e : Same H H') (m : Mut (H p)) : H' p = H p := by
  obtain ⟨u, hu⟩ := Mut.some_of m
  rw [hu]
  exact e p u hu
structure Gr (F H F' H' : Hp) : Prop where
  ff : Same F F'
  hh : Same H H'
  fh : Same F' H'
  own : ∀ p, F p = none → Mut (H p) → F' p = none
theorem Gr.refl {F H : Hp} (e : Same F H) : Gr F H F H := ⟨Same.refl F, Same.refl H, e, fun _ h _ => h⟩
theorem Gr.trans {F H F1 H1 F2 H2 : Hp} (a : Gr F H F1 H1) (b : Gr F1 H1 F2 H2) : Gr F H F2 H2 :=
  ⟨a.ff.trans b.ff, a.hh.trans b.hh, b.fh, fun p h m => b.own p (a.own p h m) (by rw [mut_same a.hh m]; exact m)⟩
theorem same_new {H : Hp} {p : Addr} {o : HO} (h : H p = none) : Same H (upd H p o) := fun b u e => by
  rw [upd_ne (ne_of_none e h)]
  exact e
theorem same_upd2 {F H : Hp} {p : Addr} {o : HO} (e : Same F H) : Same (upd F p o) (upd H p o) := fun b u q => by
  by_cases hb : b = p
  · subst hb
    rw [upd_same] at q ⊢
    exact q
  · rw [upd_ne hb] at q ⊢
    exact e b u q
/-- a new object that stays -/
theorem Gr.new {F H : Hp} {p : Addr} {o : HO} (e : Same F H) (h : H p = none) : Gr F H (upd F p o) (upd H p o) :=
  ⟨same_new (e.free h), same_new h, same_upd2 e, fun q hq m => by
    have : q ≠ p := fun z => by
      rw [z, h] at m
      exact m
    rw [upd_ne this]
    exact hq⟩
/-- a new object that may change -/
theorem Gr.newO {F H : Hp} {p : Addr} {o : HO} (e : Same F H) (h : H p = none) : Gr F H F (upd H p o) :=
  ⟨Same.refl F, same_new h, e.trans (same_new h), fun _ hq _ => hq⟩
end DL
namespace L2
open PySem PySem.Spec PyProof.Rows
theorem Same.seqT {K : PySem.W.Frag} {H H' : Hp} {a : Addr} {xs : List V} (e : Same H H') (h : SqT K H a xs) : SqT K H' a xs := by
  rcases h with (h | ⟨o, h⟩) | h
  · exact .inl (.inl (e _ _ h))
  · exact .inl (.inr ⟨o, e _ _ h⟩)
  · exact .inr h

end L2
namespace DL
open PySem PySem.Spec PyProof.Rows L2
/-! ### data over a heap -/
mutual
theorem dp_mono {K : Frag} {H H' : Hp} (e : Same H H') : ∀ (d : D) {v : V}, Dp K H v d → Dp K H' v d
  | .none, _, h => by cases h; exact .non
  | .bool b, _, h => by cases h; exact .bl _
  | .int i, _, h => by cases h; exact .int _
  | .str x, _, h => by cases h; exact .str _
  | .list ds, _, h => by
    cases h with
    | lst hs ha => exact .lst (e.seq hs) (dpAll_mono e ds ha)
  | .tuple ds, _, h => by
    cases h with
    | tup hs ha => exact .tup (Same.seqT e hs) (dpAll_mono e ds ha)
  | .dict _, _, h => by cases h
theorem dpAll_mono {K : Frag} {H H' : Hp} (e : Same H H') : ∀ (ds : List D) {vs : List V}, DpAll K H vs ds → DpAll K H' vs ds
  | [], _, h => by cases h; exact .nil
  | d :: ds, _, h => by
    cases h with
    | cons h1 h2 => exact .cons (dp_mono e d h1) (dpAll_mono e ds h2)
end
end DL
namespace L2
open PySem PySem.Spec PyProof.Rows DL
theorem Dp.mono {K : Frag} {H H' : Hp} {v : V} {d : D} (h : Dp K H v d) (e : Same H H') : Dp K H' v d := dp_mono e d h
theorem DpAll.mono {K : Frag} {H H' : Hp} {vs : List V} {ds : List D} (h : DpAll K H vs ds) (e : Same H H') : DpAll K H' vs ds := dpAll_mono e ds h
theorem DpAll.length {K : Frag} {H : Hp} : ∀ {vs : List V} {ds : List D}, DpAll K H vs ds → vs.length = ds.length
  | [], ds, h => by cases h; rfl
  | v :: vs, ds, h => by
    cases h with
    | cons _ h2 => rw [List.length_cons, List.length_cons, DpAll.length h2]
theorem DpAll.get {K : Frag} {H : Hp} : ∀ {vs : List V} {ds : List D} {i : Nat} {d : D}, DpAll K H vs ds → ds[i]? = some d → ∃ v, vs[i]? = some v ∧ Dp K H v d
  | [], ds, i, d, h, e => by cases h; simp at e
  | v :: vs, ds, i, d, h, e => by
    cases h with
    | cons h1 h2 =>
      cases i with
      | zero =>
        simp at e
        subst e
        exact ⟨v, rfl, h1⟩
      | succ i =>
        obtain ⟨u, hu, r⟩ := DpAll.get h2 (show _ = some d by simpa using e)
        exact ⟨u, by simpa using hu, r⟩
theorem DpAll.append {K : Frag} {H : Hp} : ∀ {vs us : List V} {ds es : List D}, DpAll K H vs ds → DpAll K H us es → DpAll K H (vs ++ us) (ds ++ es)
  | [], us, ds, es, h, g => by cases h; exact g
  | v :: vs, us, ds, es, h, g => by
    cases h with
    | cons h1 h2 => exact .cons h1 (DpAll.append h2 g)
theorem DpAll.set {K : Frag} {H : Hp} {u : V} {e : D} (r : Dp K H u e) : ∀ {vs : List V} {ds : List D} (i : Nat), DpAll K H vs ds → DpAll K H (vs.set i u) (ds.set i e)
  | [], ds, i, h => by cases h; exact .nil
  | v :: vs, ds, i, h => by
    cases h with
    | cons h1 h2 =>
      cases i with
      | zero => exact .cons r h2
      | succ i => exact .cons h1 (DpAll.set r i h2)
theorem DpAll.take {K : Frag} {H : Hp} : ∀ {vs : List V} {ds : List D} (n : Nat), DpAll K H vs ds → DpAll K H (vs.take n) (ds.take n)
  | [], ds, n, h => by cases h; simp; exact .nil
  | v :: vs, ds, n, h => by
    cases h with
    | cons h1 h2 =>
      cases n with
      | zero => exact .nil
      | succ n => exact .cons h1 (DpAll.take n h2)
theorem DpAll.drop {K : Frag} {H : Hp} : ∀ {vs : List V} {ds : List D} (n : Nat), DpAll K H vs ds → DpAll K H (vs.drop n) (ds.drop n)
  | [], ds, n, h => by cases h; simp; exact .nil
  | v :: vs, ds, n, h => by
    cases n with
    | zero => exact h
    | succ n =>
      cases h with
      | cons h1 h2 => exact DpAll.drop n h2
theorem DpAll.reverse {K : Frag} {H : Hp} : ∀ {vs : List V} {ds : List D}, DpAll K H vs ds → DpAll K H vs.reverse ds.reverse
  | [], ds, h => by cases h; exact .nil
  | v :: vs, ds, h => by
    cases h with
    | cons h1 h2 =>
      rw [List.reverse_cons, List.reverse_cons]
      exact DpAll.append (DpAll.reverse h2) (.cons h1 .nil)
theorem DpAll.dropLast {K : Frag} {H : Hp} {vs : List V} {ds : List D} (h : DpAll K H vs ds) : DpAll K H vs.dropLast ds.dropLast := by
  rw [List.dropLast_eq_take, List.dropLast_eq_take, h.length]
  exact h.take _
theorem DpAll.eraseIdx {K : Frag} {H : Hp} : ∀ {vs : List V} {ds : List D} (i : Nat), DpAll K H vs ds → DpAll K H (vs.eraseIdx i) (ds.eraseIdx i)
  | [], ds, i, h => by cases h; exact .nil
  | v :: vs, ds, i, h => by
    cases h with
    | cons h1 h2 =>
      cases i with
      | zero => exact h2
      | succ i => exact .cons h1 (DpAll.eraseIdx i h2)
theorem DpAll.replicate {K : Frag} {H : Hp} {v : V} {d : D} (r : Dp K H v d) : ∀ n : Nat, DpAll K H (List.replicate n v) (List.replicate n d)
  | 0 => .nil
  | n + 1 => .cons r (DpAll.replicate r n)
theorem DpAll.flatRep {K : Frag} {H : Hp} {vs : List V} {ds : List D} (r : DpAll K H vs ds) : ∀ n : Nat, DpAll K H (List.replicate n vs).flatten (List.replicate n ds).flatten
  | 0 => .nil
  | n + 1 => by
    rw [List.replicate_succ, List.replicate_succ, List.flatten_cons, List.flatten_cons]
    exact DpAll.append r (DpAll.flatRep r n)
theorem DpAll.ints {K : Frag} {H : Hp} : ∀ (ns : List Int), DpAll K H (ns.map V.int) (ns.map PyData.int)
  | [] => .nil
  | n :: r => .cons (.int n) (DpAll.ints r)
theorem DpAll.ints_of {K : Frag} {H : Hp} : ∀ {vs : List V} (ns : List Int), DpAll K H vs (ns.map PyData.int) → vs = ns.map V.int
  | [], ns, h => by
    cases ns with
    | nil => rfl
    | cons n r => cases h
  | v :: vs, ns, h => by
    cases ns with
    | nil => cases h
    | cons n r =>
      cases h with
      | cons h1 h2 =>
        cases h1
        rw [List.map_cons, ← DpAll.ints_of r h2]
theorem DpAll.bools_of {K : Frag} {H : Hp} : ∀ {vs : List V} (ns : List Bool), DpAll K H vs (ns.map PyData.bool) → vs = ns.map V.bl
  | [], ns, h => by
    cases ns with
    | nil => rfl
    | cons n r => cases h
  | v :: vs, ns, h => by
    cases ns with
    | nil => cases h
    | cons n r =>
      cases h with
      | cons h1 h2 =>
        cases h1
        rw [List.map_cons, ← DpAll.bools_of r h2]
theorem DpAll.strs_of {K : Frag} {H : Hp} : ∀ {vs : List V} (ns : List Str), DpAll K H vs (ns.map PyData.str) → vs = ns.map V.str
  | [], ns, h => by
    cases ns with
    | nil => rfl
    | cons n r => cases h
  | v :: vs, ns, h => by
    cases ns with
    | nil => cases h
    | cons n r =>
      cases h with
      | cons h1 h2 =>
        cases h1
        rw [List.map_cons, ← DpAll.strs_of r h2]

end L2
namespace DL
open PySem PySem.Spec PyProof.Rows L2
/-! no list within: it leans on tuples alone -/
mutual
def noLst : D → Bool
  | .list _ => false
  | .dict _ => false
  | .tuple ds => noLstAll ds
  | _ => true
def noLstAll : List D → Bool
  | [] => true
  | d :: ds => noLst d && noLstAll ds
end
mutual
theorem dp_cut {K : Frag} {H H' : Hp} (e : ∀ b u, H b = some u → ¬ Mut (some u) → H' b = some u) : ∀ (d : D) {v : V}, noLst d = true → Dp K H v d → Dp K H' v d
  | .none, _, _, h => by cases h; exact .non
  | .bool b, _, _, h => by cases h; exact .bl _
  | .int i, _, _, h => by cases h; exact .int _
  | .str x, _, _, h => by cases h; exact .str _
  | .list ds, _, n, h => by simp [noLst] at n
  | .tuple ds, _, n, h => by
    cases h with
    | tup hs ha =>
      refine .tup ?_ (dpAll_cut e ds (by simpa [noLst] using n) ha)
      rcases hs with (h | ⟨o, h⟩) | h
      · exact .inl (.inl (e _ _ h fun z => z))
      · exact .inl (.inr ⟨o, e _ _ h fun z => z⟩)
      · exact .inr h
  | .dict _, _, _, h => by cases h
theorem dpAll_cut {K : Frag} {H H' : Hp} (e : ∀ b u, H b = some u → ¬ Mut (some u) → H' b = some u) : ∀ (ds : List D) {vs : List V}, noLstAll ds = true → DpAll K H vs ds → DpAll K H' vs ds
  | [], _, _, h => by cases h; exact .nil
  | d :: ds, _, n, h => by
    cases h with
    | cons h1 h2 =>
      simp only [noLstAll, Bool.and_eq_true] at n
      exact .cons (dp_cut e d n.1 h1) (dpAll_cut e ds n.2 h2)
end

/-! ### slots -/
/-- a slot: data that stays, or a list of one's own -/
inductive DV where
  | val (d : D)
  | own (ds : List D)
abbrev Rho := List (Option DV)
def SlotOk (K : Frag) (B F H : Hp) : DV → V → Prop
  | .val d, v => Dp K F v d
  | .own ds, v => ∃ p vs, v = .ref p ∧ B p = none ∧ F p = none ∧ H p = some (.lst vs) ∧ DpAll K F vs ds
structure EnvOk (K : Frag) (B F H : Hp) (ρ : Rho) (σ : L2.St) : Prop where
  fh : Same F H
  bh : Same B H
  len : ρ.length = σ.length
  at' : ∀ (i : Nat) dv, ρ[i]? = some (some dv) → ∃ v, σ[i]? = some (some v) ∧ SlotOk K B F H dv v
  sep : ∀ (i j : Nat) (p : Addr) (a b : List D), i ≠ j → ρ[i]? = some (some (.own a)) → ρ[j]? = some (some (.own b)) → σ[i]? = some (some (.ref p)) → σ[j]? ≠ some (some (.ref p))
theorem SlotOk.grow {K : Frag} {B F H F' H' : Hp} {dv : DV} {v : V} (h : SlotOk K B F H dv v) (g : Gr F H F' H') : SlotOk K B F' H' dv v := by
  cases dv with
  | val d => exact Dp.mono h g.ff
  | own ds =>
    obtain ⟨p, vs, e, hb, hf, hh, ha⟩ := h
    exact ⟨p, vs, e, hb, g.own p hf (by rw [hh]; trivial), g.hh p _ hh, ha.mono g.ff⟩
theorem EnvOk.grow {K : Frag} {B F H F' H' : Hp} {ρ : Rho} {σ : L2.St} (E : EnvOk K B F H ρ σ) (g : Gr F H F' H') : EnvOk K B F' H' ρ σ :=
  ⟨g.fh, E.bh.trans g.hh, E.len, fun i dv e => let ⟨v, h1, h2⟩ := E.at' i dv e; ⟨v, h1, h2.grow g⟩, E.sep⟩
theorem EnvOk.set {K : Frag} {B F H : Hp} {ρ : Rho} {σ : L2.St} (E : EnvOk K B F H ρ σ) (i : Nat) {d : D} {v : V} (r : Dp K F v d) : EnvOk K B F H (ρ.set i (some (.val d))) (σ.set i (some v)) := by
  refine ⟨E.fh, E.bh, by rw [List.length_set, List.length_set]; exact E.len, fun j dv e => ?_, fun j k p a b hjk e1 e2 e3 => ?_⟩
  · by_cases hij : i = j
    · subst hij
      have hi : i < ρ.length := by
        have h := (List.getElem?_eq_some_iff.mp e).1
        rw [List.length_set] at h
        exact h
      rw [List.getElem?_set_self hi] at e
      cases e
      exact ⟨v, by rw [List.getElem?_set_self (by rw [← E.len]; exact hi)], r⟩
    · rw [List.getElem?_set_ne hij] at e ⊢
      exact E.at' j dv e
  · have n1 : i ≠ j := fun z => by
      subst z
      have hi : i < ρ.length := by
        have h := (List.getElem?_eq_some_iff.mp e1).1
        rw [List.length_set] at h
        exact h
      rw [List.getElem?_set_self hi] at e1
      cases e1
    have n2 : i ≠ k := fun z => by
      subst z
      have hi : i < ρ.length := by
        have h := (List.getElem?_eq_some_iff.mp e2).1
        rw [List.length_set] at h
        exact h
      rw [List.getElem?_set_self hi] at e2
      cases e2
    rw [List.getElem?_set_ne n1] at e1 e3
    rw [List.getElem?_set_ne n2] at e2 ⊢
    exact E.sep j k p a b hjk e1 e2 e3
/-- a slot that holds an own list, the list new or changed -/
theorem EnvOk.setOwn {K : Frag} {B F H H' : Hp} {ρ : Rho} {σ : L2.St} (E : EnvOk K B F H ρ σ) (i : Nat) {ds : List D} {vs : List V} {p : Addr} (hb : B p = none) (hf : F p = none) (hp : H' p = some (.lst vs)) (ha : DpAll K F vs ds)
    (hs : ∀ (j : Nat) (a : List D), j ≠ i → ρ[j]? = some (some (.own a)) → σ[j]? ≠ some (some (.ref p))) (hk : ∀ b, b ≠ p → H' b = H b) : EnvOk K B F H' (ρ.set i (some (.own ds))) (σ.set i (some (.ref p))) := by
  have fh' : Same F H' := fun b u e => by
    have : b ≠ p := fun z => by
      rw [z, hf] at e
      cases e
    rw [hk b this]
    exact E.fh b u e
  have bh' : Same B H' := fun b u e => by
    have : b ≠ p := fun z => by
      rw [z, hb] at e
      cases e
    rw [hk b this]
    exact E.bh b u e
  have sl : ∀ (j : Nat) dv, i ≠ j → ρ[j]? = some (some dv) → ∃ v, σ[j]? = some (some v) ∧ SlotOk K B F H' dv v := fun j dv hij e => by
    obtain ⟨v, h1, h2⟩ := E.at' j dv e
    refine ⟨v, h1, ?_⟩
    cases dv with
    | val d => exact h2
    | own a =>
      obtain ⟨q, us, rfl, q0, q1, q2, q3⟩ := h2
      have : q ≠ p := fun z => by
        subst z
        exact hs j a (Ne.symm hij) e h1
      exact ⟨q, us, rfl, q0, q1, by rw [hk q this]; exact q2, q3⟩
  refine ⟨fh', bh', by rw [List.length_set, List.length_set]; exact E.len, fun j dv e => ?_, fun j k q a b hjk e1 e2 e3 => ?_⟩
  · by_cases hij : i = j
    · subst hij
      have hi : i < ρ.length := by
        have h := (List.getElem?_eq_some_iff.mp e).1
        rw [List.length_set] at h
        exact h
      rw [List.getElem?_set_self hi] at e
      cases e
      exact ⟨.ref p, by rw [List.getElem?_set_self (by rw [← E.len]; exact hi)], p, vs, rfl, hb, hf, hp, ha⟩
    · rw [List.getElem?_set_ne hij] at e ⊢
      exact sl j dv hij e
  · by_cases hij : i = j
    · subst hij
      have n2 : i ≠ k := hjk
      have hi : i < ρ.length := by
        have h := (List.getElem?_eq_some_iff.mp e1).1
        rw [List.length_set] at h
        exact h
      rw [List.getElem?_set_self (by rw [← E.len]; exact hi)] at e3
      cases e3
      rw [List.getElem?_set_ne n2] at e2 ⊢
      exact hs k b (Ne.symm n2) e2
    · rw [List.getElem?_set_ne hij] at e1 e3
      by_cases hik : i = k
      · subst hik
        have hi : i < ρ.length := by
          have h := (List.getElem?_eq_some_iff.mp e2).1
          rw [List.length_set] at h
          exact h
        rw [List.getElem?_set_self (by rw [← E.len]; exact hi)]
        intro z
        cases z
        exact hs j a (Ne.symm hij) e1 e3
      · rw [List.getElem?_set_ne hik] at e2 ⊢
        exact E.sep j k q a b hjk e1 e2 e3
/-- everything stays (while nothing of one's own is changed) -/
def look : Option DV → Option DV
  | some (.own ds) => some (.val (.list ds))
  | o => o
def view (ρ : Rho) : Rho := ρ.map look
theorem EnvOk.view {K : Frag} {B F H : Hp} {ρ : Rho} {σ : L2.St} (E : EnvOk K B F H ρ σ) : EnvOk K B H H (view ρ) σ := by
  have noown : ∀ (i : Nat) a, (DL.view ρ)[i]? ≠ some (some (.own a)) := fun i a e => by
    unfold DL.view at e
    rw [List.getElem?_map] at e
    cases q : ρ[i]? with
    | none => rw [q] at e; cases e
    | some o =>
      rw [q] at e
      cases o with
      | none => cases e
      | some dv => cases dv <;> cases e
  refine ⟨Same.refl H, E.bh, by unfold DL.view; rw [List.length_map]; exact E.len, fun i dv e => ?_, fun i j p a b _ e _ _ => absurd e (noown i a)⟩
  unfold DL.view at e
  rw [List.getElem?_map] at e
  cases q : ρ[i]? with
  | none => rw [q] at e; cases e
  | some o =>
    rw [q] at e
    cases o with
    | none => cases e
    | some dv0 =>
      obtain ⟨v, h1, h2⟩ := E.at' i dv0 q
      refine ⟨v, h1, ?_⟩
      cases dv0 with
      | val d =>
        cases e
        exact Dp.mono h2 E.fh
      | own ds =>
        cases e
        obtain ⟨p, vs, rfl, _, _, h3, h4⟩ := h2
        exact Dp.lst (.inl (.inl h3)) (h4.mono E.fh)
/-- one own list is kept for good -/
theorem EnvOk.frz {K : Frag} {B F H : Hp} {ρ : Rho} {σ : L2.St} (E : EnvOk K B F H ρ σ) {i : Nat} {ds : List D} (e : ρ[i]? = some (some (.own ds))) :
    ∃ F', Same F F' ∧ (∀ p, F p = none → Mut (B p) → F' p = none) ∧ EnvOk K B F' H (ρ.set i (some (.val (.list ds)))) σ := by
  obtain ⟨v, h1, p, vs, rfl, hb, hf, hh, ha⟩ := E.at' i _ e
  have sF : Same F (upd F p (.lst vs)) := same_new hf
  have fh : Same (upd F p (.lst vs)) H := fun b u q => by
    by_cases hb : b = p
    · subst hb
      rw [upd_same] at q
      cases q
      exact hh
    · rw [upd_ne hb] at q
      exact E.fh b u q
  have hi : i < ρ.length := (List.getElem?_eq_some_iff.mp e).1
  have E' : EnvOk K B (upd F p (.lst vs)) H (ρ.set i (some (.val (.list ds)))) σ := by
    refine ⟨fh, E.bh, by rw [List.length_set]; exact E.len, fun j dv q => ?_, fun j k q a b hjk e1 e2 e3 => ?_⟩
    · by_cases hij : i = j
      · subst hij
        rw [List.getElem?_set_self hi] at q
        cases q
        exact ⟨.ref p, h1, Dp.lst (.inl (.inl upd_same)) (ha.mono sF)⟩
      · rw [List.getElem?_set_ne hij] at q
        obtain ⟨v, h2, h3⟩ := E.at' j dv q
        refine ⟨v, h2, ?_⟩
        cases dv with
        | val d => exact Dp.mono h3 sF
        | own a =>
          obtain ⟨p', us, rfl, g0, g1, g2, g3⟩ := h3
          have : p' ≠ p := fun z => by
            subst z
            exact E.sep j i p' a ds (Ne.symm hij) q e h2 h1
          exact ⟨p', us, rfl, g0, by rw [upd_ne this]; exact g1, g2, g3.mono sF⟩
    · have nn : ∀ (j : Nat) a, (ρ.set i (some (.val (.list ds))))[j]? = some (some (.own a)) → i ≠ j := fun j a z w => by
        subst w
        rw [List.getElem?_set_self hi] at z
        cases z
      rw [List.getElem?_set_ne (nn j a e1)] at e1
      rw [List.getElem?_set_ne (nn k b e2)] at e2
      exact E.sep j k q a b hjk e1 e2 e3
  refine ⟨_, sF, fun q hq m => ?_, E'⟩
  have : q ≠ p := fun z => by
    rw [z, hb] at m
    exact m
  rw [upd_ne this]
  exact hq
end DL

namespace DL
open PySem PySem.Spec PyProof.Rows L2

/-! ### readings over data -/
abbrev RE := Rho → (D → Prop) → Prop
abbrev RL := Rho → (List D → Prop) → Prop
abbrev RT := Rho → (Bool → Prop) → Prop
/-- a value that is read now: data that stays, or a list of one's own -/
def Bor (K : Frag) (F H : Hp) (v : V) (d : D) : Prop := Dp K F v d ∨ ∃ p vs xs, d = .list xs ∧ v = .ref p ∧ SqL K H p vs ∧ DpAll K F vs xs
theorem Bor.grow {K : Frag} {F H F' H' : Hp} {v : V} {d : D} (h : Bor K F H v d) (g : Gr F H F' H') : Bor K F' H' v d := by
  rcases h with h | ⟨p, vs, xs, e1, e2, h1, h2⟩
  · exact .inl (h.mono g.ff)
  · exact .inr ⟨p, vs, xs, e1, e2, g.hh.seq h1, h2.mono g.ff⟩
theorem Bor.lst {K : Frag} {F H : Hp} {v : V} {xs : List D} (fh : Same F H) (h : Bor K F H v (.list xs)) : ∃ p vs, v = .ref p ∧ SqL K H p vs ∧ DpAll K F vs xs := by
  rcases h with h | ⟨p, vs, xs', e1, e2, h1, h2⟩
  · cases h with
    | lst hs ha => exact ⟨_, _, rfl, fh.seq hs, ha⟩
  · cases e1
    exact ⟨p, vs, e2, h1, h2⟩
theorem Bor.tup {K : Frag} {F H : Hp} {v : V} {xs : List D} (fh : Same F H) (h : Bor K F H v (.tuple xs)) : ∃ p vs, v = .ref p ∧ SqT K F p vs ∧ SqT K H p vs ∧ DpAll K F vs xs := by
  rcases h with h | ⟨p, vs, xs', e1, e2, h1, h2⟩
  · cases h with
    | tup hs ha => exact ⟨_, _, rfl, hs, fh.seqT hs, ha⟩
  · cases e1
theorem Bor.int {K : Frag} {F H : Hp} {v : V} {i : Int} (h : Bor K F H v (.int i)) : v = .int i := by
  rcases h with h | ⟨p, vs, xs', e1, e2, h1, h2⟩
  · cases h; rfl
  · cases e1
theorem Bor.bl {K : Frag} {F H : Hp} {v : V} {i : Bool} (h : Bor K F H v (.bool i)) : v = .bl i := by
  rcases h with h | ⟨p, vs, xs', e1, e2, h1, h2⟩
  · cases h; rfl
  · cases e1
theorem Bor.str {K : Frag} {F H : Hp} {v : V} {i : Str} (h : Bor K F H v (.str i)) : v = .str i := by
  rcases h with h | ⟨p, vs, xs', e1, e2, h1, h2⟩
  · cases h; rfl
  · cases e1
theorem Bor.non {K : Frag} {F H : Hp} {v : V} (h : Bor K F H v .none) : v = .non := by
  rcases h with h | ⟨p, vs, xs', e1, e2, h1, h2⟩
  · cases h; rfl
  · cases e1
theorem Bor.dp {K : Frag} {F H : Hp} {v : V} {d : D} (fh : Same F H) (h : Bor K F H v d) : Dp K H v d := by
  rcases h with h | ⟨p, vs, xs', e1, e2, h1, h2⟩
  · exact h.mono fh
  · subst e1 e2
    exact .lst h1 (h2.mono fh)
theorem Bor.nd {K : Frag} {F H : Hp} {v : V} {xs} (h : Bor K F H v (.dict xs)) : False := by
  rcases h with h | ⟨p, vs, xs', e1, e2, h1, h2⟩
  · cases h
  · cases e1
def BorAll (K : Frag) (F H : Hp) : List V → List D → Prop := Paired (Bor K F H)
theorem BorAll.grow {K : Frag} {F H F' H' : Hp} {vs : List V} {ds : List D} (h : BorAll K F H vs ds) (g : Gr F H F' H') : BorAll K F' H' vs ds := L2.Paired.mapP h fun _ _ z => z.grow g
theorem BorAll.one {K : Frag} {F H : Hp} {vs : List V} {d : D} (h : BorAll K F H vs [d]) : ∃ v, vs = [v] ∧ Bor K F H v d := by
  cases h with
  | cons r t =>
    cases t
    exact ⟨_, rfl, r⟩
theorem BorAll.two {K : Frag} {F H : Hp} {vs : List V} {d e : D} (h : BorAll K F H vs [d, e]) : ∃ v u, vs = [v, u] ∧ Bor K F H v d ∧ Bor K F H u e := by
  cases h with
  | cons r t =>
    obtain ⟨u, rfl, b⟩ := BorAll.one t
    exact ⟨_, _, rfl, r, b⟩

section
variable (K : Frag)
def SimE (te : TE) (de : RE) : Prop := ∀ (B F H : Hp) (ρ : Rho) (σ : L2.St), EnvOk K B F H ρ σ → ∀ q : D → Prop, de ρ q → ∀ Q : VK, (∀ v d F' H', Gr F H F' H' → Dp K F' v d → q d → Q v H') → te σ H Q
def SimB (te : TE) (de : RE) : Prop := ∀ (B F H : Hp) (ρ : Rho) (σ : L2.St), EnvOk K B F H ρ σ → ∀ q : D → Prop, de ρ q → ∀ Q : VK, (∀ v d F' H', Gr F H F' H' → Bor K F' H' v d → q d → Q v H') → te σ H Q
/-- a new list, of one's own -/
def SimL (te : TE) (dl : RL) : Prop := ∀ (B F H : Hp) (ρ : Rho) (σ : L2.St), EnvOk K B F H ρ σ → ∀ q : List D → Prop, dl ρ q → ∀ Q : VK,
  (∀ p vs ds F' H', Gr F H F' H' → H p = none → F' p = none → H' p = some (.lst vs) → DpAll K F' vs ds → q ds → Q (.ref p) H') → te σ H Q
def SimT (tt : TT) (dt : RT) : Prop := ∀ (B F H : Hp) (ρ : Rho) (σ : L2.St), EnvOk K B F H ρ σ → ∀ q : Bool → Prop, dt ρ q → ∀ Q : Bool → Hp → Prop, (∀ b F' H', Gr F H F' H' → q b → Q b H') → tt σ H Q
def SimA (n : Nat) (ta : TA) (da : RL) : Prop := ∀ (B F H : Hp) (ρ : Rho) (σ : L2.St), EnvOk K B F H ρ σ → ∀ q : List D → Prop, da ρ q → ∀ Q : List V → Hp → Prop, (∀ vs ds F' H', Gr F H F' H' → DpAll K F' vs ds → ds.length = n → q ds → Q vs H') → ta σ H Q
def SimAB (ta : TA) (da : RL) : Prop := ∀ (B F H : Hp) (ρ : Rho) (σ : L2.St), EnvOk K B F H ρ σ → ∀ q : List D → Prop, da ρ q → ∀ Q : List V → Hp → Prop, (∀ vs ds F' H', Gr F H F' H' → BorAll K F' H' vs ds → q ds → Q vs H') → ta σ H Q
def SimO (to : TO) (do' : Rho → (Option Int → Prop) → Prop) : Prop := ∀ (B F H : Hp) (ρ : Rho) (σ : L2.St), EnvOk K B F H ρ σ → ∀ q : Option Int → Prop, do' ρ q → ∀ Q : Option Int → Hp → Prop, (∀ o F' H', Gr F H F' H' → q o → Q o H') → to σ H Q
end
def DE (X : Cx) (e : Expr) (de : RE) : Prop := ∃ te, PE X e te ∧ SimE X.K te de
def DB (X : Cx) (e : Expr) (de : RE) : Prop := ∃ te, PE X e te ∧ SimB X.K te de
def DLs (X : Cx) (e : Expr) (dl : RL) : Prop := ∃ te, PE X e te ∧ SimL X.K te dl
def DT (X : Cx) (e : Expr) (dt : RT) : Prop := ∃ tt, PT X e tt ∧ SimT X.K tt dt
def DW (X : Cx) (e : Expr) (dt : RT) : Prop := ∃ tt, PW X e tt ∧ SimT X.K tt dt
def DA (X : Cx) (es : List Expr) (da : RL) : Prop := ∃ ta, PA X es ta ∧ SimA X.K es.length ta da
def DAB (X : Cx) (es : List Expr) (da : RL) : Prop := ∃ ta, PA X es ta ∧ SimAB X.K ta da
def DO (X : Cx) (e : Option Expr) (do' : Rho → (Option Int → Prop) → Prop) : Prop := ∃ to, PO X e to ∧ SimO X.K to do'

section
variable {X : Cx} {e a b c : Expr} {es : List Expr} {de da db dc : RE} {dl : RL} {dt du : RT} {pos : Pos}
/-- data that stays may be read -/
theorem DE.toB (h : DE X e de) : DB X e de := by
  obtain ⟨te, h1, h2⟩ := h
  exact ⟨te, h1, fun B F H ρ σ E q hq Q k => h2 B F H ρ σ E q hq Q fun v d F' H' g r z => k v d F' H' g (.inl r) z⟩
/-- a new list is data, if one wants -/
def dLst (dl : RL) : RE := fun ρ q => dl ρ fun ds => q (.list ds)
theorem DLs.toE (h : DLs X e dl) : DE X e (dLst dl) := by
  obtain ⟨te, h1, h2⟩ := h
  refine ⟨te, h1, fun B F H ρ σ E q hq Q k => h2 B F H ρ σ E _ hq Q fun p vs ds F' H' g hp hf hh ha z => ?_⟩
  have fh : Same (upd F' p (.lst vs)) H' := fun b u w => by
    by_cases hb : b = p
    · subst hb
      rw [upd_same] at w
      cases w
      exact hh
    · rw [upd_ne hb] at w
      exact g.fh b u w
  refine k (.ref p) (.list ds) (upd F' p (.lst vs)) H' ⟨g.ff.trans (same_new hf), g.hh, fh, fun q hq m => ?_⟩ (.lst (.inl (.inl upd_same)) (ha.mono (same_new hf))) z
  have : q ≠ p := fun w => by
    rw [w, hp] at m
    exact m
  rw [upd_ne this]
  exact g.own q hq m
/- the heap without what is of one's own -/
open Classical in
noncomputable def keepOff (F H H' : Hp) : Hp := fun p => if F p = none ∧ Mut (H p) then none else H' p
theorem keepOff_gr {F H H' : Hp} (fh : Same F H) (g : Same H H') : Gr F H (keepOff F H H') H' := by
  refine ⟨fun p o e => ?_, g, fun p o e => ?_, fun p hf m => ?_⟩
  · unfold keepOff
    rw [if_neg (by rw [e]; rintro ⟨z, _⟩; cases z)]
    exact g p o (fh p o e)
  · unfold keepOff at e
    split at e
    · cases e
    · exact e
  · unfold keepOff
    rw [if_pos ⟨hf, m⟩]
theorem keepOff_keep {F H H' : Hp} (g : Same H H') : ∀ b u, H' b = some u → ¬ Mut (some u) → keepOff F H H' b = some u := fun b u e nm => by
  unfold keepOff
  rw [if_neg]
  · exact e
  · rintro ⟨_, m⟩
    have z := mut_same g m
    rw [e] at z
    rw [← z] at m
    exact nm m
/-- read with own lists as data; what comes has no list -/
def dView (de : RE) : RE := fun ρ q => de (view ρ) fun d => noLst d = true ∧ q d
theorem DE.vw (h : DE X e de) : DE X e (dView de) := by
  obtain ⟨te, h1, h2⟩ := h
  refine ⟨te, h1, fun B F H ρ σ E q hq Q k => h2 B H H (view ρ) σ E.view _ hq Q fun v d F' H' g r z => ?_⟩
  have r2 : Dp X.K H' v d := r.mono g.fh
  exact k v d (keepOff F H H') H' (keepOff_gr E.fh g.hh) (dp_cut (keepOff_keep g.hh) d z.1 r2) z.2
/-- the test of it (no value comes) -/
def tView (dt : RT) : RT := fun ρ q => dt (view ρ) q
theorem DT.vw (h : DT X e dt) : DT X e (tView dt) := by
  obtain ⟨te, h1, h2⟩ := h
  exact ⟨te, h1, fun B F H ρ σ E q hq Q k => h2 B H H (view ρ) σ E.view _ hq Q fun b F' H' g z => k b (keepOff F H H') H' (keepOff_gr E.fh g.hh) z⟩
/-- a new list, read with own lists as data; its items have no list -/
def lView (dl : RL) : RL := fun ρ q => dl (view ρ) fun ds => noLstAll ds = true ∧ q ds
theorem DLs.vw (h : DLs X e dl) : DLs X e (lView dl) := by
  obtain ⟨te, h1, h2⟩ := h
  refine ⟨te, h1, fun B F H ρ σ E q hq Q k => h2 B H H (view ρ) σ E.view _ hq Q fun p vs ds F' H' g hp hf hh ha z => ?_⟩
  have g2 := keepOff_gr (H' := H') E.fh g.hh
  have fp : F p = none := E.fh.free hp
  -- the new list itself stays off
  have F2 : ∃ F2 : Hp, Gr F H F2 H' ∧ F2 p = none ∧ DpAll X.K F2 vs ds := by
    classical
    refine ⟨fun q => if q = p then none else keepOff F H H' q, ⟨fun b u w => ?_, g.hh, fun b u w => ?_, fun b w m => ?_⟩, by simp, ?_⟩
    · have : b ≠ p := ne_of_none w fp
      show (if b = p then none else _) = _
      rw [if_neg this]
      exact g2.ff b u w
    · have w : (if b = p then none else keepOff F H H' b) = some u := w
      split at w
      · cases w
      · exact g2.fh b u w
    · show (if b = p then none else _) = _
      split
      · rfl
      · exact g2.own b w m
    · refine dpAll_cut (H := H') (fun b u w nm => ?_) ds z.1 (ha.mono g.fh)
      have : b ≠ p := fun y => by
        subst y
        rw [hh] at w
        cases w
        exact nm trivial
      show (if b = p then none else _) = _
      rw [if_neg this]
      exact keepOff_keep g.hh b u w nm
  obtain ⟨F2, g3, f3, a3⟩ := F2
  exact k p vs ds F2 H' g3 hp f3 hh a3 z.2

/-! ### names, constants -/
def dVar (i : Nat) : RE := fun ρ q => match ρ[i]? with | some (some (.val d)) => q d | _ => False
def bVar (i : Nat) : RE := fun ρ q => match ρ[i]? with | some (some (.val d)) => q d | some (some (.own ds)) => q (.list ds) | _ => False
theorem dv (i : Nat) {x : Str} (hN : X.N[i]? = some x := by rfl) (hv : Vis X.env.scope x := by first | exact Or.inl rfl | exact Or.inr (Or.inl rfl) | exact Or.inr (Or.inr rfl)) (hd : (x == ("__debug__" : Str)) = false := by decide)
    (hcd : (x == ("__classdict__" : Str)) = false := by decide) : DE X (.Name x pos) (dVar i) := by
  refine ⟨_, pe_var hN hv hd hcd, fun B F H ρ σ E q hq Q k => ?_⟩
  unfold dVar at hq
  split at hq
  · rename_i d e
    obtain ⟨v, h1, h2⟩ := E.at' i _ e
    exact ⟨v, h1, k v d F H (Gr.refl E.fh) h2 hq⟩
  · exact hq.elim
theorem bv (i : Nat) {x : Str} (hN : X.N[i]? = some x := by rfl) (hv : Vis X.env.scope x := by first | exact Or.inl rfl | exact Or.inr (Or.inl rfl) | exact Or.inr (Or.inr rfl)) (hd : (x == ("__debug__" : Str)) = false := by decide)
    (hcd : (x == ("__classdict__" : Str)) = false := by decide) : DB X (.Name x pos) (bVar i) := by
  refine ⟨_, pe_var hN hv hd hcd, fun B F H ρ σ E q hq Q k => ?_⟩
  unfold bVar at hq
  split at hq
  · rename_i d e
    obtain ⟨v, h1, h2⟩ := E.at' i _ e
    exact ⟨v, h1, k v d F H (Gr.refl E.fh) (.inl h2) hq⟩
  · rename_i ds e
    obtain ⟨v, h1, p, vs, rfl, f0, f1, f2, f3⟩ := E.at' i _ e
    exact ⟨.ref p, h1, k (.ref p) (.list ds) F H (Gr.refl E.fh) (.inr ⟨p, vs, ds, rfl, rfl, .inl (.inl f2), f3⟩) hq⟩
  · exact hq.elim
def dC (d : D) : RE := fun _ q => q d
theorem de_int {i j} : DE X (.Constant (.int i) j pos) (dC (.int i)) := ⟨_, pe_int, fun B F H ρ σ E q hq Q k => k _ _ F H (Gr.refl E.fh) (.int _) hq⟩
theorem de_bl {i j} : DE X (.Constant (.bool i) j pos) (dC (.bool i)) := ⟨_, pe_bl, fun B F H ρ σ E q hq Q k => k _ _ F H (Gr.refl E.fh) (.bl _) hq⟩
theorem de_non {j} : DE X (.Constant .none j pos) (dC .none) := ⟨_, pe_non, fun B F H ρ σ E q hq Q k => k _ _ F H (Gr.refl E.fh) .non hq⟩
theorem de_str {i j} : DE X (.Constant (.str i) j pos) (dC (.str i)) := ⟨_, pe_str, fun B F H ρ σ E q hq Q k => k _ _ F H (Gr.refl E.fh) (.str _) hq⟩

/-! ### operators -/
abbrev G2 := D → D → (D → Prop) → Prop
abbrev G1 := D → (D → Prop) → Prop
abbrev GA := List D → (D → Prop) → Prop
/-- what an operator's reading gives over data -/
def Sim2 (K : Frag) (r : R2) (g : G2) : Prop := ∀ (F H : Hp) (v u : V) (x y : D), Same F H → Bor K F H v x → Bor K F H u y → ∀ q : D → Prop, g x y q → ∀ Q : VK, (∀ w d F' H', Gr F H F' H' → Dp K F' w d → q d → Q w H') → r v u H Q
def Sim1 (K : Frag) (r : V → Hp → VK → Prop) (g : G1) : Prop := ∀ (F H : Hp) (v : V) (x : D), Same F H → Bor K F H v x → ∀ q : D → Prop, g x q → ∀ Q : VK, (∀ w d F' H', Gr F H F' H' → Dp K F' w d → q d → Q w H') → r v H Q
def SimC (K : Frag) (r : List V → Hp → VK → Prop) (g : GA) : Prop := ∀ (F H : Hp) (vs : List V) (xs : List D), Same F H → BorAll K F H vs xs → ∀ q : D → Prop, g xs q → ∀ Q : VK, (∀ w d F' H', Gr F H F' H' → Dp K F' w d → q d → Q w H') → r vs H Q
/-- .. a new list -/
def SimCL (K : Frag) (r : List V → Hp → VK → Prop) (g : List D → (List D → Prop) → Prop) : Prop := ∀ (F H : Hp) (vs : List V) (xs : List D), Same F H → BorAll K F H vs xs → ∀ q : List D → Prop, g xs q → ∀ Q : VK,
  (∀ p us ds F' H', Gr F H F' H' → H p = none → F' p = none → H' p = some (.lst us) → DpAll K F' us ds → q ds → Q (.ref p) H') → r vs H Q
def Sim2L (K : Frag) (r : R2) (g : D → D → (List D → Prop) → Prop) : Prop := ∀ (F H : Hp) (v u : V) (x y : D), Same F H → Bor K F H v x → Bor K F H u y → ∀ q : List D → Prop, g x y q → ∀ Q : VK,
  (∀ p us ds F' H', Gr F H F' H' → H p = none → F' p = none → H' p = some (.lst us) → DpAll K F' us ds → q ds → Q (.ref p) H') → r v u H Q
def OpD (X : Cx) (f : Value → Value → Sem Value) (g : G2) : Prop := ∃ r, OpR X f r ∧ Sim2 X.K r g
def OpL (X : Cx) (f : Value → Value → Sem Value) (g : D → D → (List D → Prop) → Prop) : Prop := ∃ r, OpR X f r ∧ Sim2L X.K r g
def IxD (X : Cx) (g : G2) : Prop := ∃ r, IxR X r ∧ Sim2 X.K r g
def UnD (X : Cx) (f : Value → Sem Value) (g : G1) : Prop := ∃ r, UnR X f r ∧ Sim1 X.K r g
def CallD (X : Cx) (f : Value) (g : GA) : Prop := ∃ r, CallR X f r ∧ SimC X.K r g
def CallL (X : Cx) (f : Value) (g : List D → (List D → Prop) → Prop) : Prop := ∃ r, CallR X f r ∧ SimCL X.K r g
def d2 (g : G2) (da db : RE) : RE := fun ρ q => da ρ fun x => db ρ fun y => g x y q
def d1 (g : G1) (da : RE) : RE := fun ρ q => da ρ fun x => g x q
def l2 (g : D → D → (List D → Prop) → Prop) (da db : RE) : RL := fun ρ q => da ρ fun x => db ρ fun y => g x y q
theorem sim_two {K : Frag} {ta tb : TE} {r : R2} {g : G2} (ha : SimB K ta da) (hb : SimB K tb db) (hr : Sim2 K r g) : SimE K (tOp r ta tb) (d2 g da db) := fun B F H ρ σ E q hq Q k =>
  ha B F H ρ σ E _ hq _ fun v x F1 H1 g1 r1 z1 => hb B F1 H1 ρ σ (E.grow g1) _ z1 _ fun u y F2 H2 g2 r2 z2 =>
    hr F2 H2 v u x y g2.fh (r1.grow g2) r2 q z2 Q fun w d F3 H3 g3 r3 z3 => k w d F3 H3 ((g1.trans g2).trans g3) r3 z3
theorem de_op {op : Operator} {g : G2} (ho : OpD X (binaryOp op) g) (ha : DB X a da) (hb : DB X b db) : DE X (.BinOp a op b pos) (d2 g da db) := by
  obtain ⟨r, o1, o2⟩ := ho
  obtain ⟨ta, a1, a2⟩ := ha
  obtain ⟨tb, b1, b2⟩ := hb
  exact ⟨_, pe_op o1 a1 b1, sim_two a2 b2 o2⟩
theorem dl_op {op : Operator} {g : D → D → (List D → Prop) → Prop} (ho : OpL X (binaryOp op) g) (ha : DB X a da) (hb : DB X b db) : DLs X (.BinOp a op b pos) (l2 g da db) := by
  obtain ⟨r, o1, o2⟩ := ho
  obtain ⟨ta, a1, a2⟩ := ha
  obtain ⟨tb, b1, b2⟩ := hb
  refine ⟨_, pe_op o1 a1 b1, fun B F H ρ σ E q hq Q k =>
    a2 B F H ρ σ E _ hq _ fun v x F1 H1 g1 r1 z1 => b2 B F1 H1 ρ σ (E.grow g1) _ z1 _ fun u y F2 H2 g2 r2 z2 =>
      o2 F2 H2 v u x y g2.fh (r1.grow g2) r2 q z2 Q fun p us ds F3 H3 g3 hp hf hh r3 z3 => k p us ds F3 H3 ((g1.trans g2).trans g3) ((g1.trans g2).hh.free hp) hf hh r3 z3⟩
theorem de_ix {g : G2} (ho : IxD X g) (ha : DB X a da) (hb : DB X b db) (hs : PlainIx b := by exact fun _ _ => rfl) : DE X (.Subscript a b pos) (d2 g da db) := by
  obtain ⟨r, o1, o2⟩ := ho
  obtain ⟨ta, a1, a2⟩ := ha
  obtain ⟨tb, b1, b2⟩ := hb
  exact ⟨_, pe_ix o1 a1 b1 hs, sim_two a2 b2 o2⟩
theorem de_cmp {op : CmpOp} {g : G2} (ho : OpD X (compareOp op) g) (ha : DB X a da) (hb : DB X b db) (hm : behindInMarks op b = false := by first | exact nomark _ | rfl) : DE X (.Compare a [op] [b] pos) (d2 g da db) := by
  obtain ⟨r, o1, o2⟩ := ho
  obtain ⟨ta, a1, a2⟩ := ha
  obtain ⟨tb, b1, b2⟩ := hb
  exact ⟨_, pe_cmpR o1 a1 b1 hm, sim_two a2 b2 o2⟩
/-- a value that is True or False -/
def tBool (de : RE) : RT := fun ρ q => de ρ fun d => match d with | .bool k => q k | _ => False
theorem sim_bool {K : Frag} {te : TE} (h : SimE K te de) : SimT K (tTest te) (tBool de) := fun B F H ρ σ E q hq Q k =>
  h B F H ρ σ E _ hq _ fun v d F' H' g r z => by
    cases d with
    | bool b =>
      cases r
      exact ⟨b, rfl, k b F' H' g z⟩
    | none => exact z.elim
    | int _ => exact z.elim
    | str _ => exact z.elim
    | list _ => exact z.elim
    | tuple _ => exact z.elim
    | dict _ => exact z.elim
theorem dt_cmp {op : CmpOp} {g : G2} (ho : OpD X (compareOp op) g) (ha : DB X a da) (hb : DB X b db) (hm : behindInMarks op b = false := by first | exact nomark _ | rfl) : DT X (.Compare a [op] [b] pos) (tBool (d2 g da db)) := by
  obtain ⟨r, o1, o2⟩ := ho
  obtain ⟨ta, a1, a2⟩ := ha
  obtain ⟨tb, b1, b2⟩ := hb
  exact ⟨_, pt_cmpR o1 a1 b1 hm, sim_bool (sim_two a2 b2 o2)⟩
theorem de_un {op : UnaryOp} {g : G1} (ho : UnD X (unaryOp op) g) (ha : DB X a da) : DE X (.UnaryOp op a pos) (d1 g da) := by
  obtain ⟨r, o1, o2⟩ := ho
  obtain ⟨ta, a1, a2⟩ := ha
  exact ⟨_, pe_un o1 a1, fun B F H ρ σ E q hq Q k => a2 B F H ρ σ E _ hq _ fun v x F1 H1 g1 r1 z1 => o2 F1 H1 v x g1.fh r1 q z1 Q fun w d F3 H3 g3 r3 z3 => k w d F3 H3 (g1.trans g3) r3 z3⟩

/-! ### argument lists, displays -/
def dNil : RL := fun _ q => q []
def dCons (da : RE) (dr : RL) : RL := fun ρ q => da ρ fun x => dr ρ fun xs => q (x :: xs)
theorem da_nil : DA X [] dNil := ⟨_, pa_nil, fun B F H ρ σ E q hq Q k => k [] [] F H (Gr.refl E.fh) .nil rfl hq⟩
theorem da_cons {dr : RL} (ha : DE X a da) (hr : DA X es dr) (hs : starEach (a :: es) X.env = (false, eval a X.env) :: starEach es X.env := by rfl) : DA X (a :: es) (dCons da dr) := by
  obtain ⟨ta, a1, a2⟩ := ha
  obtain ⟨tr, r1, r2⟩ := hr
  exact ⟨_, pa_cons a1 r1 hs, fun B F H ρ σ E q hq Q k => a2 B F H ρ σ E _ hq _ fun v x F1 H1 g1 d1 z1 => r2 B F1 H1 ρ σ (E.grow g1) _ z1 _ fun vs xs F2 H2 g2 d2 ln z2 =>
    k (v :: vs) (x :: xs) F2 H2 (g1.trans g2) (.cons (d1.mono g2.ff) d2) (by rw [List.length_cons, List.length_cons, ln]) z2⟩
theorem ab_nil : DAB X [] dNil := ⟨_, pa_nil, fun B F H ρ σ E q hq Q k => k [] [] F H (Gr.refl E.fh) .nil hq⟩
theorem ab_cons {dr : RL} (ha : DB X a da) (hr : DAB X es dr) (hs : starEach (a :: es) X.env = (false, eval a X.env) :: starEach es X.env := by rfl) : DAB X (a :: es) (dCons da dr) := by
  obtain ⟨ta, a1, a2⟩ := ha
  obtain ⟨tr, r1, r2⟩ := hr
  exact ⟨_, pa_cons a1 r1 hs, fun B F H ρ σ E q hq Q k => a2 B F H ρ σ E _ hq _ fun v x F1 H1 g1 d1 z1 => r2 B F1 H1 ρ σ (E.grow g1) _ z1 _ fun vs xs F2 H2 g2 d2 z2 =>
    k (v :: vs) (x :: xs) F2 H2 (g1.trans g2) (.cons (d1.grow g2) d2) z2⟩
/-- (a, b, ..) -/
def dTup (da : RL) : RE := fun ρ q => da ρ fun xs => q (.tuple xs)
theorem de_tup {x1 : _} {da' : RL} (h : DA X es da') (hl : es.length ≤ sizeLine := by (show _ ≤ sizeLine; rw [sizeLine_eq]; decide)) : DE X (.Tuple es x1 pos) (dTup da') := by
  obtain ⟨ta, a1, a2⟩ := h
  refine ⟨_, pe_tup a1, fun B F H ρ σ E q hq Q k => a2 B F H ρ σ E _ hq _ fun vs xs F1 H1 g1 d1 ln z1 => ⟨by rw [d1.length, ln]; exact hl, fun p hp => ?_⟩⟩
  have g2 := Gr.new (o := .tup vs) g1.fh hp
  exact k (.ref p) (.tuple xs) _ _ (g1.trans g2) (.tup (.inl (.inl upd_same)) (d1.mono g2.ff)) z1
theorem dl_lst {da' : RL} (h : DA X es da') (hl : es.length ≤ sizeLine := by (show _ ≤ sizeLine; rw [sizeLine_eq]; decide)) : DLs X (.List es pos) da' := by
  obtain ⟨ta, a1, a2⟩ := h
  refine ⟨_, pe_lst a1, fun B F H ρ σ E q hq Q k => a2 B F H ρ σ E _ hq _ fun vs xs F1 H1 g1 d1 ln z1 => ⟨by rw [d1.length, ln]; exact hl, fun p hp => ?_⟩⟩
  have g2 := Gr.newO (o := .lst vs) g1.fh hp
  exact k p vs xs _ _ (g1.trans g2) (g1.hh.free hp) (g1.fh.free hp) upd_same d1 z1
end
end DL

namespace DL
open PySem PySem.Spec PyProof.Rows L2
section
variable {X : Cx}
theorem OpD.or {f : Value → Value → Sem Value} {g g' h : G2} (a : OpD X f g) (b : OpD X f g') (e : ∀ x y q, h x y q → g x y q ∨ g' x y q) : OpD X f h := by
  obtain ⟨r, h1, h2⟩ := a
  obtain ⟨r', h1', h2'⟩ := b
  refine ⟨_, h1.or h1', fun F H v u x y fh bx bY q hq Q k => ?_⟩
  rcases e x y q hq with z | z
  · exact .inl (h2 F H v u x y fh bx bY q z Q k)
  · exact .inr (h2' F H v u x y fh bx bY q z Q k)
theorem OpD.imp {f : Value → Value → Sem Value} {g h : G2} (a : OpD X f g) (e : ∀ x y q, h x y q → g x y q) : OpD X f h := by
  obtain ⟨r, h1, h2⟩ := a
  exact ⟨r, h1, fun F H v u x y fh bx bY q hq Q k => h2 F H v u x y fh bx bY q (e x y q hq) Q k⟩

/-! ### whole numbers -/
def gI (C : Int → Int → Prop) (g : Int → Int → D) : G2 := fun x y q => match x, y with | .int i, .int j => C i j ∧ q (g i j) | _, _ => False
theorem gI_ok {C : Int → Int → Prop} {g : Int → Int → D} {x y : D} {q : D → Prop} (h : gI C g x y q) : ∃ i j, x = .int i ∧ y = .int j ∧ C i j ∧ q (g i j) := by
  unfold gI at h
  split at h
  · exact ⟨_, _, rfl, rfl, h⟩
  · exact h.elim
/-- a result without objects -/
def Flat : V → D → Prop
  | .non, .none => True | .bl b, .bool c => b = c | .int i, .int j => i = j | .str x, .str y => x = y
  | _, _ => False
theorem Flat.dp {K : Frag} {H : Hp} {v : V} {d : D} (h : Flat v d) : Dp K H v d := by
  cases v <;> cases d <;> first | exact h.elim | (cases h; constructor)
theorem opd_I {f : Value → Value → Sem Value} {C : Int → Int → Prop} {g : Int → Int → V} {gd : Int → Int → D} (h : OpR X f (rI C g)) (e : ∀ i j, Flat (g i j) (gd i j)) : OpD X f (gI C gd) := by
  refine ⟨_, h, fun F H v u x y fh bx bY q hq Q k => ?_⟩
  obtain ⟨i, j, rfl, rfl, c, z⟩ := gI_ok hq
  exact ⟨i, j, bx.int, bY.int, c, k _ _ F H (Gr.refl fh) (e i j).dp z⟩
theorem opd_I0 {f : Value → Value → Sem Value} {g : Int → Int → V} {gd : Int → Int → D} (h : OpR X f (rI0 g)) (e : ∀ i j, Flat (g i j) (gd i j)) : OpD X f (gI (fun _ _ => True) gd) := by
  refine ⟨_, h, fun F H v u x y fh bx bY q hq Q k => ?_⟩
  obtain ⟨i, j, rfl, rfl, c, z⟩ := gI_ok hq
  exact ⟨i, j, bx.int, bY.int, k _ _ F H (Gr.refl fh) (e i j).dp z⟩
theorem op_mulZ : OpR X (binaryOp .Mult) (rI MulOk fun i j => .int (i * j)) := opI fun _ _ _ _ _ _ _ hc q => mul_int q hc.ok
theorem op_fdivZ : OpR X (binaryOp .FloorDiv) (rI CDivZ fun i j => .int (i.fdiv j)) := opI fun i j _ _ _ _ _ hc q => floordiv_int hc.nz q (.inl hc.np)
def gSubI : G2 := gI (fun _ _ => True) fun i j => .int (i - j)
def gMulI : G2 := gI MulOk fun i j => .int (i * j)
def gFdiv : G2 := gI CDivZ fun i j => .int (i.fdiv j)
def gMod : G2 := gI (fun _ j => j ≠ 0) fun i j => .int (i.fmod j)
def gPow : G2 := gI PowOk fun i j => .int (i ^ j.toNat)
def gShl : G2 := gI ShlOk fun i j => .int (i * 2 ^ j.toNat)
def gShr : G2 := gI (fun _ j => 0 ≤ j) fun i j => .int (i / 2 ^ j.toNat)
theorem o_sub : OpD X (binaryOp .Sub) gSubI := opd_I0 op_sub fun _ _ => rfl
theorem o_mulI : OpD X (binaryOp .Mult) gMulI := opd_I op_mulZ fun _ _ => rfl
theorem o_mul : OpD X (binaryOp .Mult) gMulI := o_mulI
theorem o_fdiv : OpD X (binaryOp .FloorDiv) gFdiv := opd_I op_fdivZ fun _ _ => rfl
theorem o_mod : OpD X (binaryOp .Mod) gMod := opd_I op_modN fun _ _ => rfl
theorem rI_imp {f : Value → Value → Sem Value} {C C' : Int → Int → Prop} {g : Int → Int → V} (h : OpR X f (rI C g)) (e : ∀ i j, C' i j → C i j) : OpR X f (rI C' g) := fun pins s σ H x y v u Q I rx ry ⟨i, j, e1, e2, c, q⟩ => h pins s σ H x y v u Q I rx ry ⟨i, j, e1, e2, e i j c, q⟩
theorem o_pow : OpD X (binaryOp .Pow) gPow := opd_I (rI_imp op_pow fun _ _ (c : PowOk _ _) => c.ok) fun _ _ => rfl
theorem o_shl : OpD X (binaryOp .LShift) gShl := opd_I (rI_imp op_shlW fun _ _ (c : ShlOk _ _) => c.ok) fun _ _ => rfl
theorem o_shr : OpD X (binaryOp .RShift) gShr := opd_I op_shr fun _ _ => rfl
def gAnd : G2 := gI (fun _ _ => True) fun i j => .int (Builtin.bitAnd i j)
theorem o_and : OpD X (binaryOp .BitAnd) gAnd := opd_I0 op_and fun _ _ => rfl
def gXor : G2 := gI (fun _ _ => True) fun i j => .int (Builtin.bitXor i j)
theorem o_xor : OpD X (binaryOp .BitXor) gXor := opd_I0 op_xor fun _ _ => rfl
def gLt : G2 := gI (fun _ _ => True) fun i j => .bool (decide (i < j))
def gLe : G2 := gI (fun _ _ => True) fun i j => .bool (decide (i ≤ j))
def gGt : G2 := gI (fun _ _ => True) fun i j => .bool (decide (j < i))
def gGe : G2 := gI (fun _ _ => True) fun i j => .bool (decide (j ≤ i))
theorem o_lt : OpD X (compareOp .Lt) gLt := opd_I0 op_lt fun _ _ => rfl
theorem o_le : OpD X (compareOp .LtE) gLe := opd_I0 op_le fun _ _ => rfl
theorem o_gt : OpD X (compareOp .Gt) gGt := opd_I0 op_gt fun _ _ => rfl
theorem o_ge : OpD X (compareOp .GtE) gGe := opd_I0 op_ge fun _ _ => rfl

/-! ### + of texts, tuples, lists -/
def gCatS : G2 := fun x y q => match x, y with | .str i, .str j => Fit (i.length + j.length) ∧ q (.str (i ++ j)) | _, _ => False
theorem o_catS : OpD X (binaryOp .Add) gCatS := by
  refine ⟨_, op_add_str, fun F H v u x y fh bx bY q hq Q k => ?_⟩
  unfold gCatS at hq
  split at hq
  · exact ⟨_, _, bx.str, bY.str, hq.1.le, k _ _ F H (Gr.refl fh) (.str _) hq.2⟩
  · exact hq.elim
def gCatT : G2 := fun x y q => match x, y with | .tuple xs, .tuple ys => Fit (xs.length + ys.length) ∧ q (.tuple (xs ++ ys)) | _, _ => False
theorem o_catT : OpD X (binaryOp .Add) gCatT := by
  refine ⟨_, op_catA, fun F H v u x y fh bx bY q hq Q k => ?_⟩
  unfold gCatT at hq
  split at hq
  · rename_i xs ys
    obtain ⟨a, vs, rfl, f1, h1, d1⟩ := bx.tup fh
    obtain ⟨b, us, rfl, f2, h2, d2⟩ := bY.tup fh
    refine ⟨a, b, vs, us, rfl, rfl, h1, h2, by rw [d1.length, d2.length]; exact hq.1.le, fun e => ?_, fun _ e => ?_, fun _ _ p hp => ?_⟩
    · subst e
      cases d1
      exact k _ _ F H (Gr.refl fh) (.tup f2 d2) hq.2
    · subst e
      cases d2
      rw [List.append_nil] at hq
      exact k _ _ F H (Gr.refl fh) (.tup f1 d1) hq.2
    · have g := Gr.new (o := .tup (vs ++ us)) fh hp
      exact k _ _ _ _ g (.tup (.inl (.inl upd_same)) ((d1.append d2).mono g.ff)) hq.2
  · exact hq.elim
def rCatG (K : Frag) : R2 := fun x y H Q => ∃ l b xs zs, x = .ref l ∧ y = .ref b ∧ SqL K H l xs ∧ SqL K H b zs ∧ xs.length + zs.length ≤ sizeLine ∧ ∀ p, H p = none → Q (.ref p) (upd H p (.lst (xs ++ zs)))
theorem op_catG : OpR X (binaryOp .Add) (rCatG X.K) := by
  intro pins s σ H x y v u Q I rx ry h
  obtain ⟨l, b, xs, zs, rfl, rfl, hH, hB, hz, q⟩ := h
  cases rx
  cases ry
  obtain ⟨its, r, ⟨⟨cls, dd, data, sl⟩, n, ho, hc, hd0, hd⟩, hs⟩ := I.list hH
  obtain ⟨its2, r2, ⟨⟨cls2, dd2, data2, sl2⟩, n2, ho2, hc2, hd02, hd2⟩, hs2⟩ := I.list hB
  simp only at hc hd hd0 hc2 hd2 hd02
  subst hc hd hd0 hc2 hd2 hd02
  have ea : its.toArray ++ its2.toArray = (its ++ its2).toArray := by simp
  refine concat_meets ⟨_, ho, rfl⟩ ⟨_, ho2, rfl⟩ noFill_list_add seq_list_add PySem.F.slot_list_add PySem.F.entry_list_add (PySem.F.args_list_add_2 _ _) (list_addW l b its.toArray its2.toArray n n2 none none sl sl2 (by
    have := r.length
    have := r2.length
    simp only [List.size_toArray]
    omega)) ⟨ho, ho2, ?_⟩
  rw [ea]
  exact ⟨.ref _, _, I.lnew (t' := s.toks) (r.append r2) (by rw [List.length_append]; omega), rfl, q _ I.fresh⟩
def lCat : D → D → (List D → Prop) → Prop := fun x y q => match x, y with | .list xs, .list ys => Fit (xs.length + ys.length) ∧ q (xs ++ ys) | _, _ => False
theorem o_catL : OpL X (binaryOp .Add) lCat := by
  refine ⟨_, op_catG, fun F H v u x y fh bx bY q hq Q k => ?_⟩
  unfold lCat at hq
  split at hq
  · rename_i xs ys
    obtain ⟨a, vs, rfl, h1, d1⟩ := bx.lst fh
    obtain ⟨b, us, rfl, h2, d2⟩ := bY.lst fh
    refine ⟨a, b, vs, us, rfl, rfl, h1, h2, by rw [d1.length, d2.length]; exact hq.1.le, fun p hp => ?_⟩
    exact k _ _ _ _ _ (Gr.newO fh hp) hp (fh.free hp) upd_same (d1.append d2) hq.2
  · exact hq.elim
/-- a new list as data -/
def toG (g : D → D → (List D → Prop) → Prop) : G2 := fun x y q => g x y fun ds => q (.list ds)
theorem gr_frz {F H F' H' : Hp} {p : Addr} {us : List V} (g : Gr F H F' H') (hp : H p = none) (hf : F' p = none) (hh : H' p = some (.lst us)) : Gr F H (upd F' p (.lst us)) H' := by
  refine ⟨g.ff.trans (same_new hf), g.hh, fun b u w => ?_, fun q hq m => ?_⟩
  · by_cases hb : b = p
    · subst hb
      rw [upd_same] at w
      cases w
      exact hh
    · rw [upd_ne hb] at w
      exact g.fh b u w
  · have : q ≠ p := fun w => by
      rw [w, hp] at m
      exact m
    rw [upd_ne this]
    exact g.own q hq m
theorem OpL.d {f : Value → Value → Sem Value} {g : D → D → (List D → Prop) → Prop} (h : OpL X f g) : OpD X f (toG g) := by
  obtain ⟨r, h1, h2⟩ := h
  refine ⟨r, h1, fun F H v u x y fh bx bY q hq Q k => h2 F H v u x y fh bx bY _ hq Q fun p us ds F' H' g hp hf hh ha z => ?_⟩
  exact k (.ref p) (.list ds) _ _ (gr_frz g hp hf hh) (.lst (.inl (.inl upd_same)) (ha.mono (same_new hf))) z
/-- + of whole numbers, texts, tuples, lists -/
def gAdd : G2 := fun x y q => match x, y with
  | .int i, .int j => q (.int (i + j))
  | .str i, .str j => Fit (i.length + j.length) ∧ q (.str (i ++ j))
  | .tuple xs, .tuple ys => Fit (xs.length + ys.length) ∧ q (.tuple (xs ++ ys))
  | .list xs, .list ys => Fit (xs.length + ys.length) ∧ q (.list (xs ++ ys))
  | _, _ => False
theorem o_add : OpD X (binaryOp .Add) gAdd :=
  (opd_I0 (gd := fun i j => .int (i + j)) op_add fun _ _ => rfl).or ((o_catS.or (g := gCatS) (o_catT.or (g := gCatT) (h := fun x y q => gCatT x y q ∨ toG lCat x y q) o_catL.d fun _ _ _ z => z) (h := fun x y q => gCatS x y q ∨ (gCatT x y q ∨ toG lCat x y q)) fun _ _ _ z => z)) fun x y q h => by
    unfold gAdd at h
    split at h
    · exact .inl ⟨trivial, h⟩
    · exact .inr (.inl h)
    · exact .inr (.inr (.inl h))
    · exact .inr (.inr (.inr h))
    · exact h.elim

/-! ### * of lists, tuples -/
def lRep : D → D → (List D → Prop) → Prop := fun x y q => match x, y with | .list xs, .int k => (-(2 ^ 63) ≤ k ∧ k < 2 ^ 63 ∧ Fit (xs.length * k.toNat)) ∧ q (List.replicate k.toNat xs).flatten | _, _ => False
def rRepG (K : Frag) : R2 := fun x y H Q => ∃ l k xs, x = .ref l ∧ y = .int k ∧ H l = some (.lst xs) ∧ -(2 ^ 63) ≤ k ∧ k < 2 ^ 63 ∧ xs.length * k.toNat ≤ sizeLine ∧
  ∀ p, H p = none → Q (.ref p) (upd H p (.lst (List.replicate k.toNat xs).flatten))

/-! ### == -/
def eqOk : D → D → Bool
  | .str _, .str _ => true
  | x, y => SeqAt.shaped x && SeqAt.shaped y
theorem eqOk_ii (i j : Int) : eqOk (.int i) (.int j) = true := by simp [eqOk, SeqAt.shaped, PyData.canLay0, PyData.depth]
theorem eqOk_bb (i j : Bool) : eqOk (.bool i) (.bool j) = true := by simp [eqOk, SeqAt.shaped, PyData.canLay0, PyData.depth]
theorem eqOk_ss (i j : Str) : eqOk (.str i) (.str j) = true := rfl
def gEq : G2 := fun x y q => eqOk x y = true ∧ q (.bool (PyData.eqv x y))
def gNe : G2 := fun x y q => eqOk x y = true ∧ q (.bool (!PyData.eqv x y))
theorem eqOk_or {x y : D} (h : eqOk x y = true) : (SeqAt.shaped x = true ∧ SeqAt.shaped y = true) ∨ ∃ i j, x = .str i ∧ y = .str j := by
  unfold eqOk at h
  split at h
  · exact .inr ⟨_, _, rfl, rfl⟩
  · rw [Bool.and_eq_true] at h
    exact .inl h
theorem eqv_ss (i j : Str) : PyData.eqv (.str i) (.str j) = decide (V.str i = V.str j) := by rw [dec_str]; simp [PyData.eqv]
theorem o_eq (hu : X.A.units + 64 < cLine) : OpD X (compareOp .Eq) gEq := by
  refine ⟨_, (op_eqD hu).or op_eq, fun F H v u x y fh bx bY q hq Q k => ?_⟩
  rcases eqOk_or hq.1 with ⟨h1, h2⟩ | ⟨i, j, rfl, rfl⟩
  · exact .inl ⟨x, y, bx.dp fh, bY.dp fh, h1, h2, k _ _ F H (Gr.refl fh) (.bl _) hq.2⟩
  · cases bx.str
    cases bY.str
    refine .inr ⟨rfl, ?_⟩
    rw [← eqv_ss]
    exact k _ _ F H (Gr.refl fh) (.bl _) hq.2
theorem o_ne (hu : X.A.units + 64 < cLine) : OpD X (compareOp .NotEq) gNe := by
  refine ⟨_, (op_neD hu).or op_ne, fun F H v u x y fh bx bY q hq Q k => ?_⟩
  rcases eqOk_or hq.1 with ⟨h1, h2⟩ | ⟨i, j, rfl, rfl⟩
  · exact .inl ⟨x, y, bx.dp fh, bY.dp fh, h1, h2, k _ _ F H (Gr.refl fh) (.bl _) hq.2⟩
  · cases bx.str
    cases bY.str
    refine .inr ⟨rfl, ?_⟩
    rw [← eqv_ss]
    exact k _ _ F H (Gr.refl fh) (.bl _) hq.2

/-! ### is -/
def isNone : D → Bool
  | .none => true
  | _ => false
theorem dp_isNone {K : Frag} {H : Hp} {v : V} {d : D} (h : Dp K H v d) : decide (v = .non) = isNone d := by
  cases h <;> rfl
def gIsN : G2 := fun x y q => match y with | .none => q (.bool (isNone x)) | _ => False
def gNotN : G2 := fun x y q => match y with | .none => q (.bool (!isNone x)) | _ => False
theorem o_isN : OpD X (compareOp .Is) gIsN := by
  refine ⟨_, op_isN, fun F H v u x y fh bx bY q hq Q k => ?_⟩
  unfold gIsN at hq
  split at hq
  · refine ⟨bY.non, ?_⟩
    rw [dp_isNone (bx.dp fh)]
    exact k _ _ F H (Gr.refl fh) (.bl _) hq
  · exact hq.elim
theorem o_notN : OpD X (compareOp .IsNot) gNotN := by
  refine ⟨_, op_notN, fun F H v u x y fh bx bY q hq Q k => ?_⟩
  unfold gNotN at hq
  split at hq
  · refine ⟨bY.non, ?_⟩
    rw [dp_isNone (bx.dp fh)]
    exact k _ _ F H (Gr.refl fh) (.bl _) hq
  · exact hq.elim
def gIsB : G2 := fun x y q => match x, y with | .bool a, .bool b => q (.bool (decide (a = b))) | _, _ => False
def gNotB : G2 := fun x y q => match x, y with | .bool a, .bool b => q (.bool (!decide (a = b))) | _, _ => False
theorem o_isB : OpD X (compareOp .Is) gIsB := by
  refine ⟨_, op_is_bl, fun F H v u x y fh bx bY q hq Q k => ?_⟩
  unfold gIsB at hq
  split at hq
  · exact ⟨_, _, bx.bl, bY.bl, k _ _ F H (Gr.refl fh) (.bl _) hq⟩
  · exact hq.elim
theorem o_notB : OpD X (compareOp .IsNot) gNotB := by
  refine ⟨_, op_isnot_bl, fun F H v u x y fh bx bY q hq Q k => ?_⟩
  unfold gNotB at hq
  split at hq
  · exact ⟨_, _, bx.bl, bY.bl, k _ _ F H (Gr.refl fh) (.bl _) hq⟩
  · exact hq.elim
/-- is: None, True, False on the right -/
def gIs : G2 := fun x y q => match y with | .none => q (.bool (isNone x)) | .bool b => (match x with | .bool a => q (.bool (decide (a = b))) | _ => False) | _ => False
def gIsNot : G2 := fun x y q => match y with | .none => q (.bool (!isNone x)) | .bool b => (match x with | .bool a => q (.bool (!decide (a = b))) | _ => False) | _ => False
theorem o_is : OpD X (compareOp .Is) gIs := o_isN.or o_isB fun x y q h => by
  cases y with
  | none => exact .inl h
  | bool b =>
    cases x with
    | bool a => exact .inr h
    | _ => exact h.elim
  | _ => exact h.elim
theorem o_isNot : OpD X (compareOp .IsNot) gIsNot := o_notN.or o_notB fun x y q h => by
  cases y with
  | none => exact .inl h
  | bool b =>
    cases x with
    | bool a => exact .inr h
    | _ => exact h.elim
  | _ => exact h.elim

/-! ### in: flat items -/
def flatD : D → Bool
  | .none => true
  | .bool _ => true
  | .int _ => true
  | .str _ => true
  | _ => false
theorem flat_dp {K : Frag} {H : Hp} {v : V} {d : D} (h : Dp K H v d) : flatV v = flatD d := by
  cases h <;> rfl
theorem flat_all {K : Frag} {H : Hp} : ∀ {vs : List V} {ds : List D}, DpAll K H vs ds → vs.all flatV = ds.all flatD
  | [], ds, h => by cases h; rfl
  | v :: vs, ds, h => by
    cases h with
    | cons h1 h2 => rw [List.all_cons, List.all_cons, flat_dp h1, flat_all h2]
theorem eqV_dp {K : Frag} {H : Hp} {v u : V} {d e : D} (h : Dp K H v d) (g : Dp K H u e) (f : flatD d = true) (f' : flatD e = true) : eqV v u = PyData.eqv d e := by
  cases h <;> cases g <;> first | (simp [flatD] at f; done) | (simp [flatD] at f'; done) | (simp [eqV, PyData.eqv]; done) | rfl
theorem inV_dp {K : Frag} {H : Hp} {v : V} {d : D} (h : Dp K H v d) (f : flatD d = true) : ∀ {vs : List V} {ds : List D}, DpAll K H vs ds → ds.all flatD = true → inV v vs = ds.any fun y => PyData.eqv y d
  | [], ds, h, _ => by cases h; rfl
  | w :: vs, ds, h', fa => by
    cases h' with
    | cons h1 h2 =>
      rw [List.all_cons, Bool.and_eq_true] at fa
      have := inV_dp h f h2 fa.2
      unfold inV at this ⊢
      rw [List.any_cons, List.any_cons, this, eqV_dp h1 h fa.1 f]
def inD (x : D) (ys : List D) : Bool := ys.any fun y => PyData.eqv y x
def gIn (neg : Bool) : G2 := fun x y q => match y with
  | .list ys => flatD x = true ∧ ys.all flatD = true ∧ q (.bool (if neg then !inD x ys else inD x ys))
  | .tuple ys => flatD x = true ∧ ys.all flatD = true ∧ q (.bool (if neg then !inD x ys else inD x ys))
  | _ => False
theorem sim_in {neg : Bool} : Sim2 X.K (rIn X.K neg) (gIn neg) := fun F H v u x y fh bx bY q hq Q k => by
  unfold gIn at hq
  split at hq
  · rename_i ys
    obtain ⟨a, vs, rfl, h1, d1⟩ := bY.lst fh
    have dx := bx.dp fh
    have d1 := d1.mono fh
    refine ⟨a, vs, rfl, .inl h1, by rw [flat_dp dx]; exact hq.1, by rw [flat_all d1]; exact hq.2.1, ?_⟩
    rw [inV_dp dx hq.1 d1 hq.2.1]
    exact k _ _ F H (Gr.refl fh) (.bl _) hq.2.2
  · rename_i ys
    obtain ⟨a, vs, rfl, _, h1, d1⟩ := bY.tup fh
    have dx := bx.dp fh
    have d1 := d1.mono fh
    refine ⟨a, vs, rfl, .inr h1, by rw [flat_dp dx]; exact hq.1, by rw [flat_all d1]; exact hq.2.1, ?_⟩
    rw [inV_dp dx hq.1 d1 hq.2.1]
    exact k _ _ F H (Gr.refl fh) (.bl _) hq.2.2
  · exact hq.elim
theorem o_in : OpD X (compareOp .In) (gIn false) := ⟨_, op_in_seq, sim_in⟩
theorem o_notIn : OpD X (compareOp .NotIn) (gIn true) := ⟨_, op_notIn_seq, sim_in⟩

/-! ### one-place -/
def gNeg : G1 := fun x q => match x with | .int i => q (.int (-i)) | _ => False
theorem u_neg : UnD X (unaryOp .USub) gNeg := by
  refine ⟨_, un_neg, fun F H v x fh bx q hq Q k => ?_⟩
  unfold gNeg at hq
  split at hq
  · exact ⟨_, bx.int, k _ _ F H (Gr.refl fh) (.int _) hq⟩
  · exact hq.elim

/-! ### items -/
def gIx : G2 := fun x y q => match x, y with
  | .list xs, .int i => (match atI xs i with | some d => q d | none => False)
  | .tuple xs, .int i => (match atI xs i with | some d => q d | none => False)
  | .str z, .int i => Fit z.length ∧ (match atI z.cps.toList i with | some c => q (.str ⟨#[c]⟩) | none => False)
  | _, _ => False
theorem atI_dp {K : Frag} {H : Hp} {vs : List V} {ds : List D} {i : Int} {d : D} (h : DpAll K H vs ds) (e : atI ds i = some d) : ∃ v, atI vs i = some v ∧ Dp K H v d := by
  unfold atI at e ⊢
  rw [h.length]
  cases q : ixN ds.length i with
  | none => rw [q] at e; cases e
  | some j =>
    rw [q] at e
    exact h.get e
theorem x_ix : IxD X gIx := by
  refine ⟨_, ix_seq, fun F H v u x y fh bx bY q hq Q k => ?_⟩
  unfold gIx at hq
  split at hq
  · split at hq
    · rename_i d e
      obtain ⟨a, vs, rfl, h1, d1⟩ := bx.lst fh
      obtain ⟨w, hw, r⟩ := atI_dp d1 e
      exact .inl ⟨a, vs, _, w, rfl, bY.int, h1, hw, k _ _ F H (Gr.refl fh) r hq⟩
    · exact hq.elim
  · split at hq
    · rename_i d e
      obtain ⟨a, vs, rfl, _, h1, d1⟩ := bx.tup fh
      obtain ⟨w, hw, r⟩ := atI_dp d1 e
      exact .inr (.inl ⟨a, vs, _, w, rfl, bY.int, h1, hw, k _ _ F H (Gr.refl fh) r hq⟩)
    · exact hq.elim
  · obtain ⟨hl, hq⟩ := hq
    split at hq
    · rename_i c e
      exact .inr (.inr ⟨_, _, c, bx.str, bY.int, hl.le, e, k _ _ F H (Gr.refl fh) (.str _) hq⟩)
    · exact hq.elim
  · exact hq.elim
end
end DL

namespace DL
open PySem PySem.Spec PyProof.Rows L2
section
variable {X : Cx}
theorem CallD.or {f : Value} {g g' h : GA} (a : CallD X f g) (b : CallD X f g') (e : ∀ x q, h x q → g x q ∨ g' x q) : CallD X f h := by
  obtain ⟨r, h1, h2⟩ := a
  obtain ⟨r', h1', h2'⟩ := b
  refine ⟨_, h1.or h1', fun F H v x fh bx q hq Q k => ?_⟩
  rcases e x q hq with z | z
  · exact .inl (h2 F H v x fh bx q z Q k)
  · exact .inr (h2' F H v x fh bx q z Q k)
theorem CallL.d {f : Value} {g : List D → (List D → Prop) → Prop} (h : CallL X f g) : CallD X f (fun x q => g x fun ds => q (.list ds)) := by
  obtain ⟨r, h1, h2⟩ := h
  refine ⟨r, h1, fun F H v x fh bx q hq Q k => h2 F H v x fh bx _ hq Q fun p us ds F' H' g hp hf hh ha z => ?_⟩
  exact k (.ref p) (.list ds) _ _ (gr_frz g hp hf hh) (.lst (.inl (.inl upd_same)) (ha.mono (same_new hf))) z

def gLen : GA := fun xs q => match xs with
  | [.list ys] => q (.int ys.length)
  | [.tuple ys] => q (.int ys.length)
  | [.str z] => Fit z.length ∧ q (.int z.length)
  | _ => False
theorem c_len : CallD X (.builtin "len") gLen := by
  refine ⟨_, call_len_seq.or call_len_str, fun F H vs xs fh bx q hq Q k => ?_⟩
  unfold gLen at hq
  split at hq
  · obtain ⟨v, rfl, b⟩ := bx.one
    obtain ⟨a, us, rfl, h1, d1⟩ := b.lst fh
    refine .inl ⟨a, us, rfl, .inl h1, ?_⟩
    rw [d1.length]
    exact k _ _ F H (Gr.refl fh) (.int _) hq
  · obtain ⟨v, rfl, b⟩ := bx.one
    obtain ⟨a, us, rfl, _, h1, d1⟩ := b.tup fh
    refine .inl ⟨a, us, rfl, .inr h1, ?_⟩
    rw [d1.length]
    exact k _ _ F H (Gr.refl fh) (.int _) hq
  · obtain ⟨v, rfl, b⟩ := bx.one
    exact .inr ⟨_, by rw [b.str], hq.1.le, k _ _ F H (Gr.refl fh) (.int _) hq.2⟩
  · exact hq.elim
def gInt : GA := fun xs q => match xs with
  | [.int i] => q (.int i)
  | [.bool b] => q (.int (if b then 1 else 0))
  | _ => False
theorem c_int : CallD X (.type "int") gInt := by
  refine ⟨_, call_int1, fun F H vs xs fh bx q hq Q k => ?_⟩
  unfold gInt at hq
  split at hq
  · obtain ⟨v, rfl, b⟩ := bx.one
    exact .inl ⟨_, by rw [b.int], k _ _ F H (Gr.refl fh) (.int _) hq⟩
  · obtain ⟨v, rfl, b⟩ := bx.one
    exact .inr ⟨_, by rw [b.bl], k _ _ F H (Gr.refl fh) (.int _) hq⟩
  · exact hq.elim
def gAbs : GA := fun xs q => match xs with
  | [.int i] => q (.int (if i < 0 then -i else i))
  | _ => False
theorem c_abs : CallD X (.builtin "abs") gAbs := by
  refine ⟨_, call_abs, fun F H vs xs fh bx q hq Q k => ?_⟩
  unfold gAbs at hq
  split at hq
  · obtain ⟨v, rfl, b⟩ := bx.one
    exact ⟨_, by rw [b.int], k _ _ F H (Gr.refl fh) (.int _) hq⟩
  · exact hq.elim
def gMax2 : GA := fun xs q => match xs with
  | [.int i, .int j] => q (.int (if j > i then j else i))
  | _ => False
theorem c_max2 (hc : X.calm = true := by rfl) : CallD X (.builtin "max") gMax2 := by
  refine ⟨_, call_max2 hc, fun F H vs xs fh bx q hq Q k => ?_⟩
  unfold gMax2 at hq
  split at hq
  · obtain ⟨v, u, rfl, b, c⟩ := bx.two
    exact ⟨_, _, by rw [b.int, c.int], k _ _ F H (Gr.refl fh) (.int _) hq⟩
  · exact hq.elim
def gMin2 : GA := fun xs q => match xs with
  | [.int i, .int j] => q (.int (if j < i then j else i))
  | _ => False
theorem c_min2 (hc : X.calm = true := by rfl) : CallD X (.builtin "min") gMin2 := by
  refine ⟨_, call_min2 hc, fun F H vs xs fh bx q hq Q k => ?_⟩
  unfold gMin2 at hq
  split at hq
  · obtain ⟨v, u, rfl, b, c⟩ := bx.two
    exact ⟨_, _, by rw [b.int, c.int], k _ _ F H (Gr.refl fh) (.int _) hq⟩
  · exact hq.elim
def gTuple : GA := fun xs q => match xs with
  | [.list ys] => q (.tuple ys)
  | [.tuple ys] => q (.tuple ys)
  | _ => False
theorem c_tuple : CallD X (.type "tuple") gTuple := by
  refine ⟨_, call_tuple_of, fun F H vs xs fh bx q hq Q k => ?_⟩
  unfold gTuple at hq
  split at hq
  · obtain ⟨v, rfl, b⟩ := bx.one
    obtain ⟨a, us, rfl, h1, d1⟩ := b.lst fh
    refine ⟨a, us, rfl, .inl ⟨h1, fun p hp => ?_⟩⟩
    have g := Gr.new (o := .tup us) fh hp
    exact k _ _ _ _ g (.tup (.inl (.inl upd_same)) (d1.mono g.ff)) hq
  · obtain ⟨v, rfl, b⟩ := bx.one
    obtain ⟨a, us, rfl, h0, h1, d1⟩ := b.tup fh
    exact ⟨a, us, rfl, .inr ⟨h1, k _ _ F H (Gr.refl fh) (.tup h0 d1) hq⟩⟩
  · exact hq.elim
def lList : List D → (List D → Prop) → Prop := fun xs q => match xs with
  | [.list ys] => q ys
  | [.tuple ys] => q ys
  | _ => False
theorem c_list : CallL X (.type "list") lList := by
  refine ⟨_, call_list_of, fun F H vs xs fh bx q hq Q k => ?_⟩
  unfold lList at hq
  split at hq
  · obtain ⟨v, rfl, b⟩ := bx.one
    obtain ⟨a, us, rfl, h1, d1⟩ := b.lst fh
    exact ⟨a, us, rfl, .inl h1, fun p hp => k p us _ F _ (Gr.newO fh hp) hp (fh.free hp) upd_same d1 hq⟩
  · obtain ⟨v, rfl, b⟩ := bx.one
    obtain ⟨a, us, rfl, h0, h1, d1⟩ := b.tup fh
    exact ⟨a, us, rfl, .inr h1, fun p hp => k p us _ F _ (Gr.newO fh hp) hp (fh.free hp) upd_same d1 hq⟩
  · exact hq.elim
/-! sums, least, greatest of whole numbers -/
def gSum : GA := fun xs q => ∃ ns : List Int, xs = [.list (ns.map .int)] ∧ q (.int ns.sum)
def gMax1 : GA := fun xs q => ∃ ns : List Int, xs = [.list (ns.map .int)] ∧ 0 < ns.length ∧ ∀ m, m ∈ ns → (∀ y, y ∈ ns → y ≤ m) → q (.int m)
def gMin1 : GA := fun xs q => ∃ ns : List Int, xs = [.list (ns.map .int)] ∧ 0 < ns.length ∧ ∀ m, m ∈ ns → (∀ y, y ∈ ns → m ≤ y) → q (.int m)
theorem lst_ints {F H : Hp} {v : V} {ns : List Int} (fh : Same F H) (b : Bor X.K F H v (.list (ns.map .int))) : ∃ a, v = .ref a ∧ SqL X.K H a (ns.map V.int) := by
  obtain ⟨a, us, rfl, h1, d1⟩ := b.lst fh
  rw [DpAll.ints_of ns d1] at h1
  exact ⟨a, rfl, h1⟩
theorem c_sum (hc : X.calm = true := by rfl) : CallD X (.builtin "sum") gSum := by
  refine ⟨_, cr_sum hc, fun F H vs xs fh bx q hq Q k => ?_⟩
  obtain ⟨ns, rfl, hq⟩ := hq
  obtain ⟨v, rfl, b⟩ := bx.one
  obtain ⟨a, rfl, h1⟩ := lst_ints fh b
  exact ⟨a, ns, rfl, h1, k _ _ F H (Gr.refl fh) (.int _) hq⟩
theorem c_max1 (hc : X.calm = true := by rfl) : CallD X (.builtin "max") gMax1 := by
  refine ⟨_, cr_max hc, fun F H vs xs fh bx q hq Q k => ?_⟩
  obtain ⟨ns, rfl, hn, hq⟩ := hq
  obtain ⟨v, rfl, b⟩ := bx.one
  obtain ⟨a, rfl, h1⟩ := lst_ints fh b
  exact ⟨a, ns, rfl, h1, hn, fun m e1 e2 => k _ _ F H (Gr.refl fh) (.int _) (hq m e1 e2)⟩
theorem c_min1 (hc : X.calm = true := by rfl) : CallD X (.builtin "min") gMin1 := by
  refine ⟨_, cr_min hc, fun F H vs xs fh bx q hq Q k => ?_⟩
  obtain ⟨ns, rfl, hn, hq⟩ := hq
  obtain ⟨v, rfl, b⟩ := bx.one
  obtain ⟨a, rfl, h1⟩ := lst_ints fh b
  exact ⟨a, ns, rfl, h1, hn, fun m e1 e2 => k _ _ F H (Gr.refl fh) (.int _) (hq m e1 e2)⟩
def gAny : GA := fun xs q => ∃ bs : List Bool, xs = [.list (bs.map .bool)] ∧ q (.bool (bs.any id))
def gAll : GA := fun xs q => ∃ bs : List Bool, xs = [.list (bs.map .bool)] ∧ q (.bool (bs.all id))
theorem c_any (hc : X.calm = true := by rfl) : CallD X (.builtin "any") gAny := by
  refine ⟨_, cr_any hc, fun F H vs xs fh bx q hq Q k => ?_⟩
  obtain ⟨ns, rfl, hq⟩ := hq
  obtain ⟨v, rfl, b⟩ := bx.one
  obtain ⟨a, us, rfl, h1, d1⟩ := b.lst fh
  rw [DpAll.bools_of ns d1] at h1
  exact ⟨a, ns, rfl, h1, k _ _ F H (Gr.refl fh) (.bl _) hq⟩
theorem c_all (hc : X.calm = true := by rfl) : CallD X (.builtin "all") gAll := by
  refine ⟨_, cr_all hc, fun F H vs xs fh bx q hq Q k => ?_⟩
  obtain ⟨ns, rfl, hq⟩ := hq
  obtain ⟨v, rfl, b⟩ := bx.one
  obtain ⟨a, us, rfl, h1, d1⟩ := b.lst fh
  rw [DpAll.bools_of ns d1] at h1
  exact ⟨a, ns, rfl, h1, k _ _ F H (Gr.refl fh) (.bl _) hq⟩
def gGcd : GA := fun xs q => match xs with
  | [.int a, .int b] => q (.int ((Nat.gcd a.natAbs b.natAbs : Nat) : Int))
  | _ => False
theorem c_gcd : CallD X (.builtin "math.gcd") gGcd := by
  refine ⟨_, cr_gcd, fun F H vs xs fh bx q hq Q k => ?_⟩
  unfold gGcd at hq
  split at hq
  · obtain ⟨v, u, rfl, b, c⟩ := bx.two
    exact ⟨_, _, by rw [b.int, c.int], k _ _ F H (Gr.refl fh) (.int _) hq⟩
  · exact hq.elim
def gIsqrt : GA := fun xs q => match xs with
  | [.int a] => 0 ≤ a ∧ a.toNat.log2 < 13000 ∧ q (.int (Float64.isqrt a.toNat : Nat))
  | _ => False
theorem c_isqrt : CallD X (.builtin "math.isqrt") gIsqrt := by
  refine ⟨fun vs H Q => ∃ a : Int, vs = [.int a] ∧ 0 ≤ a ∧ a.toNat.log2 < 13000 ∧ Q (.int (Float64.isqrt a.toNat : Nat)) H, ?_, fun F H vs xs fh bx q hq Q k => ?_⟩
  · intro pins s σ H vs us Q I r h
    obtain ⟨a, rfl, h0, h1, q⟩ := h
    obtain ⟨u, rfl, t, rfl⟩ := vals1 r
    exact call_function_meets PySem.W.MGF.kind_isqrt PySem.W.MGF.plain_isqrt PySem.W.MGF.entry_isqrt (PySem.W.MGF.args_isqrt _) (PySem.W.mg_run_isqrt a t (by omega) (by omega) (by omega)).meets ⟨.int _, H, I.tok _, ⟨_, rfl⟩, q⟩
  · unfold gIsqrt at hq
    split at hq
    · obtain ⟨v, rfl, b⟩ := bx.one
      exact ⟨_, by rw [b.int], hq.1, hq.2.1, k _ _ F H (Gr.refl fh) (.int _) hq.2.2⟩
    · exact hq.elim
/-! isinstance -/
def tyD : D → String
  | .none => "NoneType" | .bool _ => "bool" | .int _ => "int" | .str _ => "str" | .list _ => "list" | .tuple _ => "tuple" | .dict _ => "dict"
theorem dp_tyX {K : Frag} {H : Hp} {v : V} {d : D} (h : Dp K H v d) : TyX K H v (.type (tyD d)) := by
  cases h with
  | non => exact .base .non
  | bl => exact .base (.bl _)
  | int => exact .base (.int _)
  | str => exact .base (.str _)
  | lst hs _ =>
    rcases hs with (h | ⟨o, h⟩) | ⟨o, its, n, h, hc, _⟩
    · exact .base (.lst h)
    · exact .base (.frz h)
    · exact .kList h hc
  | tup hs _ =>
    rcases hs with (h | ⟨o, h⟩) | ⟨o, its, n, h, hc, _⟩
    · exact .base (.tup h)
    · exact .fTuple h
    · exact .kTuple h hc
/-- is it of one of these built-in types -/
def isTy (d : D) (T : String) : Bool := tyD d == T || (T == "int" && tyD d == "bool")
def tyOk (T : String) : Prop := kitB "NoneType" T = some (T == "NoneType") ∧ kitB "bool" T = some (T == "bool" || T == "int") ∧ kitB "int" T = some (T == "int") ∧ kitB "str" T = some (T == "str") ∧ kitB "list" T = some (T == "list") ∧ kitB "tuple" T = some (T == "tuple") ∧ kitB "dict" T = some (T == "dict")
theorem kit_d {T : String} (h : tyOk T) (d : D) : kitB (tyD d) T = some (isTy d T) := by
  obtain ⟨h1, h2, h3, h4, h5, h6, h7⟩ := h
  have cm : ∀ s : String, (T == s) = (s == T) := fun s => by
    rw [Bool.eq_iff_iff]
    simp only [beq_iff_eq]
    exact ⟨Eq.symm, Eq.symm⟩
  cases d with
  | none => show kitB "NoneType" T = _; rw [h1, cm]; unfold isTy; simp [tyD]
  | bool b => show kitB "bool" T = _; rw [h2, cm "bool"]; unfold isTy; simp [tyD]
  | int b => show kitB "int" T = _; rw [h3, cm]; unfold isTy; simp [tyD]
  | str b => show kitB "str" T = _; rw [h4, cm]; unfold isTy; simp [tyD]
  | list b => show kitB "list" T = _; rw [h5, cm]; unfold isTy; simp [tyD]
  | tuple b => show kitB "tuple" T = _; rw [h6, cm]; unfold isTy; simp [tyD]
  | dict b => show kitB "dict" T = _; rw [h7, cm]; unfold isTy; simp [tyD]
theorem ty_int : tyOk "int" := by refine ⟨?_, ?_, ?_, ?_, ?_, ?_, ?_⟩ <;> decide +kernel
theorem ty_bool : tyOk "bool" := by refine ⟨?_, ?_, ?_, ?_, ?_, ?_, ?_⟩ <;> decide +kernel
theorem ty_str : tyOk "str" := by refine ⟨?_, ?_, ?_, ?_, ?_, ?_, ?_⟩ <;> decide +kernel
theorem ty_list : tyOk "list" := by refine ⟨?_, ?_, ?_, ?_, ?_, ?_, ?_⟩ <;> decide +kernel
theorem ty_tuple : tyOk "tuple" := by refine ⟨?_, ?_, ?_, ?_, ?_, ?_, ?_⟩ <;> decide +kernel

variable {x : Str} {p pos : Pos} {e : Expr} {es : List Expr} {da : RL} {id T : String}
def dCall (g : GA) (da : RL) : RE := fun ρ q => da ρ fun xs => g xs q
def lCall (g : List D → (List D → Prop) → Prop) (da : RL) : RL := fun ρ q => da ρ fun xs => g xs q
theorem sim_call {K : Frag} {ta : TA} {r : List V → Hp → VK → Prop} {g : GA} (ha : SimAB K ta da) (hr : SimC K r g) : SimE K (tCB r ta) (dCall g da) := fun B F H ρ σ E q hq Q k =>
  ha B F H ρ σ E _ hq _ fun vs xs F1 H1 g1 b z => hr F1 H1 vs xs g1.fh b q z Q fun w d F2 H2 g2 r2 z2 => k w d F2 H2 (g1.trans g2) r2 z2
theorem sim_callL {K : Frag} {ta : TA} {r : List V → Hp → VK → Prop} {g : List D → (List D → Prop) → Prop} (ha : SimAB K ta da) (hr : SimCL K r g) : SimL K (tCB r ta) (lCall g da) := fun B F H ρ σ E q hq Q k =>
  ha B F H ρ σ E _ hq _ fun vs xs F1 H1 g1 b z => hr F1 H1 vs xs g1.fh b q z Q fun p us ds F2 H2 g2 hp hf hh r2 z2 => k p us ds F2 H2 (g1.trans g2) (g1.hh.free hp) hf hh r2 z2
/-- f(e, ..), f a built-in function -/
theorem de_B {g : GA} (hc : CallD X (.builtin id) g) (hm : X.mg x = none) (ha : DAB X (e :: es) da) (hg : Gl X x := by rfl) (hv : bootBuiltins x = some (.builtin id) := by decide +kernel) (hn : x ≠ "__name__" := by decide) (hdb : (x == ("__debug__" : Str)) = false := by decide)
    (he : starEach (e :: es) X.env = (false, eval e X.env) :: starEach es X.env := by rfl) (hpl : (backTo pos (starEach es X.env)).any (·.1) = false := by rfl) : DE X (.Call (.Name x p) (e :: es) [] pos) (dCall g da) := by
  obtain ⟨r, h1, h2⟩ := hc
  obtain ⟨ta, a1, a2⟩ := ha
  exact ⟨_, pe_callB h1 hg hm hv a1 hn hdb he hpl, sim_call a2 h2⟩
/-- f(e, ..), f a built-in class -/
theorem de_T {g : GA} (hc : CallD X (.type T) g) (hm : X.mg x = none) (ha : DAB X (e :: es) da) (hg : Gl X x := by rfl) (hv : bootBuiltins x = some (.type T) := by decide +kernel) (hn : x ≠ "__name__" := by decide) (hdb : (x == ("__debug__" : Str)) = false := by decide)
    (he : starEach (e :: es) X.env = (false, eval e X.env) :: starEach es X.env := by rfl) (hpl : (backTo pos (starEach es X.env)).any (·.1) = false := by rfl) : DE X (.Call (.Name x p) (e :: es) [] pos) (dCall g da) := by
  obtain ⟨r, h1, h2⟩ := hc
  obtain ⟨ta, a1, a2⟩ := ha
  exact ⟨_, pe_callTy h1 hg hm hv a1 hn hdb he hpl, sim_call a2 h2⟩
theorem dl_T {g : List D → (List D → Prop) → Prop} (hc : CallL X (.type T) g) (hm : X.mg x = none) (ha : DAB X (e :: es) da) (hg : Gl X x := by rfl) (hv : bootBuiltins x = some (.type T) := by decide +kernel) (hn : x ≠ "__name__" := by decide) (hdb : (x == ("__debug__" : Str)) = false := by decide)
    (he : starEach (e :: es) X.env = (false, eval e X.env) :: starEach es X.env := by rfl) (hpl : (backTo pos (starEach es X.env)).any (·.1) = false := by rfl) : DLs X (.Call (.Name x p) (e :: es) [] pos) (lCall g da) := by
  obtain ⟨r, h1, h2⟩ := hc
  obtain ⟨ta, a1, a2⟩ := ha
  exact ⟨_, pe_callTy h1 hg hm hv a1 hn hdb he hpl, sim_callL a2 h2⟩
theorem dl_B {g : List D → (List D → Prop) → Prop} (hc : CallL X (.builtin id) g) (hm : X.mg x = none) (ha : DAB X (e :: es) da) (hg : Gl X x := by rfl) (hv : bootBuiltins x = some (.builtin id) := by decide +kernel) (hn : x ≠ "__name__" := by decide) (hdb : (x == ("__debug__" : Str)) = false := by decide)
    (he : starEach (e :: es) X.env = (false, eval e X.env) :: starEach es X.env := by rfl) (hpl : (backTo pos (starEach es X.env)).any (·.1) = false := by rfl) : DLs X (.Call (.Name x p) (e :: es) [] pos) (lCall g da) := by
  obtain ⟨r, h1, h2⟩ := hc
  obtain ⟨ta, a1, a2⟩ := ha
  exact ⟨_, pe_callB h1 hg hm hv a1 hn hdb he hpl, sim_callL a2 h2⟩
/-- f(e, ..), f a name that the module took from another (gcd, isqrt) -/
theorem de_M {g : GA} (hc : CallD X (.builtin id) g) (hm : X.mg x = some (.builtin id)) (ha : DAB X (e :: es) da) (hg : Gl X x := by rfl) (hdb : (x == ("__debug__" : Str)) = false := by decide)
    (he : starEach (e :: es) X.env = (false, eval e X.env) :: starEach es X.env := by rfl) (hpl : (backTo pos (starEach es X.env)).any (·.1) = false := by rfl) : DE X (.Call (.Name x p) (e :: es) [] pos) (dCall g da) := by
  obtain ⟨r, h1, h2⟩ := hc
  obtain ⟨ta, a1, a2⟩ := ha
  exact ⟨_, pe_callBfun h1 hg hm a1 hdb he hpl, sim_call a2 h2⟩
/-- isinstance(e, T) -/
def dIsi (T : String) (de : RE) : RE := fun ρ q => de ρ fun d => q (.bool (isTy d T))
theorem de_isi {de : RE} {y : Str} {p2 : Pos} (ht : tyOk T) (hm : X.mg x = none) (hm2 : X.mg y = none) (ha : DB X e de) (hx : x = "isinstance" := by rfl) (hg : Gl X x := by rfl) (hg2 : Gl X y := by rfl) (hv : bootBuiltins y = some (.type T) := by decide +kernel)
    (hn : y ≠ "__name__" := by decide) (hd : (y == ("__debug__" : Str)) = false := by decide)
    (he : starEach [e, .Name y p2] X.env = (false, eval e X.env) :: starEach [.Name y p2] X.env := by rfl) (he2 : starEach [.Name y p2] X.env = [(false, eval (.Name y p2) X.env)] := by rfl) (hpl : (backTo pos (starEach [.Name y p2] X.env)).any (·.1) = false := by rfl) :
    DE X (.Call (.Name x p) [e, .Name y p2] [] pos) (dIsi T de) := by
  subst hx
  obtain ⟨te, a1, a2⟩ := ha
  refine ⟨_, pe_callB call_isi hg hm (by decide +kernel) (pa_cons a1 (pa_cons (pe_bltn (v := .ty T) hg2 hm2 hv rfl hn hd) pa_nil he2) he) (by decide) (by decide) he hpl, fun B F H ρ σ E q hq Q k => ?_⟩
  refine a2 B F H ρ σ E _ hq _ fun v d F' H' g b z => ⟨v, .ty T, .type (tyD d), .type T, isTy d T, rfl, .ty T, dp_tyX (b.dp g.fh), kit_ty (kit_d ht d), ?_⟩
  exact k _ _ F' H' g (.bl _) z
/-- isinstance(e, (T, U)) -/
def dIsi2 (T U : String) (de : RE) : RE := fun ρ q => de ρ fun d => q (.bool (isTy d T || isTy d U))
theorem de_isi2 {U : String} {de : RE} {y z : Str} {p2 p3 p4 : Pos} {k1 : _} (ht : tyOk T) (ht2 : tyOk U) (hm : X.mg x = none) (hm2 : X.mg y = none) (hm3 : X.mg z = none) (ha : DB X e de) (hx : x = "isinstance" := by rfl) (hg : Gl X x := by rfl) (hg2 : Gl X y := by rfl) (hg3 : Gl X z := by rfl)
    (hv : bootBuiltins y = some (.type T) := by decide +kernel) (hv3 : bootBuiltins z = some (.type U) := by decide +kernel)
    (hn : y ≠ "__name__" := by decide) (hd : (y == ("__debug__" : Str)) = false := by decide) (hn3 : z ≠ "__name__" := by decide) (hd3 : (z == ("__debug__" : Str)) = false := by decide)
    (he : starEach [e, .Tuple [.Name y p2, .Name z p3] k1 p4] X.env = (false, eval e X.env) :: starEach [.Tuple [.Name y p2, .Name z p3] k1 p4] X.env := by rfl) (he2 : starEach [.Tuple [.Name y p2, .Name z p3] k1 p4] X.env = [(false, eval (.Tuple [.Name y p2, .Name z p3] k1 p4) X.env)] := by rfl)
    (he3 : starEach [.Name y p2, .Name z p3] X.env = (false, eval (.Name y p2) X.env) :: starEach [.Name z p3] X.env := by rfl) (he4 : starEach [.Name z p3] X.env = [(false, eval (.Name z p3) X.env)] := by rfl)
    (hpl : (backTo pos (starEach [.Tuple [.Name y p2, .Name z p3] k1 p4] X.env)).any (·.1) = false := by rfl) :
    DE X (.Call (.Name x p) [e, .Tuple [.Name y p2, .Name z p3] k1 p4] [] pos) (dIsi2 T U de) := by
  subst hx
  obtain ⟨te, a1, a2⟩ := ha
  refine ⟨_, pe_callB call_isiT hg hm (by decide +kernel) (pa_cons a1 (pa_cons (pe_tup (pa_cons (pe_bltn (v := .ty T) hg2 hm2 hv rfl hn hd) (pa_cons (pe_bltn (v := .ty U) hg3 hm3 hv3 rfl hn3 hd3) pa_nil he4) he3)) pa_nil he2) he) (by decide) (by decide) he hpl, fun B F H ρ σ E q hq Q k => ?_⟩
  refine a2 B F H ρ σ E _ hq _ fun v d F' H' g b w => ⟨by show 2 ≤ sizeLine; rw [sizeLine_eq]; decide, fun tp hp => ?_⟩
  have g2 := Gr.new (o := .tup [.ty T, .ty U]) g.fh hp
  refine ⟨v, tp, [.ty T, .ty U], .type (tyD d), [.type T, .type U], isTy d T || isTy d U, rfl, upd_same, .cons (.ty T) (.cons (.ty U) .nil), dp_tyX ((b.grow g2).dp g2.fh), ?_, ?_⟩
  · refine kitAny_cons (kit_ty (kit_d ht d)) (fun h => kitAny_cons (r := isTy d T || isTy d U) (kit_ty (kit_d ht2 d)) (fun h2 => ?_) fun h2 => by rw [h2, Bool.or_true]) fun h => by rw [h, Bool.true_or]
    rw [h, h2]
    exact kitAny_nil
  · exact k _ _ _ _ (g.trans g2) (.bl _) w

/-! ### and, or, not; a if t else b -/
def tAndD (t u : RT) : RT := fun ρ q => t ρ fun b => (b = true → u ρ q) ∧ (b = false → q false)
def tOrD (t u : RT) : RT := fun ρ q => t ρ fun b => (b = true → q true) ∧ (b = false → u ρ q)
def tNotD (t : RT) : RT := fun ρ q => t ρ fun b => q (!b)
variable {a b c : Expr} {rest : List Expr} {dt du : RT} {de df : RE}
theorem sim_and {K : Frag} {t u : TT} (h1 : SimT K t dt) (h2 : SimT K u du) : SimT K (tAnd t u) (tAndD dt du) := fun B F H ρ σ E q hq Q k =>
  h1 B F H ρ σ E _ hq _ fun b F1 H1 g1 z => by
    cases b with
    | true =>
      show u σ H1 Q
      exact h2 B F1 H1 ρ σ (E.grow g1) q (z.1 rfl) Q fun b F2 H2 g2 w => k b F2 H2 (g1.trans g2) w
    | false =>
      show Q false H1
      exact k false F1 H1 g1 (z.2 rfl)
theorem sim_or {K : Frag} {t u : TT} (h1 : SimT K t dt) (h2 : SimT K u du) : SimT K (tOr t u) (tOrD dt du) := fun B F H ρ σ E q hq Q k =>
  h1 B F H ρ σ E _ hq _ fun b F1 H1 g1 z => by
    cases b with
    | true =>
      show Q true H1
      exact k true F1 H1 g1 (z.1 rfl)
    | false =>
      show u σ H1 Q
      exact h2 B F1 H1 ρ σ (E.grow g1) q (z.2 rfl) Q fun b F2 H2 g2 w => k b F2 H2 (g1.trans g2) w
theorem DW.pt (h : DW X e dt) : DT X e dt := by
  obtain ⟨t, h1, h2⟩ := h
  exact ⟨t, h1.pt, h2⟩
theorem dw_and1 (h : DT X a dt) : DW X (.BoolOp .And [a] pos) dt := by
  obtain ⟨t, h1, h2⟩ := h
  exact ⟨t, pw_and1 h1, h2⟩
theorem dw_or1 (h : DT X a dt) : DW X (.BoolOp .Or [a] pos) dt := by
  obtain ⟨t, h1, h2⟩ := h
  exact ⟨t, pw_or1 h1, h2⟩
theorem dw_and (h : DT X a dt) (g : DW X (.BoolOp .And (b :: rest) pos) du) : DW X (.BoolOp .And (a :: b :: rest) pos) (tAndD dt du) := by
  obtain ⟨t, h1, h2⟩ := h
  obtain ⟨u, g1, g2⟩ := g
  exact ⟨_, pw_and h1 g1, sim_and h2 g2⟩
theorem dw_or (h : DT X a dt) (g : DW X (.BoolOp .Or (b :: rest) pos) du) : DW X (.BoolOp .Or (a :: b :: rest) pos) (tOrD dt du) := by
  obtain ⟨t, h1, h2⟩ := h
  obtain ⟨u, g1, g2⟩ := g
  exact ⟨_, pw_or h1 g1, sim_or h2 g2⟩
theorem dt_not (h : DT X a dt) : DT X (.UnaryOp .Not a pos) (tNotD dt) := by
  obtain ⟨t, h1, h2⟩ := h
  exact ⟨_, pt_not h1, fun B F H ρ σ E q hq Q k => h2 B F H ρ σ E _ hq _ fun b F1 H1 g1 z => k (!b) F1 H1 g1 z⟩
/-- a value that is True or False, as a test -/
theorem dt_val (h : DE X e de) (he : ∀ whole, isTrue e X.env whole = (do let v ← whole; standAt e.pos; holding [v] (truthy v)) := by intro _; rfl) : DT X e (tBool de) := by
  obtain ⟨t, h1, h2⟩ := h
  exact ⟨_, pt_val h1 he, sim_bool h2⟩
/-- any value as a test -/
def truD : D → Option Bool
  | .none => some false | .bool b => some b | .int i => some (i != 0) | .list xs => some (!xs.isEmpty) | .tuple xs => some (!xs.isEmpty)
  | _ => none
def tTru (de : RE) : RT := fun ρ q => de ρ fun d => match truD d with | some b => q b | none => False
theorem isEmpty_dp {K : Frag} {H : Hp} {vs : List V} {ds : List D} (h : DpAll K H vs ds) : vs.isEmpty = ds.isEmpty := by
  cases h <;> rfl
theorem dt_tru (h : DB X e de) (he : ∀ whole, isTrue e X.env whole = (do let v ← whole; standAt e.pos; holding [v] (truthy v)) := by intro _; rfl) : DT X e (tTru de) := by
  obtain ⟨t, h1, h2⟩ := h
  refine ⟨_, pt_truth h1 he, fun B F H ρ σ E q hq Q k => h2 B F H ρ σ E _ hq _ fun v d F1 H1 g1 r z => ?_⟩
  have r := r.dp g1.fh
  cases r with
  | non => exact ⟨false, rfl, k _ F1 H1 g1 z⟩
  | bl b => exact ⟨b, rfl, k _ F1 H1 g1 z⟩
  | int i => exact ⟨_, rfl, k _ F1 H1 g1 z⟩
  | str x => exact z.elim
  | lst hs ha => exact ⟨_, .inl ⟨_, hs, by rw [isEmpty_dp ha]⟩, k _ F1 H1 g1 z⟩
  | tup hs ha => exact ⟨_, .inr (.inl ⟨_, hs, by rw [isEmpty_dp ha]⟩), k _ F1 H1 g1 z⟩
/-- and, or, not as values: all but the last are True or False -/
def dAndV (da db : RE) : RE := fun ρ q => da ρ fun x => match x with | .bool b => (b = true → db ρ q) ∧ (b = false → q (.bool false)) | _ => False
def dOrV (da db : RE) : RE := fun ρ q => da ρ fun x => match x with | .bool b => (b = true → q (.bool true)) ∧ (b = false → db ρ q) | _ => False
def dNotV (da : RE) : RE := fun ρ q => da ρ fun x => match x with | .bool b => q (.bool (!b)) | _ => False
theorem is_bool {f : Bool → Prop} {d : D} (h : (match d with | .bool b => f b | _ => False)) : ∃ b, d = .bool b ∧ f b := by
  cases d with
  | bool b => exact ⟨b, rfl, h⟩
  | none => exact h.elim
  | int _ => exact h.elim
  | str _ => exact h.elim
  | list _ => exact h.elim
  | tuple _ => exact h.elim
  | dict _ => exact h.elim
theorem de_one {op} (h : DE X a de) : DE X (.BoolOp op [a] pos) de := by
  obtain ⟨t, h1, h2⟩ := h
  exact ⟨t, pe_one h1, h2⟩
theorem de_and (h : DE X a de) (g : DE X (.BoolOp .And (b :: rest) pos) df) : DE X (.BoolOp .And (a :: b :: rest) pos) (dAndV de df) := by
  obtain ⟨t, h1, h2⟩ := h
  obtain ⟨u, g1, g2⟩ := g
  refine ⟨_, pe_and h1 g1, fun B F H ρ σ E q hq Q k => h2 B F H ρ σ E _ hq _ fun v d F1 H1 g3 r z => ?_⟩
  obtain ⟨c, rfl, z⟩ := is_bool z
  cases r
  refine ⟨c, rfl, ?_⟩
  cases c with
  | true =>
    show u σ H1 Q
    exact g2 B F1 H1 ρ σ (E.grow g3) q (z.1 rfl) Q fun v d F2 H2 g4 r w => k v d F2 H2 (g3.trans g4) r w
  | false =>
    show Q (.bl false) H1
    exact k _ _ F1 H1 g3 (.bl _) (z.2 rfl)
theorem de_or (h : DE X a de) (g : DE X (.BoolOp .Or (b :: rest) pos) df) : DE X (.BoolOp .Or (a :: b :: rest) pos) (dOrV de df) := by
  obtain ⟨t, h1, h2⟩ := h
  obtain ⟨u, g1, g2⟩ := g
  refine ⟨_, pe_or h1 g1, fun B F H ρ σ E q hq Q k => h2 B F H ρ σ E _ hq _ fun v d F1 H1 g3 r z => ?_⟩
  obtain ⟨c, rfl, z⟩ := is_bool z
  cases r
  refine ⟨c, rfl, ?_⟩
  cases c with
  | true =>
    show Q (.bl true) H1
    exact k _ _ F1 H1 g3 (.bl _) (z.1 rfl)
  | false =>
    show u σ H1 Q
    exact g2 B F1 H1 ρ σ (E.grow g3) q (z.2 rfl) Q fun v d F2 H2 g4 r w => k v d F2 H2 (g3.trans g4) r w
theorem de_not (h : DE X a de) : DE X (.UnaryOp .Not a pos) (dNotV de) := by
  obtain ⟨t, h1, h2⟩ := h
  refine ⟨_, pe_not h1, fun B F H ρ σ E q hq Q k => h2 B F H ρ σ E _ hq _ fun v d F1 H1 g3 r z => ?_⟩
  obtain ⟨c, rfl, z⟩ := is_bool z
  cases r
  exact ⟨c, rfl, k _ _ F1 H1 g3 (.bl _) z⟩
def dIf (t : RT) (da db : RE) : RE := fun ρ q => t ρ fun b => (b = true → da ρ q) ∧ (b = false → db ρ q)
theorem de_if {da' db' : RE} (h : DT X c dt) (ha : DE X a da') (hb : DE X b db') : DE X (.IfExp c a b pos) (dIf dt da' db') := by
  obtain ⟨t, h1, h2⟩ := h
  obtain ⟨ta, a1, a2⟩ := ha
  obtain ⟨tb, b1, b2⟩ := hb
  refine ⟨_, pe_ifExp h1 a1 b1, fun B F H ρ σ E q hq Q k => h2 B F H ρ σ E _ hq _ fun b F1 H1 g1 z => ?_⟩
  cases b with
  | true =>
    show ta σ H1 Q
    exact a2 B F1 H1 ρ σ (E.grow g1) q (z.1 rfl) Q fun v d F2 H2 g2 r w => k v d F2 H2 (g1.trans g2) r w
  | false =>
    show tb σ H1 Q
    exact b2 B F1 H1 ρ σ (E.grow g1) q (z.2 rfl) Q fun v d F2 H2 g2 r w => k v d F2 H2 (g1.trans g2) r w
/-- x.bit_length() -/
def dBits (de : RE) : RE := fun ρ q => de ρ fun d => match d with | .int i => q (.int (Builtin.Int.intBits i : Nat)) | _ => False
theorem de_bits {apos : Pos} (h : DE X e de) (hbase : attributeBase e "bit_length" X.env (eval e X.env) = eval e X.env := by rfl) (hline : (apos.endLine == pos.line) = true := by rfl) : DE X (.Call (.Attribute e "bit_length" apos) [] [] pos) (dBits de) := by
  obtain ⟨t, h1, h2⟩ := h
  refine ⟨_, pe_bits h1 hbase hline, fun B F H ρ σ E q hq Q k => h2 B F H ρ σ E _ hq _ fun v d F1 H1 g1 r z => ?_⟩
  cases r with
  | int i => exact ⟨i, rfl, k _ _ F1 H1 g1 (.int _) z⟩
  | _ => exact z.elim
/-! ### slices -/
def oNone : Rho → (Option Int → Prop) → Prop := fun _ q => q none
def oSome (de : RE) : Rho → (Option Int → Prop) → Prop := fun ρ q => de ρ fun d => match d with | .int i => q (some i) | _ => False
theorem do_none : DO X none oNone := ⟨_, po_none, fun B F H ρ σ E q hq Q k => k none F H (Gr.refl E.fh) hq⟩
theorem do_some (h : DE X e de) : DO X (some e) (oSome de) := by
  obtain ⟨t, h1, h2⟩ := h
  refine ⟨_, po_some h1, fun B F H ρ σ E q hq Q k => h2 B F H ρ σ E _ hq _ fun v d F1 H1 g1 r z => ?_⟩
  cases r with
  | int i => exact ⟨i, rfl, k _ F1 H1 g1 z⟩
  | _ => exact z.elim
def cutD (xs : List D) (lo hi : Option Int) : List D := (xs.drop (HT.sIx xs.length 0 lo)).take (HT.sIx xs.length xs.length hi - HT.sIx xs.length 0 lo)
theorem cut_dp {K : Frag} {H : Hp} {vs : List V} {ds : List D} (h : DpAll K H vs ds) (lo hi : Option Int) : DpAll K H (cutV vs lo hi) (cutD ds lo hi) := by
  unfold cutV cutD
  rw [h.length]
  exact (h.drop _).take _
def gSl : D → Option Int → Option Int → (D → Prop) → Prop := fun d lo hi q => match d with
  | .list xs => q (.list (cutD xs lo hi))
  | .tuple xs => q (.tuple (cutD xs lo hi))
  | _ => False
def dSl (de : RE) (dl dh : Rho → (Option Int → Prop) → Prop) : RE := fun ρ q => de ρ fun d => dl ρ fun lo => dh ρ fun hi => gSl d lo hi q
theorem cutV_all {xs : List V} {lo hi : Option Int} (h : HT.sIx xs.length 0 lo = 0 ∧ HT.sIx xs.length xs.length hi = xs.length) : cutV xs lo hi = xs := by
  unfold cutV
  rw [h.1, h.2]
  simp
theorem de_sl {lo hi : Option Expr} {dl dh : Rho → (Option Int → Prop) → Prop} {p2 : Pos} (h : DB X e de) (h1 : DO X lo dl) (h2 : DO X hi dh) : DE X (.Subscript e (.Slice lo hi none p2) pos) (dSl de dl dh) := by
  obtain ⟨te, e1, e2⟩ := h
  obtain ⟨tl, l1, l2⟩ := h1
  obtain ⟨th, u1, u2⟩ := h2
  refine ⟨_, pe_slice (sl_list.or sl_tupA) e1 l1 u1, fun B F H ρ σ E q hq Q k => e2 B F H ρ σ E _ hq _ fun v d F1 H1 g1 b z => l2 B F1 H1 ρ σ (E.grow g1) _ z _ fun lo F2 H2 g2 z => u2 B F2 H2 ρ σ (E.grow (g1.trans g2)) _ z _ fun hi F3 H3 g3 z => ?_⟩
  have g := (g1.trans g2).trans g3
  have b := b.grow (g2.trans g3)
  cases d with
  | list xs =>
    obtain ⟨a, vs, rfl, s1, d1⟩ := b.lst g3.fh
    refine .inl ⟨a, vs, rfl, s1, fun p hp => ?_⟩
    have gn := Gr.new (o := .lst (cutV vs lo hi)) g3.fh hp
    exact k _ _ _ _ (g.trans gn) (.lst (.inl (.inl upd_same)) ((cut_dp d1 lo hi).mono gn.ff)) z
  | tuple xs =>
    obtain ⟨a, vs, rfl, s0, s1, d1⟩ := b.tup g3.fh
    refine .inr ⟨a, vs, rfl, s1, fun w => ?_, fun _ p hp => ?_⟩
    · have ew := cutV_all w
      have d2 := cut_dp d1 lo hi
      rw [ew] at d2
      exact k _ _ _ _ g (.tup s0 d2) z
    · have gn := Gr.new (o := .tup (cutV vs lo hi)) g3.fh hp
      exact k _ _ _ _ (g.trans gn) (.tup (.inl (.inl upd_same)) ((cut_dp d1 lo hi).mono gn.ff)) z
  | _ => exact z.elim
/-- a slice of a list, of one's own -/
def lSl (de : RE) (dl dh : Rho → (Option Int → Prop) → Prop) : RL := fun ρ q => de ρ fun d => dl ρ fun lo => dh ρ fun hi => match d with
  | .list xs => q (cutD xs lo hi)
  | _ => False
theorem dl_sl {lo hi : Option Expr} {dl dh : Rho → (Option Int → Prop) → Prop} {p2 : Pos} (h : DB X e de) (h1 : DO X lo dl) (h2 : DO X hi dh) : DLs X (.Subscript e (.Slice lo hi none p2) pos) (lSl de dl dh) := by
  obtain ⟨te, e1, e2⟩ := h
  obtain ⟨tl, l1, l2⟩ := h1
  obtain ⟨th, u1, u2⟩ := h2
  refine ⟨_, pe_slice sl_list e1 l1 u1, fun B F H ρ σ E q hq Q k => e2 B F H ρ σ E _ hq _ fun v d F1 H1 g1 b z => l2 B F1 H1 ρ σ (E.grow g1) _ z _ fun lo F2 H2 g2 z => u2 B F2 H2 ρ σ (E.grow (g1.trans g2)) _ z _ fun hi F3 H3 g3 z => ?_⟩
  have g := (g1.trans g2).trans g3
  have b := b.grow (g2.trans g3)
  cases d with
  | list xs =>
    obtain ⟨a, vs, rfl, s1, d1⟩ := b.lst g3.fh
    exact ⟨a, vs, rfl, s1, fun p hp => k p _ _ _ _ (g.trans (Gr.newO g3.fh hp)) (g.hh.free hp) (g3.fh.free hp) upd_same (cut_dp d1 lo hi) z⟩
  | _ => exact z.elim
end
end DL

namespace DL
open PySem PySem.Spec PyProof.Rows L2

/-! ### statements over data -/
structure DEnds where
  nx : Rho → Prop
  rt : DV → Prop
  bk : Rho → Prop := fun _ => False
  ct : Rho → Prop := fun _ => False
abbrev RS := DEnds → Rho → Prop
/-- what is handed back: data, or a new list of the caller's own -/
def ResF (K : Frag) (B F H : Hp) (v : V) : DV → Prop
  | .val d => Dp K F v d
  | .own ds => ∃ p vs, v = .ref p ∧ B p = none ∧ F p = none ∧ H p = some (.lst vs) ∧ DpAll K F vs ds
structure EndsOk (K : Frag) (F0 B : Hp) (DD : DEnds) (E : Ends) : Prop where
  nx : ∀ F H ρ σ, Gr F0 B F H → EnvOk K B F H ρ σ → DD.nx ρ → E.nx σ H
  rt : ∀ v r F H, Gr F0 B F H → ResF K B F H v r → DD.rt r → E.rt v H
  bk : ∀ F H ρ σ, Gr F0 B F H → EnvOk K B F H ρ σ → DD.bk ρ → E.bk σ H
  ct : ∀ F H ρ σ, Gr F0 B F H → EnvOk K B F H ρ σ → DD.ct ρ → E.ct σ H
/-- the ground moves on: F0 to F1 -/
theorem Gr.on {F0 B F1 H1 F H : Hp} (a : Gr F0 B F1 H1) (b : Gr F1 B F H) : Gr F0 B F H := ⟨a.ff.trans b.ff, b.hh, b.fh, fun p h m => b.own p (a.own p h m) m⟩
theorem EndsOk.mono {K : Frag} {F0 B F1 H1 : Hp} {DD : DEnds} {E : Ends} (h : EndsOk K F0 B DD E) (e : Gr F0 B F1 H1) : EndsOk K F1 B DD E :=
  ⟨fun F H ρ σ s => h.nx F H ρ σ (e.on s), fun v r F H s => h.rt v r F H (e.on s), fun F H ρ σ s => h.bk F H ρ σ (e.on s), fun F H ρ σ s => h.ct F H ρ σ (e.on s)⟩
/-- at the ground itself -/
theorem Gr.self {F0 B F H : Hp} (a : Gr F0 B F H) : Gr F B F H := ⟨Same.refl F, a.hh, a.fh, fun _ h _ => h⟩
/-- one step further -/
theorem Gr.to {F0 B F H F' H' : Hp} (a : Gr F0 B F H) (g : Gr F H F' H') : Gr F0 B F' H' := ⟨a.ff.trans g.ff, a.hh.trans g.hh, g.fh, fun p h m => g.own p (a.own p h m) (by rw [mut_same a.hh m]; exact m)⟩
/-- a list of one's own is written -/
theorem Gr.wr {F0 B F H : Hp} {p : Addr} {o : HO} (a : Gr F0 B F H) (hb : B p = none) (hf : F p = none) : Gr F0 B F (upd H p o) := ⟨a.ff, fun b u e => by
  rw [upd_ne (ne_of_none e hb)]
  exact a.hh b u e, fun b u e => by
  rw [upd_ne (ne_of_none e hf)]
  exact a.fh b u e, a.own⟩
def SimS (K : Frag) (ts : TS) (ds : RS) : Prop := ∀ (F0 B F H : Hp) (ρ : Rho) (σ : L2.St), Gr F0 B F H → EnvOk K B F H ρ σ → ∀ (DD : DEnds), ds DD ρ → ∀ E : Ends, EndsOk K F0 B DD E → ts E σ H
def DS (X : Cx) (st : Stmt) (ds : RS) : Prop := ∃ ts, PS X st ts ∧ SimS X.K ts ds
def DSs (X : Cx) (st : List Stmt) (ds : RS) : Prop := ∃ ts, PSs X st ts ∧ SimS X.K ts ds

section
variable {X : Cx} {st : Stmt} {rest : List Stmt} {ds du : RS} {e a b : Expr} {de da db : RE} {dl : RL} {dt : RT} {pos : Pos}
def sNext : RS := fun DD ρ => DD.nx ρ
@[irreducible] def sSeq (t u : RS) (DD : DEnds) (ρ : Rho) : Prop := t { DD with nx := u DD } ρ
theorem sSeq_c {t u : RS} {DD : DEnds} {ρ : Rho} : sSeq t u DD ρ = t { DD with nx := u DD } ρ := by unfold sSeq; rfl
theorem ss_nil : DSs X [] sNext := ⟨_, pss_nil, fun F0 B F H ρ σ s E DD h D k => k.nx F H ρ σ s E h⟩
theorem sim_seq {K : Frag} {t u : TS} (h1 : SimS K t ds) (h2 : SimS K u du) : SimS K (tSeq t u) (sSeq ds du) := fun F0 B F H ρ σ s E DD h D k =>
  h1 F0 B F H ρ σ s E _ (Eq.mp sSeq_c h) _ ⟨fun F' H' ρ' σ' s' E' q => h2 F0 B F' H' ρ' σ' s' E' DD q D k, k.rt, k.bk, k.ct⟩
theorem ss_cons (h1 : DS X st ds) (h2 : DSs X rest du) : DSs X (st :: rest) (sSeq ds du) := by
  obtain ⟨t, a1, a2⟩ := h1
  obtain ⟨u, b1, b2⟩ := h2
  exact ⟨_, pss_cons a1 b1, sim_seq a2 b2⟩
theorem ss_one (h1 : DS X st ds) : DSs X [st] ds := by
  obtain ⟨t, a1, a2⟩ := h1
  exact ⟨_, pss_one a1, a2⟩
def sBreak : RS := fun DD ρ => DD.bk ρ
def sCont : RS := fun DD ρ => DD.ct ρ
theorem st_pass : DS X (.Pass pos) sNext := ⟨_, ps_pass, fun F0 B F H ρ σ s E DD h D k => k.nx F H ρ σ s E h⟩
theorem st_break : DS X (.Break pos) sBreak := ⟨_, ps_break, fun F0 B F H ρ σ s E DD h D k => k.bk F H ρ σ s E h⟩
theorem st_cont : DS X (.Continue pos) sCont := ⟨_, ps_continue, fun F0 B F H ρ σ s E DD h D k => k.ct F H ρ σ s E h⟩
theorem st_doc {x j pos'} : DS X (.Expr (.Constant (.str x) j pos) pos') sNext := ⟨_, ps_doc, fun F0 B F H ρ σ s E DD h D k => k.nx F H ρ σ s E h⟩
/-- return e -/
def sRet (de : RE) : RS := fun DD ρ => de ρ fun d => DD.rt (.val d)
theorem st_ret (h : DE X e de) : DS X (.Return (some e) pos) (sRet de) := by
  obtain ⟨t, a1, a2⟩ := h
  exact ⟨_, ps_ret a1, fun F0 B F H ρ σ s E DD h D k => a2 B F H ρ σ E _ h _ fun v d F' H' g r z => k.rt v (.val d) F' H' (s.to g) r z⟩
/-- return [..]: a new list -/
def sRetL (dl : RL) : RS := fun DD ρ => dl ρ fun ds => DD.rt (.own ds)
theorem st_retL (h : DLs X e dl) : DS X (.Return (some e) pos) (sRetL dl) := by
  obtain ⟨t, a1, a2⟩ := h
  exact ⟨_, ps_ret a1, fun F0 B F H ρ σ s E DD h D k => a2 B F H ρ σ E _ h _ fun p vs ds F' H' g hp hf hh ha z => k.rt (.ref p) (.own ds) F' H' (s.to g) ⟨p, vs, rfl, s.hh.free hp, hf, hh, ha⟩ z⟩
/-- return x, x an own list -/
def sRetO (i : Nat) : RS := fun DD ρ => match ρ[i]? with | some (some (.own ds)) => DD.rt (.own ds) | _ => False
theorem st_retO (i : Nat) {x : Str} {pos' : Pos} (hN : X.N[i]? = some x := by rfl) (hv : Vis X.env.scope x := by first | exact Or.inl rfl | exact Or.inr (Or.inl rfl) | exact Or.inr (Or.inr rfl)) (hd : (x == ("__debug__" : Str)) = false := by decide)
    (hcd : (x == ("__classdict__" : Str)) = false := by decide) : DS X (.Return (some (.Name x pos')) pos) (sRetO i) := by
  refine ⟨_, ps_ret (pe_var hN hv hd hcd), fun F0 B F H ρ σ s E DD h D k => ?_⟩
  unfold sRetO at h
  split at h
  · rename_i ds q
    obtain ⟨v, h1, p, vs, rfl, f0, f1, f2, f3⟩ := E.at' i _ q
    exact ⟨_, h1, k.rt (.ref p) (.own ds) F H s ⟨p, vs, rfl, f0, f1, f2, f3⟩ h⟩
  · exact h.elim
def sRetN : RS := fun DD _ => DD.rt (.val .none)
theorem st_retN : DS X (.Return none pos) sRetN := ⟨_, ps_retN, fun F0 B F H ρ σ s E DD h D k => k.rt .non (.val .none) F H s .non h⟩
def sIf (c : RT) (t u : RS) : RS := fun DD ρ => c ρ fun b => (b = true → t DD ρ) ∧ (b = false → u DD ρ)
theorem st_if {c : Expr} {p q : List Stmt} (hc : DT X c dt) (ha : DSs X p ds) (hb : DSs X q du) : DS X (.If c p q pos) (sIf dt ds du) := by
  obtain ⟨tc, c1, c2⟩ := hc
  obtain ⟨ta, a1, a2⟩ := ha
  obtain ⟨tb, b1, b2⟩ := hb
  refine ⟨_, ps_if c1 a1 b1, fun F0 B F H ρ σ s E DD h D k => c2 B F H ρ σ E _ h _ fun b F' H' g z => ?_⟩
  cases b with
  | true => exact a2 F0 B F' H' ρ σ (s.to g) (E.grow g) DD (z.1 rfl) D k
  | false => exact b2 F0 B F' H' ρ σ (s.to g) (E.grow g) DD (z.2 rfl) D k
/-- an own list is kept for good from here on -/
def frz1 (i : Nat) (ρ : Rho) : Rho := match ρ[i]? with | some (some (.own ds)) => ρ.set i (some (.val (.list ds))) | _ => ρ
def sFrz (i : Nat) (t : RS) : RS := fun DD ρ => t DD (frz1 i ρ)
theorem sim_frz {K : Frag} {t : TS} (i : Nat) (h : SimS K t ds) : SimS K t (sFrz i ds) := fun F0 B F H ρ σ s E DD hd D k => by
  unfold sFrz frz1 at hd
  split at hd
  · rename_i xs q
    obtain ⟨F', s', o', E'⟩ := E.frz q
    exact h F0 B F' H _ σ ⟨s.ff.trans s', s.hh, E'.fh, fun p h m => o' p (s.own p h m) m⟩ E' DD hd D k
  · exact h F0 B F H ρ σ s E DD hd D k
theorem st_frz (i : Nat) (h : DS X st ds) : DS X st (sFrz i ds) := by
  obtain ⟨t, a1, a2⟩ := h
  exact ⟨t, a1, sim_frz i a2⟩
theorem ss_frz (i : Nat) (h : DSs X rest ds) : DSs X rest (sFrz i ds) := by
  obtain ⟨t, a1, a2⟩ := h
  exact ⟨t, a1, sim_frz i a2⟩
/-- a name is forgotten -/
theorem EnvOk.forget {K : Frag} {B F H : Hp} {ρ : Rho} {σ : L2.St} (E : EnvOk K B F H ρ σ) (ρ' : Rho) (hl : ρ'.length = ρ.length) (w : ∀ (i : Nat) dv, ρ'[i]? = some (some dv) → ρ[i]? = some (some dv)) : EnvOk K B F H ρ' σ :=
  ⟨E.fh, E.bh, hl.trans E.len, fun i dv e => E.at' i dv (w i dv e), fun i j p a b n e1 e2 => E.sep i j p a b n (w _ _ e1) (w _ _ e2)⟩

/-! ### stores -/
/-- x = e -/
def sSet (i : Nat) (de : RE) : RS := fun DD ρ => de ρ fun d => DD.nx (ρ.set i (some (.val d)))
theorem st_set {i : Nat} {x : Str} {pos' : Pos} (hN : X.N.Nodup) (he : DE X e de) (hi : X.N[i]? = some x := by rfl) (hx : Loc X.env.scope x := by first | exact Or.inl rfl | exact Or.inr rfl) (hs : swapsWith e (some (.Name x pos')) pos.line X.env = pure false := by rfl)
    (hf : X.fn x = true ∨ X.env.scope.names.lookup x = some .local := by first | exact .inl rfl | exact .inr rfl | assumption) : DS X (.Assign [.Name x pos'] e pos) (sSet i de) := by
  obtain ⟨t, a1, a2⟩ := he
  exact ⟨_, ps_set hN hi hx a1 hs hf, fun F0 B F H ρ σ s E DD h D k => a2 B F H ρ σ E _ h _ fun v d F' H' g r z => k.nx F' H' _ _ (s.to g) ((E.grow g).set i r) z⟩
def sSetL (i : Nat) (dl : RL) : RS := fun DD ρ => dl ρ fun ds => DD.nx (ρ.set i (some (.own ds)))
theorem own_new {K : Frag} {B F H F' H' : Hp} {ρ : Rho} {σ : L2.St} (E : EnvOk K B F H ρ σ) (g : Gr F H F' H') (i : Nat) {p : Addr} {vs : List V} {ds : List D} (hp : H p = none) (hf : F' p = none) (hh : H' p = some (.lst vs)) (ha : DpAll K F' vs ds) :
    EnvOk K B F' H' (ρ.set i (some (.own ds))) (σ.set i (some (.ref p))) := by
  refine (E.grow g).setOwn i (E.bh.free hp) hf hh ha (fun j a hj e1 e2 => ?_) fun _ _ => rfl
  obtain ⟨v, h1, q, us, rfl, f0, f1, f2, f3⟩ := E.at' j _ e1
  rw [h1] at e2
  cases e2
  rw [hp] at f2
  cases f2
theorem st_setL {i : Nat} {x : Str} {pos' : Pos} (hN : X.N.Nodup) (he : DLs X e dl) (hi : X.N[i]? = some x := by rfl) (hx : Loc X.env.scope x := by first | exact Or.inl rfl | exact Or.inr rfl) (hs : swapsWith e (some (.Name x pos')) pos.line X.env = pure false := by rfl)
    (hf : X.fn x = true ∨ X.env.scope.names.lookup x = some .local := by first | exact .inl rfl | exact .inr rfl | assumption) : DS X (.Assign [.Name x pos'] e pos) (sSetL i dl) := by
  obtain ⟨t, a1, a2⟩ := he
  exact ⟨_, ps_set hN hi hx a1 hs hf, fun F0 B F H ρ σ s E DD h D k => a2 B F H ρ σ E _ h _ fun p vs ds F' H' g hp hf hh ha z => k.nx F' H' _ _ (s.to g) (own_new E g i hp hf hh ha) z⟩
/-- e; (its value dropped) -/
def sDrop (de : RE) : RS := fun DD ρ => de ρ fun _ => DD.nx ρ
theorem st_expr (he : DE X e de) (hs : swapsWith e none pos.line X.env = pure false := by rfl) : DS X (.Expr e pos) (sDrop de) := by
  obtain ⟨t, a1, a2⟩ := he
  exact ⟨_, ps_expr a1 hs, fun F0 B F H ρ σ s E DD h D k => a2 B F H ρ σ E _ h _ fun v d F' H' g r z => k.nx F' H' ρ σ (s.to g) (E.grow g) z⟩
/-! targets -/
abbrev RG := D → Rho → (Rho → Prop) → Prop
abbrev RGs := List D → Rho → (Rho → Prop) → Prop
def SimG (K : Frag) (g : TG) (dg : RG) : Prop := ∀ (B F H : Hp) (ρ : Rho) (σ : L2.St) (v : V) (d : D), EnvOk K B F H ρ σ → Dp K F v d → ∀ q : Rho → Prop, dg d ρ q → ∀ Q : L2.St → Hp → Prop, (∀ ρ' σ', EnvOk K B F H ρ' σ' → q ρ' → Q σ' H) → g v σ H Q
def SimGs (K : Frag) (g : TGs) (dg : RGs) : Prop := ∀ (B F H : Hp) (ρ : Rho) (σ : L2.St) (vs : List V) (xs : List D), EnvOk K B F H ρ σ → DpAll K F vs xs → ∀ q : Rho → Prop, dg xs ρ q → ∀ Q : L2.St → Hp → Prop, (∀ ρ' σ', EnvOk K B F H ρ' σ' → q ρ' → Q σ' H) → g vs σ H Q
def DG (X : Cx) (tg : Expr) (dg : RG) : Prop := ∃ g, PG X tg g ∧ SimG X.K g dg
def DGs (X : Cx) (tgs : List Expr) (dg : RGs) : Prop := ∃ g, PGs X tgs g ∧ SimGs X.K g dg
def rName (i : Nat) : RG := fun d ρ q => q (ρ.set i (some (.val d)))
theorem tg_name {i : Nat} {x : Str} (hN : X.N.Nodup) (hi : X.N[i]? = some x := by rfl) (hx : Loc X.env.scope x := by first | exact Or.inl rfl | exact Or.inr rfl) (hf : X.fn x = true ∨ X.env.scope.names.lookup x = some .local := by first | exact .inl rfl | exact .inr rfl | assumption) : DG X (.Name x pos) (rName i) :=
  ⟨_, pg_name hN hi hx hf, fun B F H ρ σ v d E r q h Q k => k _ _ (E.set i r) h⟩
def rNil : RGs := fun xs ρ q => xs = [] ∧ q ρ
def rCons (g : RG) (u : RGs) : RGs := fun xs ρ q => match xs with | [] => False | d :: r => g d ρ fun ρ' => u r ρ' q
theorem tg_nil : DGs X [] rNil := ⟨_, pgs_nil, fun B F H ρ σ vs xs E r q h Q k => by
  obtain ⟨rfl, h⟩ := h
  cases r
  exact ⟨rfl, k _ _ E h⟩⟩
theorem tg_cons {e : Expr} {es : List Expr} {dg : RG} {dgs : RGs} (h1 : DG X e dg) (h2 : DGs X es dgs)
    (hs : (assignEach (e :: es) X.env).map (·.2) = assign e X.env :: (assignEach es X.env).map (·.2) := by rfl) : DGs X (e :: es) (rCons dg dgs) := by
  obtain ⟨g, a1, a2⟩ := h1
  obtain ⟨u, b1, b2⟩ := h2
  refine ⟨_, pgs_cons a1 b1 hs, fun B F H ρ σ vs xs E r q h Q k => ?_⟩
  cases xs with
  | nil => exact h.elim
  | cons d r' =>
    cases r with
    | cons r1 r2 => exact ⟨_, _, rfl, a2 B F H ρ σ _ d E r1 _ h _ fun ρ' σ' E' z => b2 B F H ρ' σ' _ _ E' r2 q z Q k⟩
def rTup (n : Nat) (g : RGs) : RG := fun d ρ q => match d with | .tuple xs => xs.length = n ∧ g xs ρ q | _ => False
theorem tg_tup {es : List Expr} {k : Nat} {dg : RGs} {n : Nat} (h : DGs X es dg) (hc : X.calm = true := by rfl)
    (hn : (assignEach es X.env).length = n := by rfl) (hst : (assignEach es X.env).findIdx? (·.1) = none := by rfl) : DG X (.Tuple es k pos) (rTup n dg) := by
  obtain ⟨g, a1, a2⟩ := h
  refine ⟨_, pg_tup hc a1 hn hst, fun B F H ρ σ v d E r q h Q k => ?_⟩
  cases d with
  | tuple xs =>
    cases r with
    | tup hs ha => exact ⟨_, _, rfl, E.fh.seqT hs, by rw [ha.length]; exact h.1, a2 B F H ρ σ _ xs E ha q h.2 Q k⟩
  | _ => exact h.elim
/-- target = e -/
def sAsg (de : RE) (g : RG) : RS := fun DD ρ => de ρ fun d => g d ρ DD.nx
theorem st_asg {tg : Expr} {dg : RG} (he : DE X e de) (hg : DG X tg dg) (hs : swapsWithSole [tg] e pos.line X.env = pure false := by rfl) (hw : swappedStores [tg] e X.env = pure none := by rfl)
    (h1 : (assignEach [tg] X.env).map (·.2) = [assign tg X.env] := by rfl) : DS X (.Assign [tg] e pos) (sAsg de dg) := by
  obtain ⟨t, a1, a2⟩ := he
  obtain ⟨g, g1, g2⟩ := hg
  exact ⟨_, ps_asg a1 g1 hs hw h1, fun F0 B F H ρ σ s E DD h D k => a2 B F H ρ σ E _ h _ fun v d F' H' g r z => g2 B F' H' ρ σ v d (E.grow g) r _ z _ fun ρ' σ' E' w => k.nx F' H' ρ' σ' (s.to g) E' w⟩
/-- a, b = e1, e2 -/
def sPar (i j : Nat) (da db : RE) : RS := fun DD ρ => da ρ fun x => db ρ fun y => DD.nx ((ρ.set i (some (.val x))).set j (some (.val y)))
theorem st_par {i j : Nat} {x y : Str} {px py pt : Pos} {kt k2 pt2} (hN : X.N.Nodup) (ha : DE X a da) (hb : DE X b db) (hi : X.N[i]? = some x := by rfl) (hj : X.N[j]? = some y := by rfl) (hij : i ≠ j := by decide)
    (hx : X.env.scope.names.lookup x = some .local := by rfl) (hy : X.env.scope.names.lookup y = some .local := by rfl) (hc : X.calm = true := by rfl)
    (hw : swappedStores [.Tuple [.Name x px, .Name y py] kt pt] (.Tuple [a, b] k2 pt2) X.env = pure (some [x, y]) := by rfl)
    (hs : swapsWithSole [.Tuple [.Name x px, .Name y py] kt pt] (.Tuple [a, b] k2 pt2) pos.line X.env = pure false := by rfl)
    (he : starEach [a, b] X.env = (false, eval a X.env) :: starEach [b] X.env := by rfl) (he2 : starEach [b] X.env = (false, eval b X.env) :: starEach [] X.env := by rfl) :
    DS X (.Assign [.Tuple [.Name x px, .Name y py] kt pt] (.Tuple [a, b] k2 pt2) pos) (sPar i j da db) := by
  obtain ⟨ta, a1, a2⟩ := ha
  obtain ⟨tb, b1, b2⟩ := hb
  refine ⟨_, ps_par hc hN hi hj hij hx hy (pa_cons a1 (pa_cons b1 pa_nil he2) he) hw hs, fun F0 B F H ρ σ s E DD h D k => ?_⟩
  refine a2 B F H ρ σ E _ h _ fun v d F1 H1 g1 r1 z1 => b2 B F1 H1 ρ σ (E.grow g1) _ z1 _ fun u d2 F2 H2 g2 r2 z2 => ⟨v, u, rfl, ?_⟩
  exact k.nx F2 H2 _ _ ((s.to g1).to g2) (((E.grow (g1.trans g2)).set i (r1.mono g2.ff)).set j r2) z2
/-- a, b = e1, e2, both new lists of one's own -/
def sParL (i j : Nat) (da db : RL) : RS := fun DD ρ => da ρ fun x => db ρ fun y => DD.nx ((ρ.set i (some (.own x))).set j (some (.own y)))
/-- x += e (whole numbers) -/
def sAug (i : Nat) (f : Int → Int → Int) (de : RE) : RS := fun DD ρ => match ρ[i]? with | some (some (.val (.int a))) => (de ρ fun d => match d with | .int b => DD.nx (ρ.set i (some (.val (.int (f a b))))) | _ => False) | _ => False
theorem st_aug {i : Nat} {x : Str} {op : Operator} {f : Int → Int → Int} {pos' : Pos} (hN : X.N.Nodup) (ho : PIp X op (ipI f)) (he : DE X e de) (hi : X.N[i]? = some x := by rfl) (hx : Loc X.env.scope x := by first | exact Or.inl rfl | exact Or.inr rfl)
    (hf : X.fn x = true ∨ X.env.scope.names.lookup x = some .local := by first | exact .inl rfl | exact .inr rfl | assumption) : DS X (.AugAssign (.Name x pos') op e pos) (sAug i f de) := by
  obtain ⟨t, a1, a2⟩ := he
  refine ⟨_, ps_aug hN hi hx a1 ho hf, fun F0 B F H ρ σ s E DD h D k => ?_⟩
  unfold sAug at h
  split at h
  · rename_i a q
    obtain ⟨v, h1, h2⟩ := E.at' i _ q
    have hv : v = .int a := by
      cases h2
      rfl
    subst hv
    refine ⟨.int a, h1, a2 B F H ρ σ E _ h _ fun v d F' H' g r z => ?_⟩
    cases r with
    | int b => exact ⟨a, b, rfl, rfl, k.nx F' H' _ _ (s.to g) ((E.grow g).set i (.int _)) z⟩
    | _ => exact z.elim
  · exact h.elim

/-! ### own lists changed -/
/-- a list method on the own list in slot i -/
theorem own_at {K : Frag} {B F H : Hp} {ρ : Rho} {σ : L2.St} (E : EnvOk K B F H ρ σ) {i : Nat} {ds : List D} (q : ρ[i]? = some (some (.own ds))) : ∃ p vs, σ[i]? = some (some (.ref p)) ∧ B p = none ∧ F p = none ∧ H p = some (.lst vs) ∧ DpAll K F vs ds := by
  obtain ⟨v, h1, p, vs, rfl, f0, f1, f2, f3⟩ := E.at' i _ q
  exact ⟨p, vs, h1, f0, f1, f2, f3⟩
theorem own_chg {K : Frag} {B F H : Hp} {ρ : Rho} {σ : L2.St} (E : EnvOk K B F H ρ σ) {i : Nat} {ds ds' : List D} {p : Addr} {vs' : List V} (q : ρ[i]? = some (some (.own ds))) (h1 : σ[i]? = some (some (.ref p))) (hb : B p = none) (hf : F p = none) (ha : DpAll K F vs' ds') :
    EnvOk K B F (upd H p (.lst vs')) (ρ.set i (some (.own ds'))) σ := by
  have e : σ.set i (some (.ref p)) = σ := by
    apply List.ext_getElem?
    intro j
    by_cases hj : i = j
    · subst hj
      rw [List.getElem?_set_self (List.getElem?_eq_some_iff.mp h1).1, h1]
    · rw [List.getElem?_set_ne hj]
  have r := E.setOwn i (p := p) (H' := upd H p (.lst vs')) (vs := vs') hb hf upd_same ha (fun j a hj e1 e2 => E.sep i j p ds a (Ne.symm hj) q e1 h1 e2) fun b hb => upd_ne hb
  rw [e] at r
  exact r
/-- x.append(e) -/
def sApp (i : Nat) (de : RE) : RS := fun DD ρ => match ρ[i]? with | some (some (.own ds)) => Fit (ds.length + 1) ∧ de ρ fun d => DD.nx (ρ.set i (some (.own (ds ++ [d])))) | _ => False
theorem st_app {i : Nat} {x : Str} {pos1 pos2 pos3 : Pos} (he : DE X e de) (hN : X.N[i]? = some x := by rfl) (hv : Vis X.env.scope x := by first | exact Or.inl rfl | exact Or.inr (Or.inl rfl) | exact Or.inr (Or.inr rfl)) (hd : (x == ("__debug__" : Str)) = false := by decide)
    (hcd : (x == ("__classdict__" : Str)) = false := by decide)
    (hbase : attributeBase (.Name x pos1) "append" X.env (eval (.Name x pos1) X.env) = eval (.Name x pos1) X.env := by rfl)
    (hfew : ((backTo pos3 (starEach (e :: []) X.env)).all (fun x => !x.1) && (backToKw pos3 (keywordEach [] X.env)).all (fun x => x.1.isSome)
      && decide ((e :: []).length + ([] : List Keyword).length + (if ([] : List Keyword).isEmpty then 0 else 1) < 30)) = true := by rfl)
    (hline : (pos2.endLine == pos3.line) = true := by rfl) (hs : starEach (e :: []) X.env = (false, eval e X.env) :: starEach [] X.env := by rfl) (hplain : (backTo pos3 (starEach [] X.env)).any (·.1) = false := by rfl)
    (hsw : swapsWith (.Call (.Attribute (.Name x pos1) "append" pos2) [e] [] pos3) none pos.line X.env = pure false := by rfl) :
    DS X (.Expr (.Call (.Attribute (.Name x pos1) "append" pos2) [e] [] pos3) pos) (sApp i de) := by
  obtain ⟨t, a1, a2⟩ := he
  refine ⟨_, ps_expr (pe_bm PySem.F.plainAttrs_list PySem.F.slot_list_append PySem.F.type_list_append mt_append (pe_var hN hv hd hcd) (pa_cons a1 pa_nil hs) hbase hfew hline hs hplain) hsw, fun F0 B F H ρ σ s E DD h D k => ?_⟩
  unfold sApp at h
  split at h
  · rename_i ds q
    obtain ⟨hl, h⟩ := h
    obtain ⟨p, vs, h1, f0, f1, f2, f3⟩ := own_at E q
    refine ⟨.ref p, h1, .inl ⟨rfl, vs, .inl (.inl f2)⟩, a2 B F H ρ σ E _ h _ fun v d F' H' g r z => ?_⟩
    have f2' := g.hh p _ f2
    have f1' := g.own p f1 (by rw [f2]; trivial)
    refine ⟨p, vs, v, rfl, rfl, f2', by rw [f3.length]; exact hl.le, k.nx F' _ _ _ ((s.to g).wr f0 f1') (own_chg (E.grow g) q h1 f0 f1' ((f3.mono g.ff).append (.cons r .nil))) z⟩
  · exact h.elim
/-- x[e2] = e -/
def sSetI (i : Nat) (de di : RE) : RS := fun DD ρ => match ρ[i]? with
  | some (some (.own ds)) => de ρ fun d => di ρ fun k => (match k with | .int z => (match ixN ds.length z with | some j => DD.nx (ρ.set i (some (.own (ds.set j d)))) | none => False) | _ => False)
  | _ => False
theorem st_setI {i : Nat} {x : Str} {e2 : Expr} {di : RE} {pos1 pos2 : Pos} (he : DE X e de) (hi' : DE X e2 di) (hN : X.N[i]? = some x := by rfl) (hv : Vis X.env.scope x := by first | exact Or.inl rfl | exact Or.inr (Or.inl rfl) | exact Or.inr (Or.inr rfl)) (hd : (x == ("__debug__" : Str)) = false := by decide)
    (hcd : (x == ("__classdict__" : Str)) = false := by decide)
    (hs : swapsWithSole [.Subscript (.Name x pos1) e2 pos2] e pos.line X.env = pure false := by rfl) (hw : swappedStores [.Subscript (.Name x pos1) e2 pos2] e X.env = pure none := by rfl)
    (h1 : (assignEach [.Subscript (.Name x pos1) e2 pos2] X.env).map (·.2) = [assign (.Subscript (.Name x pos1) e2 pos2) X.env] := by rfl)
    (ha : ∀ v, assign (.Subscript (.Name x pos1) e2 pos2) X.env v = (do
      let ov ← holding [v] (eval (.Name x pos1) X.env)
      let iv ← holding [v, ov] (eval e2 X.env)
      standAt pos2
      holding [v, ov, iv] (setItem ov iv v)
      release [v, ov, iv] []) := by intro _; rfl) :
    DS X (.Assign [.Subscript (.Name x pos1) e2 pos2] e pos) (sSetI i de di) := by
  obtain ⟨t, a1, a2⟩ := he
  obtain ⟨u, b1, b2⟩ := hi'
  refine ⟨_, ps_asg a1 (pg_sub (pe_var hN hv hd hcd) b1 set_list ha) hs hw h1, fun F0 B F H ρ σ s E DD h D k => ?_⟩
  unfold sSetI at h
  split at h
  · rename_i ds q
    obtain ⟨p, vs, h1, f0, f1, f2, f3⟩ := own_at E q
    refine a2 B F H ρ σ E _ h _ fun v d F1 H1 g1 r1 z => ⟨.ref p, h1, b2 B F1 H1 ρ σ (E.grow g1) _ z _ fun w k' F2 H2 g2 r2 z => ?_⟩
    have g := g1.trans g2
    cases k' with
    | int n =>
      cases r2
      have z : (match ixN ds.length n with | some j => DD.nx (ρ.set i (some (.own (ds.set j d)))) | none => False) := z
      cases hj : ixN ds.length n with
      | none => rw [hj] at z; exact z.elim
      | some j =>
        rw [hj] at z
        refine ⟨p, vs, n, _, rfl, rfl, g.hh p _ f2, by rw [f3.length]; exact hj, ?_⟩
        exact k.nx F2 _ _ _ ((s.to g).wr f0 (g.own p f1 (by rw [f2]; trivial))) (own_chg (E.grow g) q h1 f0 (g.own p f1 (by rw [f2]; trivial)) ((f3.mono g.ff).set (r1.mono g2.ff) _)) z
    | none => exact z.elim
    | bool _ => exact z.elim
    | str _ => exact z.elim
    | list _ => exact z.elim
    | tuple _ => exact z.elim
    | dict _ => exact z.elim
  · exact h.elim
/-- x.pop() as a statement; y = x.pop() -/
def sPop (i : Nat) : RS := fun DD ρ => match ρ[i]? with | some (some (.own ds)) => ds ≠ [] ∧ DD.nx (ρ.set i (some (.own ds.dropLast))) | _ => False
theorem dp_last {K : Frag} {H : Hp} {vs : List V} {ds : List D} (h : DpAll K H vs ds) (hn : ds ≠ []) : ∃ v, vs[vs.length - 1]? = some v ∧ Dp K H v (ds.getLast hn) := by
  have e : ds[vs.length - 1]? = some (ds.getLast hn) := by
    rw [h.length, List.getLast_eq_getElem]
    exact List.getElem?_eq_getElem _
  exact h.get e
theorem st_pop {i : Nat} {x : Str} {pos1 pos2 pos3 : Pos} (hN : X.N[i]? = some x := by rfl) (hv : Vis X.env.scope x := by first | exact Or.inl rfl | exact Or.inr (Or.inl rfl) | exact Or.inr (Or.inr rfl)) (hd : (x == ("__debug__" : Str)) = false := by decide)
    (hcd : (x == ("__classdict__" : Str)) = false := by decide)
    (hbase : attributeBase (.Name x pos1) "pop" X.env (eval (.Name x pos1) X.env) = eval (.Name x pos1) X.env := by rfl) (hline : (pos2.endLine == pos3.line) = true := by rfl)
    (hsw : swapsWith (.Call (.Attribute (.Name x pos1) "pop" pos2) [] [] pos3) none pos.line X.env = pure false := by rfl) :
    DS X (.Expr (.Call (.Attribute (.Name x pos1) "pop" pos2) [] [] pos3) pos) (sPop i) := by
  refine ⟨_, ps_expr (pe_bm0 PySem.F.plainAttrs_list PySem.F.slot_list_pop PySem.F.type_list_pop mt_pop (pe_var hN hv hd hcd) hbase hline) hsw, fun F0 B F H ρ σ s E DD h D k => ?_⟩
  unfold sPop at h
  split at h
  · rename_i ds q
    obtain ⟨hn, h⟩ := h
    obtain ⟨p, vs, h1, f0, f1, f2, f3⟩ := own_at E q
    obtain ⟨v, hl, r⟩ := dp_last f3 hn
    exact ⟨.ref p, h1, .inl ⟨rfl, vs, .inl (.inl f2)⟩, p, vs, v, rfl, rfl, f2, hl, k.nx F _ _ _ (s.wr f0 f1) (own_chg E q h1 f0 f1 f3.dropLast) h⟩
  · exact h.elim
/-- a method without arguments that leaves another list: reverse -/
def sRev (i : Nat) : RS := fun DD ρ => match ρ[i]? with | some (some (.own ds)) => DD.nx (ρ.set i (some (.own ds.reverse))) | _ => False
theorem st_rev {i : Nat} {x : Str} {pos1 pos2 pos3 : Pos} (hN : X.N[i]? = some x := by rfl) (hv : Vis X.env.scope x := by first | exact Or.inl rfl | exact Or.inr (Or.inl rfl) | exact Or.inr (Or.inr rfl)) (hd : (x == ("__debug__" : Str)) = false := by decide)
    (hcd : (x == ("__classdict__" : Str)) = false := by decide)
    (hbase : attributeBase (.Name x pos1) "reverse" X.env (eval (.Name x pos1) X.env) = eval (.Name x pos1) X.env := by rfl) (hline : (pos2.endLine == pos3.line) = true := by rfl)
    (hsw : swapsWith (.Call (.Attribute (.Name x pos1) "reverse" pos2) [] [] pos3) none pos.line X.env = pure false := by rfl) :
    DS X (.Expr (.Call (.Attribute (.Name x pos1) "reverse" pos2) [] [] pos3) pos) (sRev i) := by
  refine ⟨_, ps_expr (pe_bm0 PySem.F.plainAttrs_list PySem.F.slot_list_reverse PySem.F.type_list_reverse (fun pins s σ H x xs v us Q I r rs h => mt_reverse pins s σ H x xs v us Q I r rs h) (pe_var hN hv hd hcd) hbase hline) hsw, fun F0 B F H ρ σ s E DD h D k => ?_⟩
  unfold sRev at h
  split at h
  · rename_i ds q
    obtain ⟨p, vs, h1, f0, f1, f2, f3⟩ := own_at E q
    exact ⟨.ref p, h1, .inl ⟨rfl, vs, .inl (.inl f2)⟩, p, vs, rfl, rfl, f2, k.nx F _ _ _ (s.wr f0 f1) (own_chg E q h1 f0 f1 f3.reverse) h⟩
  · exact h.elim

/-! ### while -/
def sWhile (c : RT) (body : RS) : RS := fun DD ρ => ∃ W : Nat → Rho → Prop, (∃ m, W m ρ) ∧ ∀ m ρ, W m ρ →
  c ρ fun b => (b = true → body { DD with nx := fun ρ' => ∃ m', m' < m ∧ W m' ρ', ct := fun ρ' => ∃ m', m' < m ∧ W m' ρ', bk := DD.nx } ρ) ∧ (b = false → DD.nx ρ)
theorem st_while {c : Expr} {body : List Stmt} (hc : DT X c dt) (hb : DSs X body ds) (hp : PassesOwn (model X.prog X.w) X.A X.env X.xe := by exact PassesOwn.never) : DS X (.While c body [] pos) (sWhile dt ds) := by
  obtain ⟨t, c1, c2⟩ := hc
  obtain ⟨u, b1, b2⟩ := hb
  refine ⟨_, ps_while hp c1 b1, fun F0 B F H ρ σ s E DD h D k => ?_⟩
  obtain ⟨W, ⟨m0, w0⟩, turn⟩ := h
  refine ⟨fun m σ H => ∃ F ρ, Gr F0 B F H ∧ EnvOk X.K B F H ρ σ ∧ W m ρ, ⟨m0, F, ρ, s, E, w0⟩, ?_⟩
  rintro m σ1 H1 ⟨F1, ρ1, s1, E1, w1⟩
  refine c2 B F1 H1 ρ1 σ1 E1 _ (turn m ρ1 w1) _ fun b F2 H2 g z => ?_
  cases b with
  | true =>
    refine ⟨fun σ' H' => ∃ F' ρ', Gr F0 B F' H' ∧ EnvOk X.K B F' H' ρ' σ' ∧ ∃ m', m' < m ∧ W m' ρ', fun σ' H' ⟨F', ρ', s', E', m', hm, w⟩ => ⟨m', hm, F', ρ', s', E', w⟩, ?_⟩
    exact b2 F0 B F2 H2 ρ1 σ1 (s1.to g) (E1.grow g) _ (z.1 rfl) _ ⟨fun F' H' ρ' σ' s' E' q => ⟨F', ρ', s', E', q⟩, k.rt, k.nx, fun F' H' ρ' σ' s' E' q => ⟨F', ρ', s', E', q⟩⟩
  | false => exact k.nx F2 H2 ρ1 σ1 (s1.to g) (E1.grow g) (z.2 rfl)

/-! ### what a for walks -/
/-- J gives the items, while G stands -/
def IterOk (K : Frag) (J : It) (F G : Hp) (items : List D) : Prop := ∀ F1 H1, Same F F1 → Same G H1 → Same F1 H1 → ∀ i : Nat,
  (i < items.length → J.go i H1 ∧ ∀ x H2, J.yld i H1 x H2 → ∃ F2, Gr F1 H1 F2 H2 ∧ ∃ d, items[i]? = some d ∧ Dp K F2 x d) ∧ (i = items.length → J.stop i H1)
theorem IterOk.mono {K : Frag} {J : It} {F G F' G' : Hp} {items : List D} (h : IterOk K J F G items) (a : Same F F') (b : Same G G') : IterOk K J F' G' items := fun F1 H1 x y z => h F1 H1 (a.trans x) (b.trans y) z
/-- it stands by what stays -/
def SimI (K : Frag) (wi : TI) (di : RL) : Prop := ∀ (B F H : Hp) (ρ : Rho) (σ : L2.St), EnvOk K B F H ρ σ → ∀ q : List D → Prop, di ρ q → ∀ R : It → Hp → Prop, (∀ J items F' H', Gr F H F' H' → IterOk K J F' F' items → q items → R J H') → wi σ H R
/-- it stands while nothing is changed -/
def SimIc (K : Frag) (wi : TI) (di : RL) : Prop := ∀ (B F H : Hp) (ρ : Rho) (σ : L2.St), EnvOk K B F H ρ σ → ∀ q : List D → Prop, di ρ q → ∀ R : It → Hp → Prop, (∀ J items F' H', Gr F H F' H' → IterOk K J F' H' items → q items → R J H') → wi σ H R
def DI (X : Cx) (tg e : Expr) (di : RL) : Prop := ∃ wi, PI X tg e wi ∧ SimI X.K wi di
def DIc (X : Cx) (tg e : Expr) (di : RL) : Prop := ∃ wi, PI X tg e wi ∧ SimIc X.K wi di
theorem DI.c {tg e : Expr} {di : RL} (h : DI X tg e di) : DIc X tg e di := by
  obtain ⟨wi, h1, h2⟩ := h
  exact ⟨wi, h1, fun B F H ρ σ E q hq R k => h2 B F H ρ σ E q hq R fun J items F' H' g it z => k J items F' H' g (it.mono (Same.refl _) g.fh) z⟩
theorem iter_seqL {K : Frag} {a : Addr} {vs : List V} {ds : List D} {F G : Hp} (h : SqL K G a vs) (ha : DpAll K F vs ds) : IterOk K (Itl K a) F G ds := fun F1 H1 sF sG s1 i => by
  have q := sG.seq h
  refine ⟨fun hi => ⟨⟨vs, vs[i]'(by rw [ha.length]; exact hi), q, by simp⟩, fun x H2 y => ?_⟩, fun hi => ⟨vs, q, by rw [ha.length]; exact Nat.le_of_eq hi.symm⟩⟩
  obtain ⟨rfl, y⟩ := y
  obtain ⟨v, hv, r⟩ := ha.get (List.getElem?_eq_getElem hi)
  have e := y vs q
  rw [hv] at e
  cases e
  exact ⟨F1, Gr.refl s1, ds[i], List.getElem?_eq_getElem hi, r.mono sF⟩
theorem iter_seqT {K : Frag} {a : Addr} {vs : List V} {ds : List D} {F G : Hp} (h : SqT K G a vs) (ha : DpAll K F vs ds) : IterOk K (Itt K a) F G ds := fun F1 H1 sF sG s1 i => by
  have q := sG.seqT h
  refine ⟨fun hi => ⟨⟨vs, vs[i]'(by rw [ha.length]; exact hi), q, by simp⟩, fun x H2 y => ?_⟩, fun hi => ⟨vs, q, by rw [ha.length]; exact Nat.le_of_eq hi.symm⟩⟩
  obtain ⟨rfl, y⟩ := y
  obtain ⟨v, hv, r⟩ := ha.get (List.getElem?_eq_getElem hi)
  have e := y vs q
  rw [hv] at e
  cases e
  exact ⟨F1, Gr.refl s1, ds[i], List.getElem?_eq_getElem hi, r.mono sF⟩
/-- a list or a tuple -/
def gSq : D → (List D → Prop) → Prop := fun d q => match d with | .list xs => q xs | .tuple xs => q xs | _ => False
def iSeq (de : RE) : RL := fun ρ q => de ρ fun d => gSq d q
theorem PI.or {tg e : Expr} {w1 w2 : TI} (h1 : PI X tg e w1) (h2 : PI X tg e w2) : PI X tg e (fun σ H R => w1 σ H R ∨ w2 σ H R) :=
  ⟨fun pins s σ H R I h => h.elim (h1.run pins s σ H R I) (h2.run pins s σ H R I)⟩
/-- both ways of one reading -/
def iBoth (K : Frag) (te : TE) : TI := fun σ H R => te σ H fun x H1 => ∃ a, x = .ref a ∧ ((∃ xs, SqL K H1 a xs ∧ R (Itl K a) H1) ∨ (∃ xs, SqT K H1 a xs ∧ R (Itt K a) H1))
theorem pi_both {tg e : Expr} {te : TE} (he : PE X e te) : PI X tg e (iBoth X.K te) := by
  refine ⟨fun pins s σ H R I h => ?_⟩
  refine thn (he.run pins s σ H _ I h) fun v s1 ⟨x, H1, I1, r1, a, e, q⟩ => ?_
  subst e
  have hv : v = .ref a := r1
  subst hv
  -- the walk of a list, of a tuple, as pi_list and pi_tup have it
  have fin : ∀ {it : Addr} {tk : Nat}, it = s1.heap.objs.size → FpOk X pins H1 it := fun {it tk} e => by
    subst e
    exact I1.fpOk (Nat.le_refl _) (I1.hok.fresh (Nat.le_refl _))
  rcases q with ⟨xs, hq, q⟩ | ⟨xs, hq, q⟩
  · obtain ⟨its, rv, p, hz⟩ := I1.list hq
    refine wpAny_pyIter_list p.isList ?_
    exact ⟨s1.heap.objs.size, [s1.heap.objs.size], _, _, H1, rfl, I1.kept (t' := s1.toks) fun b o e => Heap.get?_push_of_some _ e, turn_list a _, ⟨_, Heap.get?_push_size _ rfl, rfl, rfl⟩, fun b hb => fin (tk := 0) (by simpa using hb), q⟩
  · obtain ⟨its, rv, p, hz⟩ := I1.tuple hq
    refine wpAny_pyIter_tuple (show s1.heap.IsTuple a its.toArray from p) ?_
    exact ⟨s1.heap.objs.size, [s1.heap.objs.size], _, _, H1, rfl, I1.kept (t' := s1.toks) fun b o e => Heap.get?_push_of_some _ e, turn_tuple a _, ⟨_, Heap.get?_push_size _ rfl, rfl, rfl⟩, fun b hb => fin (tk := 0) (by simpa using hb), q⟩
theorem i_seq {tg : Expr} (h : DE X e de) : DI X tg e (iSeq de) := by
  obtain ⟨te, h1, h2⟩ := h
  refine ⟨_, pi_both h1, fun B F H ρ σ E q hq R k => h2 B F H ρ σ E _ hq _ fun v d F' H' g r z => ?_⟩
  cases r with
  | lst hs ha => exact ⟨_, rfl, .inl ⟨_, g.fh.seq hs, k _ _ F' H' g (iter_seqL hs ha) z⟩⟩
  | tup hs ha => exact ⟨_, rfl, .inr ⟨_, g.fh.seqT hs, k _ _ F' H' g (iter_seqT hs ha) z⟩⟩
  | _ => exact z.elim
theorem i_seqC {tg : Expr} (h : DB X e de) : DIc X tg e (iSeq de) := by
  obtain ⟨te, h1, h2⟩ := h
  refine ⟨_, pi_both h1, fun B F H ρ σ E q hq R k => h2 B F H ρ σ E _ hq _ fun v d F' H' g r z => ?_⟩
  cases d with
  | list xs =>
    obtain ⟨a, vs, rfl, s1, d1⟩ := r.lst g.fh
    exact ⟨_, rfl, .inl ⟨_, s1, k _ _ F' H' g (iter_seqL s1 d1) z⟩⟩
  | tuple xs =>
    obtain ⟨a, vs, rfl, s0, s1, d1⟩ := r.tup g.fh
    exact ⟨_, rfl, .inr ⟨_, s1, k _ _ F' H' g (iter_seqT s1 d1) z⟩⟩
  | _ => exact z.elim
/-- reversed(e), e a list or a tuple -/
theorem rev_at {vs : List V} {ds : List D} {i : Nat} (hl : vs.length = ds.length) (hi : i < ds.length) : ds.reverse[i]? = ds[vs.length - 1 - i]? := by
  rw [List.getElem?_reverse hi, hl]
theorem iter_revL {K : Frag} {a : Addr} {vs : List V} {ds : List D} {F G : Hp} (h : SqL K G a vs) (ha : DpAll K F vs ds) : IterOk K (Itv K a vs.length) F G ds.reverse := fun F1 H1 sF sG s1 i => by
  have q := sG.seq h
  have hl := ha.length
  rw [List.length_reverse]
  refine ⟨fun hi => ?_, fun hi => by show vs.length ≤ i; omega⟩
  have hj : vs.length - 1 - i < ds.length := by omega
  obtain ⟨v, hv, r⟩ := ha.get (List.getElem?_eq_getElem hj)
  refine ⟨⟨by omega, vs, v, q, hv⟩, fun x H2 y => ?_⟩
  obtain ⟨rfl, y⟩ := y
  have e := y vs q
  rw [hv] at e
  cases e
  exact ⟨F1, Gr.refl s1, ds[vs.length - 1 - i], by rw [rev_at hl hi]; exact List.getElem?_eq_getElem hj, r.mono sF⟩
theorem iter_revT {K : Frag} {a : Addr} {vs : List V} {ds : List D} {F G : Hp} (h : SqT K G a vs) (ha : DpAll K F vs ds) : IterOk K (RT.ItvT K a vs.length) F G ds.reverse := fun F1 H1 sF sG s1 i => by
  have q := sG.seqT h
  have hl := ha.length
  rw [List.length_reverse]
  refine ⟨fun hi => ?_, fun hi => by show vs.length ≤ i; omega⟩
  have hj : vs.length - 1 - i < ds.length := by omega
  obtain ⟨v, hv, r⟩ := ha.get (List.getElem?_eq_getElem hj)
  refine ⟨⟨by omega, vs, v, q, hv⟩, fun x H2 y => ?_⟩
  obtain ⟨rfl, y⟩ := y
  have e := y vs q
  rw [hv] at e
  cases e
  exact ⟨F1, Gr.refl s1, ds[vs.length - 1 - i], by rw [rev_at hl hi]; exact List.getElem?_eq_getElem hj, r.mono sF⟩
def iRevD (de : RE) : RL := fun ρ q => de ρ fun d => gSq d fun xs => q xs.reverse
theorem i_rev {tg : Expr} {p : Pos} (h : DE X e de) (hm : X.mg "reversed" = none) (hg : Gl X "reversed" := by rfl) (hs : starEach [e] X.env = (false, eval e X.env) :: starEach [] X.env := by rfl) : DI X tg (.Call (.Name "reversed" p) [e] [] pos) (iRevD de) := by
  obtain ⟨te, h1, h2⟩ := h
  refine ⟨_, RT.pi_revA hg hm h1 hs, fun B F H ρ σ E q hq R k => h2 B F H ρ σ E _ hq _ fun v d F' H' g r z => ?_⟩
  cases r with
  | lst hs ha => exact ⟨_, _, rfl, .inl ⟨g.fh.seq hs, k _ _ F' H' g (iter_revL hs ha) z⟩⟩
  | tup hs ha => exact ⟨_, _, rfl, .inr ⟨g.fh.seqT hs, k _ _ F' H' g (iter_revT hs ha) z⟩⟩
  | _ => exact z.elim
theorem i_revC {tg : Expr} {p : Pos} (h : DB X e de) (hm : X.mg "reversed" = none) (hg : Gl X "reversed" := by rfl) (hs : starEach [e] X.env = (false, eval e X.env) :: starEach [] X.env := by rfl) : DIc X tg (.Call (.Name "reversed" p) [e] [] pos) (iRevD de) := by
  obtain ⟨te, h1, h2⟩ := h
  refine ⟨_, RT.pi_revA hg hm h1 hs, fun B F H ρ σ E q hq R k => h2 B F H ρ σ E _ hq _ fun v d F' H' g r z => ?_⟩
  cases d with
  | list xs =>
    obtain ⟨a, vs, rfl, s1, d1⟩ := r.lst g.fh
    exact ⟨_, _, rfl, .inl ⟨s1, k _ _ F' H' g (iter_revL s1 d1) z⟩⟩
  | tuple xs =>
    obtain ⟨a, vs, rfl, s0, s1, d1⟩ := r.tup g.fh
    exact ⟨_, _, rfl, .inr ⟨s1, k _ _ F' H' g (iter_revT s1 d1) z⟩⟩
  | _ => exact z.elim
/-- lo, lo + 1, .., n of them -/
def upTo : Int → Nat → List D
  | _, 0 => []
  | lo, n + 1 => .int lo :: upTo (lo + 1) n
theorem upTo_length : ∀ (lo : Int) (n : Nat), (upTo lo n).length = n
  | _, 0 => rfl
  | lo, n + 1 => by
    show (upTo (lo + 1) n).length + 1 = n + 1
    rw [upTo_length (lo + 1) n]
theorem upTo_get : ∀ (lo : Int) (n i : Nat), i < n → (upTo lo n)[i]? = some (.int (lo + i))
  | lo, n + 1, 0, _ => by
    show some (PyData.int lo) = some (PyData.int (lo + (0 : Nat)))
    simp
  | lo, n + 1, i + 1, h => by
    show (upTo (lo + 1) n)[i]? = _
    rw [upTo_get (lo + 1) n i (by omega)]
    congr 2
    omega
theorem iter_range {K : Frag} {lo : Int} {n : Nat} {F G : Hp} : IterOk K (Itr lo n) F G (upTo lo n) := fun F1 H1 sF sG s1 i => by
  rw [upTo_length]
  refine ⟨fun hi => ⟨hi, fun x H2 y => ?_⟩, fun hi => Nat.le_of_eq hi.symm⟩
  obtain ⟨rfl, rfl⟩ := y
  exact ⟨F1, Gr.refl s1, _, upTo_get lo n i hi, .int _⟩
def iRange1 (de : RE) : RL := fun ρ q => de ρ fun d => match d with | .int j => Rng j ∧ q (upTo 0 j.toNat) | _ => False
theorem i_range1 {tg : Expr} {p : Pos} (h : DE X a de) (hm : X.mg "range" = none) (hg : Gl X "range" := by rfl) (hs : starEach [a] X.env = [(false, eval a X.env)] := by rfl) : DI X tg (.Call (.Name "range" p) [a] [] pos) (iRange1 de) := by
  obtain ⟨te, h1, h2⟩ := h
  refine ⟨_, pi_range1 hg hm (pa_cons h1 pa_nil hs) hs, fun B F H ρ σ E q hq R k => h2 B F H ρ σ E _ hq _ fun v d F' H' g r z => ?_⟩
  cases r with
  | int j => exact ⟨j, rfl, z.1.lo, z.1.hi, k _ _ F' H' g iter_range z.2⟩
  | _ => exact z.elim
def iRange2 (da db : RE) : RL := fun ρ q => da ρ fun x => db ρ fun y => match x, y with | .int i, .int j => (Rng i ∧ Rng j) ∧ q (upTo i (j - i).toNat) | _, _ => False
theorem i_range2 {tg : Expr} {p : Pos} (h : DE X a da) (g' : DE X b db) (hm : X.mg "range" = none) (hg : Gl X "range" := by rfl) (hs : starEach [a, b] X.env = [(false, eval a X.env), (false, eval b X.env)] := by rfl) (hs2 : starEach [b] X.env = [(false, eval b X.env)] := by rfl)
    (hs3 : starEach [a, b] X.env = (false, eval a X.env) :: starEach [b] X.env := by rfl) : DI X tg (.Call (.Name "range" p) [a, b] [] pos) (iRange2 da db) := by
  obtain ⟨te, h1, h2⟩ := h
  obtain ⟨ue, u1, u2⟩ := g'
  refine ⟨_, pi_range2 hg hm (pa_cons h1 (pa_cons u1 pa_nil hs2) hs3) hs hs2, fun B F H ρ σ E q hq R k => h2 B F H ρ σ E _ hq _ fun v x F1 H1 g1 r z => u2 B F1 H1 ρ σ (E.grow g1) _ z _ fun u y F2 H2 g2 r2 z => ?_⟩
  cases x with
  | int i =>
    cases y with
    | int j =>
      cases r
      cases r2
      exact ⟨i, j, rfl, ⟨z.1.1.lo, z.1.1.hi, z.1.2.lo, z.1.2.hi⟩, k _ _ F2 H2 (g1.trans g2) iter_range z.2⟩
    | _ => exact z.elim
  | _ => exact z.elim
/-- lo, lo - 1, .., n of them -/
def downTo : Int → Nat → List D
  | _, 0 => []
  | lo, n + 1 => .int lo :: downTo (lo - 1) n
theorem downTo_length : ∀ (lo : Int) (n : Nat), (downTo lo n).length = n
  | _, 0 => rfl
  | lo, n + 1 => by
    show (downTo (lo - 1) n).length + 1 = n + 1
    rw [downTo_length (lo - 1) n]
theorem downTo_get : ∀ (lo : Int) (n i : Nat), i < n → (downTo lo n)[i]? = some (.int (lo + (i : Nat) * (-1)))
  | lo, n + 1, 0, _ => by
    show some (PyData.int lo) = some (PyData.int (lo + ((0 : Nat) : Int) * (-1)))
    simp
  | lo, n + 1, i + 1, h => by
    show (downTo (lo - 1) n)[i]? = _
    rw [downTo_get (lo - 1) n i (by omega)]
    congr 2
    omega
/-- range(a, b, -1) -/
def iRangeD (da db : RE) : RL := fun ρ q => da ρ fun x => db ρ fun y => match x, y with | .int i, .int j => (Rng i ∧ Rng j) ∧ q (downTo i (i - j).toNat) | _, _ => False
theorem i_rangeD {tg c : Expr} {p : Pos} (h : DE X a da) (g' : DE X b db) (hc : PE X c (tUn (rU fun i => .int (-i)) (tC (.int 1)))) (hm : X.mg "range" = none) (hg : Gl X "range" := by rfl)
    (hs : starEach [a, b, c] X.env = (false, eval a X.env) :: starEach [b, c] X.env := by rfl) (hpl : (backTo pos (starEach [b, c] X.env)).any (·.1) = false := by rfl) (hs2 : starEach [b, c] X.env = (false, eval b X.env) :: starEach [c] X.env := by rfl) (hs3 : starEach [c] X.env = (false, eval c X.env) :: starEach [] X.env := by rfl) :
    DI X tg (.Call (.Name "range" p) [a, b, c] [] pos) (iRangeD da db) := by
  · obtain ⟨te, h1, h2⟩ := h
    obtain ⟨ue, u1, u2⟩ := g'
    refine ⟨_, pi_range3 hg hm (pa_cons h1 (pa_cons u1 (pa_cons hc pa_nil hs3) hs2) hs) hs hpl, fun B F H ρ σ E q hq R k => h2 B F H ρ σ E _ hq _ fun v x F1 H1 g1 r z => u2 B F1 H1 ρ σ (E.grow g1) _ z _ fun u y F2 H2 g2 r2 z => ?_⟩
    cases x with
    | int i =>
      cases y with
      | int j =>
        cases r
        cases r2
        refine ⟨1, rfl, i, j, -1, (i - j).toNat, rfl, RgC.neg z.1.1.lo z.1.1.hi z.1.2.lo z.1.2.hi, k _ _ F2 H2 (g1.trans g2) (fun F3 H3 sF sG s1 n => ?_) z.2⟩
        rw [downTo_length]
        refine ⟨fun hi => ⟨hi, fun x H2 y => ?_⟩, fun hi => Nat.le_of_eq hi.symm⟩
        obtain ⟨rfl, rfl⟩ := y
        exact ⟨F3, Gr.refl s1, _, downTo_get i _ n hi, .int _⟩
      | _ => exact z.elim
    | _ => exact z.elim

/-! ### for -/
def forD (g : RG) (body : RS) (DD : DEnds) : List D → Rho → Prop
  | [], ρ => DD.nx ρ
  | d :: r, ρ => g d ρ fun ρ1 => body { DD with nx := forD g body DD r, ct := forD g body DD r, bk := DD.nx } ρ1
def sFor (di : RL) (g : RG) (body : RS) : RS := fun DD ρ => di ρ fun items => forD g body DD items ρ
theorem st_for {tg iter : Expr} {body : List Stmt} {di : RL} {dg : RG} (hi : DI X tg iter di) (hg : DG X tg dg) (hb : DSs X body ds) (hc : X.calm = true := by rfl) (hp : PassesOwn (model X.prog X.w) X.A X.env X.xe := by exact PassesOwn.never)
    (hs : ∀ x, foldedSetIterable iter X.env x = pure x := by intro _; rfl) : DS X (.For tg iter body [] pos) (sFor di dg ds) := by
  obtain ⟨wi, i1, i2⟩ := hi
  obtain ⟨g, g1, g2⟩ := hg
  obtain ⟨tb, b1, b2⟩ := hb
  refine ⟨_, ps_for hp hc i1 g1 b1 hs, fun F0 B F H ρ σ s E DD h D k => i2 B F H ρ σ E _ h _ fun J items F1 H1 gr it z => ?_⟩
  have s0 := s.to gr
  have k0 := k.mono s0
  refine ⟨fun i m σ H => ∃ F2 ρ, Gr F1 B F2 H ∧ EnvOk X.K B F2 H ρ σ ∧ m = items.length - i ∧ i ≤ items.length ∧ forD dg ds DD (items.drop i) ρ, ⟨items.length, F1, ρ, s0.self, E.grow gr, by simp, Nat.zero_le _, by simpa using z⟩, ?_⟩
  rintro i m σ2 H2 ⟨F2, ρ2, s2, E2, rfl, hi, hz⟩
  obtain ⟨go, stop⟩ := it F2 H2 s2.ff (s2.ff.trans E2.fh) E2.fh i
  by_cases hlt : i < items.length
  · obtain ⟨go, yl⟩ := go hlt
    refine .inr ⟨go, fun σ' H' => ∃ F' ρ', Gr F1 B F' H' ∧ EnvOk X.K B F' H' ρ' σ' ∧ forD dg ds DD (items.drop (i + 1)) ρ', fun σ' H' ⟨F', ρ', s', E', q⟩ => ⟨_, by omega, F', ρ', s', E', rfl, hlt, q⟩, fun x H3 y => ?_⟩
    obtain ⟨F3, gr3, d, hd, r⟩ := yl x H3 y
    have ed : items.drop i = d :: items.drop (i + 1) := by
      have e2 : items[i] = d := Option.some.inj ((List.getElem?_eq_getElem hlt).symm.trans hd)
      rw [← e2]
      exact List.drop_eq_getElem_cons hlt
    rw [ed] at hz
    refine g2 B F3 H3 ρ2 σ2 x d (E2.grow gr3) r _ hz _ fun ρ4 σ4 E4 w => ?_
    exact b2 F1 B F3 H3 ρ4 σ4 (s2.to gr3) E4 _ w _ ⟨fun F' H' ρ' σ' s' E' q => ⟨F', ρ', s', E', q⟩, k0.rt, k0.nx, fun F' H' ρ' σ' s' E' q => ⟨F', ρ', s', E', q⟩⟩
  · have e : i = items.length := by omega
    refine .inl ⟨stop (by omega), ?_⟩
    rw [e, List.drop_length] at hz
    exact k0.nx F2 H2 ρ2 σ2 s2 E2 hz
end
end DL

namespace DL
open PySem PySem.Spec PyProof.Rows L2

/-! ### repr of plain data with great whole numbers -/
def reprOk : D → Bool
  | .none | .bool _ | .int _ | .str _ | .list _ | .tuple _ => true
  | _ => false
def bigLine : Nat := 2 ^ 12000
mutual
def rpD : D → Bool
  | .none | .bool _ => true
  | .int i => decide (i.natAbs < bigLine)
  | .str x => decide ((PyData.shown (.str x)).length + 2 ≤ 3700)
  | .list xs | .tuple xs => rpAll xs
  | _ => false
def rpAll : List D → Bool
  | [] => true
  | x :: xs => rpD x && rpAll xs
end
mutual
def cells : D → Nat
  | .list xs | .tuple xs => 1 + cellsAll xs
  | _ => 1
def cellsAll : List D → Nat
  | [] => 0
  | x :: xs => cells x + cellsAll xs
end
theorem big_lt {i : Int} (h : i.natAbs < bigLine) : i.natAbs < 10 ^ 3640 := Nat.lt_of_lt_of_le h (by unfold bigLine; decide +kernel)
mutual
theorem rp_len : ∀ d : D, rpD d = true → d.shown.length + 2 ≤ 3700 * cells d
  | .none, _ => by
    have e : (PyData.shown .none).length = 4 := rfl
    rw [e]; simp [cells]
  | .bool b, _ => by
    have e : (PyData.shown (.bool b)).length ≤ 5 := by cases b <;> decide
    simp only [cells]; omega
  | .int i, h => by
    have e := int_text_length_le10 (k := 3640) (by decide) (big_lt (by simpa [rpD] using h))
    show (Str.ofString (toString i)).length + 2 ≤ _
    rw [PySem.ofString_length]
    simp only [cells]
    omega
  | .list xs, h => by
    have h3 := rp_lenAll xs (by simpa only [rpD] using h)
    have h4 := listText_len_le (PyData.shownAll xs)
    have h5 := PyData.shownAll_length xs
    simp only [PyData.shown, cells]
    omega
  | .tuple xs, h => by
    have h3 := rp_lenAll xs (by simpa only [rpD] using h)
    have h4 := tupleText_len_le (PyData.shownAll xs)
    have h5 := PyData.shownAll_length xs
    simp only [PyData.shown, cells]
    omega
  | .str _, h => by
    simp only [cells]
    have := of_decide_eq_true (show decide _ = true by simpa only [rpD] using h)
    omega
  | .dict _, h => by simp [rpD] at h
theorem rp_lenAll : ∀ xs : List D, rpAll xs = true → ((PyData.shownAll xs).map (·.length)).sum + 2 * xs.length ≤ 3700 * cellsAll xs
  | [], _ => by simp [PyData.shownAll, cellsAll]
  | x :: xs, h => by
    have h' : rpD x = true ∧ rpAll xs = true := by simpa only [rpAll, Bool.and_eq_true] using h
    have a3 := rp_len x h'.1
    have b3 := rp_lenAll xs h'.2
    simp only [PyData.shownAll, cellsAll, List.map_cons, List.sum_cons, List.length_cons]
    omega
end
section
variable {prog : Program} {w : World} {h₀ : Heap}
theorem int_text {A : Around} {E : Value → Shared → Prop} {s : Shared} {a : Int} {t : Tok} {Q : Value → Shared → Prop} (hn : s.heap.NoDigits) (ha : a.natAbs < bigLine) (h : Q (.str (toString a) s.toks) { s with toks := s.toks + 1 }) :
    wpAny (model prog w) A (call (.builtin "int.__repr__") [.int a t]) Q E s := by
  have hb : a.natAbs < 10 ^ 4300 := Nat.lt_of_lt_of_le (big_lt ha) (Nat.pow_le_pow_right (by decide) (by decide))
  refine wpAny_call_entry F.slot_int_repr (typeIs_int s a t) F.entry_int_repr ?_ (F.args_int_repr_1 _)
  unfold Builtin.«int.__repr__»
  show wpAny _ _ (do let r ← Builtin.overDigitLimit? a; _) _ _ s
  refine wpAny_bind (overDigitLimit_any hn (fun _ => wpAny_bind (wpAny_mkStr (wpAny_pure ⟨_, rfl, h⟩) (int_text_fits10 hb))) fun hge => ?_)
  exact absurd hb (Nat.not_lt.mpr hge)
theorem repr_int (hn : h₀.NoDigits) (a : Int) (t : Tok) (ha : a.natAbs < bigLine) (as : List Addr) (d : Nat) : ReprK prog w as h₀ d (.int a t) (toString a) := by
  intro base hb A g E s Q _ _ hu hk hQ
  have hb' : base ≤ sizeLine := by omega
  rw [pyReprUnder_leaf (v := .int a t) hb' (fun _ e => nomatch e)]
  unfold pyRepr
  refine wpAny_bind (wpAny_pyReprObj_slot (by omega) (typeIs_int s a t) F.slot_int_repr.toG (int_text (hn.keeps hk) ha ⟨_, _, rfl, wpAny_pure ?_⟩))
  exact hQ s.heap _ fun _ _ e => e
mutual
theorem rp_repr (hn : h₀.NoDigits) : ∀ {v : Value} {d : D} {as : List Addr}, Reads h₀ v d as → rpD d = true → d.shown.length ≤ sizeLine → ∃ bs, ReadAtMost h₀ d.depth bs ∧ ReprK prog w bs h₀ d.depth v d.shown
  | _, _, _, .none, _, _ => ⟨[], (fun _ h => nomatch h), by simp only [PyData.shown]; exact .of_is ReprIs.none _ _ _⟩
  | _, _, _, .bool b, _, _ => ⟨[], (fun _ h => nomatch h), by simp only [PyData.shown]; exact .of_is (ReprIs.bool b) _ _ _⟩
  | _, _, _, .int i t, hs, _ => ⟨[], (fun _ h => nomatch h), by simp only [PyData.shown]; exact repr_int hn i t (by simpa [rpD] using hs) _ _⟩
  | _, _, _, .str x t, _, hz => ⟨[], (fun _ h => nomatch h), by simp only [PyData.shown]; exact .of_is (ReprIs.str x t (by simpa only [PyData.shown] using hz)) _ _ _⟩
  | _, _, _, .list (a := a) (vs := vs) (xs := xs) h1 h2 h3 h4, hs, hz => by
    have hz' : (listText (PyData.shownAll xs)).length ≤ sizeLine := by simpa only [PyData.shown] using hz
    obtain ⟨bs, hb, hk⟩ := rp_reprAll hn h4 (by simpa only [rpD] using hs) fun t ht => Nat.le_trans (listText_mem_le ht) hz'
    have r : Reads h₀ (.ref a) (.list xs) _ := .list h1 h2 h3 h4
    refine ⟨a :: bs, .cons r (by simp only [PyData.depth]; omega) hb, ?_⟩
    have off : a ∉ bs := not_mem_of_deeper r (by simp only [PyData.depth]; omega) hb
    simp only [PyData.depth, PyData.shown]
    obtain ⟨l⟩ := vs
    cases l with
    | nil =>
      have h4' : ReadsAll h₀ [] xs _ := h4
      cases h4'
      simp only [PyData.shownAll, listText_nil]
      exact .listEmpty h1 h2 h3
    | cons x l => exact .list h1 h2 h3 off (by simpa using hk.length_eq) fun i y e => hk.item i y (by simpa using e)
  | _, _, _, .tuple (a := a) (xs := xs) h1 h2 h3 h4, hs, hz => by
    have hz' : (tupleText (PyData.shownAll xs)).length ≤ sizeLine := by simpa only [PyData.shown] using hz
    obtain ⟨bs, hb, hk⟩ := rp_reprAll hn h4 (by simpa only [rpD] using hs) fun t ht => Nat.le_trans (tupleText_mem_le ht) hz'
    have r : Reads h₀ (.ref a) (.tuple xs) _ := .tuple h1 h2 h3 h4
    refine ⟨a :: bs, .cons r (by simp only [PyData.depth]; omega) hb, ?_⟩
    have off : a ∉ bs := not_mem_of_deeper r (by simp only [PyData.depth]; omega) hb
    simp only [PyData.depth, PyData.shown]
    exact .tuple h1 h2 h3 off hk
  | _, _, _, .dict _ _ _ _ _, hs, _ => by simp [rpD] at hs
theorem rp_reprAll (hn : h₀.NoDigits) : ∀ {vs : List Value} {ds : List D} {as : List Addr}, ReadsAll h₀ vs ds as → rpAll ds = true → (∀ t ∈ PyData.shownAll ds, t.length ≤ sizeLine) →
    ∃ bs, ReadAtMost h₀ (PyData.depthAll ds) bs ∧ ReprAllK prog w bs h₀ (PyData.depthAll ds) vs (PyData.shownAll ds)
  | _, _, _, .nil, _, _ => ⟨[], (fun _ h => nomatch h), by simp only [PyData.shownAll]; exact .nil⟩
  | _, _, _, .cons (d := d) (ds := ds) r rs, hs, hz => by
    have hs' : rpD d = true ∧ rpAll ds = true := by simpa only [rpAll, Bool.and_eq_true] using hs
    simp only [PyData.shownAll, List.mem_cons, forall_eq_or_imp] at hz
    obtain ⟨b1, c1, k1⟩ := rp_repr hn r hs'.1 hz.1
    obtain ⟨b2, c2, k2⟩ := rp_reprAll hn rs hs'.2 hz.2
    simp only [PyData.depthAll, PyData.shownAll]
    exact ⟨b1 ++ b2, (c1.mono (Nat.le_max_left _ _)).append (c2.mono (Nat.le_max_right _ _)), .cons ((k1.more fun b hb => List.mem_append_left _ hb).level_le (Nat.le_max_left _ _)) (k2.more_le (fun b hb => List.mem_append_right _ hb) (Nat.le_max_right _ _))⟩
end
/-- repr(v) -/
theorem rp_call {A : Around} {E : Value → Shared → Prop} {s : Shared} {v : Value} {d : D} {as : List Addr} {Q : Value → Shared → Prop} (hn : s.heap.NoDigits) (r : Reads s.heap v d as) (hc : reprOk d = true) (hs : rpD d = true) (hz : d.shown.length ≤ sizeLine) (hg : A.guards = some []) (hu : A.units + (d.depth + 1) < cLine)
    (hQ : ∀ h' u tk, (∀ b o, s.heap.get? b = some o → h'.get? b = some o) → Q (.str d.shown u) { s with heap := h', toks := tk }) : wpAny (model prog w) A (call (.builtin "repr") [v]) Q E s := by
  have hk0 : ∀ b o, s.heap.get? b = some o → s.heap.get? b = some o := fun _ _ e => e
  have fin : ∀ h' u tk, (∀ b o, s.heap.get? b = some o → h'.get? b = some o) → ∃ x t, (Value.str d.shown u) = .str x t ∧ Q (.str d.shown u) { s with heap := h', toks := tk } := fun h' u tk hk => ⟨_, _, rfl, hQ h' u tk hk⟩
  cases r with
  | none =>
    simp only [PyData.shown] at hQ
    exact P.repr_of_none (hQ s.heap _ _ hk0)
  | bool b =>
    simp only [PyData.shown] at hQ
    exact P.repr_of_bool (hQ s.heap _ _ hk0)
  | str x t =>
    simp only [PyData.shown] at hQ
    exact P.repr_of_str (hQ s.heap _ _ hk0) (by simpa only [PyData.shown] using hz)
  | int i t => exact call_repr_slot (by omega) (typeIs_int s i t) F.slot_int_repr.toG (int_text hn (by simpa [rpD] using hs) (fin s.heap _ _ hk0))
  | list h1 h2 h3 h4 =>
    rename_i o vs n xs bs₀
    have hz' : (listText (PyData.shownAll xs)).length ≤ sizeLine := by simpa only [PyData.shown] using hz
    obtain ⟨bs, hb, hk⟩ := rp_reprAll (prog := prog) (w := w) hn h4 (by simpa only [rpD] using hs) fun t ht => Nat.le_trans (listText_mem_le ht) hz'
    have off := not_mem_of_deeper (.list h1 h2 h3 h4) (by simp only [PyData.depth]; omega) hb
    simp only [PyData.depth] at hu
    simp only [PyData.shown] at fin
    refine call_repr_slot (by omega) ⟨o, h1, h2⟩ F.slot_list_repr.toG ?_
    obtain ⟨l⟩ := vs
    cases l with
    | nil =>
      have h4' : ReadsAll s.heap [] xs _ := h4
      cases h4'
      simp only [PyData.shownAll, listText_nil] at fin
      exact call_list_repr_empty ⟨o, h1, h2⟩ h1 h3 (fin s.heap _ _ hk0)
    | cons x l => exact call_list_reprK h1 h2 h3 off (by simpa using hk.length_eq) (fun i y e => hk.item i y (by simpa using e)) hg (fun b _ => Clear.nil b) (by show A.units + 1 + _ < cLine; omega) hk0 fin hz'
  | tuple h1 h2 h3 h4 =>
    rename_i o vs n xs
    have hz' : (tupleText (PyData.shownAll xs)).length ≤ sizeLine := by simpa only [PyData.shown] using hz
    obtain ⟨bs, hb, hk⟩ := rp_reprAll (prog := prog) (w := w) hn h4 (by simpa only [rpD] using hs) fun t ht => Nat.le_trans (tupleText_mem_le ht) hz'
    have off := not_mem_of_deeper (.tuple h1 h2 h3 h4) (by simp only [PyData.depth]; omega) hb
    simp only [PyData.depth] at hu
    simp only [PyData.shown] at fin
    exact call_repr_slot (by omega) ⟨o, h1, h2⟩ F.slot_tuple_repr (call_tuple_reprK h1 h2 h3 off hk hg (fun b _ => Clear.nil b) (by show A.units + 1 + _ < cLine; omega) hk0 fin hz')
  | _ => cases hc
end
def gRepr : GA := fun xs q => match xs with | [d] => (reprOk d = true ∧ rpD d = true ∧ cells d ≤ 4500 ∧ d.depth ≤ 60) ∧ q (.str d.shown) | _ => False
section
variable {X : Cx}
theorem c_repr (hdg : X.base.NoDigits) (hg : X.A.guards = some []) (hu : X.A.units + 64 < cLine) : CallD X (.builtin "repr") gRepr := by
  refine ⟨fun vs H Q => ∃ v d, vs = [v] ∧ Dp X.K H v d ∧ (reprOk d = true ∧ rpD d = true ∧ cells d ≤ 4500 ∧ d.depth ≤ 60) ∧ Q (.str d.shown) H, ?_, ?_⟩
  · rintro pins s σ H vs us Q I r ⟨v, d, rfl, hd, ⟨h0, h1, h2, h3⟩, q⟩
    cases r with
    | cons ru rt =>
      cases rt
      rename_i u
      obtain ⟨as, rd⟩ := Dp.reads I d v u hd ru
      have hl := rp_len d h1
      exact rp_call (hdg.keeps fun b o e => (I.bs b o e).1) rd h0 h1 (by rw [sizeLine_eq]; omega) hg (by omega) fun h' t tk hk => ⟨.str _, H, I.kept hk, ⟨_, rfl⟩, q⟩
  · intro F H vs xs fh b q hq Q k
    cases b with
    | nil => exact hq.elim
    | cons b1 bt =>
      cases bt with
      | nil => exact ⟨_, _, rfl, b1.dp fh, hq.1, k _ _ F H (Gr.refl fh) (.str _) hq.2⟩
      | cons _ _ => exact hq.elim
end
end DL

namespace DL
open PySem PySem.Spec PyProof.Rows L2

/-! ### defs that are called with no repr under way -/
structure FnG (P : Program) (w : World) (K : PySem.W.Frag) (mg : Str → Option Value) (base : Heap) (k : Nat) (f : Addr) (fd : FuncData) (ps : List Str) (sp : Sp) : Prop where
  len : ∀ vs H Q E, sp vs H Q E → vs.length = ps.length
  run : ∀ (A : Around) (outer : List Env) (s : Shared) (H : Hp) (args : Args) (us : List Value) (vs : List V) (Q : VK) (E : XK), A.guards = some [] →
    Room k A → Env0 P w K mg base A outer s H → BindsTo s fd args (ps.zip us) → Vals vs us → sp vs H Q E → codeAny (model P w) A (.call (.ref f) args) (CR CX0 outer P w H s Q E) s
theorem FnG.mono {P : Program} {w : World} {K : PySem.W.Frag} {mg : Str → Option Value} {base : Heap} {j k : Nat} {f : Addr} {fd : FuncData} {ps : List Str} {sp : Sp} (F : FnG P w K mg base j f fd ps sp) (h : j ≤ k) : FnG P w K mg base k f fd ps sp :=
  ⟨F.len, fun A outer s H args us vs Q E hg hr => F.run A outer s H args us vs Q E hg (hr.mono h)⟩
section
variable {P : Program} {w : World} {K : PySem.W.Frag} {mg : Str → Option Value} {base : Heap}
/-- a def of the text, by its body's reading -/
theorem Fun.okG {x qual : Str} {st : Stmt} {f : Addr} {fd : FuncData} {N ps : List Str} {k : Nat} {sp : Sp} (F : Fun K x qual st f fd) (S : FnScope N ps (defScope st)) (len : ∀ vs H Q E, sp vs H Q E → vs.length = ps.length)
    (hbody : ∀ (cdv : Value) (A : Around) (outer : List Env) (s : Shared) (H : Hp) (vs : List V) (Q : VK) (E : XK), (A.deeper (envOfC qual (defScope st) s.heap.objs.size f cdv)).guards = some [] → Room k (A.deeper (envOfC qual (defScope st) s.heap.objs.size f cdv)) → sp vs H Q E →
      ∃ t, PSs (cxOf CX0 P w K mg base N qual (defScope st) f cdv A outer s H E).nox (defBody st) t ∧ t { nx := fun _ H' => Q .non H', rt := Q } (start N vs) H) : FnG P w K mg base (k + 1) f fd ps sp := by
  obtain ⟨oc, od, kV, doc, pm, an, cdv, ct, osl, rfl, lk, hcd⟩ := F.ex
  refine ⟨len, ?_⟩
  intro A outer s H args us vs Q E gA room e0 bind rel hsp
  have inK : K.In s.heap := e0.mod.kin.keeps fun b o e => (e0.bs b o e).1
  have kinds : ∀ y ∈ ps.zip us, (defScope st).names.lookup y.1 = some .local ∨ ((defScope st).names.lookup y.1 = some .cell ∧ ((cellsFrom (s.heap.objs.size + 1) (defScope st).names []).lookup y.1).isSome = true) := by
    rintro ⟨n, v⟩ hy
    cases S.par n (List.of_mem_zip hy).1 with
    | inl q => exact .inl q
    | inr q => exact .inr ⟨q, PySem.W.cellsFrom_some _ _ _ (.inl q)⟩
  refine codeAny_call_function room.depth (inK _ _ lk) rfl S.co S.gen rfl (PySem.W.codeRec_of inK hcd) (bind _ _ _ _ (wpAny_newFunctionEnv_cells S.kind kinds ?_))
  rintro env rfl s1 x
  refine ⟨e0.mod.nolimit.keeps fun b o e => x.toInCall.keep b o ((e0.bs b o e).1), codeAny_func ?_⟩
  obtain ⟨t, ht, hq⟩ := hbody cdv A outer s H vs Q E gA (room.deeper _) hsp
  refine wpAny_mono (ht.nox.run [] s1 (start N vs) H _ (inv_start S room.hd e0 (len _ _ _ _ hsp) rel x) hq) ?_ fun _ _ hs => hs
  intro fl s' hs
  cases fl with
  | brk => exact hs.elim fun _ z => z.elim fun _ z => z.2.elim
  | cont => exact hs.elim fun _ z => z.elim fun _ z => z.2.elim
  | next => exact hs.elim fun _ z => z.elim fun H' z => ⟨.non, H', z.1.os, z.1.bare, z.1.base, z.1.hok, rfl, z.2⟩
  | ret u => exact hs.elim fun v z => z.elim fun _ z => z.elim fun H' z => ⟨v, H', z.1.os, z.1.bare, z.1.base, z.1.hok, z.2.1, z.2.2⟩
end
section
variable {X : Cx} {k : Nat} {f : Addr} {fd : FuncData} {ps : List Str} {sp : Sp} {x : Str} {p pos : Pos} {e : Expr} {es : List Expr} {t : TA}
/-- f(e, ..) -/
theorem pe_callG (F : FnG X.prog X.w X.K X.mg X.base k f fd ps sp) (gA : X.A.guards = some []) (room : Room k X.A) (hg : Gl X x) (hm : X.mg x = some (.ref f)) (hk : PySem.W.keepIn X.K (.ref f) = true) (hb : Binds X.K fd ps [])
    (ha : PA X (e :: es) t) (hdb : (x == ("__debug__" : Str)) = false := by decide) (he : starEach (e :: es) X.env = (false, eval e X.env) :: starEach es X.env := by rfl) (hpl : (backTo pos (starEach es X.env)).any (·.1) = false := by rfl) :
    PE X (.Call (.Name x p) (e :: es) [] pos) (tCall sp [] (fun _ _ _ => False) t) := by
  constructor
  intro pins s σ H Q I h
  refine wpAny_Call_Name_kw (ld_glob I hg hm (PySem.W.callWith_K (h₀ := X.base) I.ok.mod.kin hk (thn (ha.run pos pins s σ H _ I h) ?_) he hpl) hdb)
  rintro us s1 ⟨vs, H1, J, r, q⟩
  refine ⟨J.kIn, ?_⟩
  rw [List.append_nil] at q
  have hl : (us ++ ([] : List Value)).length = ps.length := by rw [List.append_nil, ← r.length]; exact F.len _ _ _ _ q
  have hbb := hb s1 us J.kIn hl
  rw [List.append_nil] at hbb
  refine wpAny_call (codeAny_mono (F.run X.A X.stack s1 H1 ⟨us, []⟩ us vs Q _ gA room J.env0 hbb r q) ?_)
  intro r' s' hq
  match r', hq with
  | .ok (.ret u), hq => exact J.after hq
  | .error e, hq => exact (pass0 pins σ H1 s1 e s' J hq)
end
end DL

namespace DL
open PySem PySem.Spec PyProof.Rows L2

/-! ### list comprehensions -/
/-- the canonical readings -/
def canE (K : Frag) (de : RE) : TE := fun σ H Q => ∃ B F ρ q, EnvOk K B F H ρ σ ∧ de ρ q ∧ ∀ v d F' H', Gr F H F' H' → Dp K F' v d → q d → Q v H'
def canT (K : Frag) (dt : RT) : TT := fun σ H Q => ∃ B F ρ q, EnvOk K B F H ρ σ ∧ dt ρ q ∧ ∀ b F' H', Gr F H F' H' → q b → Q b H'
section
variable {X : Cx} {e : Expr} {de : RE} {dt : RT} {dl : RL}
theorem DE.can (h : DE X e de) : PE X e (canE X.K de) := by
  obtain ⟨te, h1, h2⟩ := h
  refine ⟨fun pins s σ H Q I ⟨B, F, ρ, q, E, hq, k⟩ => ?_⟩
  exact h1.run pins s σ H Q I (h2 B F H ρ σ E q hq Q k)
theorem DT.can (h : DT X e dt) : PT X e (canT X.K dt) := by
  obtain ⟨te, h1, h2⟩ := h
  refine ⟨fun pins s σ H Q I ⟨B, F, ρ, q, E, hq, k⟩ => ?_⟩
  exact h1.run pins s σ H Q I (h2 B F H ρ σ E q hq Q k)
theorem sim_canE {K : Frag} : SimE K (canE K de) de := fun B F H ρ σ E q hq Q k => ⟨B, F, ρ, q, E, hq, k⟩
theorem sim_canT {K : Frag} : SimT K (canT K dt) dt := fun B F H ρ σ E q hq Q k => ⟨B, F, ρ, q, E, hq, k⟩
end
def wipeD (ρ : Rho) : List Nat → Rho
  | [] => ρ
  | v :: vs => (wipeD ρ vs).set v none
theorem wipeD_length (ρ : Rho) : ∀ vs : List Nat, (wipeD ρ vs).length = ρ.length
  | [] => rfl
  | v :: vs => by unfold wipeD; rw [List.length_set, wipeD_length ρ vs]
theorem wipeD_some {ρ : Rho} {i : Nat} {x : DV} : ∀ {vs : List Nat}, (wipeD ρ vs)[i]? = some (some x) → ρ[i]? = some (some x) ∧ i ∉ vs
  | [], h => ⟨h, by simp⟩
  | v :: vs, h => by
    unfold wipeD at h
    by_cases hi : v = i
    · subst hi
      by_cases hv : v < (wipeD ρ vs).length
      · rw [List.getElem?_set_self hv] at h; cases h
      · rw [List.getElem?_eq_none (by simpa using hv)] at h; cases h
    · rw [List.getElem?_set_ne hi] at h
      obtain ⟨h1, h2⟩ := wipeD_some h
      exact ⟨h1, by simp only [List.mem_cons, not_or]; exact ⟨fun e => hi e.symm, h2⟩⟩
theorem EnvOk.wiped {K : Frag} {B F H : Hp} {ρ : Rho} {σ : L2.St} (E : EnvOk K B F H ρ σ) (vs : List Nat) : EnvOk K B F H (wipeD ρ vs) (wipe σ vs) := by
  refine ⟨E.fh, E.bh, by rw [wipeD_length, wipe_length]; exact E.len, fun i dv e => ?_, fun i j p a b n e1 e2 e3 => ?_⟩
  · obtain ⟨h1, h2⟩ := wipeD_some e
    obtain ⟨v, h3, h4⟩ := E.at' i dv h1
    exact ⟨v, by rw [wipe_out h2]; exact h3, h4⟩
  · obtain ⟨h1, h2⟩ := wipeD_some e1
    obtain ⟨g1, g2⟩ := wipeD_some e2
    rw [wipe_out h2] at e3
    rw [wipe_out g2]
    exact E.sep i j p a b n h1 g1 e3
theorem wipe_set {σ : L2.St} {i : Nat} {x : Option V} : ∀ {vs : List Nat}, i ∈ vs → wipe (σ.set i x) vs = wipe σ vs
  | v :: vs, h => by
    have key : ∀ vs : List Nat, wipe (σ.set i x) vs = wipe σ vs ∨ wipe (σ.set i x) vs = (wipe σ vs).set i x := by
      intro vs
      induction vs with
      | nil => exact .inr rfl
      | cons w ws ih =>
        unfold wipe
        rcases ih with ih | ih
        · exact .inl (by rw [ih])
        · rw [ih]
          by_cases hw : i = w
          · subst hw
            exact .inl (by rw [List.set_set])
          · exact .inr (List.set_comm _ _ hw)
    unfold wipe
    by_cases hv : i = v
    · subst hv
      rcases key vs with q | q
      · rw [q]
      · rw [q, List.set_set]
    · have hm : i ∈ vs := by
        rcases List.mem_cons.mp h with q | q
        · exact absurd q hv
        · exact q
      rw [wipe_set hm]
/-- targets of a comprehension: the slots vs alone are stored -/
def SimGw (K : Frag) (vs : List Nat) (g : TG) (dg : RG) : Prop := ∀ (B F H : Hp) (ρ : Rho) (σ : L2.St) (v : V) (d : D), EnvOk K B F H ρ σ → Dp K F v d → ∀ q : Rho → Prop, dg d ρ q → ∀ Q : L2.St → Hp → Prop, (∀ ρ' σ', EnvOk K B F H ρ' σ' → wipe σ' vs = wipe σ vs → q ρ' → Q σ' H) → g v σ H Q
def SimGws (K : Frag) (vs : List Nat) (g : TGs) (dg : RGs) : Prop := ∀ (B F H : Hp) (ρ : Rho) (σ : L2.St) (us : List V) (xs : List D), EnvOk K B F H ρ σ → DpAll K F us xs → ∀ q : Rho → Prop, dg xs ρ q → ∀ Q : L2.St → Hp → Prop, (∀ ρ' σ', EnvOk K B F H ρ' σ' → wipe σ' vs = wipe σ vs → q ρ' → Q σ' H) → g us σ H Q
/-- a comprehension's block -/
abbrev BX (X : Cx) (scope : Scope) (s : Shared) (H : Hp) (C : Addr) (cl : List (Str × Addr)) (fp : List Addr) : Cx := X.blk s H scope (compEnvC scope cl C X.env) fp
def DGw (X : Cx) (scope : Scope) (vs : List Nat) (tg : Expr) (dg : RG) : Prop := ∃ g, (∀ s H C cl fp, PG (BX X scope s H C cl fp) tg g) ∧ SimGw X.K vs g dg
def DGws (X : Cx) (scope : Scope) (vs : List Nat) (tgs : List Expr) (dg : RGs) : Prop := ∃ g, (∀ s H C cl fp, PGs (BX X scope s H C cl fp) tgs g) ∧ SimGws X.K vs g dg
section
variable {X : Cx} {scope : Scope} {vs : List Nat} {pos : Pos}
theorem gw_name {i : Nat} {x : Str} (hN : X.N.Nodup) (hi : X.N[i]? = some x := by rfl) (hx : ∀ s H C cl fp, Loc (BX X scope s H C cl fp).env.scope x := by intros; first | exact Or.inl rfl | exact Or.inr rfl)
    (hf : ∀ s H C cl fp, (BX X scope s H C cl fp).fn x = true ∨ (BX X scope s H C cl fp).env.scope.names.lookup x = some .local := by intros; first | exact .inl rfl | exact .inr rfl) (hv : i ∈ vs := by decide) : DGw X scope vs (.Name x pos) (rName i) :=
  ⟨_, fun s H C cl fp => pg_name (X := BX X scope s H C cl fp) hN hi (hx s H C cl fp) (hf s H C cl fp), fun B F H ρ σ v d E r q h Q k => k _ _ (E.set i r) (wipe_set hv) h⟩
theorem gw_nil : DGws X scope vs [] rNil := ⟨_, fun s H C cl fp => pgs_nil, fun B F H ρ σ us xs E r q h Q k => by
  obtain ⟨rfl, h⟩ := h
  cases r
  exact ⟨rfl, k _ _ E rfl h⟩⟩
theorem gw_cons {e : Expr} {es : List Expr} {dg : RG} {dgs : RGs} (h1 : DGw X scope vs e dg) (h2 : DGws X scope vs es dgs)
    (hs : ∀ s H C cl fp, (assignEach (e :: es) (BX X scope s H C cl fp).env).map (·.2) = assign e (BX X scope s H C cl fp).env :: (assignEach es (BX X scope s H C cl fp).env).map (·.2) := by intros; rfl) : DGws X scope vs (e :: es) (rCons dg dgs) := by
  obtain ⟨g, a1, a2⟩ := h1
  obtain ⟨u, b1, b2⟩ := h2
  refine ⟨_, fun s H C cl fp => pgs_cons (a1 s H C cl fp) (b1 s H C cl fp) (hs s H C cl fp), fun B F H ρ σ us xs E r q h Q k => ?_⟩
  cases xs with
  | nil => exact h.elim
  | cons d r' =>
    cases r with
    | cons r1 r2 => exact ⟨_, _, rfl, a2 B F H ρ σ _ d E r1 _ h _ fun ρ' σ' E' w z => b2 B F H ρ' σ' _ _ E' r2 q z Q fun ρ2 σ2 E2 w2 z2 => k ρ2 σ2 E2 (w2.trans w) z2⟩
theorem gw_tup {es : List Expr} {k : Nat} {dg : RGs} {n : Nat} (h : DGws X scope vs es dg) (hc : X.calm = true := by rfl)
    (hn : ∀ s H C cl fp, (assignEach es (BX X scope s H C cl fp).env).length = n := by intros; rfl) (hst : ∀ s H C cl fp, (assignEach es (BX X scope s H C cl fp).env).findIdx? (·.1) = none := by intros; rfl) : DGw X scope vs (.Tuple es k pos) (rTup n dg) := by
  obtain ⟨g, a1, a2⟩ := h
  refine ⟨gTup X.K n g, fun s H C cl fp => pg_tup (X := BX X scope s H C cl fp) hc (a1 s H C cl fp) (hn s H C cl fp) (hst s H C cl fp), fun B F H ρ σ v d E r q h Q k => ?_⟩
  cases d with
  | tuple xs =>
    cases r with
    | tup hs ha => exact ⟨_, _, rfl, E.fh.seqT hs, by rw [ha.length]; exact h.1, a2 B F H ρ σ _ xs E ha q h.2 Q k⟩
  | _ => exact h.elim
/-- a clause's tests -/
def DPTs (X : Cx) (scope : Scope) (ifs : List Expr) (dt : RT) : Prop := ∃ tt, (∀ s H C cl fp, PTs (BX X scope s H C cl fp) ifs tt) ∧ SimT X.K tt dt
def tYesD : RT := fun _ q => q true
theorem dts_nil : DPTs X scope [] tYesD := ⟨_, fun _ _ _ _ _ => pts_nil, fun B F H ρ σ E q hq Q k => k true F H (Gr.refl E.fh) hq⟩
theorem dts_one {c : Expr} {dt : RT} (h : ∀ s H C cl fp, DT (BX X scope s H C cl fp) c dt) : DPTs X scope [c] dt := ⟨_, fun s H C cl fp => pts_one (h s H C cl fp).can, sim_canT⟩

def lcD (g : RG) (tt : RT) (de : RE) (vs : List Nat) : List D → Rho → (List D → Prop) → Prop
  | [], _, q => q []
  | d :: r, ρ, q => g d (wipeD ρ vs) fun ρ1 => tt ρ1 fun b => (b = true → de ρ1 fun x => lcD g tt de vs r ρ fun xs => q (x :: xs)) ∧ (b = false → lcD g tt de vs r ρ q)
def lComp (di : RL) (g : RG) (tt : RT) (de : RE) (vs : List Nat) : RL := fun ρ q => di ρ fun items => Fit items.length ∧ lcD g tt de vs items ρ q
theorem EnvOk.other {K : Frag} {B F H : Hp} {ρ : Rho} {σ : L2.St} (E : EnvOk K B F H ρ σ) {p : Addr} {o : HO} (hb : B p = none) (hf : F p = none) (hs : ∀ (j : Nat) a, ρ[j]? = some (some (.own a)) → σ[j]? ≠ some (some (.ref p))) : EnvOk K B F (upd H p o) ρ σ := by
  refine ⟨fun b u e => ?_, fun b u e => ?_, E.len, fun i dv e => ?_, E.sep⟩
  · rw [upd_ne (ne_of_none e hf)]
    exact E.fh b u e
  · rw [upd_ne (ne_of_none e hb)]
    exact E.bh b u e
  · obtain ⟨v, h1, h2⟩ := E.at' i dv e
    refine ⟨v, h1, ?_⟩
    cases dv with
    | val d => exact h2
    | own ds =>
      obtain ⟨q, us, rfl, q0, q1, q2, q3⟩ := h2
      have : q ≠ p := fun z => by
        subst z
        exact hs i ds e h1
      exact ⟨q, us, rfl, q0, q1, by rw [upd_ne this]; exact q2, q3⟩
theorem sim_lc {K : Frag} {wi : TI} {di : RL} {g : TG} {dg : RG} {tt : TT} {dt : RT} {te : TE} {de : RE} (hi : SimIc K wi di) (hg : SimGw K vs g dg) (ht : SimT K tt dt) (he : SimE K te de) :
    SimL K (tLc wi g tt te vs) (lComp di dg dt de vs) := fun B F H ρ σ E q hq Q k => hi B F H ρ σ E _ hq _ fun J items F1 H1 g1 it z D hD => by
  obtain ⟨⟨hsz⟩, z⟩ := z
  have E1 := E.grow g1
  have fD : F1 D = none := g1.fh.free hD
  have bD : B D = none := E1.bh.free hD
  have nD : ∀ (j : Nat) a, ρ[j]? = some (some (.own a)) → σ[j]? ≠ some (some (.ref D)) := fun j a e w => by
    obtain ⟨v, h1, p, us, rfl, _, _, f2, _⟩ := E1.at' j _ e
    rw [h1] at w
    cases w
    rw [hD] at f2
    cases f2
  refine ⟨fun i m H2 => m = items.length - i ∧ i ≤ items.length ∧ ∃ F2 acc ads, Gr F1 H1 F2 H2 ∧ EnvOk K B F2 H2 ρ σ ∧ F2 D = none ∧ H2 D = some (.lst acc) ∧ acc.length ≤ i ∧ DpAll K F2 acc ads ∧ lcD dg dt de vs (items.drop i) ρ fun xs => q (ads ++ xs),
    ⟨items.length, by simp, Nat.zero_le _, F1, [], [], Gr.newO g1.fh hD, E1.grow (Gr.newO g1.fh hD), fD, upd_same, Nat.le_refl _, .nil, by simpa using z⟩, ?_⟩
  rintro i m H2 ⟨rfl, hi', F2, acc, ads, gr, E2, f2, h2, hl, ha, hz⟩
  obtain ⟨go, stop⟩ := it F2 H2 gr.ff gr.hh gr.fh i
  by_cases hlt : i < items.length
  · obtain ⟨go, yl⟩ := go hlt
    refine .inr ⟨go, fun H' => ∃ F2 acc ads, Gr F1 H1 F2 H' ∧ EnvOk K B F2 H' ρ σ ∧ F2 D = none ∧ H' D = some (.lst acc) ∧ acc.length ≤ i + 1 ∧ DpAll K F2 acc ads ∧ lcD dg dt de vs (items.drop (i + 1)) ρ fun xs => q (ads ++ xs),
      fun H' h => ⟨_, by omega, rfl, hlt, h⟩, fun x H3 y => ?_⟩
    obtain ⟨F3, gr3, d, hd, r⟩ := yl x H3 y
    have ed : items.drop i = d :: items.drop (i + 1) := by
      have e2 : items[i] = d := Option.some.inj ((List.getElem?_eq_getElem hlt).symm.trans hd)
      rw [← e2]
      exact List.drop_eq_getElem_cons hlt
    rw [ed] at hz
    have E3 := E2.grow gr3
    refine hg B F3 H3 (wipeD ρ vs) (wipe σ vs) x d (E3.wiped vs) r _ hz _ fun ρ4 σ4 E4 w4 z4 => ⟨?_, ?_⟩
    · rw [w4]
      have idem : ∀ (σ : L2.St) (us : List Nat), (∀ v ∈ vs, v ∈ us) → wipe (wipe σ vs) us = wipe σ us := fun σ us hs => by
        have : ∀ ws : List Nat, (∀ v ∈ ws, v ∈ us) → wipe (wipe σ ws) us = wipe σ us := by
          intro ws
          induction ws with
          | nil => intro _; rfl
          | cons w ws ih =>
            intro h
            show wipe ((wipe σ ws).set w none) us = _
            rw [wipe_set (h w List.mem_cons_self)]
            exact ih fun v hv => h v (List.mem_cons_of_mem _ hv)
        exact this vs hs
      exact idem σ vs fun v hv => hv
    · refine ht B F3 H3 ρ4 σ4 E4 _ z4 _ fun b F5 H5 gr5 z5 => ?_
      have gA := gr3.trans gr5
      have D5 : H5 D = some (.lst acc) := gA.hh D _ h2
      have f5 : F5 D = none := gA.own D f2 (by rw [h2]; trivial)
      cases b with
      | true =>
        refine he B F5 H5 ρ4 σ4 (E4.grow gr5) _ (z5.1 rfl) _ fun y dy F6 H6 gr6 r6 z6 => ?_
        have gB := gA.trans gr6
        have D6 : H6 D = some (.lst acc) := gr6.hh D _ D5
        have f6 : F6 D = none := gr6.own D f5 (by rw [D5]; trivial)
        refine ⟨acc, D6, by omega, F6, acc ++ [y], ads ++ [dy], ?_, (E2.grow gB).other bD f6 nD, f6, upd_same, by rw [List.length_append]; simp; omega, (ha.mono gB.ff).append (.cons r6 .nil), ?_⟩
        · have gC := gr.trans gB
          refine ⟨gC.ff, fun b u e => ?_, fun b u e => ?_, gC.own⟩
          · rw [upd_ne (ne_of_none e hD)]
            exact gC.hh b u e
          · rw [upd_ne (ne_of_none e f6)]
            exact gC.fh b u e
        · have e3 : (fun xs => q (ads ++ [dy] ++ xs)) = fun xs => q (ads ++ (dy :: xs)) := by
            funext xs
            rw [List.append_assoc]
            rfl
          rw [e3]
          exact z6
      | false =>
        exact ⟨F5, acc, ads, gr.trans gA, E2.grow gA, f5, D5, by omega, ha.mono gA.ff, z5.2 rfl⟩
  · have e : i = items.length := by omega
    refine .inl ⟨stop (by omega), ?_⟩
    rw [e, List.drop_length] at hz
    have hz : q (ads ++ []) := hz
    rw [List.append_nil] at hz
    exact k D acc ads F2 H2 (g1.trans gr) (g1.hh.free hD) f2 h2 ha hz
variable {elt tg iter : Expr} {ifs : List Expr} {own : List (Str × Nat)} {di : RL} {dg : RG} {dt : RT} {de : RE}
/-- [elt for tg in iter if ..] -/
theorem dl_lc (hN : X.N.Nodup) (hi : DIc X tg iter di) (hg : DGw X scope (own.map (·.2)) tg dg) (ht : DPTs X scope ifs dt) (he : ∀ s H C cl fp, DE (BX X scope s H C cl fp) elt de)
    (ok : BlkOk X.N X.env.scope scope own := by exact blkOk_by (by first | decide +kernel | kernel_rfl)) (hc : X.calm = true := by rfl) (hs : ∀ x, foldedSetIterable iter X.env x = pure x := by intro _; rfl) :
    DLs X (.ListComp elt [⟨tg, iter, ifs, 0⟩] scope pos) (lComp di dg dt de (own.map (·.2))) := by
  obtain ⟨wi, i1, i2⟩ := hi
  obtain ⟨g, g1, g2⟩ := hg
  obtain ⟨tt, t1, t2⟩ := ht
  exact ⟨_, pe_lc (te := canE X.K de) hc hN i1 ok g1 t1 (fun s H C cl fp => (he s H C cl fp).can) hs, sim_lc i2 g2 t2 sim_canE⟩
/-- y = [..], of one's own -/
theorem st_lcL {i : Nat} {y : Str} {py spos : Pos} (hN : X.N.Nodup) (hi : DIc X tg iter di) (hg : DGw X scope (own.map (·.2)) tg dg) (ht : DPTs X scope ifs dt) (he : ∀ s H C cl fp, DE (BX X scope s H C cl fp) elt de)
    (hsw : swapsWith (.ListComp elt [⟨tg, iter, ifs, 0⟩] scope pos) (some (.Name y py)) spos.line X.env = pure true)
    (ok : BlkOk X.N X.env.scope scope own := by exact blkOk_by (by first | decide +kernel | kernel_rfl)) (hy : X.N[i]? = some y := by rfl) (hyl : X.env.scope.names.lookup y = some .local := by rfl) (hc : X.calm = true := by rfl) (hs : ∀ x, foldedSetIterable iter X.env x = pure x := by intro _; rfl) :
    DS X (.Assign [.Name y py] (.ListComp elt [⟨tg, iter, ifs, 0⟩] scope pos) spos) (sSetL i (lComp di dg dt de (own.map (·.2)))) := by
  obtain ⟨wi, i1, i2⟩ := hi
  obtain ⟨g, g1, g2⟩ := hg
  obtain ⟨tt, t1, t2⟩ := ht
  refine ⟨_, ps_setLc (te := canE X.K de) hc hN hy hyl hsw i1 ok g1 t1 (fun s H C cl fp => (he s H C cl fp).can) hs, fun F0 B F H ρ σ s E DD h D k => ?_⟩
  exact sim_lc i2 g2 t2 sim_canE B F H ρ σ E _ h _ fun p us ds F' H' g hp hf hh ha z => k.nx F' H' _ _ (s.to g) (own_new E g i hp hf hh ha) z
/-- y = [..], as data -/
theorem st_lc {i : Nat} {y : Str} {py spos : Pos} (hN : X.N.Nodup) (hi : DIc X tg iter di) (hg : DGw X scope (own.map (·.2)) tg dg) (ht : DPTs X scope ifs dt) (he : ∀ s H C cl fp, DE (BX X scope s H C cl fp) elt de)
    (hsw : swapsWith (.ListComp elt [⟨tg, iter, ifs, 0⟩] scope pos) (some (.Name y py)) spos.line X.env = pure true)
    (ok : BlkOk X.N X.env.scope scope own := by exact blkOk_by (by first | decide +kernel | kernel_rfl)) (hy : X.N[i]? = some y := by rfl) (hyl : X.env.scope.names.lookup y = some .local := by rfl) (hc : X.calm = true := by rfl) (hs : ∀ x, foldedSetIterable iter X.env x = pure x := by intro _; rfl) :
    DS X (.Assign [.Name y py] (.ListComp elt [⟨tg, iter, ifs, 0⟩] scope pos) spos) (sSet i (dLst (lComp di dg dt de (own.map (·.2))))) := by
  obtain ⟨t, a1, a2⟩ := st_lcL (i := i) (y := y) (py := py) (spos := spos) hN hi hg ht he hsw ok hy hyl hc hs
  obtain ⟨wi, i1, i2⟩ := hi
  obtain ⟨g, g1, g2⟩ := hg
  obtain ⟨tt, t1, t2⟩ := ht
  refine ⟨_, ps_setLc (te := canE X.K de) hc hN hy hyl hsw i1 ok g1 t1 (fun s H C cl fp => (he s H C cl fp).can) hs, fun F0 B F H ρ σ s E DD h D k => ?_⟩
  refine sim_lc i2 g2 t2 sim_canE B F H ρ σ E _ h _ fun p us ds F' H' g hp hf hh ha z => ?_
  have gf := gr_frz g hp hf hh
  exact k.nx _ H' _ _ (s.to gf) ((E.grow gf).set i (.lst (.inl (.inl upd_same)) (ha.mono (same_new hf)))) z
end

/-! ### defs -/
/-- a def's promise over data: f tells, for the arguments, what is wanted -/
abbrev FD := List D → (DV → Prop) → Prop
def SpD (K : Frag) (n : Nat) (f : FD) : Sp := fun vs H Q _ => ∃ F ds q, Same F H ∧ vs.length = n ∧ DpAll K F vs ds ∧ f ds q ∧ ∀ r, q r → ∀ v F' H', Gr F H F' H' → ResF K H F' H' v r → Q v H'
def startD (n : Nat) (ds : List D) : Rho := ds.map (fun d => some (.val d)) ++ List.replicate (n - ds.length) none
/-- a body's reading as a def's promise -/
def bodyD (n : Nat) (body : RS) : FD := fun ds q => body { nx := fun _ => q (.val .none), rt := q } (startD n ds)
theorem env_start {K : Frag} {F H : Hp} {N : List Str} {vs : List V} {ds : List D} (fh : Same F H) (h : DpAll K F vs ds) : EnvOk K H F H (startD N.length ds) (L2.start N vs) := by
  have hl := h.length
  have gt : ∀ (i : Nat) dv, (startD N.length ds)[i]? = some (some dv) → ∃ d, ds[i]? = some d ∧ dv = .val d := fun i dv e => by
    unfold startD at e
    by_cases hi : i < ds.length
    · rw [List.getElem?_append_left (by simpa using hi), List.getElem?_map, List.getElem?_eq_getElem hi] at e
      exact ⟨_, List.getElem?_eq_getElem hi, by simpa using e.symm⟩
    · rw [List.getElem?_append_right (by simpa using hi), List.getElem?_replicate] at e
      split at e <;> cases e
  refine ⟨fh, Same.refl H, ?_, fun i dv e => ?_, fun i j p a b _ e _ _ => ?_⟩
  · unfold startD L2.start
    rw [List.length_append, List.length_append, List.length_map, List.length_map, List.length_replicate, List.length_replicate, hl]
  · obtain ⟨d, h1, rfl⟩ := gt i dv e
    obtain ⟨v, hv, r⟩ := h.get h1
    refine ⟨v, ?_, r⟩
    unfold L2.start
    have hi : i < vs.length := (List.getElem?_eq_some_iff.mp hv).1
    rw [List.getElem?_append_left (by simpa using hi), List.getElem?_map, hv]
    rfl
  · obtain ⟨d, _, z⟩ := gt i _ e
    cases z
section
variable {P : Program} {w : World} {K : Frag} {mg : Str → Option Value} {base : Heap}
/-- THE RULE: a def by its body's reading -/
theorem fnD {x qual : Str} {st : Stmt} {f : Addr} {fd : FuncData} {N ps : List Str} {k : Nat} {g : FD} (F : Fun K x qual st f fd) (S : FnScope N ps (defScope st))
    (hbody : ∀ (cdv : Value) (A : Around) (outer : List Env) (s : Shared) (H : Hp) (E : XK), (A.deeper (envOfC qual (defScope st) s.heap.objs.size f cdv)).guards = some [] → Room k (A.deeper (envOfC qual (defScope st) s.heap.objs.size f cdv)) →
      ∃ body, DSs (cxOf CX0 P w K mg base N qual (defScope st) f cdv A outer s H E).nox (defBody st) body ∧ ∀ ds q, ds.length = ps.length → g ds q → bodyD N.length body ds q) : FnG P w K mg base (k + 1) f fd ps (SpD K ps.length g) := by
  refine Fun.okG F S (fun vs H Q E h => ?_) (fun cdv A outer s H vs Q E gA hr h => ?_)
  · obtain ⟨F, ds, q, _, hl, _⟩ := h
    exact hl
  · obtain ⟨F0, ds, q0, fh, hl, hd, hg, hq⟩ := h
    obtain ⟨body, ⟨t, h1, h2⟩, h3⟩ := hbody cdv A outer s H E gA hr
    refine ⟨t, h1, ?_⟩
    have ln : ds.length = ps.length := by rw [← hd.length]; exact hl
    exact h2 F0 H F0 H (startD N.length ds) (L2.start N vs) (Gr.refl fh) (env_start fh hd) _ (h3 ds _ ln hg) _ ⟨fun F' H' ρ σ s E q => hq _ q .non F' H' s .non, fun v r F' H' s rr z => hq r z v F' H' s rr, fun _ _ _ _ _ _ z => z.elim, fun _ _ _ _ _ _ z => z.elim⟩
end
section
variable {X : Cx} {k : Nat} {f : Addr} {fd : FuncData} {ps : List Str} {x : Str} {p pos : Pos} {e : Expr} {es : List Expr} {da : RL} {g : FD}
def valD : DV → D
  | .val d => d
  | .own ds => .list ds
/-- f(..): data -/
def dFn (g : FD) (da : RL) : RE := fun ρ q => da ρ fun xs => g xs fun r => q (valD r)
/-- f(..): a new list -/
def lFn (g : FD) (da : RL) : RL := fun ρ q => da ρ fun xs => g xs fun r => match r with | .own ds => q ds | _ => False
theorem sim_fn {K : Frag} {ta : TA} {n : Nat} (ha : SimA K n ta da) : SimE K (tCall (SpD K n g) [] (fun _ _ _ => False) ta) (dFn g da) := fun B F H ρ σ Ev q hq Q k =>
  ha B F H ρ σ Ev _ hq _ fun vs ds F1 H1 g1 r ln z => by
    refine ⟨F1, ds, _, g1.fh, by rw [List.append_nil, r.length, ln], by rw [List.append_nil]; exact r, z, fun r' qr v F2 H2 g2 rr => ?_⟩
    cases r' with
    | val d => exact k v d F2 H2 (g1.trans g2) rr qr
    | own ds' =>
      obtain ⟨p, us, rfl, hb, hf, hh, ha'⟩ := rr
      have gf := gr_frz g2 hb hf hh
      exact k (.ref p) (.list ds') _ H2 (g1.trans gf) (.lst (.inl (.inl upd_same)) (ha'.mono (same_new hf))) qr
theorem sim_fnL {K : Frag} {ta : TA} {n : Nat} (ha : SimA K n ta da) : SimL K (tCall (SpD K n g) [] (fun _ _ _ => False) ta) (lFn g da) := fun B F H ρ σ Ev q hq Q k =>
  ha B F H ρ σ Ev _ hq _ fun vs ds F1 H1 g1 r ln z => by
    refine ⟨F1, ds, _, g1.fh, by rw [List.append_nil, r.length, ln], by rw [List.append_nil]; exact r, z, fun r' qr v F2 H2 g2 rr => ?_⟩
    cases r' with
    | val d => exact qr.elim
    | own ds' =>
      obtain ⟨p, us, rfl, hb, hf, hh, ha'⟩ := rr
      exact k p us ds' F2 H2 (g1.trans g2) (g1.hh.free hb) hf hh ha' qr
/-- f(e, ..), f a def -/
theorem de_fn (G : FnG X.prog X.w X.K X.mg X.base k f fd ps (SpD X.K (e :: es).length g)) (gA : X.A.guards = some []) (hr : Room k X.A) (hm : X.mg x = some (.ref f)) (hk : PySem.W.keepIn X.K (.ref f) = true) (hb : Binds X.K fd ps []) (ha : DA X (e :: es) da) (hg : Gl X x := by rfl)
    (hdb : (x == ("__debug__" : Str)) = false := by decide) (he : starEach (e :: es) X.env = (false, eval e X.env) :: starEach es X.env := by rfl) (hpl : (backTo pos (starEach es X.env)).any (·.1) = false := by rfl) : DE X (.Call (.Name x p) (e :: es) [] pos) (dFn g da) := by
  obtain ⟨ta, a1, a2⟩ := ha
  exact ⟨_, pe_callG G gA hr hg hm hk hb a1 hdb he hpl, sim_fn a2⟩
theorem dl_fn (G : FnG X.prog X.w X.K X.mg X.base k f fd ps (SpD X.K (e :: es).length g)) (gA : X.A.guards = some []) (hr : Room k X.A) (hm : X.mg x = some (.ref f)) (hk : PySem.W.keepIn X.K (.ref f) = true) (hb : Binds X.K fd ps []) (ha : DA X (e :: es) da) (hg : Gl X x := by rfl)
    (hdb : (x == ("__debug__" : Str)) = false := by decide) (he : starEach (e :: es) X.env = (false, eval e X.env) :: starEach es X.env := by rfl) (hpl : (backTo pos (starEach es X.env)).any (·.1) = false := by rfl) : DLs X (.Call (.Name x p) (e :: es) [] pos) (lFn g da) := by
  obtain ⟨ta, a1, a2⟩ := ha
  exact ⟨_, pe_callG G gA hr hg hm hk hb a1 hdb he hpl, sim_fnL a2⟩
end
/-- a def that stands ready to be called: by its name x, its level k, its promise g -/
structure Ready (P : Program) (w : World) (K : Frag) (mg : Str → Option Value) (base : Heap) (x : Str) (n k : Nat) (g : FD) : Prop where
  ex : ∃ f fd ps, FnG P w K mg base k f fd ps (SpD K n g) ∧ mg x = some (.ref f) ∧ PySem.W.keepIn K (.ref f) = true ∧ Binds K fd ps []
section
variable {X : Cx} {k : Nat} {x : Str} {p pos : Pos} {e : Expr} {es : List Expr} {da : RL} {g : FD}
theorem Ready.toE (G : Ready X.prog X.w X.K X.mg X.base x (e :: es).length k g) (gA : X.A.guards = some []) (hr : Room k X.A) (ha : DA X (e :: es) da) (hg : Gl X x := by rfl)
    (hdb : (x == ("__debug__" : Str)) = false := by decide) (he : starEach (e :: es) X.env = (false, eval e X.env) :: starEach es X.env := by rfl) (hpl : (backTo pos (starEach es X.env)).any (·.1) = false := by rfl) : DE X (.Call (.Name x p) (e :: es) [] pos) (dFn g da) := by
  obtain ⟨f, fd, ps, G1, hm, hk, hb⟩ := G.ex
  exact de_fn G1 gA hr hm hk hb ha hg hdb he hpl
theorem Ready.toL (G : Ready X.prog X.w X.K X.mg X.base x (e :: es).length k g) (gA : X.A.guards = some []) (hr : Room k X.A) (ha : DA X (e :: es) da) (hg : Gl X x := by rfl)
    (hdb : (x == ("__debug__" : Str)) = false := by decide) (he : starEach (e :: es) X.env = (false, eval e X.env) :: starEach es X.env := by rfl) (hpl : (backTo pos (starEach es X.env)).any (·.1) = false := by rfl) : DLs X (.Call (.Name x p) (e :: es) [] pos) (lFn g da) := by
  obtain ⟨f, fd, ps, G1, hm, hk, hb⟩ := G.ex
  exact dl_fn G1 gA hr hm hk hb ha hg hdb he hpl
end
theorem Ready.mono {P : Program} {w : World} {K : Frag} {mg : Str → Option Value} {base : Heap} {x : Str} {n k j : Nat} {g : FD} (G : Ready P w K mg base x n k g) (h : k ≤ j) : Ready P w K mg base x n j g := by
  obtain ⟨f, fd, ps, G1, hm, hk, hb⟩ := G.ex
  exact ⟨f, fd, ps, G1.mono h, hm, hk, hb⟩
end DL

namespace DL
open PySem PySem.Spec PyProof.Rows L2

/-! ### the law's end -/
theorem dp_ints {K : Frag} {H : Hp} : ∀ ns : List Int, DpAll K H (ns.map V.int) (ns.map PyData.int)
  | [] => .nil
  | n :: ns => .cons (.int n) (dp_ints ns)
/-- the heap in which nothing but the script may be tracked -/
theorem script_heap {K : Frag} {s : Shared} {P : Program} {w : World} {a : Addr} {vs : List Value} {ns : List Int} (KX : K.In s.heap)
    (ha : s.heap.get? a = some { cls := .type "list", data := .seq vs.toArray }) (rv : Vals (ns.map V.int) vs) (hl : ns.length ≤ sizeLine) :
    ∃ H : Hp, Only H ∧ SqL K H a (ns.map V.int) ∧ HOk P w H s.heap ∧ (∀ b, H b ≠ none → b = a ∧ K.lookup a = none) := by
  have lv : vs.length = ns.length := by rw [← rv.length, List.length_map]
  by_cases hk : ∃ o, K.lookup a = some o
  · obtain ⟨o, hk⟩ := hk
    obtain rfl := Option.some.inj (ha.symm.trans (KX a o hk))
    have no : ∀ b, (fun _ => none : Hp) b = none := fun _ => rfl
    refine ⟨fun _ => none, fun b => .inl rfl, .inr ⟨_, vs.toArray, _, hk, rfl, rfl, rfl, ?_, by simpa using rv⟩, fun b u z => (show False from (nomatch (show (none : Option HO) = some u from z))).elim, fun b z => (z rfl).elim⟩
    simpa [lv] using hl
  · have hk : K.lookup a = none := by
      cases q : K.lookup a with
      | none => rfl
      | some o => exact (hk ⟨o, q⟩).elim
    let ob : Obj := { cls := .type "list", data := .seq vs.toArray }
    let H : Hp := upd (fun _ => none) a (.frz ob (.lst (ns.map V.int)))
    have at_a : H a = some (.frz ob (.lst (ns.map V.int))) := upd_same
    have off : ∀ b, b ≠ a → H b = none := fun b h => upd_ne h
    have here : ∀ {b : Addr}, H b ≠ none → b = a := fun {b} z => Classical.byContradiction fun n => z (off b n)
    refine ⟨H, fun b => ?_, .inl (.inr ⟨ob, at_a⟩), fun b u z => ?_, fun b z => ⟨here z, hk⟩⟩
    · by_cases e : b = a
      · exact .inr ⟨ob, _, by rw [e]; exact at_a⟩
      · exact .inl (off b e)
    · obtain rfl := here (b := b) (by rw [z]; simp)
      obtain rfl := Option.some.inj (at_a.symm.trans z)
      exact ⟨ha, by rw [List.length_map]; exact hl, vs, _, rv, ha⟩
theorem law_callG {P : Program} {w : World} {K : Frag} {mg mb : Str → Option Value} {k : Nat} {fa a : Addr} {fd : FuncData} {x : Str} {g : FD} {s : Shared} {vs : List Value} {ns : List Int}
    (KX : K.In s.heap) (nm : s.heap.Ns mainGlobals mg) (nb : s.heap.Ns builtinsNs mb) (bb : ∀ x : Str, x ≠ "__name__" → mb x = bootBuiltins x) (lim : s.heap.NoLimit) (dig : s.heap.NoDigits) (ng : s.gens = #[])
    (ha : s.heap.get? a = some { cls := .type "list", data := .seq vs.toArray }) (hi : IntsAre vs ns) (hl : ns.length ≤ sizeLine) (room : Room k callerA)
    (F : ∀ base : Heap, K.In base → base.Ns mainGlobals mg → base.NoDigits → FnG P w K mg base k fa fd [x] (SpD K 1 g)) (hb : ∀ (s : Shared) (u : Value), BindsTo s fd ⟨[u], []⟩ [(x, u)]) (hg : g [.list (ns.map .int)] fun r => r = .val (.bool true)) :
    codeAny (model P w) callerA (.call (.ref fa) ⟨[.ref a], []⟩) (fun r s' => r = .ok (.ret (.bool true)) ∧ OldK s.heap s'.heap ∧ s'.os = s.os ∧ AllBare s'.gens) s := by
  obtain ⟨H, only, seq, hok, one⟩ := script_heap (P := P) (w := w) KX ha (vals_ints hi) hl
  have tracked : ∀ {b : Addr} {o : Obj}, s.heap.get? b = some o → (H b ≠ none → False) → (hidT s.heap H).get? b = some o := fun {b o} e n => hidT_get e (Classical.byContradiction n)
  have ns' : ∀ {b : Addr} {m : Str → Option Value}, s.heap.Ns b m → (hidT s.heap H).Ns b m := by
    rintro b m ⟨o, es, ep, e, d, r⟩
    refine ⟨o, es, ep, tracked e fun z => ?_, d, r⟩
    obtain ⟨rfl, _⟩ := one b z
    obtain rfl := Option.some.inj (ha.symm.trans e)
    exact nomatch d
  have inK : K.In (hidT s.heap H) := fun b o e => tracked (KX b o e) fun z => by
    obtain ⟨rfl, q⟩ := one b z
    rw [q] at e
    cases e
  obtain ⟨mc, l1, l2⟩ := lim
  obtain ⟨md, d1, d2⟩ := dig
  have e0 : Env0 P w K mg (hidT s.heap H) callerA [] s H :=
    ⟨rfl, ⟨inK, ns' nm, ⟨mb, ns' nb, bb⟩, ⟨mc, ns' l1, l2⟩⟩, fun b o e => of_hidT e, Nat.le_of_eq (hidT_size _ _), trivial, fun b z => absurd (show b ∈ ([] : List Addr) from z) (by simp), hok, .of_eq ng⟩
  have call : SpD K 1 g [.ref a] H (fun v _ => v = .bl true) fun _ _ _ => False := by
    refine ⟨H, [.list (ns.map .int)], _, Same.refl H, rfl, .cons (.lst seq (dp_ints ns)) .nil, hg, ?_⟩
    rintro r rfl v F' H' _ z
    cases z
    rfl
  refine codeAny_mono ((F _ inK (ns' nm) ⟨md, ns' d1, d2⟩).run callerA [] s H ⟨[.ref a], []⟩ [.ref a] [.ref a] _ _ rfl room e0 (hb s (.ref a)) (.cons rfl .nil) call) ?_
  intro r s' h
  match r, h with
  | .error e, h => exact h.elim
  | .ok (.ret u), h =>
    obtain ⟨v, H', os, bare, un, hok', ru, qv⟩ := h
    obtain rfl : v = V.bl true := qv
    obtain rfl : u = Value.bool true := ru
    refine ⟨rfl, .of_keep fun b o e => ?_, os, bare⟩
    rcases only b with z | ⟨ob, xs, z⟩
    · exact un.keep b o e z (fun q => nomatch (show b ∈ ([] : List Addr) from q)) (by simp)
    · have old := (hok b _ z).1
      obtain rfl := Option.some.inj (old.symm.trans e)
      exact (hok' b _ (un.frzs b ob _ z)).1
theorem walk_G {l : PySem.W.OpenLaw} {n k : Nat} {q : Program} {loose : List Str} {XP : (Str → Option Value) → Heap → Prop} {YP : World → Heap → Prop} {d : DefRec} {K : Params → Frag} {g : FD} {x : Str}
    (hn : l.most = some n) (hn2 : n ≤ sizeLine) (hdf : d.params.defaults = []) (room : Room k callerA) (hY : ∀ (w : World) (h : Heap), YP w h → (K w.params).In h)
    (F : ∀ (w : World) (mg : Str → Option Value) (fa : Addr) (h : Heap), (K w.params).In h → h.Ns mainGlobals mg → mg d.name = some (.ref fa) →
      ∃ fd : FuncData, (∀ (s : Shared) (u : Value), BindsTo s fd ⟨[u], []⟩ [(x, u)]) ∧ ∀ base : Heap, (K w.params).In base → base.Ns mainGlobals mg → base.NoDigits → FnG l.prog w (K w.params) mg base k fa fd [x] (SpD (K w.params) 1 g))
    (hg : ∀ ns : List Int, ns.length ≤ n → (∀ i ∈ ns, Builtin.Int.intBits i ≤ 1048576) → g [.list (ns.map .int)] fun r => r = .val (.bool true)) :
    PySem.W.WalkO q loose XP YP l.row.toRowW d [] (fun f vs => PySem.call f vs) := by
  refine Att.attach_callB hn hdf fun w s₀ s₁ mg mb fa o pm cd doc a vs ns G Y ho hd hcd hmg hobj hints hlen hbits hng => ?_
  obtain ⟨fd, b1, b2⟩ := F w mg fa _ (hY w _ Y) G.T.g hmg
  exact law_callG (hY w _ Y) G.T.g G.T.b G.T.builtins G.T.nolimit G.T.nodigits hng hobj hints (Nat.le_trans hlen hn2) room b2 b1 (hg ns hlen hbits)
end DL

namespace DL
open PySem PySem.Spec PyProof.Rows L2 Builtin.Int

/-! ### rules for bodies -/
theorem sq_i {t u : RS} {DD : DEnds} {ρ : Rho} (h : ∀ k, k = u DD → t { DD with nx := k } ρ) : sSeq t u DD ρ := by rw [sSeq_c]; exact h _ rfl
theorem if_in {c : RT} {t u : RS} {DD : DEnds} {ρ : Rho} (h : ∀ T U : Prop, T = t DD ρ → U = u DD ρ → c ρ fun b => (b = true → T) ∧ (b = false → U)) : sIf c t u DD ρ := h _ _ rfl rfl
theorem if_n {c : RT} {t : RS} {DD : DEnds} {ρ : Rho} (h : ∀ T : Prop, T = t DD ρ → c ρ fun b => (b = true → T) ∧ (b = false → DD.nx ρ)) : sIf c t sNext DD ρ := h _ rfl
theorem for_in {di : RL} {g : RG} {b : RS} {DD : DEnds} {ρ : Rho} (h : ∀ (W : List D → Prop), (W = fun items => forD g b DD items ρ) → di ρ W) : sFor di g b DD ρ := h _ rfl
/-- a for: P i tells the names' values before the item at i -/
theorem for_ix {g : RG} {body : RS} {DD : DEnds} (P : Nat → Rho → Prop) (xs : List D) {ρ : Rho} (h0 : P 0 ρ) (hn : ∀ ρ, P xs.length ρ → DD.nx ρ)
    (hs : ∀ (i : Nat) (d : D) (ρ : Rho), xs[i]? = some d → P i ρ → ∀ k : Rho → Prop, (∀ ρ', P (i + 1) ρ' → k ρ') → g d ρ fun ρ1 => body { DD with nx := k, ct := k, bk := DD.nx } ρ1) : forD g body DD xs ρ := by
  have : ∀ (r : List D) (i : Nat) (ρ : Rho), xs.drop i = r → i ≤ xs.length → P i ρ → forD g body DD r ρ := by
    intro r
    induction r with
    | nil =>
      intro i ρ e hi h
      have : i = xs.length := by
        have := congrArg List.length e
        simp at this
        omega
      subst this
      exact hn ρ h
    | cons d r ih =>
      intro i ρ e hi h
      have hlt : i < xs.length := by
        have := congrArg List.length e
        simp at this
        omega
      have e2 := (List.drop_eq_getElem_cons hlt).symm.trans e
      obtain ⟨e3, e4⟩ := List.cons.inj e2
      refine hs i d ρ (by rw [List.getElem?_eq_getElem hlt, e3]) h _ fun ρ' h' => ?_
      exact ih (i + 1) ρ' e4 hlt h'
  exact this xs 0 ρ rfl (Nat.zero_le _) h0
/-- over what remains: xs.map emb -/
theorem for_map {α : Type} {emb : α → D} {g : RG} {body : RS} {DD : DEnds} (P : List α → Rho → Prop) (xs : List α) {ρ : Rho} (h0 : P xs ρ) (hn : ∀ ρ, P [] ρ → DD.nx ρ)
    (hs : ∀ (a : α) (r : List α) (ρ : Rho), P (a :: r) ρ → ∀ k : Rho → Prop, (∀ ρ', P r ρ' → k ρ') → g (emb a) ρ fun ρ1 => body { DD with nx := k, ct := k, bk := DD.nx } ρ1) : forD g body DD (xs.map emb) ρ := by
  induction xs generalizing ρ with
  | nil => exact hn ρ h0
  | cons a r ih => exact hs a r ρ h0 _ fun ρ' h' => ih h'
/-- over range -/
theorem for_up {g : RG} {body : RS} {DD : DEnds} (P : Nat → Rho → Prop) (lo : Int) (n : Nat) {ρ : Rho} (h0 : P 0 ρ) (hn : ∀ ρ, P n ρ → DD.nx ρ)
    (hs : ∀ (i : Nat) (ρ : Rho), i < n → P i ρ → ∀ k : Rho → Prop, (∀ ρ', P (i + 1) ρ' → k ρ') → g (.int (lo + i)) ρ fun ρ1 => body { DD with nx := k, ct := k, bk := DD.nx } ρ1) : forD g body DD (upTo lo n) ρ := by
  refine for_ix P _ h0 (fun ρ h => hn ρ (by rwa [upTo_length] at h)) fun i d ρ e h k hk => ?_
  have hi : i < n := by
    have := (List.getElem?_eq_some_iff.mp e).1
    rwa [upTo_length] at this
  rw [upTo_get lo n i hi] at e
  cases e
  exact hs i ρ hi h k hk
/-- a while: P m tells the names' values, m falls -/
theorem while_m {c : RT} {body : RS} {DD : DEnds} {ρ : Rho} (P : Nat → Rho → Prop) (m0 : Nat) (h0 : P m0 ρ)
    (hs : ∀ m ρ, P m ρ → c ρ fun b => (b = true → ∀ k : Rho → Prop, (∀ m' ρ', m' < m → P m' ρ' → k ρ') → body { DD with nx := k, ct := k, bk := DD.nx } ρ) ∧ (b = false → DD.nx ρ))
    (mono : ∀ (ρ : Rho) (q q' : Bool → Prop), (∀ b, q b → q' b) → c ρ q → c ρ q') : sWhile c body DD ρ :=
  ⟨P, ⟨m0, h0⟩, fun m ρ h => mono ρ _ _ (fun b hb => ⟨fun e => hb.1 e _ fun m' ρ' h1 h2 => ⟨m', h1, h2⟩, hb.2⟩) (hs m ρ h)⟩
theorem while_i {c : RT} {body : RS} {DD : DEnds} {ρ : Rho} (P : Nat → Rho → Prop) (m0 : Nat) (h0 : P m0 ρ)
    (hs : ∀ m ρ, P m ρ → ∀ k : Rho → Prop, k = (fun ρ' => ∃ m', m' < m ∧ P m' ρ') → c ρ fun b => (b = true → body { DD with nx := k, ct := k, bk := DD.nx } ρ) ∧ (b = false → DD.nx ρ)) : sWhile c body DD ρ :=
  ⟨P, ⟨m0, h0⟩, fun m ρ h => hs m ρ h _ rfl⟩
/-- a comprehension without test -/
theorem lc_map {g : RG} {tt : RT} {de : RE} {vs : List Nat} {ρ : Rho} {q : List D → Prop} {α : Type} {emb : α → D} {P : α → D → Prop} (xs : List α)
    (hs : ∀ a ∈ xs, ∀ q : D → Prop, (∀ d, P a d → q d) → g (emb a) (wipeD ρ vs) fun ρ1 => tt ρ1 fun b => b = true ∧ de ρ1 q)
    (hq : ∀ ys : List D, ys.length = xs.length → (∀ (i : Nat) a d, xs[i]? = some a → ys[i]? = some d → P a d) → q ys)
    (mono : ∀ (d : D) (ρ : Rho) (q q' : Rho → Prop), (∀ ρ, q ρ → q' ρ) → g d ρ q → g d ρ q') (monot : ∀ (ρ : Rho) (q q' : Bool → Prop), (∀ b, q b → q' b) → tt ρ q → tt ρ q') : lcD g tt de vs (xs.map emb) ρ q := by
  induction xs generalizing q with
  | nil => exact hq [] rfl (by simp)
  | cons a r ih =>
    refine mono _ _ _ _ (fun ρ1 z => monot _ _ _ (fun b z => ⟨fun _ => z.2, fun e => absurd z.1 (by rw [e]; decide)⟩) z) (hs a List.mem_cons_self _ fun d hd => ?_)
    refine ih (fun a ha => hs a (List.mem_cons_of_mem _ ha)) fun ys h1 h2 => hq _ (by simp [h1]) fun i a' d' e1 e2 => ?_
    cases i with
    | zero => cases e1; cases e2; exact hd
    | succ i => exact h2 i a' d' (by simpa using e1) (by simpa using e2)

instance {i j : Int} : Decidable (PowOk i j) := decidable_of_iff (0 ≤ j ∧ j ≤ 1000000 ∧ i.natAbs < 2 ^ 64) ⟨fun h => ⟨h⟩, fun h => h.ok⟩
instance {i j : Int} : Decidable (ShlOk i j) := decidable_of_iff (0 ≤ j ∧ (Builtin.Int.intBits i : Int) + j ≤ 2 ^ 27) ⟨fun h => ⟨h⟩, fun h => h.ok⟩
theorem isTy_none_int : isTy .none "int" = false := by simp [isTy, tyD]
theorem isTy_none_bool : isTy .none "bool" = false := by simp [isTy, tyD]
theorem isTy_none_str : isTy .none "str" = false := by simp [isTy, tyD]
theorem isTy_none_list : isTy .none "list" = false := by simp [isTy, tyD]
theorem isTy_none_tuple : isTy .none "tuple" = false := by simp [isTy, tyD]
theorem isTy_bool_int {x : Bool} : isTy (.bool x) "int" = true := by simp [isTy, tyD]
theorem isTy_bool_bool {x : Bool} : isTy (.bool x) "bool" = true := by simp [isTy, tyD]
theorem isTy_bool_str {x : Bool} : isTy (.bool x) "str" = false := by simp [isTy, tyD]
theorem isTy_bool_list {x : Bool} : isTy (.bool x) "list" = false := by simp [isTy, tyD]
theorem isTy_bool_tuple {x : Bool} : isTy (.bool x) "tuple" = false := by simp [isTy, tyD]
theorem isTy_int_int {x : Int} : isTy (.int x) "int" = true := by simp [isTy, tyD]
theorem isTy_int_bool {x : Int} : isTy (.int x) "bool" = false := by simp [isTy, tyD]
theorem isTy_int_str {x : Int} : isTy (.int x) "str" = false := by simp [isTy, tyD]
theorem isTy_int_list {x : Int} : isTy (.int x) "list" = false := by simp [isTy, tyD]
theorem isTy_int_tuple {x : Int} : isTy (.int x) "tuple" = false := by simp [isTy, tyD]
theorem isTy_str_int {x : Str} : isTy (.str x) "int" = false := by simp [isTy, tyD]
theorem isTy_str_bool {x : Str} : isTy (.str x) "bool" = false := by simp [isTy, tyD]
theorem isTy_str_str {x : Str} : isTy (.str x) "str" = true := by simp [isTy, tyD]
theorem isTy_str_list {x : Str} : isTy (.str x) "list" = false := by simp [isTy, tyD]
theorem isTy_str_tuple {x : Str} : isTy (.str x) "tuple" = false := by simp [isTy, tyD]
theorem isTy_list_int {x : List D} : isTy (.list x) "int" = false := by simp [isTy, tyD]
theorem isTy_list_bool {x : List D} : isTy (.list x) "bool" = false := by simp [isTy, tyD]
theorem isTy_list_str {x : List D} : isTy (.list x) "str" = false := by simp [isTy, tyD]
theorem isTy_list_list {x : List D} : isTy (.list x) "list" = true := by simp [isTy, tyD]
theorem isTy_list_tuple {x : List D} : isTy (.list x) "tuple" = false := by simp [isTy, tyD]
theorem isTy_tuple_int {x : List D} : isTy (.tuple x) "int" = false := by simp [isTy, tyD]
theorem isTy_tuple_bool {x : List D} : isTy (.tuple x) "bool" = false := by simp [isTy, tyD]
theorem isTy_tuple_str {x : List D} : isTy (.tuple x) "str" = false := by simp [isTy, tyD]
theorem isTy_tuple_list {x : List D} : isTy (.tuple x) "list" = false := by simp [isTy, tyD]
theorem isTy_tuple_tuple {x : List D} : isTy (.tuple x) "tuple" = true := by simp [isTy, tyD]
theorem ix2_0 : ixN 2 0 = some 0 := rfl
theorem ix2_1 : ixN 2 1 = some 1 := rfl
/-! ### items of a list -/
theorem gIx_P {xs : List D} {i : Int} {q : D → Prop} (P : D → Prop) (h0 : 0 ≤ i) (h1 : i < xs.length) (hP : ∀ d, xs[i.toNat]? = some d → P d) (hq : ∀ d, P d → q d) : gIx (.list xs) (.int i) q := by
  obtain ⟨j, rfl⟩ : ∃ j : Nat, i = (j : Int) := ⟨i.toNat, by omega⟩
  have hj : j < xs.length := by omega
  simp only [Int.toNat_natCast] at hP
  have e : atI xs (j : Int) = some xs[j] := atI_nat (List.getElem?_eq_getElem hj)
  show (match atI xs (j : Int) with | some d => q d | none => False)
  rw [e]
  exact hq _ (hP _ (List.getElem?_eq_getElem hj))
theorem gIx_T {xs : List D} {i : Int} {q : D → Prop} (P : D → Prop) (h0 : 0 ≤ i) (h1 : i < xs.length) (hP : ∀ d, xs[i.toNat]? = some d → P d) (hq : ∀ d, P d → q d) : gIx (.tuple xs) (.int i) q := gIx_P P h0 h1 hP hq
theorem gIx_N {xs : List D} {j : Nat} {d : D} {q : D → Prop} (h : xs[j]? = some d) (hq : q d) : gIx (.list xs) (.int (j : Nat)) q := by
  show (match atI xs (j : Nat) with | some d => q d | none => False)
  rw [atI_nat h]
  exact hq
theorem gIx_NT {xs : List D} {j : Nat} {d : D} {q : D → Prop} (h : xs[j]? = some d) (hq : q d) : gIx (.tuple xs) (.int (j : Nat)) q := gIx_N (xs := xs) h hq
/-- a list of whole numbers -/
theorem gIx_ints {ns : List Int} {i : Int} {q : D → Prop} (P : Int → Prop) (h0 : 0 ≤ i) (h1 : i < ns.length) (hP : ∀ n, ns[i.toNat]? = some n → P n) (hq : ∀ n, P n → q (.int n)) : gIx (.list (ns.map .int)) (.int i) q := by
  refine gIx_P (fun d => ∃ n, d = .int n ∧ P n) h0 (by simpa using h1) (fun d e => ?_) fun d ⟨n, e, p⟩ => by rw [e]; exact hq n p
  rw [List.getElem?_map] at e
  cases h : ns[i.toNat]? with
  | none => rw [h] at e; cases e
  | some n => rw [h] at e; cases e; exact ⟨n, rfl, hP n h⟩

/-! items at written places -/
theorem gIx_l0 {x0 : D} {r : List D} {q : D → Prop} : gIx (.list (x0 :: r)) (.int 0) q = q x0 := by
  show (match atI (x0 :: r) ((0 : Nat) : Int) with | some d => q d | none => False) = _
  rw [atI_nat (j := 0) (v := x0) rfl]
theorem gIx_l1 {x0 x1 : D} {r : List D} {q : D → Prop} : gIx (.list (x0 :: x1 :: r)) (.int 1) q = q x1 := by
  show (match atI (x0 :: x1 :: r) ((1 : Nat) : Int) with | some d => q d | none => False) = _
  rw [atI_nat (j := 1) (v := x1) rfl]
theorem gIx_l2 {x0 x1 x2 : D} {r : List D} {q : D → Prop} : gIx (.list (x0 :: x1 :: x2 :: r)) (.int 2) q = q x2 := by
  show (match atI (x0 :: x1 :: x2 :: r) ((2 : Nat) : Int) with | some d => q d | none => False) = _
  rw [atI_nat (j := 2) (v := x2) rfl]
theorem gIx_l3 {x0 x1 x2 x3 : D} {r : List D} {q : D → Prop} : gIx (.list (x0 :: x1 :: x2 :: x3 :: r)) (.int 3) q = q x3 := by
  show (match atI (x0 :: x1 :: x2 :: x3 :: r) ((3 : Nat) : Int) with | some d => q d | none => False) = _
  rw [atI_nat (j := 3) (v := x3) rfl]
theorem gIx_l4 {x0 x1 x2 x3 x4 : D} {r : List D} {q : D → Prop} : gIx (.list (x0 :: x1 :: x2 :: x3 :: x4 :: r)) (.int 4) q = q x4 := by
  show (match atI (x0 :: x1 :: x2 :: x3 :: x4 :: r) ((4 : Nat) : Int) with | some d => q d | none => False) = _
  rw [atI_nat (j := 4) (v := x4) rfl]
theorem gIx_l5 {x0 x1 x2 x3 x4 x5 : D} {r : List D} {q : D → Prop} : gIx (.list (x0 :: x1 :: x2 :: x3 :: x4 :: x5 :: r)) (.int 5) q = q x5 := by
  show (match atI (x0 :: x1 :: x2 :: x3 :: x4 :: x5 :: r) ((5 : Nat) : Int) with | some d => q d | none => False) = _
  rw [atI_nat (j := 5) (v := x5) rfl]
theorem gIx_l6 {x0 x1 x2 x3 x4 x5 x6 : D} {r : List D} {q : D → Prop} : gIx (.list (x0 :: x1 :: x2 :: x3 :: x4 :: x5 :: x6 :: r)) (.int 6) q = q x6 := by
  show (match atI (x0 :: x1 :: x2 :: x3 :: x4 :: x5 :: x6 :: r) ((6 : Nat) : Int) with | some d => q d | none => False) = _
  rw [atI_nat (j := 6) (v := x6) rfl]
theorem gIx_l7 {x0 x1 x2 x3 x4 x5 x6 x7 : D} {r : List D} {q : D → Prop} : gIx (.list (x0 :: x1 :: x2 :: x3 :: x4 :: x5 :: x6 :: x7 :: r)) (.int 7) q = q x7 := by
  show (match atI (x0 :: x1 :: x2 :: x3 :: x4 :: x5 :: x6 :: x7 :: r) ((7 : Nat) : Int) with | some d => q d | none => False) = _
  rw [atI_nat (j := 7) (v := x7) rfl]
theorem gIx_l8 {x0 x1 x2 x3 x4 x5 x6 x7 x8 : D} {r : List D} {q : D → Prop} : gIx (.list (x0 :: x1 :: x2 :: x3 :: x4 :: x5 :: x6 :: x7 :: x8 :: r)) (.int 8) q = q x8 := by
  show (match atI (x0 :: x1 :: x2 :: x3 :: x4 :: x5 :: x6 :: x7 :: x8 :: r) ((8 : Nat) : Int) with | some d => q d | none => False) = _
  rw [atI_nat (j := 8) (v := x8) rfl]
theorem gIx_l9 {x0 x1 x2 x3 x4 x5 x6 x7 x8 x9 : D} {r : List D} {q : D → Prop} : gIx (.list (x0 :: x1 :: x2 :: x3 :: x4 :: x5 :: x6 :: x7 :: x8 :: x9 :: r)) (.int 9) q = q x9 := by
  show (match atI (x0 :: x1 :: x2 :: x3 :: x4 :: x5 :: x6 :: x7 :: x8 :: x9 :: r) ((9 : Nat) : Int) with | some d => q d | none => False) = _
  rw [atI_nat (j := 9) (v := x9) rfl]
theorem gIx_l10 {x0 x1 x2 x3 x4 x5 x6 x7 x8 x9 x10 : D} {r : List D} {q : D → Prop} : gIx (.list (x0 :: x1 :: x2 :: x3 :: x4 :: x5 :: x6 :: x7 :: x8 :: x9 :: x10 :: r)) (.int 10) q = q x10 := by
  show (match atI (x0 :: x1 :: x2 :: x3 :: x4 :: x5 :: x6 :: x7 :: x8 :: x9 :: x10 :: r) ((10 : Nat) : Int) with | some d => q d | none => False) = _
  rw [atI_nat (j := 10) (v := x10) rfl]
theorem gIx_l11 {x0 x1 x2 x3 x4 x5 x6 x7 x8 x9 x10 x11 : D} {r : List D} {q : D → Prop} : gIx (.list (x0 :: x1 :: x2 :: x3 :: x4 :: x5 :: x6 :: x7 :: x8 :: x9 :: x10 :: x11 :: r)) (.int 11) q = q x11 := by
  show (match atI (x0 :: x1 :: x2 :: x3 :: x4 :: x5 :: x6 :: x7 :: x8 :: x9 :: x10 :: x11 :: r) ((11 : Nat) : Int) with | some d => q d | none => False) = _
  rw [atI_nat (j := 11) (v := x11) rfl]
theorem gIx_l12 {x0 x1 x2 x3 x4 x5 x6 x7 x8 x9 x10 x11 x12 : D} {r : List D} {q : D → Prop} : gIx (.list (x0 :: x1 :: x2 :: x3 :: x4 :: x5 :: x6 :: x7 :: x8 :: x9 :: x10 :: x11 :: x12 :: r)) (.int 12) q = q x12 := by
  show (match atI (x0 :: x1 :: x2 :: x3 :: x4 :: x5 :: x6 :: x7 :: x8 :: x9 :: x10 :: x11 :: x12 :: r) ((12 : Nat) : Int) with | some d => q d | none => False) = _
  rw [atI_nat (j := 12) (v := x12) rfl]
theorem gIx_l13 {x0 x1 x2 x3 x4 x5 x6 x7 x8 x9 x10 x11 x12 x13 : D} {r : List D} {q : D → Prop} : gIx (.list (x0 :: x1 :: x2 :: x3 :: x4 :: x5 :: x6 :: x7 :: x8 :: x9 :: x10 :: x11 :: x12 :: x13 :: r)) (.int 13) q = q x13 := by
  show (match atI (x0 :: x1 :: x2 :: x3 :: x4 :: x5 :: x6 :: x7 :: x8 :: x9 :: x10 :: x11 :: x12 :: x13 :: r) ((13 : Nat) : Int) with | some d => q d | none => False) = _
  rw [atI_nat (j := 13) (v := x13) rfl]
theorem gIx_l14 {x0 x1 x2 x3 x4 x5 x6 x7 x8 x9 x10 x11 x12 x13 x14 : D} {r : List D} {q : D → Prop} : gIx (.list (x0 :: x1 :: x2 :: x3 :: x4 :: x5 :: x6 :: x7 :: x8 :: x9 :: x10 :: x11 :: x12 :: x13 :: x14 :: r)) (.int 14) q = q x14 := by
  show (match atI (x0 :: x1 :: x2 :: x3 :: x4 :: x5 :: x6 :: x7 :: x8 :: x9 :: x10 :: x11 :: x12 :: x13 :: x14 :: r) ((14 : Nat) : Int) with | some d => q d | none => False) = _
  rw [atI_nat (j := 14) (v := x14) rfl]
theorem gIx_l15 {x0 x1 x2 x3 x4 x5 x6 x7 x8 x9 x10 x11 x12 x13 x14 x15 : D} {r : List D} {q : D → Prop} : gIx (.list (x0 :: x1 :: x2 :: x3 :: x4 :: x5 :: x6 :: x7 :: x8 :: x9 :: x10 :: x11 :: x12 :: x13 :: x14 :: x15 :: r)) (.int 15) q = q x15 := by
  show (match atI (x0 :: x1 :: x2 :: x3 :: x4 :: x5 :: x6 :: x7 :: x8 :: x9 :: x10 :: x11 :: x12 :: x13 :: x14 :: x15 :: r) ((15 : Nat) : Int) with | some d => q d | none => False) = _
  rw [atI_nat (j := 15) (v := x15) rfl]
theorem gIx_t0 {x0 : D} {r : List D} {q : D → Prop} : gIx (.tuple (x0 :: r)) (.int 0) q = q x0 := by
  show (match atI (x0 :: r) ((0 : Nat) : Int) with | some d => q d | none => False) = _
  rw [atI_nat (j := 0) (v := x0) rfl]
theorem gIx_t1 {x0 x1 : D} {r : List D} {q : D → Prop} : gIx (.tuple (x0 :: x1 :: r)) (.int 1) q = q x1 := by
  show (match atI (x0 :: x1 :: r) ((1 : Nat) : Int) with | some d => q d | none => False) = _
  rw [atI_nat (j := 1) (v := x1) rfl]
theorem gIx_t2 {x0 x1 x2 : D} {r : List D} {q : D → Prop} : gIx (.tuple (x0 :: x1 :: x2 :: r)) (.int 2) q = q x2 := by
  show (match atI (x0 :: x1 :: x2 :: r) ((2 : Nat) : Int) with | some d => q d | none => False) = _
  rw [atI_nat (j := 2) (v := x2) rfl]
theorem gIx_t3 {x0 x1 x2 x3 : D} {r : List D} {q : D → Prop} : gIx (.tuple (x0 :: x1 :: x2 :: x3 :: r)) (.int 3) q = q x3 := by
  show (match atI (x0 :: x1 :: x2 :: x3 :: r) ((3 : Nat) : Int) with | some d => q d | none => False) = _
  rw [atI_nat (j := 3) (v := x3) rfl]
theorem gIx_t4 {x0 x1 x2 x3 x4 : D} {r : List D} {q : D → Prop} : gIx (.tuple (x0 :: x1 :: x2 :: x3 :: x4 :: r)) (.int 4) q = q x4 := by
  show (match atI (x0 :: x1 :: x2 :: x3 :: x4 :: r) ((4 : Nat) : Int) with | some d => q d | none => False) = _
  rw [atI_nat (j := 4) (v := x4) rfl]
theorem gIx_t5 {x0 x1 x2 x3 x4 x5 : D} {r : List D} {q : D → Prop} : gIx (.tuple (x0 :: x1 :: x2 :: x3 :: x4 :: x5 :: r)) (.int 5) q = q x5 := by
  show (match atI (x0 :: x1 :: x2 :: x3 :: x4 :: x5 :: r) ((5 : Nat) : Int) with | some d => q d | none => False) = _
  rw [atI_nat (j := 5) (v := x5) rfl]
theorem gIx_t6 {x0 x1 x2 x3 x4 x5 x6 : D} {r : List D} {q : D → Prop} : gIx (.tuple (x0 :: x1 :: x2 :: x3 :: x4 :: x5 :: x6 :: r)) (.int 6) q = q x6 := by
  show (match atI (x0 :: x1 :: x2 :: x3 :: x4 :: x5 :: x6 :: r) ((6 : Nat) : Int) with | some d => q d | none => False) = _
  rw [atI_nat (j := 6) (v := x6) rfl]
theorem gIx_t7 {x0 x1 x2 x3 x4 x5 x6 x7 : D} {r : List D} {q : D → Prop} : gIx (.tuple (x0 :: x1 :: x2 :: x3 :: x4 :: x5 :: x6 :: x7 :: r)) (.int 7) q = q x7 := by
  show (match atI (x0 :: x1 :: x2 :: x3 :: x4 :: x5 :: x6 :: x7 :: r) ((7 : Nat) : Int) with | some d => q d | none => False) = _
  rw [atI_nat (j := 7) (v := x7) rfl]
theorem gIx_t8 {x0 x1 x2 x3 x4 x5 x6 x7 x8 : D} {r : List D} {q : D → Prop} : gIx (.tuple (x0 :: x1 :: x2 :: x3 :: x4 :: x5 :: x6 :: x7 :: x8 :: r)) (.int 8) q = q x8 := by
  show (match atI (x0 :: x1 :: x2 :: x3 :: x4 :: x5 :: x6 :: x7 :: x8 :: r) ((8 : Nat) : Int) with | some d => q d | none => False) = _
  rw [atI_nat (j := 8) (v := x8) rfl]
theorem gIx_t9 {x0 x1 x2 x3 x4 x5 x6 x7 x8 x9 : D} {r : List D} {q : D → Prop} : gIx (.tuple (x0 :: x1 :: x2 :: x3 :: x4 :: x5 :: x6 :: x7 :: x8 :: x9 :: r)) (.int 9) q = q x9 := by
  show (match atI (x0 :: x1 :: x2 :: x3 :: x4 :: x5 :: x6 :: x7 :: x8 :: x9 :: r) ((9 : Nat) : Int) with | some d => q d | none => False) = _
  rw [atI_nat (j := 9) (v := x9) rfl]
theorem gIx_t10 {x0 x1 x2 x3 x4 x5 x6 x7 x8 x9 x10 : D} {r : List D} {q : D → Prop} : gIx (.tuple (x0 :: x1 :: x2 :: x3 :: x4 :: x5 :: x6 :: x7 :: x8 :: x9 :: x10 :: r)) (.int 10) q = q x10 := by
  show (match atI (x0 :: x1 :: x2 :: x3 :: x4 :: x5 :: x6 :: x7 :: x8 :: x9 :: x10 :: r) ((10 : Nat) : Int) with | some d => q d | none => False) = _
  rw [atI_nat (j := 10) (v := x10) rfl]
theorem gIx_t11 {x0 x1 x2 x3 x4 x5 x6 x7 x8 x9 x10 x11 : D} {r : List D} {q : D → Prop} : gIx (.tuple (x0 :: x1 :: x2 :: x3 :: x4 :: x5 :: x6 :: x7 :: x8 :: x9 :: x10 :: x11 :: r)) (.int 11) q = q x11 := by
  show (match atI (x0 :: x1 :: x2 :: x3 :: x4 :: x5 :: x6 :: x7 :: x8 :: x9 :: x10 :: x11 :: r) ((11 : Nat) : Int) with | some d => q d | none => False) = _
  rw [atI_nat (j := 11) (v := x11) rfl]
theorem gIx_t12 {x0 x1 x2 x3 x4 x5 x6 x7 x8 x9 x10 x11 x12 : D} {r : List D} {q : D → Prop} : gIx (.tuple (x0 :: x1 :: x2 :: x3 :: x4 :: x5 :: x6 :: x7 :: x8 :: x9 :: x10 :: x11 :: x12 :: r)) (.int 12) q = q x12 := by
  show (match atI (x0 :: x1 :: x2 :: x3 :: x4 :: x5 :: x6 :: x7 :: x8 :: x9 :: x10 :: x11 :: x12 :: r) ((12 : Nat) : Int) with | some d => q d | none => False) = _
  rw [atI_nat (j := 12) (v := x12) rfl]
theorem gIx_t13 {x0 x1 x2 x3 x4 x5 x6 x7 x8 x9 x10 x11 x12 x13 : D} {r : List D} {q : D → Prop} : gIx (.tuple (x0 :: x1 :: x2 :: x3 :: x4 :: x5 :: x6 :: x7 :: x8 :: x9 :: x10 :: x11 :: x12 :: x13 :: r)) (.int 13) q = q x13 := by
  show (match atI (x0 :: x1 :: x2 :: x3 :: x4 :: x5 :: x6 :: x7 :: x8 :: x9 :: x10 :: x11 :: x12 :: x13 :: r) ((13 : Nat) : Int) with | some d => q d | none => False) = _
  rw [atI_nat (j := 13) (v := x13) rfl]
theorem gIx_t14 {x0 x1 x2 x3 x4 x5 x6 x7 x8 x9 x10 x11 x12 x13 x14 : D} {r : List D} {q : D → Prop} : gIx (.tuple (x0 :: x1 :: x2 :: x3 :: x4 :: x5 :: x6 :: x7 :: x8 :: x9 :: x10 :: x11 :: x12 :: x13 :: x14 :: r)) (.int 14) q = q x14 := by
  show (match atI (x0 :: x1 :: x2 :: x3 :: x4 :: x5 :: x6 :: x7 :: x8 :: x9 :: x10 :: x11 :: x12 :: x13 :: x14 :: r) ((14 : Nat) : Int) with | some d => q d | none => False) = _
  rw [atI_nat (j := 14) (v := x14) rfl]
theorem gIx_t15 {x0 x1 x2 x3 x4 x5 x6 x7 x8 x9 x10 x11 x12 x13 x14 x15 : D} {r : List D} {q : D → Prop} : gIx (.tuple (x0 :: x1 :: x2 :: x3 :: x4 :: x5 :: x6 :: x7 :: x8 :: x9 :: x10 :: x11 :: x12 :: x13 :: x14 :: x15 :: r)) (.int 15) q = q x15 := by
  show (match atI (x0 :: x1 :: x2 :: x3 :: x4 :: x5 :: x6 :: x7 :: x8 :: x9 :: x10 :: x11 :: x12 :: x13 :: x14 :: x15 :: r) ((15 : Nat) : Int) with | some d => q d | none => False) = _
  rw [atI_nat (j := 15) (v := x15) rfl]
/-! ### plain facts of readings -/
theorem eqv_int (i j : Int) : PyData.eqv (.int i) (.int j) = (i == j) := by simp [PyData.eqv]
theorem eqv_str (i j : Str) : PyData.eqv (.str i) (.str j) = (i == j) := by simp [PyData.eqv]
theorem eqv_bool (i j : Bool) : PyData.eqv (.bool i) (.bool j) = (i == j) := by simp [PyData.eqv]

/-! ### repr of plain data -/
theorem log2_lt_of {n k : Nat} (h : n < 2 ^ k) (hk : 0 < k) : n.log2 < k := by
  by_cases h0 : n = 0
  · subst h0
    have : Nat.log2 0 = 0 := by decide
    omega
  · exact (Nat.log2_lt h0).mpr h
theorem rpAll_ints : ∀ ns : List Int, (∀ n ∈ ns, n.natAbs < bigLine) → rpAll (ns.map .int) = true
  | [], _ => by simp [rpAll]
  | n :: r, h => by
    simp only [List.map_cons, rpAll, rpD, Bool.and_eq_true, decide_eq_true_eq]
    exact ⟨h n List.mem_cons_self, rpAll_ints r fun m hm => h m (List.mem_cons_of_mem _ hm)⟩
theorem cellsAll_ints : ∀ ns : List Int, cellsAll (ns.map .int) = ns.length
  | [] => by simp [cellsAll]
  | n :: r => by
    simp only [List.map_cons, cellsAll, cells, cellsAll_ints r, List.length_cons]
    omega
theorem depthAll_ints : ∀ ns : List Int, PyData.depthAll (ns.map .int) = 0
  | [] => by simp [PyData.depthAll]
  | n :: r => by simp [PyData.depthAll, PyData.depth, depthAll_ints r]
theorem gRepr_ints {ns : List Int} {q : D → Prop} (h : ∀ n ∈ ns, n.natAbs < bigLine) (hl : ns.length ≤ 4000) (hq : q (.str (PyData.shown (.list (ns.map .int))))) : gRepr [.list (ns.map .int)] q :=
  ⟨⟨rfl, by simp only [rpD]; exact rpAll_ints ns h, by simp only [cells, cellsAll_ints]; omega, by simp [PyData.depth, depthAll_ints]⟩, hq⟩
theorem big_bits {n : Int} {k : Nat} (h : intBits n ≤ k) (hk : k ≤ 12000) : n.natAbs < bigLine := Nat.lt_of_lt_of_le (intBits_le_iff.mp h) (Nat.pow_le_pow_right (by decide) hk)
end DL

namespace DL
open PySem

/-! ### whole square roots -/
theorem sq4 (a b : Nat) : 4 * (a * b) ≤ (a + b) * (a + b) := by
  have key : ∀ a d : Nat, 4 * (a * (a + d)) ≤ (a + (a + d)) * (a + (a + d)) := by
    intro a d
    have e : (a + (a + d)) * (a + (a + d)) = 4 * (a * (a + d)) + d * d := by
      simp only [Nat.add_mul, Nat.mul_add, Nat.mul_comm d a]; omega
    omega
  rcases Nat.le_total a b with h | h
  · obtain ⟨d, rfl⟩ := Nat.le.dest h
    exact key a d
  · obtain ⟨d, rfl⟩ := Nat.le.dest h
    rw [Nat.mul_comm (b + d) b, Nat.add_comm (b + d) b]
    exact key b d
/-- a turn of Newton's stays above -/
theorem newton_up {n x : Nat} (hx : 0 < x) : n < ((x + n / x) / 2 + 1) * ((x + n / x) / 2 + 1) := by
  have h1 : n < (n / x + 1) * x := by
    have := Nat.lt_succ_self (n / x)
    rw [Nat.mul_comm]
    exact Nat.lt_mul_div_succ n hx
  have h2 := sq4 (n / x + 1) x
  have h3 : n / x + 1 + x ≤ 2 * ((x + n / x) / 2 + 1) := by omega
  have h4 : (n / x + 1 + x) * (n / x + 1 + x) ≤ (2 * ((x + n / x) / 2 + 1)) * (2 * ((x + n / x) / 2 + 1)) := Nat.mul_le_mul h3 h3
  have h5 : ∀ y : Nat, (2 * y) * (2 * y) = 4 * (y * y) := fun y => by
    rw [Nat.mul_mul_mul_comm]
  rw [h5] at h4
  omega
/-- r is the whole root of n -/
def IsRoot (n r : Nat) : Prop := r * r ≤ n ∧ n < (r + 1) * (r + 1)
theorem lt_of_sq {a b : Nat} (h : a * a < b * b) : a < b := by
  apply Classical.byContradiction
  intro q
  have := Nat.mul_le_mul (Nat.le_of_not_lt q) (Nat.le_of_not_lt q)
  omega
theorem IsRoot.uniq {n r s : Nat} (h : IsRoot n r) (g : IsRoot n s) : r = s := by
  have h1 : r < s + 1 := lt_of_sq (Nat.lt_of_le_of_lt h.1 g.2)
  have h2 : s < r + 1 := lt_of_sq (Nat.lt_of_le_of_lt g.1 h.2)
  omega
theorem root_step {n r k : Nat} (h8 : 8 ≤ n) (hk : k = (n.log2 + 1) / 4) (hr : IsRoot (n / 4 ^ k) r) :
    IsRoot n (let x := (r + 1) * 2 ^ k; let y := (x + n / x) / 2; if y * y > n then y - 1 else y) := by
  have p4 : (4 : Nat) ^ k = 2 ^ k * 2 ^ k := by rw [← Nat.mul_pow]
  have hb : 0 < 2 ^ k := Nat.two_pow_pos k
  have p4' : 0 < (4 : Nat) ^ k := Nat.pow_pos (by decide)
  obtain ⟨r1, r2⟩ := hr
  generalize hx : (r + 1) * 2 ^ k = x
  have xx : n < x * x := by
    have e : x * x = (r + 1) * (r + 1) * 4 ^ k := by rw [← hx, p4, Nat.mul_mul_mul_comm]
    rw [e]
    exact (Nat.div_lt_iff_lt_mul p4').mp r2
  have aa : (r * 2 ^ k) * (r * 2 ^ k) ≤ n := by
    rw [Nat.mul_mul_mul_comm, ← p4]
    exact (Nat.le_div_iff_mul_le p4').mp r1
  have hxp : 0 < x := by
    rw [← hx]
    exact Nat.mul_pos (by omega) hb
  have ll : 2 ^ n.log2 ≤ n := Nat.log2_self_le (by omega)
  have bb : 2 ^ k * 2 ^ k ≤ 2 * x := by
    apply Classical.byContradiction
    intro q
    have q : 2 * x < 4 ^ k := by rw [p4]; omega
    have q2 := Nat.mul_lt_mul'' q q
    have e1 : (4 : Nat) ^ k * 4 ^ k = 2 ^ (4 * k) := by
      rw [p4, ← Nat.pow_add, ← Nat.pow_add]; congr 1; omega
    have e2 : (2 : Nat) ^ (4 * k) ≤ 2 ^ (n.log2 + 1) := Nat.pow_le_pow_right (by decide) (by omega)
    rw [Nat.pow_succ] at e2
    have e3 : (2 * x) * (2 * x) = 4 * (x * x) := by rw [Nat.mul_mul_mul_comm]
    omega
  show IsRoot n (if (x + n / x) / 2 * ((x + n / x) / 2) > n then (x + n / x) / 2 - 1 else (x + n / x) / 2)
  have up := newton_up (n := n) hxp
  generalize hy : (x + n / x) / 2 = y at up ⊢
  by_cases h : y * y > n
  · rw [if_pos h]
    have y1 : 0 < y := by
      rcases Nat.eq_zero_or_pos y with z | z
      · rw [z] at h; omega
      · exact z
    obtain ⟨z, rfl⟩ : ∃ z, y = z + 1 := ⟨y - 1, by omega⟩
    refine ⟨?_, h⟩
    show z * z ≤ n
    apply Classical.byContradiction
    intro q
    have q : n < z * z := Nat.lt_of_not_le q
    have za : r * 2 ^ k < z := lt_of_sq (Nat.lt_of_le_of_lt aa q)
    have qx : n / x * x ≤ n := Nat.div_mul_le_self n x
    have nx : n / x < x := (Nat.div_lt_iff_lt_mul hxp).mpr xx
    have zx : z < x := by omega
    obtain ⟨d, rfl⟩ := Nat.le.dest (Nat.le_of_lt zx)
    have hd : d < 2 ^ k := by
      have : z + d = r * 2 ^ k + 2 ^ k := by rw [← hx, Nat.add_mul, Nat.one_mul]
      omega
    have dd : d * d < 2 ^ k * 2 ^ k := Nat.mul_lt_mul'' hd hd
    -- 2 (z + 1) ≤ x + n / x, so 2 (z + 1) x ≤ x x + n < x x + z z
    have t1 : 2 * (z + 1) ≤ z + d + n / (z + d) := by omega
    have t2 : 2 * (z + 1) * (z + d) ≤ (z + d + n / (z + d)) * (z + d) := Nat.mul_le_mul_right _ t1
    rw [Nat.add_mul] at t2
    have t3 : 2 * (z + 1) * (z + d) < (z + d) * (z + d) + z * z := by omega
    have e1 : 2 * (z + 1) * (z + d) = 2 * (z * z) + 2 * (z * d) + 2 * (z + d) := by
      simp only [Nat.add_mul, Nat.mul_add, Nat.mul_assoc]; omega
    have e2 : (z + d) * (z + d) = z * z + 2 * (z * d) + d * d := by
      simp only [Nat.add_mul, Nat.mul_add, Nat.mul_comm d z]; omega
    omega
  · rw [if_neg h]
    exact ⟨by omega, up⟩
theorem below8 {n : Nat} (h : n < 8) : IsRoot n (Float64.rootBelow8 n) := by
  have : n = 0 ∨ n = 1 ∨ n = 2 ∨ n = 3 ∨ n = 4 ∨ n = 5 ∨ n = 6 ∨ n = 7 := by omega
  rcases this with rfl | rfl | rfl | rfl | rfl | rfl | rfl | rfl <;> exact ⟨by decide, by decide⟩
theorem root_halves : ∀ (l n : Nat), n < 2 ^ (l + 1) → IsRoot n (Float64.rootByHalves l n)
  | 0, n, h => below8 (by omega)
  | l + 1, n, h => by
    unfold Float64.rootByHalves
    by_cases h8 : n < 8
    · rw [if_pos h8]
      exact below8 h8
    · rw [if_neg h8]
      have h3 : 3 ≤ n.log2 := (Nat.le_log2 (by omega)).mpr (by omega)
      refine root_step (by omega) rfl (root_halves l _ ?_)
      have k1 : 1 ≤ (n.log2 + 1) / 4 := by omega
      generalize (n.log2 + 1) / 4 = k at k1
      have : 4 ≤ 4 ^ k := by
        have := Nat.pow_le_pow_right (n := 4) (by decide) k1
        omega
      refine Nat.lt_of_le_of_lt (Nat.div_le_div_left this (by decide)) ?_
      have e : 2 ^ (l + 1 + 1) = 2 ^ (l + 1) * 2 := Nat.pow_succ ..
      omega
theorem isqrt_root (n : Nat) : IsRoot n (Float64.isqrt n) := by
  by_cases h : n = 0
  · subst h
    exact ⟨by decide, by decide⟩
  · exact root_halves _ _ (Nat.lt_log2_self)
end DL

namespace DL
open PySem PySem.Spec PyProof.Rows L2
section
variable {X : Cx} {a b : Expr} {db da : RE} {dl : RL} {pos : Pos}
/-- [..] * k: a new list -/
def lRepL (dl : RL) (db : RE) : RL := fun ρ q => dl ρ fun xs => db ρ fun d => match d with | .int k => (-(2 ^ 62) ≤ k ∧ k < 2 ^ 62 ∧ Fit (xs.length * k.toNat)) ∧ q (List.replicate k.toNat xs).flatten | _ => False
theorem dl_rep (ha : DLs X a dl) (hb : DE X b db) : DLs X (.BinOp a .Mult b pos) (lRepL dl db) := by
  obtain ⟨ta, a1, a2⟩ := ha
  obtain ⟨tb, b1, b2⟩ := hb
  refine ⟨_, pe_op op_rep a1 b1, fun B F H ρ σ E q hq Q k => a2 B F H ρ σ E _ hq _ fun p vs ds F1 H1 g1 hp hf hh r1 z1 => b2 B F1 H1 ρ σ (E.grow g1) _ z1 _ fun u y F2 H2 g2 r2 z2 => ?_⟩
  cases r2 with
  | int j =>
    obtain ⟨⟨h1, h2, h3⟩, z⟩ := z2
    refine ⟨p, j, vs, rfl, rfl, g2.hh p _ hh, by omega, by omega, by rw [r1.length]; exact h3.le, fun p2 hp2 => ?_⟩
    exact k p2 _ _ F2 _ ((g1.trans g2).trans (Gr.newO g2.fh hp2)) ((g1.trans g2).hh.free hp2) (g2.fh.free hp2) upd_same ((r1.mono g2.ff).flatRep _) z
  | _ => exact z2.elim
/-- (..) * k, two times or more: a new tuple -/
def gRepT : G2 := fun x y q => match x, y with | .tuple xs, .int k => (xs ≠ [] ∧ 2 ≤ k ∧ k ≤ 1000 ∧ xs.length ≤ 1000) ∧ q (.tuple (List.replicate k.toNat xs).flatten) | _, _ => False
theorem o_repT : OpD X (binaryOp .Mult) gRepT := by
  refine ⟨_, op_repT, fun F H v u x y fh bx bY q hq Q k => ?_⟩
  unfold gRepT at hq
  split at hq
  · rename_i xs j
    obtain ⟨⟨h1, h2, h3, h4⟩, z⟩ := hq
    obtain ⟨p, vs, rfl, _, s1, d1⟩ := bx.tup fh
    refine ⟨p, j, vs, rfl, bY.int, s1, fun e => h1 ?_, h2, h3, by rw [d1.length]; exact h4, fun p2 hp2 => ?_⟩
    · subst e
      cases d1
      rfl
    · have g := Gr.new (o := .tup (List.replicate j.toNat vs).flatten) fh hp2
      exact k _ _ _ _ g (.tup (.inl (.inl upd_same)) ((d1.flatRep _).mono g.ff)) z
  · exact hq.elim
/-- sorted(ns), fewer than 64 whole numbers -/
def lSorted : List D → (List D → Prop) → Prop := fun xs q => ∃ ns : List Int, xs = [.list (ns.map .int)] ∧ ns.length < 64 ∧ ∀ ns' : List Int, ns'.Perm ns → ns'.Pairwise (· ≤ ·) → q (ns'.map .int)
theorem c_sorted : CallL X (.builtin "sorted") lSorted := by
  refine ⟨_, cr_sorted, fun F H vs xs fh bx q hq Q k => ?_⟩
  obtain ⟨ns, rfl, h64, hq⟩ := hq
  obtain ⟨v, rfl, b⟩ := bx.one
  obtain ⟨p, rfl, h1⟩ := lst_ints fh b
  exact ⟨p, ns, rfl, h1, h64, fun ns' p2 e1 e2 hp2 => k p2 _ _ F _ (Gr.newO fh hp2) hp2 (fh.free hp2) upd_same (DpAll.ints ns') (hq ns' e1 e2)⟩
end
end DL
namespace DL
open PySem PySem.Spec PyProof.Rows L2
/-- a promise that can't be asked -/
theorem FnG.no {P : Program} {w : World} {K : Frag} {mg : Str → Option Value} {base : Heap} {k : Nat} {f : Addr} {fd : FuncData} {ps : List Str} {n : Nat} {g : FD} (h : ∀ ds q, g ds q → False) : FnG P w K mg base k f fd ps (SpD K n g) :=
  ⟨fun _ _ _ _ ⟨_, ds, q, _, _, _, z, _⟩ => (h ds q z).elim, fun _ _ _ _ _ _ _ _ _ _ _ _ _ _ ⟨_, ds, q, _, _, _, z, _⟩ => (h ds q z).elim⟩
end DL

namespace DL
open PySem PySem.Spec PyProof.Rows L2 Builtin.Int
/-! ### a statement that changes one or two names, and what comes behind it -/
theorem sj_i {t u : RS} {DD : DEnds} {ρ : Rho} (i : Nat) (P : D → Prop) (hk : ∀ d, P d → u DD (ρ.set i (some (.val d))))
    (h : ∀ k : Rho → Prop, (∀ d, P d → k (ρ.set i (some (.val d)))) → t { DD with nx := k } ρ) : sSeq t u DD ρ := by
  rw [sSeq_c]
  exact h _ hk
theorem sj_i2 {t u : RS} {DD : DEnds} {ρ : Rho} (i j : Nat) (P : D → D → Prop) (hk : ∀ d e, P d e → u DD ((ρ.set i (some (.val d))).set j (some (.val e))))
    (h : ∀ k : Rho → Prop, (∀ d e, P d e → k ((ρ.set i (some (.val d))).set j (some (.val e)))) → t { DD with nx := k } ρ) : sSeq t u DD ρ := by
  rw [sSeq_c]
  exact h _ hk
theorem sj_iO {t u : RS} {DD : DEnds} {ρ : Rho} (i : Nat) (P : List D → Prop) (hk : ∀ d, P d → u DD (ρ.set i (some (.own d))))
    (h : ∀ k : Rho → Prop, (∀ d, P d → k (ρ.set i (some (.own d)))) → t { DD with nx := k } ρ) : sSeq t u DD ρ := by
  rw [sSeq_c]
  exact h _ hk
/-- what comes behind, by a fact of the names' values -/
theorem sj_r {t u : RS} {DD : DEnds} {ρ : Rho} (R : Rho → Prop) (hk : ∀ ρ', R ρ' → u DD ρ')
    (h : ∀ k : Rho → Prop, (∀ ρ', R ρ' → k ρ') → t { DD with nx := k } ρ) : sSeq t u DD ρ := by
  rw [sSeq_c]
  exact h _ hk
end DL

namespace DL
open PySem PySem.Spec PyProof.Rows L2 Builtin.Int
/-! ### zip of two sequences, each a list or a tuple -/
/-- one side of a zip: its iterator c over what stands at a -/
structure Side (P : Program) (w : World) (K : Frag) (c a : Addr) (S : Hp → List V → Prop) (T : Nat → Heap → Prop) (O : Array Value → Heap → Prop) : Prop where
  read : ∀ (X : Cx), X.prog = P → X.w = w → X.K = K → ∀ pins σ H s xs, Inv X pins σ H s → S H xs → ∃ its : List Value, Vals xs its ∧ O its.toArray s.heap
  inj : ∀ (X : Cx), X.prog = P → X.w = w → X.K = K → ∀ pins σ H s xs ys, Inv X pins σ H s → S H xs → S H ys → xs = ys
  draws : ∀ A : Around, A.handled = none → ∀ items : Array Value, Draws P w A c [c, a] items.size (fun i v => items[i]? = some v) fun i h => T i h ∧ O items h
  obj : ∀ i h, T i h → ∃ o, h.get? c = some o ∧ ∀ v, o.data ≠ .cell v
  keep : ∀ i h h', T i h → (∀ o, h.get? c = some o → h'.get? c = some o) → T i h'
theorem sideT {P : Program} {w : World} {K : Frag} {c a : Addr} (hne : a ≠ c) : Side P w K c a (fun H xs => SqT K H a xs) (fun i h => h.IsTupleIter c a i) (fun items h => h.IsTuple a items) where
  read := fun X h1 h2 h3 pins σ H s xs I q => by
    subst h3
    obtain ⟨its, r, p, _⟩ := I.tuple q
    exact ⟨its, r, p⟩
  inj := fun X h1 h2 h3 pins σ H s xs ys I q q' => by
    subst h3
    exact I.tuple_inj q q'
  draws := fun A hA items => Draws.tuple hA c a hne items
  obj := fun i h ⟨o, e, _, d⟩ => ⟨o, e, fun v q => by rw [d] at q; cases q⟩
  keep := fun i h h' st k => st.at fun o q => k o q
theorem sideL {P : Program} {w : World} {K : Frag} {c a : Addr} (hne : a ≠ c) : Side P w K c a (fun H xs => SqL K H a xs) (fun i h => h.IsListIter c a i) (fun items h => h.IsList a items) where
  read := fun X h1 h2 h3 pins σ H s xs I q => by
    subst h3
    obtain ⟨its, r, p, _⟩ := I.list q
    exact ⟨its, r, p.isList⟩
  inj := fun X h1 h2 h3 pins σ H s xs ys I q q' => by
    subst h3
    exact I.list_inj q q'
  draws := fun A hA items => Draws.list hA c a hne items
  obj := fun i h ⟨o, e, _, d⟩ => ⟨o, e, fun v q => by rw [d] at q; cases q⟩
  keep := fun i h h' st k => st.at fun o q => k o q
/-- pairs, each new, of what stands at the time -/
def ItM (S1 S2 : Hp → List V → Prop) : It :=
  ⟨fun i H => ∃ (xs ys : List V) (x y : V), S1 H xs ∧ S2 H ys ∧ xs[i]? = some x ∧ ys[i]? = some y,
    fun i H v H' => ∃ T x y, v = .ref T ∧ H T = none ∧ H' = upd H T (.tup [x, y]) ∧ (∀ xs, S1 H xs → xs[i]? = some x) ∧ ∀ ys, S2 H ys → ys[i]? = some y,
    fun i H => ∃ xs ys : List V, S1 H xs ∧ S2 H ys ∧ i = min xs.length ys.length⟩
def tnM (z TI TO c1 c2 : Addr) (T1 T2 : Nat → Heap → Prop) (i : Nat) (h : Heap) : Prop := IsZip h z TI TO .none ∧ IsTupOf2 h TI (.ref c1) (.ref c2) ∧ (∃ x y, IsTupOf2 h TO x y) ∧ T1 i h ∧ T2 i h
theorem five {z TI TO c1 c2 b : Addr} (h : b ∈ [z, TI, TO, c1, c2]) : b = z ∨ b = TI ∨ b = TO ∨ b = c1 ∨ b = c2 := by simpa using h
theorem turnM {P : Program} {w : World} {K : Frag} {elts : List Expr} {kk : Nat} {tpos : Pos} {z TI TO c1 c2 a1 a2 : Addr} {S1 S2 : Hp → List V → Prop} {T1 T2 : Nat → Heap → Prop} {O1 O2 : Array Value → Heap → Prop}
    (Z : ZipSep2 z TI TO c1 c2 [c1, a1] [c2, a2]) (A1 : Side P w K c1 a1 S1 T1 O1) (A2 : Side P w K c2 a2 S2 T2 O2) :
    Turn P w K (.Tuple elts kk tpos) (ItM S1 S2) [z, TI, TO, c1, c2] z (tnM z TI TO c1 c2 T1 T2) where
  mem := List.mem_cons_self
  obj := fun i h st b hb => by
    obtain ⟨q1, q2, ⟨x, y, q3⟩, q4, q5⟩ := st
    rcases five hb with rfl | rfl | rfl | rfl | rfl
    · exact ⟨_, q1, fun v q => nomatch q⟩
    · exact ⟨_, q2, fun v q => nomatch q⟩
    · exact ⟨_, q3, fun v q => nomatch q⟩
    · exact A1.obj i h q4
    · exact A2.obj i h q5
  keep := fun i h h' st k => by
    obtain ⟨q1, q2, ⟨x, y, q3⟩, q4, q5⟩ := st
    exact ⟨k _ (by simp) _ q1, k _ (by simp) _ q2, ⟨x, y, k _ (by simp) _ q3⟩, A1.keep i h h' q4 (k _ (by simp)), A2.keep i h h' q5 (k _ (by simp))⟩
  item := by
    intro X hP hw hK hc i pins s σ H E I hf st hg
    obtain ⟨q1, q2, q3, q4, q5⟩ := st
    obtain ⟨xs, ys, x, y, s1, s2, e1, e2⟩ := hg
    obtain ⟨its1, v1, o1⟩ := A1.read X hP hw hK pins σ H s xs I s1
    obtain ⟨its2, v2, o2⟩ := A2.read X hP hw hK pins σ H s ys I s2
    obtain ⟨u1, g1, r1⟩ := v1.get e1
    obtain ⟨u2, g2, r2⟩ := v2.get e2
    have hA : X.A.in1.handled = none := I.ok.hd hc
    have G := GoesN.zip2 (elts := elts) (x1 := kk) (pos := tpos) (A := X.A) Z (A1.draws X.A.in1 hA its1.toArray) (A2.draws X.A.in1 hA its2.toArray)
    have l1 : i < its1.length := (List.getElem?_eq_some_iff.mp g1).1
    have l2 : i < its2.length := (List.getElem?_eq_some_iff.mp g2).1
    refine G.goes i s _ E (by simp; omega) ⟨q1, q2, q3, ⟨q4, o1⟩, ⟨q5, o2⟩⟩ fun v h' tk Y st' hk htk => ?_
    obtain ⟨T, w1, w2, rfl, hT, p1, p2, hTup⟩ := Y
    obtain ⟨z1, z2, z3, ⟨z4, _⟩, ⟨z5, _⟩⟩ := st'
    have p1 : some u1 = some w1 := by rw [← g1, ← p1]; simp
    have p2 : some u2 = some w2 := by rw [← g2, ← p2]; simp
    cases p1
    cases p2
    have new : ObjOk X.prog X.w (upd H T (.tup [x, y])) h' T (.tup [x, y]) := ⟨by show 2 ≤ sizeLine; rw [sizeLine_eq]; decide, [u1, u2], .cons r1 (.cons r2 .nil), hTup⟩
    have I1 : Inv X pins σ (upd H T (.tup [x, y])) { s with heap := h', toks := tk } := I.turnedNew (t' := tk) (ch := [z, TI, TO, c1, c2])
      (fun b o hb e => hk b o (fun m => hb (by simp only [List.mem_cons, List.not_mem_nil, or_false] at m ⊢; rcases m with m | m | m | m <;> simp [m])) e) hf hT new
    refine ⟨.ref T, _, I1, rfl, ⟨T, x, y, rfl, I.hok.fresh hT, rfl, fun l hl => by rw [A1.inj X hP hw hK pins σ H s l xs I hl s1]; exact e1, fun l hl => by rw [A2.inj X hP hw hK pins σ H s l ys I hl s2]; exact e2⟩, ⟨z1, z2, z3, z4, z5⟩, fun b hb => ?_⟩
    have hb' : b < s.heap.objs.size := by
      rcases five hb with rfl | rfl | rfl | rfl | rfl
      · exact Heap.lt_size q1
      · exact Heap.lt_size q2
      · obtain ⟨_, _, q3⟩ := q3; exact Heap.lt_size q3
      · obtain ⟨_, q, _⟩ := A1.obj _ _ q4; exact Heap.lt_size q
      · obtain ⟨_, q, _⟩ := A2.obj _ _ q5; exact Heap.lt_size q
    rw [upd_ne (Nat.ne_of_lt (Nat.lt_of_lt_of_le hb' hT))]
    exact (hf b hb).1
  done := by
    intro X hP hw hK hc i pins s σ H E I hf st hg
    obtain ⟨q1, q2, q3, q4, q5⟩ := st
    obtain ⟨xs, ys, s1, s2, hend⟩ := hg
    obtain ⟨its1, v1, o1⟩ := A1.read X hP hw hK pins σ H s xs I s1
    obtain ⟨its2, v2, o2⟩ := A2.read X hP hw hK pins σ H s ys I s2
    have hA : X.A.in1.handled = none := I.ok.hd hc
    have G := GoesN.zip2 (elts := elts) (x1 := kk) (pos := tpos) (A := X.A) Z (A1.draws X.A.in1 hA its1.toArray) (A2.draws X.A.in1 hA its2.toArray)
    have ei : i = min its1.toArray.size its2.toArray.size := by
      have := v1.length
      have := v2.length
      simp only [List.size_toArray]
      omega
    refine G.stops s (fun s1 => Inv X pins σ H s1) E (by rw [← ei]; exact ⟨q1, q2, q3, ⟨q4, o1⟩, ⟨q5, o2⟩⟩) fun h' tk hk htk => I.turnedL (t' := tk) (ch := [z, TI, TO, c1, c2])
      (fun b o hb e => hk b o (fun m => hb (by simp only [List.mem_cons, List.not_mem_nil, or_false] at m ⊢; rcases m with m | m | m | m <;> simp [m])) e) hf
  self := fun A i s Q E st h => wpAny_pyIter_zip st.1 h
/-! ### zip(x, y): how it begins -/
structure Starts (P : Program) (w : World) (K : Frag) (a : Addr) (S : Hp → List V → Prop) (o : Obj) (T : Addr → Nat → Heap → Prop) (O : Array Value → Heap → Prop) : Prop where
  side : ∀ c, a ≠ c → Side P w K c a S (T c) O
  beg : ∀ items : Array Value, Begins (.ref a) o (O items)
  made : ∀ (c : Addr) (h : Heap), h.get? c = some o → T c 0 h
  lt : ∀ (items : Array Value) (h : Heap), O items h → a < h.objs.size
theorem startsL (P : Program) (w : World) (K : Frag) (a : Addr) : Starts P w K a (fun H xs => SqL K H a xs) { cls := .type "list_iterator", data := .fields #[.ref a, .int 0 0] } (fun c i h => h.IsListIter c a i) (fun items h => h.IsList a items) where
  side := fun c h => sideL h
  beg := fun items => begins_list a items
  made := fun c h e => ⟨_, e, rfl, rfl⟩
  lt := fun items h ⟨o, e, _⟩ => Heap.lt_size e
theorem startsT (P : Program) (w : World) (K : Frag) (a : Addr) : Starts P w K a (fun H xs => SqT K H a xs) { cls := .type "tuple_iterator", data := .fields #[.ref a, .int 0 0] } (fun c i h => h.IsTupleIter c a i) (fun items h => h.IsTuple a items) where
  side := fun c h => sideT h
  beg := fun items => begins_tuple a items
  made := fun c h e => ⟨_, e, rfl, rfl⟩
  lt := fun items h ⟨o, e, _⟩ => Heap.lt_size e
/-- a sequence at a: what reads it -/
inductive SqB (K : Frag) (a : Addr) : (Hp → List V → Prop) → Prop
  | l : SqB K a (fun H xs => SqL K H a xs)
  | t : SqB K a (fun H xs => SqT K H a xs)
theorem SqB.starts {K : Frag} {a : Addr} {S : Hp → List V → Prop} (h : SqB K a S) (P : Program) (w : World) : ∃ o T O, Starts P w K a S o T O := by
  cases h with
  | l => exact ⟨_, _, _, startsL P w K a⟩
  | t => exact ⟨_, _, _, startsT P w K a⟩
def iZipM (K : Frag) (ta : TA) : TI := fun σ H R => ta σ H fun vs H1 => ∃ a b S1 S2 xs ys, vs = [.ref a, .ref b] ∧ SqB K a S1 ∧ SqB K b S2 ∧ S1 H1 xs ∧ S2 H1 ys ∧ R (ItM S1 S2) H1
theorem pi_zipM {X : Cx} {e e2 : Expr} {ta : TA} {p pos tpos : Pos} {elts : List Expr} {kk : Nat} (hg : Gl X "zip") (hm : X.mg "zip" = none) (ha : PA X [e, e2] ta)
    (hs : starEach [e, e2] X.env = (false, eval e X.env) :: starEach [e2] X.env := by rfl) (hpl : (backTo pos (starEach [e2] X.env)).any (·.1) = false := by rfl) :
    PI X (.Tuple elts kk tpos) (.Call (.Name "zip" p) [e, e2] [] pos) (iZipM X.K ta) := by
  refine ⟨fun pins s σ H R I h => ?_⟩
  refine Call_ (ld_blt I hg hm PyProof.Rows.boot_zip (PyProof.Rows.callWith_type1 (thn (ha.run pos pins s σ H _ I h) fun us s1 ⟨vs, H1, I1, r1, q1⟩ => ?_) hs hpl))
  obtain ⟨a, b, S1, S2, xs, ys, rfl, b1, b2, s1', s2', q⟩ := q1
  obtain ⟨oa, Ta, Oa, A1⟩ := b1.starts X.prog X.w
  obtain ⟨ob, Tb, Ob, A2⟩ := b2.starts X.prog X.w
  cases r1 with
  | cons r rr =>
    cases rr with
    | cons r' rr =>
      cases rr
      cases r
      cases r'
      obtain ⟨n, hn⟩ : ∃ n : Nat, n = s1.heap.objs.size := ⟨_, rfl⟩
      have dummy : a ≠ a + 1 := Nat.ne_of_lt (Nat.lt_succ_self a)
      have dummy2 : b ≠ b + 1 := Nat.ne_of_lt (Nat.lt_succ_self b)
      obtain ⟨its1, v1, o1⟩ := (A1.side (a + 1) dummy).read X rfl rfl rfl pins σ H1 s1 xs I1 s1'
      obtain ⟨its2, v2, o2⟩ := (A2.side (b + 1) dummy2).read X rfl rfl rfl pins σ H1 s1 ys I1 s2'
      have la := A1.lt _ _ o1
      have lb := A2.lt _ _ o2
      refine zip_begins2 (A1.beg its1.toArray) (A2.beg its2.toArray) o1 o2 fun h' hz hTI hTO h1 h2 hsz hk => wpAny_pyIter_zip hz ?_
      have I2 : Inv X pins σ H1 { s1 with heap := h' } := I1.kept (t' := s1.toks) hk
      have na : a ≠ s1.heap.objs.size := Nat.ne_of_lt la
      have nb : b ≠ s1.heap.objs.size + 1 := Nat.ne_of_lt (Nat.lt_succ_of_lt lb)
      refine ⟨s1.heap.objs.size + 4, [s1.heap.objs.size + 4, s1.heap.objs.size + 2, s1.heap.objs.size + 3, s1.heap.objs.size, s1.heap.objs.size + 1], _, _, H1, rfl, I2,
        turnM (zip_sep2 (fp1 := [a]) (fp2 := [b]) (by simpa using la) (by simpa using lb)) (A1.side _ na) (A2.side _ nb), ⟨hz, hTI, ⟨_, _, hTO⟩, A1.made _ _ h1, A2.made _ _ h2⟩, fun c hcm => ?_, q⟩
      have hle : s1.heap.objs.size ≤ c := by
        rcases five hcm with rfl | rfl | rfl | rfl | rfl
        · exact Nat.le_add_right _ _
        · exact Nat.le_add_right _ _
        · exact Nat.le_add_right _ _
        · exact Nat.le_refl _
        · exact Nat.le_add_right _ _
      exact I1.fpOk hle (I1.hok.fresh hle)
/-! ### over data -/
def seqD : D → Option (List D)
  | .list xs => some xs
  | .tuple xs => some xs
  | _ => none
def twoD (x y : D) : D := .tuple [x, y]
def gZip : D → D → (List D → Prop) → Prop := fun x y q => match seqD x, seqD y with | some xs, some ys => q (List.zipWith twoD xs ys) | _, _ => False
def iZipD (da db : RE) : RL := fun ρ q => da ρ fun x => db ρ fun y => gZip x y q
theorem SqB.of {K : Frag} {F H : Hp} {v : V} {d : D} {xs : List D} (fh : Same F H) (r : Bor K F H v d) (h : seqD d = some xs) : ∃ a S vs, v = .ref a ∧ SqB K a S ∧ S H vs ∧ DpAll K F vs xs := by
  cases d with
  | list ys =>
    cases h
    obtain ⟨a, vs, rfl, s1, d1⟩ := r.lst fh
    exact ⟨a, _, vs, rfl, .l, s1, d1⟩
  | tuple ys =>
    cases h
    obtain ⟨a, vs, rfl, s0, s1, d1⟩ := r.tup fh
    exact ⟨a, _, vs, rfl, .t, s1, d1⟩
  | _ => cases h
theorem SqB.up {K : Frag} {a : Addr} {S : Hp → List V → Prop} (h : SqB K a S) {H H' : Hp} (e : Same H H') {xs : List V} (q : S H xs) : S H' xs := by
  cases h with
  | l => exact e.seq q
  | t => exact e.seqT q
theorem iter_zipM {K : Frag} {a b : Addr} {S1 S2 : Hp → List V → Prop} {us vs : List V} {xs ys : List D} {F G : Hp} (b1 : SqB K a S1) (b2 : SqB K b S2) (h1 : S1 G us) (h2 : S2 G vs) (d1 : DpAll K F us xs) (d2 : DpAll K F vs ys) :
    IterOk K (ItM S1 S2) F G (List.zipWith twoD xs ys) := fun F1 H1 sF sG s1 i => by
  have q1 := b1.up sG h1
  have q2 := b2.up sG h2
  have l1 := d1.length
  have l2 := d2.length
  have ll : (List.zipWith twoD xs ys).length = min xs.length ys.length := List.length_zipWith
  refine ⟨fun hi => ?_, fun hi => ⟨us, vs, q1, q2, by omega⟩⟩
  have hx : i < xs.length := by omega
  have hy : i < ys.length := by omega
  obtain ⟨u, hu, ru⟩ := d1.get (List.getElem?_eq_getElem hx)
  obtain ⟨v, hv, rv⟩ := d2.get (List.getElem?_eq_getElem hy)
  refine ⟨⟨us, vs, u, v, q1, q2, hu, hv⟩, fun x H2 y => ?_⟩
  obtain ⟨T, x', y', rfl, hT, rfl, f1, f2⟩ := y
  have e1 := f1 us q1
  have e2 := f2 vs q2
  rw [hu] at e1
  rw [hv] at e2
  cases e1
  cases e2
  refine ⟨upd F1 T (.tup [u, v]), Gr.new s1 hT, twoD xs[i] ys[i], ?_, ?_⟩
  · rw [List.getElem?_zipWith, List.getElem?_eq_getElem hx, List.getElem?_eq_getElem hy]
  · have g := Gr.new (o := .tup [u, v]) s1 hT
    exact .tup (.inl (.inl upd_same)) (.cons (ru.mono (sF.trans g.ff)) (.cons (rv.mono (sF.trans g.ff)) .nil))
section
variable {X : Cx} {a b : Expr} {da db : RE} {pos : Pos}
theorem i_zipC {elts : List Expr} {kk : Nat} {tpos p : Pos} (h : DB X a da) (g' : DB X b db) (hm : X.mg "zip" = none) (hg : Gl X "zip" := by rfl) (hs2 : starEach [b] X.env = (false, eval b X.env) :: starEach [] X.env := by rfl)
    (hs : starEach [a, b] X.env = (false, eval a X.env) :: starEach [b] X.env := by rfl) (hpl : (backTo pos (starEach [b] X.env)).any (·.1) = false := by rfl) : DIc X (.Tuple elts kk tpos) (.Call (.Name "zip" p) [a, b] [] pos) (iZipD da db) := by
  obtain ⟨te, h1, h2⟩ := h
  obtain ⟨ue, u1, u2⟩ := g'
  refine ⟨_, pi_zipM hg hm (pa_cons h1 (pa_cons u1 pa_nil hs2) hs) hs hpl, fun B F H ρ σ E q hq R k => h2 B F H ρ σ E _ hq _ fun v x F1 H1 g1 r z => u2 B F1 H1 ρ σ (E.grow g1) _ z _ fun u y F2 H2 g2 r2 z => ?_⟩
  unfold gZip at z
  cases hx : seqD x with
  | none => rw [hx] at z; exact z.elim
  | some xs =>
    cases hy : seqD y with
    | none => rw [hx, hy] at z; exact z.elim
    | some ys =>
      rw [hx, hy] at z
      obtain ⟨a1, S1, vs, rfl, b1, s1, d1⟩ := SqB.of g2.fh (r.grow g2) hx
      obtain ⟨a2, S2, us, rfl, b2, s2, d2⟩ := SqB.of g2.fh r2 hy
      exact ⟨a1, a2, S1, S2, vs, us, rfl, b1, b2, s1, s2, k _ _ F2 H2 (g1.trans g2) (iter_zipM b1 b2 s1 s2 d1 d2) z⟩
theorem i_zip {elts : List Expr} {kk : Nat} {tpos p : Pos} (h : DE X a da) (g' : DE X b db) (hm : X.mg "zip" = none) (hg : Gl X "zip" := by rfl) (hs2 : starEach [b] X.env = (false, eval b X.env) :: starEach [] X.env := by rfl)
    (hs : starEach [a, b] X.env = (false, eval a X.env) :: starEach [b] X.env := by rfl) (hpl : (backTo pos (starEach [b] X.env)).any (·.1) = false := by rfl) : DI X (.Tuple elts kk tpos) (.Call (.Name "zip" p) [a, b] [] pos) (iZipD da db) := by
  obtain ⟨te, h1, h2⟩ := h
  obtain ⟨ue, u1, u2⟩ := g'
  refine ⟨_, pi_zipM hg hm (pa_cons h1 (pa_cons u1 pa_nil hs2) hs) hs hpl, fun B F H ρ σ E q hq R k => h2 B F H ρ σ E _ hq _ fun v x F1 H1 g1 r z => u2 B F1 H1 ρ σ (E.grow g1) _ z _ fun u y F2 H2 g2 r2 z => ?_⟩
  unfold gZip at z
  cases hx : seqD x with
  | none => rw [hx] at z; exact z.elim
  | some xs =>
    cases hy : seqD y with
    | none => rw [hx, hy] at z; exact z.elim
    | some ys =>
      rw [hx, hy] at z
      have F22 : Same F2 F2 := Same.refl F2
      obtain ⟨a1, S1, vs, rfl, b1, s1, d1⟩ := SqB.of (H := F2) F22 (.inl (r.mono g2.ff)) hx
      obtain ⟨a2, S2, us, rfl, b2, s2, d2⟩ := SqB.of (H := F2) F22 (.inl r2) hy
      exact ⟨a1, a2, S1, S2, vs, us, rfl, b1, b2, b1.up g2.fh s1, b2.up g2.fh s2, k _ _ F2 H2 (g1.trans g2) (iter_zipM b1 b2 s1 s2 d1 d2) z⟩
end
end DL
namespace DL
open PySem PySem.Spec PyProof.Rows L2 Builtin.Int
/-! ### any, all over data -/
def gAnyD : GA := fun xs q => match xs with | [d] => ∃ ds, seqD d = some ds ∧ (PyData.plainAll ds = true ∧ ∀ x ∈ ds, x.fits63) ∧ q (.bool (ds.any PyData.truthy)) | _ => False
def gAllD : GA := fun xs q => match xs with | [d] => ∃ ds, seqD d = some ds ∧ (PyData.plainAll ds = true ∧ ∀ x ∈ ds, x.fits63) ∧ q (.bool (ds.all PyData.truthy)) | _ => False
theorem sq_data {X : Cx} {pins : List (Addr × Obj)} {σ : L2.St} {H : Hp} {s : Shared} {v : V} {d : D} {ds : List D} {u : Value} (I : Inv X pins σ H s) (hd : Dp X.K H v d) (ru : RelV v u) (h : seqD d = some ds) :
    ∃ (l : Addr) (vs : Array Value) (as : List Addr), u = .ref l ∧ ReadsAll s.heap vs.toList ds as ∧ (s.heap.IsList l vs ∧ d = .list ds ∨ s.heap.IsTuple l vs ∧ d = .tuple ds) := by
  obtain ⟨as, rd⟩ := Dp.reads I d v u hd ru
  cases rd with
  | list h1 h2 h3 h4 =>
    cases h
    exact ⟨_, _, _, rfl, h4, .inl ⟨⟨_, h1, h2, _, h3⟩, rfl⟩⟩
  | tuple h1 h2 h3 h4 =>
    cases h
    exact ⟨_, _, _, rfl, h4, .inr ⟨⟨_, h1, h2, _, h3⟩, rfl⟩⟩
  | _ => cases h
section
variable {X : Cx}
theorem c_anyD (hc : X.calm = true := by rfl) : CallD X (.builtin "any") gAnyD := by
  refine ⟨fun vs H Q => ∃ v d ds, vs = [v] ∧ Dp X.K H v d ∧ seqD d = some ds ∧ (PyData.plainAll ds = true ∧ ∀ x ∈ ds, x.fits63) ∧ Q (.bl (ds.any PyData.truthy)) H, ?_, ?_⟩
  · rintro pins s σ H vs us Q I r ⟨v, d, ds, rfl, hd, hs, ⟨h1, h2⟩, q⟩
    cases r with
    | cons ru rt =>
      cases rt
      obtain ⟨l, vs, as, rfl, hr, ⟨hl, _⟩ | ⟨hl, _⟩⟩ := sq_data I hd ru hs
      · exact PySem.W.any_list_data (I.ok.hd hc) hl hr h1 h2 fun h' tk hk => ⟨.bl _, H, I.kept hk, rfl, q⟩
      · exact PySem.W.any_tuple_data (I.ok.hd hc) hl hr h1 h2 fun h' tk hk => ⟨.bl _, H, I.kept hk, rfl, q⟩
  · intro F H vs xs fh b q hq Q k
    cases b with
    | nil => exact hq.elim
    | cons b1 bt =>
      cases bt with
      | nil =>
        obtain ⟨ds, h1, h2, h3⟩ := hq
        exact ⟨_, _, ds, rfl, b1.dp fh, h1, h2, k _ _ F H (Gr.refl fh) (.bl _) h3⟩
      | cons _ _ => exact hq.elim
theorem c_allD (hc : X.calm = true := by rfl) : CallD X (.builtin "all") gAllD := by
  refine ⟨fun vs H Q => ∃ v d ds, vs = [v] ∧ Dp X.K H v d ∧ seqD d = some ds ∧ (PyData.plainAll ds = true ∧ ∀ x ∈ ds, x.fits63) ∧ Q (.bl (ds.all PyData.truthy)) H, ?_, ?_⟩
  · rintro pins s σ H vs us Q I r ⟨v, d, ds, rfl, hd, hs, ⟨h1, h2⟩, q⟩
    cases r with
    | cons ru rt =>
      cases rt
      obtain ⟨l, vs, as, rfl, hr, ⟨hl, _⟩ | ⟨hl, _⟩⟩ := sq_data I hd ru hs
      · exact PySem.W.all_list_data (I.ok.hd hc) hl hr h1 h2 fun h' tk hk => ⟨.bl _, H, I.kept hk, rfl, q⟩
      · exact PySem.W.all_tuple_data (I.ok.hd hc) hl hr h1 h2 fun h' tk hk => ⟨.bl _, H, I.kept hk, rfl, q⟩
  · intro F H vs xs fh b q hq Q k
    cases b with
    | nil => exact hq.elim
    | cons b1 bt =>
      cases bt with
      | nil =>
        obtain ⟨ds, h1, h2, h3⟩ := hq
        exact ⟨_, _, ds, rfl, b1.dp fh, h1, h2, k _ _ F H (Gr.refl fh) (.bl _) h3⟩
      | cons _ _ => exact hq.elim
end
theorem plain_ints : ∀ ns : List Int, PyData.plainAll (ns.map .int) = true
  | [] => rfl
  | n :: r => by simp [PyData.plainAll, PyData.plain, plain_ints r]
theorem fits_ints {ns : List Int} : ∀ x ∈ ns.map PyData.int, x.fits63 := by
  intro x hx
  obtain ⟨n, _, rfl⟩ := List.mem_map.mp hx
  exact trivial
theorem any_ints (ns : List Int) : (ns.map PyData.int).any PyData.truthy = ns.any (· != 0) := by
  rw [List.any_map]
  congr 1
theorem gAnyD_ints {d : D} {ns : List Int} {q : D → Prop} (h : seqD d = some (ns.map .int)) (hq : q (.bool (ns.any (· != 0)))) : gAnyD [d] q :=
  ⟨_, h, ⟨plain_ints ns, fits_ints⟩, by rw [any_ints]; exact hq⟩
theorem plain_bools : ∀ ns : List Bool, PyData.plainAll (ns.map .bool) = true
  | [] => rfl
  | n :: r => by simp [PyData.plainAll, PyData.plain, plain_bools r]
theorem fits_bools {ns : List Bool} : ∀ x ∈ ns.map PyData.bool, x.fits63 := by
  intro x hx
  obtain ⟨n, _, rfl⟩ := List.mem_map.mp hx
  exact trivial
theorem all_bools (ns : List Bool) : (ns.map PyData.bool).all PyData.truthy = ns.all id := by
  rw [List.all_map]
  congr 1
theorem gAllD_bools {d : D} {ns : List Bool} {q : D → Prop} (h : seqD d = some (ns.map .bool)) (hq : q (.bool (ns.all id))) : gAllD [d] q :=
  ⟨_, h, ⟨plain_bools ns, fits_bools⟩, by rw [all_bools]; exact hq⟩
theorem any_bools (ns : List Bool) : (ns.map PyData.bool).any PyData.truthy = ns.any id := by
  rw [List.any_map]
  congr 1
theorem gAnyD_bools {d : D} {ns : List Bool} {q : D → Prop} (h : seqD d = some (ns.map .bool)) (hq : q (.bool (ns.any id))) : gAnyD [d] q :=
  ⟨_, h, ⟨plain_bools ns, fits_bools⟩, by rw [any_bools]; exact hq⟩
end DL

namespace DL
open PySem PySem.Spec PyProof.Rows L2
/-! ### (..) * k for any small k -/
theorem tup_once (l : Addr) (items : Array Value) (n : Nat) (dd : Option Addr) (sl : Array (Option Value)) (u : Tok) :
    Meets (Builtin.«tuple.__mul__» ⟨[.ref l, .int 1 u], []⟩) (fun _ R s => s.heap.get? l = some { cls := .type "tuple", dict := dd, data := .seq items n, slots := sl } ∧ R (.ok (.ret (.ref l))) s) :=
  .of_wp fun prog w A R s h => by
    obtain ⟨hp, g, d, tk, os⟩ := s
    obtain ⟨hl, h⟩ := h
    have f1 := AutoSeq1.idx_int
    wp_walk using wpAny_loadPart' hl
    exact ⟨_, rfl, h⟩
theorem tup_never (l : Addr) (items : Array Value) (n : Nat) (dd : Option Addr) (sl : Array (Option Value)) (x : Int) (u : Tok) (h0 : x ≤ 0) (h1 : -1000 ≤ x) (hne : items.isEmpty = false) :
    Meets (Builtin.«tuple.__mul__» ⟨[.ref l, .int x u], []⟩) (fun _ R s => s.heap.get? l = some { cls := .type "tuple", dict := dd, data := .seq items n, slots := sl } ∧
      R (.ok (.ret (Value.ref s.heap.objs.size))) { s with heap := s.heap.push { cls := Value.type "tuple", data := Data.seq #[] }, toks := s.toks }) :=
  .of_wp fun prog w A R s h => by
    obtain ⟨hp, g, d, tk, os⟩ := s
    obtain ⟨hl, h⟩ := h
    have f1 := AutoSeq1.idx_int
    have c0 : (decide (x < -(2 ^ 63)) || decide (x ≥ 2 ^ 63)) = false := by
      rw [decide_eq_false (by omega), decide_eq_false (by omega)] <;> rfl
    have c1 : (items.isEmpty || x == 1) = false := by
      rw [hne, Bool.false_or]
      exact beq_eq_false_iff_ne.mpr (by omega)
    have c2 : (decide (x ≤ 0) || items.isEmpty) = true := by rw [decide_eq_true h0]; rfl
    wp_walk using wpAny_loadPart' hl
    refine wpAny_ite_false (decide_eq_false (by rw [c0]; exact Bool.false_ne_true)) ?_
    wp_walk using wpAny_loadPart' hl
    refine wpAny_ite_false (decide_eq_false (by rw [c1]; exact Bool.false_ne_true)) ?_
    wp_walk using wpAny_loadPart' hl
    exact ⟨_, rfl, h⟩
def rRepLow (K : Frag) : R2 := fun x y H Q => ∃ l k xs, x = .ref l ∧ y = .int k ∧ SqT K H l xs ∧ xs ≠ [] ∧ (k = 1 ∧ Q (.ref l) H ∨ -1000 ≤ k ∧ k ≤ 0 ∧ ∀ p, H p = none → Q (.ref p) (upd H p (.tup [])))
section
variable {X : Cx}
theorem op_repLow : OpR X (binaryOp .Mult) (rRepLow X.K) := by
  intro pins s σ H x y v u Q I rx ry h
  obtain ⟨l, k, xs, rfl, rfl, hT, hne, h⟩ := h
  cases rx
  obtain ⟨t, rfl⟩ := ry
  obtain ⟨its, r, ⟨⟨cls, dd, data, sl⟩, ho, hc, n, hd⟩, hs⟩ := I.tuple hT
  simp only at hc hd
  subst hc hd
  have hi : its.toArray.isEmpty = false := by
    have := r.length
    cases its with
    | nil => exact absurd (List.eq_nil_of_length_eq_zero this) hne
    | cons a b => rfl
  refine wpAny_binaryOp_repeat_ref (T := "tuple") (U := "int") (by decide) ⟨_, ho, rfl⟩ (fun s' => typeIs_int s' k t) noFill_tuple_mul F.fills_int_mul F.slot_int_rmul repeat_tuple F.slot_int_index.lookup
    (call_meets F.slot_int_rmul (typeIs_int s k t) F.entry_int_rmul (F.args_int_rmul_2 _ _) (int_rmul_tuple k t l its.toArray n dd sl) ⟨ho, rfl, ⟨_, ho, rfl⟩, ?_⟩)
  rcases h with ⟨rfl, q⟩ | ⟨h1, h2, q⟩
  · exact call_meets F.slot_tuple_mul ⟨_, ho, rfl⟩ F.entry_tuple_mul (F.args_tuple_mul_2 _ _) (tup_once l its.toArray n dd sl t) ⟨ho, ⟨.ref l, H, I, rfl, q⟩⟩
  · refine call_meets F.slot_tuple_mul ⟨_, ho, rfl⟩ F.entry_tuple_mul (F.args_tuple_mul_2 _ _) (tup_never l its.toArray n dd sl k t h2 h1 hi) ⟨ho, ?_⟩
    refine ⟨.ref s.heap.objs.size, _, I.laid (t' := s.toks) (o := .tup []) (fun b ob q => Heap.get?_push_of_some _ q) (Nat.le_refl _) ?_, rfl, q _ (I.hok.fresh (Nat.le_refl _))⟩
    exact ⟨Nat.zero_le _, _, .nil, IsTup.new _ _⟩
end
def gRepT2 : G2 := fun x y q => match x, y with | .tuple xs, .int k => (xs ≠ [] ∧ -1000 ≤ k ∧ k ≤ 1000 ∧ xs.length ≤ 1000) ∧ q (.tuple (List.replicate k.toNat xs).flatten) | _, _ => False
theorem o_repLow {X : Cx} : OpD X (binaryOp .Mult) (fun x y q => gRepT2 x y q ∧ ∀ k, y = .int k → k ≤ 1) := by
  refine ⟨_, op_repLow, fun F H v u x y fh bx bY q hq Q k => ?_⟩
  obtain ⟨hq, hk⟩ := hq
  unfold gRepT2 at hq
  split at hq
  · rename_i xs j
    obtain ⟨⟨h1, h2, h3, h4⟩, z⟩ := hq
    have hj := hk j rfl
    obtain ⟨p, vs, rfl, s0, s1, d1⟩ := bx.tup fh
    refine ⟨p, j, vs, rfl, bY.int, s1, fun e => h1 ?_, ?_⟩
    · subst e
      cases d1
      rfl
    · rcases Int.lt_or_le 0 j with c | c
      · have : j = 1 := by omega
        subst this
        refine .inl ⟨rfl, k _ (.tuple xs) F H (Gr.refl fh) (.tup s0 d1) ?_⟩
        simpa using z
      · refine .inr ⟨h2, c, fun p2 hp2 => ?_⟩
        have g := Gr.new (o := .tup []) fh hp2
        refine k _ (.tuple []) _ _ g (.tup (.inl (.inl upd_same)) .nil) ?_
        have e : j.toNat = 0 := by omega
        rw [e] at z
        exact z
  · exact hq.elim
theorem o_repT2 {X : Cx} : OpD X (binaryOp .Mult) gRepT2 := OpD.or o_repT o_repLow fun x y q h => by
  unfold gRepT2 at h
  split at h
  · rename_i xs j
    by_cases c : 2 ≤ j
    · exact .inl ⟨⟨h.1.1, c, h.1.2.2.1, h.1.2.2.2⟩, h.2⟩
    · exact .inr ⟨h, fun k e => by cases e; omega⟩
  · exact h.elim
end DL
namespace DL
open PySem PySem.Spec PyProof.Rows L2
/-! ### a tuple or a list -/
def sqD (t : Bool) (xs : List D) : D := if t then .tuple xs else .list xs
theorem sqD_t (xs : List D) : .tuple xs = sqD true xs := rfl
theorem sqD_l (xs : List D) : .list xs = sqD false xs := rfl
theorem seqD_sq (t : Bool) (xs : List D) : seqD (sqD t xs) = some xs := by cases t <;> rfl
theorem seqD_l (xs : List D) : seqD (.list xs) = some xs := rfl
theorem seqD_t (xs : List D) : seqD (.tuple xs) = some xs := rfl
theorem gSl_l {xs : List D} {lo hi : Option Int} {q : D → Prop} : gSl (.list xs) lo hi q = q (.list (cutD xs lo hi)) := rfl
theorem gSl_t {xs : List D} {lo hi : Option Int} {q : D → Prop} : gSl (.tuple xs) lo hi q = q (.tuple (cutD xs lo hi)) := rfl
theorem gSl_sq {t : Bool} {xs : List D} {lo hi : Option Int} {q : D → Prop} : gSl (sqD t xs) lo hi q = q (sqD t (cutD xs lo hi)) := by cases t <;> rfl
theorem gSq_l {xs : List D} {q : List D → Prop} : gSq (.list xs) q = q xs := rfl
theorem gSq_t {xs : List D} {q : List D → Prop} : gSq (.tuple xs) q = q xs := rfl
theorem gSq_sq {t : Bool} {xs : List D} {q : List D → Prop} : gSq (sqD t xs) q = q xs := by cases t <;> rfl
theorem gIx_sq {t : Bool} {xs : List D} {i : Int} {q : D → Prop} : gIx (sqD t xs) (.int i) q = gIx (.list xs) (.int i) q := by cases t <;> rfl
theorem gLen_sq {t : Bool} {xs : List D} {q : D → Prop} : gLen [sqD t xs] q = q (.int xs.length) := by cases t <;> rfl
theorem gLen_l {xs : List D} {q : D → Prop} : gLen [.list xs] q = q (.int xs.length) := rfl
theorem gLen_t {xs : List D} {q : D → Prop} : gLen [.tuple xs] q = q (.int xs.length) := rfl
theorem gLen_s {z : Str} {q : D → Prop} : gLen [.str z] q = (Fit z.length ∧ q (.int z.length)) := rfl
theorem gTuple_l {xs : List D} {q : D → Prop} : gTuple [.list xs] q = q (.tuple xs) := rfl
theorem gTuple_t {xs : List D} {q : D → Prop} : gTuple [.tuple xs] q = q (.tuple xs) := rfl
theorem lList_l {xs : List D} {q : List D → Prop} : lList [.list xs] q = q xs := rfl
theorem lList_t {xs : List D} {q : List D → Prop} : lList [.tuple xs] q = q xs := rfl
theorem gTuple_sq {t : Bool} {xs : List D} {q : D → Prop} : gTuple [sqD t xs] q = q (.tuple xs) := by cases t <;> rfl
theorem lList_sq {t : Bool} {xs : List D} {q : List D → Prop} : lList [sqD t xs] q = q xs := by cases t <;> rfl
theorem gZip_sq {t u : Bool} {xs ys : List D} {q : List D → Prop} : gZip (sqD t xs) (sqD u ys) q = q (List.zipWith twoD xs ys) := by cases t <;> cases u <;> rfl
theorem gZip_ts {u : Bool} {xs ys : List D} {q : List D → Prop} : gZip (.tuple xs) (sqD u ys) q = q (List.zipWith twoD xs ys) := by cases u <;> rfl
theorem gZip_st {u : Bool} {xs ys : List D} {q : List D → Prop} : gZip (sqD u xs) (.tuple ys) q = q (List.zipWith twoD xs ys) := by cases u <;> rfl
theorem gZip_ls {u : Bool} {xs ys : List D} {q : List D → Prop} : gZip (.list xs) (sqD u ys) q = q (List.zipWith twoD xs ys) := by cases u <;> rfl
theorem gZip_sl {u : Bool} {xs ys : List D} {q : List D → Prop} : gZip (sqD u xs) (.list ys) q = q (List.zipWith twoD xs ys) := by cases u <;> rfl
theorem gZip_tt {xs ys : List D} {q : List D → Prop} : gZip (.tuple xs) (.tuple ys) q = q (List.zipWith twoD xs ys) := rfl
theorem gZip_ll {xs ys : List D} {q : List D → Prop} : gZip (.list xs) (.list ys) q = q (List.zipWith twoD xs ys) := rfl
theorem gZip_lt {xs ys : List D} {q : List D → Prop} : gZip (.list xs) (.tuple ys) q = q (List.zipWith twoD xs ys) := rfl
theorem gZip_tl {xs ys : List D} {q : List D → Prop} : gZip (.tuple xs) (.list ys) q = q (List.zipWith twoD xs ys) := rfl
/-- both parts of a vector of 2 * n items -/
theorem cut_low {xs : List D} {n : Nat} (h : n ≤ xs.length) : cutD xs none (some (n : Int)) = xs.take n := by
  unfold cutD
  rw [HT.sIx_none, HT.sIx_nat, List.drop_zero, Nat.sub_zero, Nat.min_eq_left h]
theorem cut_high {xs : List D} {n : Nat} (h : n ≤ xs.length) : cutD xs (some (n : Int)) none = xs.drop n := by
  unfold cutD
  rw [HT.sIx_none, HT.sIx_nat, Nat.min_eq_left h, List.take_of_length_le (by simp)]
/-- str(i) of a whole number -/
def gStr1 : GA := fun xs q => match xs with | [.int i] => i.natAbs.log2 < 1920 ∧ q (.str (toString i)) | _ => False
section
variable {X : Cx}
theorem c_str : CallD X (.type "str") gStr1 := by
  refine ⟨_, call_str_int, fun F H vs xs fh bx q hq Q k => ?_⟩
  unfold gStr1 at hq
  split at hq
  · obtain ⟨v, rfl, b⟩ := bx.one
    exact ⟨_, by rw [b.int], hq.1, k _ _ F H (Gr.refl fh) (.str _) hq.2⟩
  · exact hq.elim
end
/-- (a, b, ..) = a tuple or a list -/
def rTL (n : Nat) (g : RGs) : RG := fun d ρ q => match d with | .tuple xs => xs.length = n ∧ g xs ρ q | .list xs => xs.length = n ∧ g xs ρ q | _ => False
theorem rTL_sq {n : Nat} {g : RGs} {t : Bool} {xs : List D} {ρ : Rho} {q : Rho → Prop} : rTL n g (sqD t xs) ρ q = (xs.length = n ∧ g xs ρ q) := by cases t <;> rfl
theorem rTL_t {n : Nat} {g : RGs} {xs : List D} {ρ : Rho} {q : Rho → Prop} : rTL n g (.tuple xs) ρ q = (xs.length = n ∧ g xs ρ q) := rfl
theorem rTL_l {n : Nat} {g : RGs} {xs : List D} {ρ : Rho} {q : Rho → Prop} : rTL n g (.list xs) ρ q = (xs.length = n ∧ g xs ρ q) := rfl
section
variable {X : Cx} {pos : Pos}
theorem pg_or {e : Expr} {g1 g2 : TG} (h1 : PG X e g1) (h2 : PG X e g2) : PG X e (fun v σ H Q => g1 v σ H Q ∨ g2 v σ H Q) :=
  ⟨fun pins s σ H v u Q I r hw => hw.elim (h1.run pins s σ H v u Q I r) (h2.run pins s σ H v u Q I r)⟩
theorem tg_tl {es : List Expr} {k : Nat} {dg : RGs} {n : Nat} (h : DGs X es dg) (hc : X.calm = true := by rfl)
    (hn : (assignEach es X.env).length = n := by rfl) (hst : (assignEach es X.env).findIdx? (·.1) = none := by rfl) : DG X (.Tuple es k pos) (rTL n dg) := by
  obtain ⟨g, a1, a2⟩ := h
  refine ⟨_, pg_or (pg_tup hc a1 hn hst) (pg_unl hc a1 hn hst), fun B F H ρ σ v d E r q h Q k => ?_⟩
  cases d with
  | tuple xs =>
    cases r with
    | tup hs ha => exact .inl ⟨_, _, rfl, E.fh.seqT hs, by rw [ha.length]; exact h.1, a2 B F H ρ σ _ xs E ha q h.2 Q k⟩
  | list xs =>
    cases r with
    | lst hs ha => exact .inr ⟨_, _, rfl, E.fh.seq hs, by rw [ha.length]; exact h.1, a2 B F H ρ σ _ xs E ha q h.2 Q k⟩
  | _ => exact h.elim
end
/-- text * int -/
def gMulS : G2 := fun x y q => match x, y with | .str x, .int n => (x.length ≤ 10 ∧ 0 ≤ n ∧ n ≤ 1000) ∧ q (.str (PySem.Txt.mul x n)) | _, _ => False
section
variable {X : Cx}
theorem op_mulS : OpR X (binaryOp .Mult) (fun x y H Q => ∃ i n, x = .str i ∧ y = .int n ∧ (i.length ≤ 10 ∧ 0 ≤ n ∧ n ≤ 1000) ∧ Q (.str (PySem.Txt.mul i n)) H) := by
  intro pins s σ H x y v u Q I rx ry h
  obtain ⟨i, n, rfl, rfl, hz, q⟩ := h
  obtain ⟨t, rfl⟩ := rx
  obtain ⟨t', rfl⟩ := ry
  exact PySem.SB.mul (mulOk_of 10 1000 hz.1 (by omega) (by omega) (by decide) (by decide)) (fun t' tk => ⟨.str _, H, I.tok _, ⟨_, rfl⟩, q⟩)
theorem o_mulS : OpD X (binaryOp .Mult) gMulS := by
  refine ⟨_, op_mulS, fun F H v u x y fh bx bY q hq Q k => ?_⟩
  unfold gMulS at hq
  split at hq
  · exact ⟨_, _, bx.str, bY.int, hq.1, k _ _ F H (Gr.refl fh) (.str _) hq.2⟩
  · exact hq.elim
end
theorem gMulS_s {x : Str} {n : Int} {q : D → Prop} : gMulS (.str x) (.int n) q = ((x.length ≤ 10 ∧ 0 ≤ n ∧ n ≤ 1000) ∧ q (.str (PySem.Txt.mul x n))) := rfl
theorem gStr1_i {i : Int} {q : D → Prop} : gStr1 [.int i] q = (i.natAbs.log2 < 1920 ∧ q (.str (toString i))) := rfl
theorem rp_strI {a : Int} (h : Builtin.Int.intBits a ≤ 200) : rpD (.str (toString a)) = true := by
  simp only [rpD]
  refine decide_eq_true ?_
  have e := int_text_length_le10 (a := a) (k := 300) (by decide) (Nat.lt_of_lt_of_le ((PySem.intBits_le_iff.mp h)) (by decide))
  have e2 := PySem.StrLaws.reprText_len (Str.ofString (toString a)) fun c hc => by
    rw [Str.ofString_eq_toList] at hc
    simp only [List.toList_toArray, List.mem_map] at hc
    obtain ⟨ch, _, rfl⟩ := hc
    exact ch.val.toNat_lt
  rw [PySem.ofString_length] at e2
  show (reprText (Str.ofString (toString a))).length + 2 ≤ 3700
  omega
end DL

namespace TV
/-! #### the ring -/
open Lean.Grind
local instance natI {R : Type} [CommRing R] : NatCast R := Semiring.natCast
local instance intI {R : Type} [CommRing R] : IntCast R := Ring.intCast
section
variable {R : Type} [CommRing R]
structure Q (R : Type) (v : R) where
  a : R
  b : R
theorem Q.ext' {v : R} {x y : Q R v} (h1 : x.a = y.a) (h2 : x.b = y.b) : x = y := by
  cases x; cases y; cases h1; cases h2; rfl
def Q.npow {v : R} (x : Q R v) : Nat → Q R v
  | 0 => ⟨1, 0⟩
  | n + 1 => ⟨(Q.npow x n).a * x.a + v * ((Q.npow x n).b * x.b), (Q.npow x n).a * x.b + (Q.npow x n).b * x.a⟩
instance (v : R) : CommRing (Q R v) where
  add x y := ⟨x.a + y.a, x.b + y.b⟩
  mul x y := ⟨x.a * y.a + v * (x.b * y.b), x.a * y.b + x.b * y.a⟩
  natCast := ⟨fun n => ⟨(n : R), 0⟩⟩
  ofNat n := ⟨⟨OfNat.ofNat n, 0⟩⟩
  nsmul := ⟨fun n x => ⟨(n : R) * x.a + v * (0 * x.b), (n : R) * x.b + 0 * x.a⟩⟩
  npow := ⟨Q.npow⟩
  neg x := ⟨-x.a, -x.b⟩
  sub x y := ⟨x.a - y.a, x.b - y.b⟩
  intCast := ⟨fun n => ⟨(n : R), 0⟩⟩
  zsmul := ⟨fun n x => ⟨(n : R) * x.a, (n : R) * x.b⟩⟩
  add_zero x := Q.ext' (Semiring.add_zero _) (Semiring.add_zero _)
  add_comm x y := Q.ext' (Semiring.add_comm _ _) (Semiring.add_comm _ _)
  add_assoc x y z := Q.ext' (Semiring.add_assoc _ _ _) (Semiring.add_assoc _ _ _)
  mul_assoc x y z := Q.ext' (show (x.a * y.a + v * (x.b * y.b)) * z.a + v * ((x.a * y.b + x.b * y.a) * z.b) = x.a * (y.a * z.a + v * (y.b * z.b)) + v * (x.b * (y.a * z.b + y.b * z.a)) by grind) (show (x.a * y.a + v * (x.b * y.b)) * z.b + (x.a * y.b + x.b * y.a) * z.a = x.a * (y.a * z.b + y.b * z.a) + x.b * (y.a * z.a + v * (y.b * z.b)) by grind)
  mul_one x := Q.ext' (show x.a * 1 + v * (x.b * 0) = x.a by grind) (show x.a * 0 + x.b * 1 = x.b by grind)
  one_mul x := Q.ext' (show 1 * x.a + v * (0 * x.b) = x.a by grind) (show 1 * x.b + 0 * x.a = x.b by grind)
  left_distrib x y z := Q.ext' (show x.a * (y.a + z.a) + v * (x.b * (y.b + z.b)) = (x.a * y.a + v * (x.b * y.b)) + (x.a * z.a + v * (x.b * z.b)) by grind) (show x.a * (y.b + z.b) + x.b * (y.a + z.a) = (x.a * y.b + x.b * y.a) + (x.a * z.b + x.b * z.a) by grind)
  right_distrib x y z := Q.ext' (show (x.a + y.a) * z.a + v * ((x.b + y.b) * z.b) = (x.a * z.a + v * (x.b * z.b)) + (y.a * z.a + v * (y.b * z.b)) by grind) (show (x.a + y.a) * z.b + (x.b + y.b) * z.a = (x.a * z.b + x.b * z.a) + (y.a * z.b + y.b * z.a) by grind)
  zero_mul x := Q.ext' (show 0 * x.a + v * (0 * x.b) = 0 by grind) (show 0 * x.b + 0 * x.a = 0 by grind)
  mul_zero x := Q.ext' (show x.a * 0 + v * (x.b * 0) = 0 by grind) (show x.a * 0 + x.b * 0 = 0 by grind)
  pow_zero x := rfl
  pow_succ x n := rfl
  ofNat_succ n := Q.ext' (Semiring.ofNat_succ n) (show (0 : R) = 0 + 0 by grind)
  ofNat_eq_natCast n := Q.ext' (Semiring.ofNat_eq_natCast n) rfl
  nsmul_eq_natCast_mul n x := rfl
  neg_add_cancel x := Q.ext' (Ring.neg_add_cancel _) (Ring.neg_add_cancel _)
  sub_eq_add_neg x y := Q.ext' (Ring.sub_eq_add_neg _ _) (Ring.sub_eq_add_neg _ _)
  neg_zsmul i x := Q.ext' (show ((-i : Int) : R) * x.a = -((i : R) * x.a) by rw [Ring.intCast_neg]; grind) (show ((-i : Int) : R) * x.b = -((i : R) * x.b) by rw [Ring.intCast_neg]; grind)
  zsmul_natCast_eq_nsmul n x := Q.ext' (show (((n : Int)) : R) * x.a = (n : R) * x.a + v * (0 * x.b) by rw [Ring.intCast_natCast]; grind) (show (((n : Int)) : R) * x.b = (n : R) * x.b + 0 * x.a by rw [Ring.intCast_natCast]; grind)
  intCast_ofNat n := Q.ext' (Ring.intCast_ofNat n) rfl
  intCast_neg i := Q.ext' (Ring.intCast_neg i) (show (0 : R) = -0 by grind)
  mul_comm x y := Q.ext' (show x.a * y.a + v * (x.b * y.b) = y.a * x.a + v * (y.b * x.b) by grind) (show x.a * y.b + x.b * y.a = y.a * x.b + y.b * x.a by grind)
end
/-! #### the tower: each letter the root of a vector over the letters before -/
structure Lv where
  T : Type
  R : CommRing T
  f : (Nat → Int) → T
  c : T → Nat → Int
/-- rs k j: item j of radicand k -/
def lev (rs : Nat → Nat → Int) : Nat → Lv
  | 0 => ⟨Int, inferInstance, fun g => g 0, fun t _ => t⟩
  | n + 1 => ⟨Q (lev rs n).T ((lev rs n).f (rs n)), @instCommRingQ _ (lev rs n).R _, fun g => ⟨(lev rs n).f g, (lev rs n).f fun j => g (j + 2 ^ n)⟩, fun t j => if j < 2 ^ n then (lev rs n).c t.a j else (lev rs n).c t.b (j - 2 ^ n)⟩
def T (rs : Nat → Nat → Int) (n : Nat) : Type := (lev rs n).T
instance (rs : Nat → Nat → Int) (n : Nat) : CommRing (T rs n) := (lev rs n).R
section
variable {rs : Nat → Nat → Int}
def Tf (rs : Nat → Nat → Int) (n : Nat) (g : Nat → Int) : T rs n := (lev rs n).f g
def cf {rs : Nat → Nat → Int} {n : Nat} (t : T rs n) : Nat → Int := (lev rs n).c t
def rad (rs : Nat → Nat → Int) (n : Nat) : T rs n := Tf rs n (rs n)
def mk {n : Nat} (x y : T rs n) : T rs (n + 1) := (⟨x, y⟩ : Q (T rs n) (rad rs n))
def lo {n : Nat} (x : T rs (n + 1)) : T rs n := Q.a (v := rad rs n) x
def hi {n : Nat} (x : T rs (n + 1)) : T rs n := Q.b (v := rad rs n) x
theorem mk_eta {n : Nat} (x : T rs (n + 1)) : mk (lo x) (hi x) = x := rfl
theorem lo_mk {n : Nat} (x y : T rs n) : lo (mk x y) = x := rfl
theorem hi_mk {n : Nat} (x y : T rs n) : hi (mk x y) = y := rfl
theorem mk_add {n : Nat} (a b c d : T rs n) : mk a b + mk c d = mk (a + c) (b + d) := rfl
theorem mk_sub {n : Nat} (a b c d : T rs n) : mk a b - mk c d = mk (a - c) (b - d) := rfl
theorem mk_neg {n : Nat} (a b : T rs n) : -mk a b = mk (-a) (-b) := rfl
theorem mk_mul {n : Nat} (a b c d : T rs n) : mk a b * mk c d = mk (a * c + rad rs n * (b * d)) (a * d + b * c) := rfl
theorem mk_zero {n : Nat} : (0 : T rs (n + 1)) = mk 0 0 := rfl
theorem mk_one {n : Nat} : (1 : T rs (n + 1)) = mk 1 0 := rfl
theorem mk_inj {n : Nat} {a b c d : T rs n} (h : mk a b = mk c d) : a = c ∧ b = d := ⟨congrArg lo h, congrArg hi h⟩
theorem Tf_zero (g : Nat → Int) : Tf rs 0 g = g 0 := rfl
theorem Tf_succ (n : Nat) (g : Nat → Int) : Tf rs (n + 1) g = mk (Tf rs n g) (Tf rs n fun j => g (j + 2 ^ n)) := rfl
theorem cf_zero (t : T rs 0) (j : Nat) : cf t j = t := rfl
theorem cf_mk {n : Nat} (a b : T rs n) (j : Nat) : cf (mk a b) j = if j < 2 ^ n then cf a j else cf b (j - 2 ^ n) := rfl
theorem two_pow_succ' (n : Nat) : 2 ^ (n + 1) = 2 ^ n + 2 ^ n := by rw [Nat.pow_succ]; omega
theorem Tf_congr : ∀ {n : Nat} {g h : Nat → Int}, (∀ j, j < 2 ^ n → g j = h j) → Tf rs n g = Tf rs n h
  | 0, g, h, e => e 0 (by decide)
  | n + 1, g, h, e => by
    have e2 := two_pow_succ' n
    rw [Tf_succ, Tf_succ, Tf_congr fun j hj => e j (by omega), Tf_congr (g := fun j => g (j + 2 ^ n)) (h := fun j => h (j + 2 ^ n)) fun j hj => e (j + 2 ^ n) (by omega)]
theorem cf_Tf : ∀ {n : Nat} {g : Nat → Int} {j : Nat}, j < 2 ^ n → cf (Tf rs n g) j = g j
  | 0, g, j, h => by
    have : j = 0 := by simpa using h
    subst this
    rfl
  | n + 1, g, j, h => by
    have e2 := two_pow_succ' n
    rw [Tf_succ, cf_mk]
    split
    · rename_i c; exact cf_Tf c
    · rename_i c
      rw [cf_Tf (by omega)]
      congr 1
      omega
theorem Tf_cf : ∀ {n : Nat} (t : T rs n), Tf rs n (cf t) = t
  | 0, t => rfl
  | n + 1, t => by
    rw [← mk_eta t, Tf_succ]
    generalize lo t = a
    generalize hi t = b
    have h1 : Tf rs n (cf (mk a b)) = a := by
      refine (Tf_congr (h := cf a) fun j hj => ?_).trans (Tf_cf a)
      rw [cf_mk, if_pos hj]
    have h2 : (Tf rs n fun j => cf (mk a b) (j + 2 ^ n)) = b := by
      refine (Tf_congr (h := cf b) fun j hj => ?_).trans (Tf_cf b)
      show cf (mk a b) (j + 2 ^ n) = _
      rw [cf_mk, if_neg (by omega), Nat.add_sub_cancel]
    rw [h1, h2]
theorem cf_inj {n : Nat} {s t : T rs n} (h : ∀ j, j < 2 ^ n → cf s j = cf t j) : s = t := by
  rw [← Tf_cf s, ← Tf_cf t]
  exact Tf_congr h
theorem Tf_add : ∀ {n : Nat} (g h : Nat → Int), Tf rs n (fun j => g j + h j) = Tf rs n g + Tf rs n h
  | 0, g, h => rfl
  | n + 1, g, h => by rw [Tf_succ, Tf_succ, Tf_succ, mk_add, Tf_add, Tf_add (fun j => g (j + 2 ^ n))]
theorem Tf_neg : ∀ {n : Nat} (g : Nat → Int), Tf rs n (fun j => -g j) = -Tf rs n g
  | 0, g => rfl
  | n + 1, g => by rw [Tf_succ, Tf_succ, mk_neg, Tf_neg, Tf_neg (fun j => g (j + 2 ^ n))]
theorem Tf_sub {n : Nat} (g h : Nat → Int) : Tf rs n (fun j => g j - h j) = Tf rs n g - Tf rs n h := by
  rw [Ring.sub_eq_add_neg, ← Tf_neg, ← Tf_add]
  rfl
theorem Tf_nil : ∀ {n : Nat}, Tf rs n (fun _ => 0) = 0
  | 0 => rfl
  | n + 1 => by rw [Tf_succ, mk_zero, Tf_nil]
/-- a whole number -/
def wh (rs : Nat → Nat → Int) (n : Nat) (k : Int) : T rs n := Tf rs n fun j => if j = 0 then k else 0
theorem wh_succ {n : Nat} {k : Int} : wh rs (n + 1) k = mk (wh rs n k) 0 := by
  unfold wh
  rw [Tf_succ]
  congr 1
  rw [← Tf_nil]
  refine Tf_congr fun j _ => ?_
  show (if j + 2 ^ n = 0 then k else 0) = 0
  have := Nat.two_pow_pos n
  rw [if_neg (by omega)]
theorem wh_mul : ∀ {n : Nat} (k : Int) (g : Nat → Int), Tf rs n (fun j => k * g j) = wh rs n k * Tf rs n g
  | 0, k, g => rfl
  | n + 1, k, g => by
    rw [Tf_succ, Tf_succ, wh_succ, mk_mul, wh_mul k g, wh_mul k fun j => g (j + 2 ^ n)]
    congr 1 <;> grind
theorem wh_one {n : Nat} : wh rs n 1 = 1 := by
  induction n with
  | zero => rfl
  | succ n ih => rw [wh_succ, ih, mk_one]
theorem wh_zero {n : Nat} : wh rs n 0 = 0 := by
  unfold wh
  rw [← Tf_nil]
  exact Tf_congr fun j _ => by split <;> rfl
theorem wh_add {n : Nat} (a b : Int) : wh rs n (a + b) = wh rs n a + wh rs n b := by
  unfold wh
  rw [← Tf_add]
  exact Tf_congr fun j _ => by split <;> simp
theorem wh_mm {n : Nat} (a b : Int) : wh rs n (a * b) = wh rs n a * wh rs n b := by
  show _ = wh rs n a * Tf rs n _
  rw [← wh_mul]
  exact Tf_congr fun j _ => by split <;> simp
/-! #### letters -/
def lt (rs : Nat → Nat → Int) : (n p : Nat) → T rs n
  | 0, _ => 0
  | n + 1, p => if p = n then mk 0 1 else mk (lt rs n p) 0
theorem lt_top {n : Nat} : lt rs (n + 1) n = mk 0 1 := if_pos rfl
theorem lt_low {n p : Nat} (h : p < n) : lt rs (n + 1) p = mk (lt rs n p) 0 := if_neg (Nat.ne_of_lt h)
/-- items at places with a letter, from the places without it -/
def up (p : Nat) (g : Nat → Int) : Nat → Int := fun j => if j / 2 ^ p % 2 = 1 then g (j - 2 ^ p) else 0
def dn (p : Nat) (g : Nat → Int) : Nat → Int := fun j => if j / 2 ^ p % 2 = 0 then g (j + 2 ^ p) else 0
theorem bit_shift {n p j : Nat} (h : p < n) : (j + 2 ^ n) / 2 ^ p % 2 = j / 2 ^ p % 2 := by
  have e : 2 ^ n = 2 ^ p * (2 * 2 ^ (n - p - 1)) := by
    rw [← Nat.pow_succ', ← Nat.pow_add]
    congr 1
    omega
  rw [e, Nat.add_mul_div_left _ _ (Nat.two_pow_pos p), Nat.add_mul_mod_self_left]
theorem bit_small {p j : Nat} (h : j < 2 ^ p) : j / 2 ^ p % 2 = 0 := by rw [Nat.div_eq_of_lt h]
theorem bit_high {p j : Nat} (h : j < 2 ^ p) : (j + 2 ^ p) / 2 ^ p % 2 = 1 := by rw [Nat.add_div_right _ (Nat.two_pow_pos p), Nat.div_eq_of_lt h]
/-- a vector over the letters before p, among more letters -/
theorem Tf_sup {n : Nat} {g : Nat → Int} (h : ∀ j, 2 ^ n ≤ j → g j = 0) : Tf rs (n + 1) g = mk (Tf rs n g) 0 := by
  rw [Tf_succ]
  congr 1
  rw [← Tf_nil]
  exact Tf_congr fun j _ => h _ (by omega)
theorem bit_ge {p j : Nat} (h : j / 2 ^ p % 2 = 1) : 2 ^ p ≤ j := by
  refine Nat.not_lt.mp fun c => ?_
  rw [bit_small c] at h
  omega
theorem mul_letter {p : Nat} (hr : ∀ j, 2 ^ p ≤ j → rs p j = 0) : ∀ {n : Nat} (g : Nat → Int), p < n → Tf rs n (up p g) + Tf rs n (dn p g) * Tf rs n (rs p) = Tf rs n g * lt rs n p := by
  intro n
  induction n with
  | zero => intro g h; omega
  | succ n ih =>
    intro g h
    by_cases c : p = n
    · subst c
      rw [Tf_sup hr, lt_top, Tf_succ, Tf_succ, Tf_succ, mk_mul, mk_mul, mk_add]
      have e1 : Tf rs p (up p g) = 0 := by
        rw [← Tf_nil]
        refine Tf_congr fun j hj => ?_
        unfold up
        rw [bit_small hj, if_neg (by decide)]
      have e2 : (Tf rs p fun j => up p g (j + 2 ^ p)) = Tf rs p g := Tf_congr fun j hj => by
        unfold up
        rw [bit_high hj, if_pos rfl, Nat.add_sub_cancel]
      have e3 : Tf rs p (dn p g) = Tf rs p fun j => g (j + 2 ^ p) := Tf_congr fun j hj => by
        unfold dn
        rw [bit_small hj, if_pos rfl]
      have e4 : (Tf rs p fun j => dn p g (j + 2 ^ p)) = 0 := by
        rw [← Tf_nil]
        refine Tf_congr fun j hj => ?_
        unfold dn
        rw [bit_high hj, if_neg (by decide)]
      rw [e1, e2, e3, e4]
      show mk _ _ = mk _ _
      unfold rad
      congr 1 <;> grind
    · have hp : p < n := by omega
      have hr2 : ∀ j, 2 ^ n ≤ j → rs p j = 0 := fun j hj => hr j (Nat.le_trans (Nat.pow_le_pow_right (by decide) (by omega)) hj)
      rw [Tf_sup hr2, lt_low hp, Tf_succ, Tf_succ, Tf_succ, mk_mul, mk_mul, mk_add]
      have e1 : (Tf rs n fun j => up p g (j + 2 ^ n)) = Tf rs n (up p fun j => g (j + 2 ^ n)) := Tf_congr fun j hj => by
        unfold up
        rw [bit_shift hp]
        split
        · rename_i q
          have := bit_ge q
          congr 1
          omega
        · rfl
      have e2 : (Tf rs n fun j => dn p g (j + 2 ^ n)) = Tf rs n (dn p fun j => g (j + 2 ^ n)) := Tf_congr fun j hj => by
        unfold dn
        rw [bit_shift hp]
        split
        · congr 1
          omega
        · rfl
      rw [e1, e2]
      have a1 := ih g hp
      have a2 := ih (fun j => g (j + 2 ^ n)) hp
      congr 1 <;> grind
/-- the product of the letters of a place, those below p -/
def pb (rs : Nat → Nat → Int) (n k : Nat) : Nat → T rs n
  | 0 => 1
  | p + 1 => if k / 2 ^ p % 2 = 1 then pb rs n k p * lt rs n p else pb rs n k p
theorem pb_up {n k : Nat} : ∀ {p : Nat}, p ≤ n → pb rs (n + 1) k p = mk (pb rs n k p) 0
  | 0, _ => mk_one
  | p + 1, h => by
    unfold pb
    rw [pb_up (by omega), lt_low (by omega), mk_mul]
    split
    · congr 1 <;> grind
    · rfl
theorem pb_bits {n k k' : Nat} : ∀ {p : Nat}, (∀ q, q < p → k / 2 ^ q % 2 = k' / 2 ^ q % 2) → pb rs n k p = pb rs n k' p
  | 0, _ => rfl
  | p + 1, h => by
    unfold pb
    rw [h p (by omega), pb_bits fun q hq => h q (by omega)]
theorem unit_pb : ∀ {n k : Nat} (c : Int), k < 2 ^ n → Tf rs n (fun j => if j = k then c else 0) = wh rs n c * pb rs n k n
  | 0, k, c, h => by
    have : k = 0 := by simpa using h
    subst this
    show (if 0 = 0 then c else 0) = (if 0 = 0 then c else 0) * (1 : Int)
    simp
  | n + 1, k, c, h => by
    have e2 := two_pow_succ' n
    rw [wh_succ, Tf_succ]
    unfold pb
    by_cases hk : k < 2 ^ n
    · rw [bit_small hk, if_neg (by decide), pb_up (Nat.le_refl _), mk_mul, unit_pb c hk]
      have : (Tf rs n fun j => if j + 2 ^ n = k then c else 0) = 0 := by
        rw [← Tf_nil]
        exact Tf_congr fun j _ => if_neg (by omega)
      rw [this]
      congr 1 <;> grind
    · obtain ⟨i, rfl⟩ : ∃ i, k = i + 2 ^ n := ⟨k - 2 ^ n, by omega⟩
      have hi' : i < 2 ^ n := by omega
      rw [bit_high hi', if_pos rfl, pb_up (Nat.le_refl _), lt_top, pb_bits (k' := i) fun q hq => bit_shift hq, mk_mul, mk_mul]
      have a1 : (Tf rs n fun j => if j = i + 2 ^ n then c else 0) = 0 := by
        rw [← Tf_nil]
        exact Tf_congr fun j hj => if_neg (by omega)
      have a2 : (Tf rs n fun j => if j + 2 ^ n = i + 2 ^ n then c else 0) = wh rs n c * pb rs n i n := by
        rw [← unit_pb c hi']
        refine Tf_congr fun j hj => ?_
        by_cases e : j = i
        · subst e; rw [if_pos rfl, if_pos rfl]
        · rw [if_neg e, if_neg (by omega)]
      rw [a1, a2]
      congr 1 <;> grind
end
/-! #### how great the items grow -/
section
open PySem.Builtin.Int PySem PyProof PySem.Spec PyProof.Rows L2
variable {rs : Nat → Nat → Int}
def Bd {n : Nat} (m : Nat) (t : T rs n) : Prop := ∀ j, j < 2 ^ n → intBits (cf t j) ≤ m
theorem cf_add : ∀ {n : Nat} (s t : T rs n) (j : Nat), cf (s + t) j = cf s j + cf t j
  | 0, s, t, j => rfl
  | n + 1, s, t, j => by
    rw [← mk_eta s, ← mk_eta t, mk_add, cf_mk, cf_mk, cf_mk]
    split <;> rw [cf_add]
theorem cf_neg : ∀ {n : Nat} (s : T rs n) (j : Nat), cf (-s) j = -cf s j
  | 0, s, j => rfl
  | n + 1, s, j => by
    rw [← mk_eta s, mk_neg, cf_mk, cf_mk]
    split <;> rw [cf_neg]
theorem cf_sub {n : Nat} (s t : T rs n) (j : Nat) : cf (s - t) j = cf s j - cf t j := by
  rw [Ring.sub_eq_add_neg, cf_add, cf_neg, Int.sub_eq_add_neg]
theorem Bd.lo {n m : Nat} {t : T rs (n + 1)} (h : Bd m t) : Bd m (lo t) := fun j hj => by
  have e2 := two_pow_succ' n
  have := h j (by omega)
  rwa [← mk_eta t, cf_mk, if_pos hj] at this
theorem Bd.hi {n m : Nat} {t : T rs (n + 1)} (h : Bd m t) : Bd m (hi t) := fun j hj => by
  have e2 := two_pow_succ' n
  have := h (j + 2 ^ n) (by omega)
  rwa [← mk_eta t, cf_mk, if_neg (by omega), Nat.add_sub_cancel] at this
theorem Bd.mk {n m : Nat} {a b : T rs n} (h : Bd m a) (g : Bd m b) : Bd m (mk a b) := fun j hj => by
  have e2 := two_pow_succ' n
  rw [cf_mk]
  split
  · rename_i c; exact h j c
  · exact g _ (by omega)
theorem Bd.up {n m m' : Nat} {t : T rs n} (h : Bd m t) (e : m ≤ m') : Bd m' t := fun j hj => Nat.le_trans (h j hj) e
theorem Bd.add {n m : Nat} {s t : T rs n} (h : Bd m s) (g : Bd m t) : Bd (m + 1) (s + t) := fun j hj => by
  rw [cf_add]
  have := intBits_add_le (h j hj) (g j hj)
  omega
theorem Bd.neg {n m : Nat} {s : T rs n} (h : Bd m s) : Bd m (-s) := fun j hj => by
  rw [cf_neg]
  exact intBits_neg_le (h j hj)
theorem Bd.sub {n m : Nat} {s t : T rs n} (h : Bd m s) (g : Bd m t) : Bd (m + 1) (s - t) := by
  rw [Ring.sub_eq_add_neg]
  exact h.add g.neg
def gro (r : Nat) : Nat → Nat
  | 0 => 0
  | n + 1 => 2 * gro r n + r + 1
theorem mul_bd {r : Nat} : ∀ {n : Nat}, (∀ k j, k < n → intBits (rs k j) ≤ r) → ∀ {a b : Nat} {s t : T rs n}, Bd a s → Bd b t → Bd (a + b + gro r n) (s * t)
  | 0, hr, a, b, s, t, hs, ht => fun j hj => by
    have key : ∀ x y : Int, intBits x ≤ a → intBits y ≤ b → intBits (x * y) ≤ a + b := fun x y h g => intBits_mul_le h g
    exact key s t (hs j hj) (ht j hj)
  | n + 1, hr, a, b, s, t, hs, ht => by
    have hr' : ∀ k j, k < n → intBits (rs k j) ≤ r := fun k j h => hr k j (by omega)
    have hv : Bd r (rad rs n) := fun j hj => by
      show intBits (cf (Tf rs n (rs n)) j) ≤ r
      rw [cf_Tf hj]
      exact hr n j (by omega)
    rw [← mk_eta s, ← mk_eta t, mk_mul]
    have e1 := mul_bd hr' hs.lo ht.lo
    have e2 := mul_bd hr' hs.hi ht.hi
    have e3 := mul_bd hr' hs.lo ht.hi
    have e4 := mul_bd hr' hs.hi ht.lo
    have e5 := mul_bd hr' hv e2
    have g : gro r (n + 1) = 2 * gro r n + r + 1 := rfl
    refine Bd.mk ?_ ?_
    · exact (Bd.add (e1.up (m' := a + b + 2 * gro r n + r) (by omega)) (e5.up (by omega))).up (by omega)
    · exact (Bd.add (e3.up (m' := a + b + 2 * gro r n + r) (by omega)) (e4.up (by omega))).up (by omega)
end
/-! #### as lists -/
def fn (l : List Int) : Nat → Int := fun j => l.getD j 0
section
variable {rs : Nat → Nat → Int}
def ofT {n : Nat} (t : T rs n) : List Int := (List.range (2 ^ n)).map (cf t)
def toT (rs : Nat → Nat → Int) (n : Nat) (l : List Int) : T rs n := Tf rs n (fn l)
theorem ofT_length {n : Nat} (t : T rs n) : (ofT t).length = 2 ^ n := by simp [ofT]
theorem fn_ofT {n : Nat} (t : T rs n) (j : Nat) (h : j < 2 ^ n) : fn (ofT t) j = cf t j := by
  simp [fn, ofT, h]
theorem toT_ofT {n : Nat} (t : T rs n) : toT rs n (ofT t) = t := by
  unfold toT
  rw [Tf_congr (fn_ofT t), Tf_cf]
theorem ofT_toT {n : Nat} (l : List Int) (h : l.length = 2 ^ n) : ofT (toT rs n l) = l := by
  refine List.ext_getElem (by simp [ofT, h]) fun i h1 h2 => ?_
  simp only [ofT, toT, List.getElem_map, List.getElem_range]
  rw [cf_Tf (by omega)]
  simp [fn, h2]
theorem toT_inj {n : Nat} {l m : List Int} (hl : l.length = 2 ^ n) (hm : m.length = 2 ^ n) (h : toT rs n l = toT rs n m) : l = m := by
  rw [← ofT_toT (rs := rs) l hl, h, ofT_toT m hm]
theorem ofT_get {n : Nat} (t : T rs n) (j : Nat) (h : j < 2 ^ n) : (ofT t)[j]? = some (cf t j) := by simp [ofT, h]
theorem toT_ext {n : Nat} {l : List Int} {g : Nat → Int} (h : ∀ j, j < 2 ^ n → l.getD j 0 = g j) : toT rs n l = Tf rs n g := Tf_congr h
theorem ofT_mk {n : Nat} (a b : T rs n) : ofT (mk a b) = ofT a ++ ofT b := by
  unfold ofT
  rw [two_pow_succ', List.range_add, List.map_append, List.map_map]
  congr 1
  · refine List.map_congr_left fun j hj => ?_
    rw [cf_mk, if_pos (by simpa using hj)]
  · refine List.map_congr_left fun j hj => ?_
    show cf (mk a b) (2 ^ n + j) = _
    rw [cf_mk, if_neg (by omega), Nat.add_sub_cancel_left]
theorem toT_succ {n : Nat} (l : List Int) : toT rs (n + 1) l = mk (toT rs n (l.take (2 ^ n))) (toT rs n (l.drop (2 ^ n))) := by
  unfold toT
  rw [Tf_succ]
  congr 1
  · refine Tf_congr fun j hj => ?_
    simp [fn, List.getD_eq_getElem?_getD, List.getElem?_take, hj]
  · refine Tf_congr fun j hj => ?_
    simp [fn, List.getD_eq_getElem?_getD, List.getElem?_drop, Nat.add_comm]
end
section
open PySem.Builtin.Int PySem PyProof PySem.Spec PyProof.Rows L2
variable {rs : Nat → Nat → Int}
def BdL (m : Nat) (l : List Int) : Prop := ∀ i ∈ l, intBits i ≤ m
theorem bits0 (m : Nat) : intBits 0 ≤ m := Nat.le_trans (show intBits 0 ≤ 0 by decide) (Nat.zero_le m)
theorem BdL.fn {m : Nat} {l : List Int} (h : BdL m l) (j : Nat) : intBits (fn l j) ≤ m := by
  unfold TV.fn
  rw [List.getD_eq_getElem?_getD]
  cases e : l[j]? with
  | none => exact bits0 m
  | some i => exact h i (List.mem_of_getElem? e)
theorem BdL.toT {m n : Nat} {l : List Int} (h : BdL m l) : Bd m (toT rs n l) := fun j hj => by
  unfold TV.toT
  rw [cf_Tf hj]
  exact h.fn j
theorem Bd.ofT {m n : Nat} {t : T rs n} (h : Bd m t) : BdL m (ofT t) := fun i hi => by
  unfold TV.ofT at hi
  obtain ⟨j, hj, rfl⟩ := List.mem_map.mp hi
  exact h j (by simpa using hj)
theorem BdL.up {m m' : Nat} {l : List Int} (h : BdL m l) (e : m ≤ m') : BdL m' l := fun i hi => Nat.le_trans (h i hi) e
theorem BdL.take {m k : Nat} {l : List Int} (h : BdL m l) : BdL m (l.take k) := fun i hi => h i (List.mem_of_mem_take hi)
theorem BdL.drop {m k : Nat} {l : List Int} (h : BdL m l) : BdL m (l.drop k) := fun i hi => h i (List.mem_of_mem_drop hi)
end
end TV

namespace TV
open Lean.Grind
section
variable {rs : Nat → Nat → Int}
/-! ### a weight of vectors -/
def wf {rs : Nat → Nat → Int} : {n : Nat} → T rs n → Nat
  | 0, t => (cf t 0).natAbs
  | n + 1, t => wf (lo t) + 4096 * wf (hi t)
theorem wf_mk {n : Nat} (a b : T rs n) : wf (mk a b) = wf a + 4096 * wf b := rfl
theorem wf_neg : ∀ {n : Nat} (a : T rs n), wf (-a) = wf a
  | 0, a => by show (cf (-a) 0).natAbs = (cf a 0).natAbs; rw [cf_neg, Int.natAbs_neg]
  | n + 1, a => by rw [← mk_eta a, mk_neg, wf_mk, wf_mk, wf_neg, wf_neg]
theorem wf_add : ∀ {n : Nat} (a b : T rs n), wf (a + b) ≤ wf a + wf b
  | 0, a, b => by show (cf (a + b) 0).natAbs ≤ (cf a 0).natAbs + (cf b 0).natAbs; rw [cf_add]; exact Int.natAbs_add_le _ _
  | n + 1, a, b => by
    rw [← mk_eta a, ← mk_eta b, mk_add, wf_mk, wf_mk, wf_mk]
    have h1 := wf_add (lo a) (lo b)
    have h2 := wf_add (hi a) (hi b)
    omega
theorem wf_sub {n : Nat} (a b : T rs n) : wf (a - b) ≤ wf a + wf b := by
  rw [Ring.sub_eq_add_neg]
  have := wf_add a (-b)
  rwa [wf_neg] at this
theorem wf_zero : ∀ {n : Nat}, wf (0 : T rs n) = 0
  | 0 => rfl
  | n + 1 => by rw [mk_zero, wf_mk, wf_zero]
theorem wf_one : ∀ {n : Nat}, wf (1 : T rs n) = 1
  | 0 => rfl
  | n + 1 => by rw [mk_one, wf_mk, wf_one, wf_zero]
theorem wf_mul : ∀ {n : Nat}, (∀ k, k < n → wf (rad rs k) ≤ 16777216) → ∀ a b : T rs n, wf (a * b) ≤ wf a * wf b
  | 0, _, a, b => by
    have : ∀ x y : Int, (x * y).natAbs ≤ x.natAbs * y.natAbs := fun x y => Nat.le_of_eq (Int.natAbs_mul x y)
    exact this a b
  | n + 1, h, a, b => by
    have h' : ∀ k, k < n → wf (rad rs k) ≤ 16777216 := fun k hk => h k (by omega)
    rw [← mk_eta a, ← mk_eta b, mk_mul, wf_mk, wf_mk, wf_mk]
    generalize lo a = p
    generalize hi a = q
    generalize lo b = r
    generalize hi b = s
    have e1 := Nat.le_trans (wf_add (p * r) (rad rs n * (q * s))) (Nat.add_le_add (wf_mul h' p r) (wf_mul h' (rad rs n) (q * s)))
    have e2 := Nat.le_trans (wf_add (p * s) (q * r)) (Nat.add_le_add (wf_mul h' p s) (wf_mul h' q r))
    have e3 : wf (rad rs n) * wf (q * s) ≤ 16777216 * (wf q * wf s) := Nat.mul_le_mul (h n (by omega)) (wf_mul h' q s)
    have e4 : (wf p + 4096 * wf q) * (wf r + 4096 * wf s) = wf p * wf r + 16777216 * (wf q * wf s) + 4096 * (wf p * wf s + wf q * wf r) := by grind
    omega
theorem cf_le : ∀ {n : Nat} (t : T rs n) (j : Nat), j < 2 ^ n → (cf t j).natAbs ≤ wf t
  | 0, t, j, h => by
    have : j = 0 := by simpa using h
    subst this
    exact Nat.le_refl _
  | n + 1, t, j, h => by
    have e2 := two_pow_succ' n
    rw [← mk_eta t, cf_mk, wf_mk]
    split
    · rename_i c; have := cf_le (lo t) j c; omega
    · have := cf_le (hi t) (j - 2 ^ n) (by omega); omega
theorem wf_small : ∀ {n : Nat} {B : Nat} (t : T rs n), (∀ j, j < 2 ^ n → (cf t j).natAbs ≤ B) → wf t ≤ B * 4097 ^ n
  | 0, B, t, h => by
    have := h 0 (by decide)
    show (cf t 0).natAbs ≤ B * 1
    omega
  | n + 1, B, t, h => by
    have e2 := two_pow_succ' n
    rw [← mk_eta t] at h ⊢
    rw [wf_mk]
    have h1 := wf_small (B := B) (lo t) fun j hj => by have := h j (by omega); rwa [cf_mk, if_pos hj] at this
    have h2 := wf_small (B := B) (hi t) fun j hj => by have := h (j + 2 ^ n) (by omega); rwa [cf_mk, if_neg (by omega), Nat.add_sub_cancel] at this
    rw [Nat.pow_succ, ← Nat.mul_assoc]
    omega
theorem wf_eq_zero : ∀ {n : Nat} {t : T rs n}, wf t = 0 → t = 0 := fun {n t} h => cf_inj fun j hj => by
  have h1 := cf_le t j hj
  have h2 := cf_le (0 : T rs n) j hj
  rw [wf_zero] at h2
  omega
open PySem PySem.Builtin.Int PyProof PyProof.Rows L2 in
theorem wf_bd {n m : Nat} {t : T rs n} (h : wf t < 2 ^ m) : Bd m t := fun j hj => intBits_le_iff.mpr (Nat.lt_of_le_of_lt (cf_le t j hj) h)
/-! ### no square, no divisors of zero -/
def Dom (rs : Nat → Nat → Int) (n : Nat) : Prop := ∀ x y : T rs n, x * y = 0 → x = 0 ∨ y = 0
def NS {n : Nat} (v : T rs n) : Prop := ∀ x y : T rs n, x * x = v * (y * y) → y = 0
def nm {n : Nat} (x : T rs (n + 1)) : T rs n := lo x * lo x - rad rs n * (hi x * hi x)
theorem nm_mk {n : Nat} (a b : T rs n) : nm (mk a b) = a * a - rad rs n * (b * b) := rfl
theorem nm_mul {n : Nat} (x y : T rs (n + 1)) : nm (x * y) = nm x * nm y := by
  rw [← mk_eta x, ← mk_eta y, mk_mul, nm_mk, nm_mk, nm_mk]
  grind
def cj {n : Nat} (x : T rs (n + 1)) : T rs (n + 1) := mk (lo x) (-hi x)
theorem mul_cj {n : Nat} (x : T rs (n + 1)) : x * cj x = mk (nm x) 0 := by
  rw [← mk_eta x]
  show mk (lo x) (hi x) * mk (lo x) (-hi x) = mk (nm (mk (lo x) (hi x))) 0
  rw [mk_mul, nm_mk]
  congr 1 <;> grind
theorem dom_zero : Dom rs 0 := fun x y h => by
  have : ∀ a b : Int, a * b = 0 → a = 0 ∨ b = 0 := fun a b h => Int.mul_eq_zero.mp h
  exact this x y h
theorem Dom.sq {n : Nat} (h : Dom rs n) {x : T rs n} (e : x * x = 0) : x = 0 := (h x x e).elim id id
theorem nm_zero {n : Nat} (hd : Dom rs n) (hv : NS (rad rs n)) {x : T rs (n + 1)} (h : nm x = 0) : x = 0 := by
  have e1 : lo x * lo x = rad rs n * (hi x * hi x) := by
    have : lo x * lo x - rad rs n * (hi x * hi x) = 0 := h
    grind
  have e2 := hv _ _ e1
  rw [e2] at e1
  have e3 : lo x * lo x = 0 := by rw [e1]; grind
  have e4 := hd.sq e3
  rw [← mk_eta x, e2, e4, mk_zero]
theorem dom_succ {n : Nat} (hd : Dom rs n) (hv : NS (rad rs n)) : Dom rs (n + 1) := fun x y h => by
  have e : mk (nm x) 0 * y = 0 := by
    rw [← mul_cj]
    have : x * cj x * y = cj x * (x * y) := by grind
    rw [this, h]
    grind
  rw [← mk_eta y, mk_mul, mk_zero] at e
  obtain ⟨e1, e2⟩ := mk_inj e
  have e1 : nm x * lo y = 0 := by grind
  have e2 : nm x * hi y = 0 := by grind
  by_cases c : nm x = 0
  · exact .inl (nm_zero hd hv c)
  · refine .inr ?_
    have h1 := (hd _ _ e1).resolve_left c
    have h2 := (hd _ _ e2).resolve_left c
    rw [← mk_eta y, h1, h2, mk_zero]
theorem two_zero {n : Nat} {x : T rs n} (h : x + x = 0) : x = 0 := cf_inj fun j hj => by
  have := congrArg (fun t => cf t j) h
  simp only [cf_add] at this
  have z : cf (0 : T rs n) j = 0 := by
    have := cf_le (0 : T rs n) j hj
    rw [wf_zero] at this
    omega
  omega
theorem ns_norm {n : Nat} (hd : Dom rs n) (hv : NS (rad rs n)) {v : T rs (n + 1)} (h : NS (nm v)) : NS v := fun x y e => by
  have e1 : nm x * nm x = nm v * (nm y * nm y) := by rw [← nm_mul, e, nm_mul, nm_mul]
  exact nm_zero hd hv (h _ _ e1)
theorem ns_low {n : Nat} (hd : Dom rs n) (hv : NS (rad rs n)) {v : T rs n} (h1 : NS v) (h2 : NS (v * rad rs n)) : NS (mk v 0 : T rs (n + 1)) := fun x y e => by
  have e1 : (x * cj y) * (x * cj y) = mk (v * (nm y * nm y)) 0 := by
    have e2 : (x * cj y) * (x * cj y) = mk v 0 * ((y * cj y) * (y * cj y)) := by
      have : (x * cj y) * (x * cj y) = (x * x) * (cj y * cj y) := by grind
      rw [this, e]
      grind
    rw [e2, mul_cj, mk_mul, mk_mul]
    congr 1 <;> grind
  generalize x * cj y = p at e1
  rw [← mk_eta p, mk_mul] at e1
  obtain ⟨e2, e3⟩ := mk_inj e1
  have e4 : lo p * hi p = 0 := two_zero (by grind)
  refine nm_zero hd hv ?_
  rcases hd _ _ e4 with c | c
  · rw [c] at e2
    refine h2 (rad rs n * hi p) _ ?_
    have : rad rs n * (hi p * hi p) = v * (nm y * nm y) := by grind
    grind
  · rw [c] at e2
    exact h1 (lo p) _ (by grind)
theorem ns_sq {n : Nat} (hd : Dom rs n) {v s : T rs n} (hs : s ≠ 0) (h : NS v) : NS (v * (s * s)) := fun x y e => by
  have := h x (s * y) (by rw [e]; grind)
  exact (hd _ _ this).resolve_left hs
theorem wh_ne {n : Nat} {k : Int} (h : k ≠ 0) : wh rs n k ≠ 0 := fun e => by
  have this : cf (wh rs n k) 0 = cf (0 : T rs n) 0 := congrArg (fun t => cf t 0) e
  have hp := Nat.two_pow_pos n
  unfold wh at this
  rw [cf_Tf hp, if_pos rfl] at this
  have z := cf_le (0 : T rs n) 0 hp
  rw [wf_zero] at z
  omega
/-! ### whole numbers without a root -/
theorem int_sq {c x y : Int} (h : x * x = c * (y * y)) (hy : y ≠ 0) : ∃ z : Nat, c = (z * z : Nat) := by
  have hc : 0 ≤ c := by
    refine Int.not_lt.mp fun hc => ?_
    have h1 : 0 ≤ x * x := by
      rcases Int.le_total 0 x with q | q
      · exact Int.mul_nonneg q q
      · exact Int.mul_nonneg_of_nonpos_of_nonpos q q
    have h2 : 0 < y * y := by
      rcases Int.lt_or_gt_of_ne hy with q | q
      · exact Int.mul_pos_of_neg_of_neg q q
      · exact Int.mul_pos q q
    have := Int.mul_neg_of_neg_of_pos hc h2
    omega
  obtain ⟨c', rfl⟩ := Int.eq_ofNat_of_zero_le hc
  have h1 : x.natAbs * x.natAbs = c' * (y.natAbs * y.natAbs) := by
    have := congrArg Int.natAbs h
    rwa [Int.natAbs_mul, Int.natAbs_mul, Int.natAbs_mul, Int.natAbs_natCast] at this
  generalize x.natAbs = a at h1
  have hb : 0 < y.natAbs := by omega
  generalize y.natAbs = b at h1 hb
  obtain ⟨g, a', b', hg, hcop, rfl, rfl⟩ := Nat.exists_coprime' (m := a) (n := b) (Nat.gcd_pos_of_pos_right _ hb)
  have h2 : a' * a' = c' * (b' * b') := by
    have e : a' * g * (a' * g) = a' * a' * (g * g) := by grind
    have e' : c' * (b' * g * (b' * g)) = c' * (b' * b') * (g * g) := by grind
    rw [e, e'] at h1
    exact Nat.eq_of_mul_eq_mul_right (Nat.mul_pos hg hg) h1
  have h3 : b' ∣ a' * a' := ⟨c' * b', by rw [h2]; grind⟩
  have h4 : b' ∣ a' := Nat.Coprime.dvd_of_dvd_mul_left hcop.symm h3
  have h5 : b' = 1 := Nat.Coprime.eq_one_of_dvd hcop.symm h4
  subst h5
  exact ⟨a', by simp at h2; rw [h2]⟩
open PySem in
def sqB (c : Int) : Bool := decide (0 ≤ c) && Float64.isqrt c.toNat * Float64.isqrt c.toNat == c.toNat
theorem ns_zero {c : Int} (h : sqB c = false) : NS (wh rs 0 c) := fun x y e => by
  have key : ∀ x y : Int, x * x = c * (y * y) → y = 0 := fun x y e => by
    refine Decidable.byContradiction fun hy => ?_
    obtain ⟨z, rfl⟩ := int_sq e hy
    have h1 : DL.IsRoot (z * z) z := ⟨Nat.le_refl _, by rw [Nat.add_mul, Nat.mul_add]; omega⟩
    have h2 := (DL.isqrt_root (z * z)).uniq h1
    unfold sqB at h
    rw [Int.toNat_natCast, h2, decide_eq_true (Int.natCast_nonneg _)] at h
    simp at h
  exact key x y e
/-! ### rows of radicands -/
def Pr (rs : Nat → Nat → Int) (n : Nat) : Prop := ∀ k, k < n → NS (rad rs k)
theorem Pr.dom : ∀ {n : Nat}, Pr rs n → Dom rs n
  | 0, _ => dom_zero
  | n + 1, h => dom_succ (Pr.dom fun k hk => h k (by omega)) (h n (by omega))
theorem Pr.low {n m : Nat} (h : Pr rs n) (e : m ≤ n) : Pr rs m := fun k hk => h k (by omega)
theorem wh_sub {n : Nat} (a b : Int) : wh rs n (a - b) = wh rs n a - wh rs n b := by
  have : wh rs n (a - b) + wh rs n b = wh rs n a := by rw [← wh_add]; congr 1; omega
  grind
theorem rad_wh {k : Nat} {c : Int} (h : ∀ j, j < 2 ^ k → rs k j = if j = 0 then c else 0) : rad rs k = wh rs k c := Tf_congr h
theorem rad_succ {k : Nat} (g h : Nat → Int) (e1 : ∀ j, j < 2 ^ k → rs (k + 1) j = g j) (e2 : ∀ j, j < 2 ^ k → rs (k + 1) (j + 2 ^ k) = h j) : rad rs (k + 1) = mk (Tf rs k g) (Tf rs k h) := by
  unfold rad
  rw [Tf_succ, Tf_congr e1, Tf_congr e2]
/-- 2, 2 + r0, 2 + r1, .. -/
theorem pr_tower {n : Nat} (h : ∀ k j, k < n → j < 2 ^ k → rs k j = if j = 0 then 2 else if 0 < k ∧ j = 2 ^ (k - 1) then 1 else 0) : Pr rs n := by
  have r0 : 0 < n → rad rs 0 = wh rs 0 2 := fun hn => rad_wh fun j hj => by
    have : j = 0 := by simpa using hj
    subst this
    rw [h 0 0 hn hj]
    rfl
  have r1 : ∀ k, k + 1 < n → rad rs (k + 1) = mk (wh rs k 2) 1 := fun k hk => by
    have e2 := two_pow_succ' k
    have hp := Nat.two_pow_pos k
    rw [← wh_one]
    refine rad_succ _ _ (fun j hj => ?_) fun j hj => ?_
    · rw [h (k + 1) j hk (by omega), Nat.add_sub_cancel]
      by_cases c : j = 0
      · rw [if_pos c, if_pos c]
      · rw [if_neg c, if_neg c, if_neg (by omega)]
    · rw [h (k + 1) _ hk (by omega), Nat.add_sub_cancel, if_neg (by omega)]
      by_cases c : j = 0
      · rw [if_pos c, if_pos ⟨by omega, by omega⟩]
      · rw [if_neg c, if_neg (by omega)]
  have d0 : (wh rs 0 4 - wh rs 0 2 : T rs 0) = wh rs 0 2 := by rw [← wh_sub]; rfl
  have n2 : NS (wh rs 0 2) := ns_zero (by decide +kernel)
  have key : ∀ k, k < n → Pr rs (k + 1) ∧ NS (wh rs k 4 - rad rs k) := by
    intro k
    induction k with
    | zero =>
      intro hk
      refine ⟨fun i hi => ?_, ?_⟩
      · have : i = 0 := by omega
        subst this
        rw [r0 hk]
        exact n2
      · rw [r0 hk, d0]
        exact n2
    | succ k ih =>
      intro hk
      obtain ⟨p1, p2⟩ := ih (by omega)
      have dk := (p1.low (m := k) (by omega)).dom
      have nk := p1 k (by omega)
      have e4 : wh rs k 4 = wh rs k 2 * wh rs k 2 := by rw [← wh_mm]; rfl
      have a1 : NS (mk (wh rs k 2) 1 : T rs (k + 1)) := ns_norm dk nk (by
        rw [nm_mk]
        have : wh rs k 2 * wh rs k 2 - rad rs k * (1 * 1) = wh rs k 4 - rad rs k := by rw [e4]; grind
        rw [this]
        exact p2)
      have a2 : NS (mk (wh rs k 2) (-1) : T rs (k + 1)) := ns_norm dk nk (by
        rw [nm_mk]
        have : wh rs k 2 * wh rs k 2 - rad rs k * (-1 * -1) = wh rs k 4 - rad rs k := by rw [e4]; grind
        rw [this]
        exact p2)
      refine ⟨fun i hi => ?_, ?_⟩
      · by_cases c : i = k + 1
        · subst c
          rw [r1 k hk]
          exact a1
        · exact p1 i (by omega)
      · rw [r1 k hk, wh_succ, mk_sub]
        have : (wh rs k 4 - wh rs k 2 : T rs k) = wh rs k 2 := by rw [← wh_sub]; rfl
        rw [this, show (0 : T rs k) - 1 = -1 by grind]
        exact a2
  intro k hk
  exact (key k hk).1 k (by omega)
/-- a whole number, over roots of whole numbers -/
def nsF (f : Nat → Int) : Nat → Int → Bool
  | 0, c => !sqB c
  | n + 1, c => nsF f n c && nsF f n (c * f n)
theorem ns_whole {f s : Nat → Int} : ∀ {n : Nat} {c : Int}, (∀ k, k < n → rad rs k = wh rs k (f k * (s k * s k)) ∧ s k ≠ 0) → Pr rs n → nsF f n c = true → NS (wh rs n c)
  | 0, c, _, _, h => ns_zero (by simpa [nsF] using h)
  | n + 1, c, hr, hp, h => by
    have hp' : Pr rs n := hp.low (by omega)
    have hr' : ∀ k, k < n → rad rs k = wh rs k (f k * (s k * s k)) ∧ s k ≠ 0 := fun k hk => hr k (by omega)
    simp only [nsF, Bool.and_eq_true] at h
    rw [wh_succ]
    refine ns_low hp'.dom (hp n (by omega)) (ns_whole hr' hp' h.1) ?_
    rw [(hr n (by omega)).1, ← wh_mm, show c * (f n * (s n * s n)) = (c * f n) * (s n * s n) by grind, wh_mm, wh_mm (s n)]
    exact ns_sq hp'.dom (wh_ne (hr n (by omega)).2) (ns_whole hr' hp' h.2)
theorem pr_const {f s : Nat → Int} : ∀ {n : Nat}, (∀ k j, k < n → j < 2 ^ k → rs k j = if j = 0 then f k * (s k * s k) else 0) → (∀ k, k < n → s k ≠ 0) → (∀ k, k < n → nsF f k (f k) = true) → Pr rs n
  | 0, _, _, _ => fun k hk => by omega
  | n + 1, h, hs, hn => by
    have hp := pr_const (n := n) (fun k j hk => h k j (by omega)) (fun k hk => hs k (by omega)) fun k hk => hn k (by omega)
    have hr : ∀ k, k < n + 1 → rad rs k = wh rs k (f k * (s k * s k)) := fun k hk => rad_wh fun j hj => h k j hk hj
    intro k hk
    by_cases c : k = n
    · subst c
      rw [hr k (by omega), wh_mm, wh_mm (s k)]
      exact ns_sq hp.dom (wh_ne (hs k (by omega))) (ns_whole (fun i hi => ⟨hr i (by omega), hs i (by omega)⟩) hp (hn k (by omega)))
    · exact hp k (by omega)
/-- .. over the roots of p, of a + b * (the first one), and of whole numbers -/
def nsP (p : Int) (f : Nat → Int) : Nat → Int → Bool
  | 0, c => decide (c ≠ 0) && !sqB c && !sqB (c * p)
  | n + 1, c => nsP p f n c && nsP p f n (c * f (n + 2))
theorem ns_pair {p a b : Int} {f s : Nat → Int} (h0 : rad rs 0 = wh rs 0 p) (h1 : rad rs 1 = mk (wh rs 0 a) (wh rs 0 b)) (hp0 : sqB p = false) (hab : sqB (a * a - p * (b * b)) = false) :
    ∀ {n : Nat} {c : Int}, (∀ k, k < n → rad rs (k + 2) = wh rs (k + 2) (f (k + 2) * (s (k + 2) * s (k + 2))) ∧ s (k + 2) ≠ 0) → Pr rs (n + 2) → nsP p f n c = true → NS (wh rs (n + 2) c)
  | 0, c, _, hp, h => by
    simp only [nsP, Bool.and_eq_true, Bool.not_eq_true', decide_eq_true_eq] at h
    have d1 : Dom rs 1 := (hp.low (m := 1) (by omega)).dom
    rw [wh_succ]
    refine ns_low d1 (hp 1 (by omega)) ?_ ?_
    · rw [wh_succ]
      refine ns_low dom_zero (hp 0 (by omega)) (ns_zero h.1.2) ?_
      rw [h0, ← wh_mm]
      exact ns_zero h.2
    · refine ns_norm dom_zero (hp 0 (by omega)) ?_
      rw [nm_mul, wh_succ, h1, nm_mk, nm_mk, h0]
      have e : (wh rs 0 c * wh rs 0 c - wh rs 0 p * (0 * 0)) * (wh rs 0 a * wh rs 0 a - wh rs 0 p * (wh rs 0 b * wh rs 0 b)) = wh rs 0 (a * a - p * (b * b)) * (wh rs 0 c * wh rs 0 c) := by
        rw [wh_sub, wh_mm, wh_mm, wh_mm]
        grind
      rw [e]
      exact ns_sq dom_zero (wh_ne h.1.1) (ns_zero hab)
  | n + 1, c, hr, hp, h => by
    have hp' : Pr rs (n + 2) := hp.low (by omega)
    have hr' : ∀ k, k < n → rad rs (k + 2) = wh rs (k + 2) (f (k + 2) * (s (k + 2) * s (k + 2))) ∧ s (k + 2) ≠ 0 := fun k hk => hr k (by omega)
    simp only [nsP, Bool.and_eq_true] at h
    rw [wh_succ]
    refine ns_low hp'.dom (hp (n + 2) (by omega)) (ns_pair h0 h1 hp0 hab hr' hp' h.1) ?_
    rw [(hr n (by omega)).1, ← wh_mm, show c * (f (n + 2) * (s (n + 2) * s (n + 2))) = (c * f (n + 2)) * (s (n + 2) * s (n + 2)) by grind, wh_mm, wh_mm (s (n + 2))]
    exact ns_sq hp'.dom (wh_ne (hr n (by omega)).2) (ns_pair h0 h1 hp0 hab hr' hp' h.2)
theorem pr_pair {p a b : Int} {f s : Nat → Int} (hp0 : sqB p = false) (hab : sqB (a * a - p * (b * b)) = false) :
    ∀ {n : Nat}, (∀ k j, k < n → j < 2 ^ k → rs k j = if k = 0 then p else if k = 1 then (if j = 0 then a else b) else if j = 0 then f k * (s k * s k) else 0) → (∀ k, k < n → s k ≠ 0) → (∀ k, k + 2 < n → nsP p f k (f (k + 2)) = true) → Pr rs n
  | 0, _, _, _ => fun k hk => by omega
  | n + 1, h, hs, hn => by
    have hp := pr_pair hp0 hab (n := n) (fun k j hk => h k j (by omega)) (fun k hk => hs k (by omega)) fun k hk => hn k (by omega)
    have h0 : rad rs 0 = wh rs 0 p := rad_wh fun j hj => by
      have : j = 0 := by simpa using hj
      subst this
      rw [h 0 0 (by omega) hj]
      rfl
    have h1 : 1 < n + 1 → rad rs 1 = mk (wh rs 0 a) (wh rs 0 b) := fun hn => rad_succ _ _ (fun j hj => by
      have : j = 0 := by simpa using hj
      subst this
      rw [h 1 0 hn (by decide)]
      rfl) fun j hj => by
      have : j = 0 := by simpa using hj
      subst this
      rw [h 1 _ hn (by decide)]
      rfl
    have hr : ∀ k, k + 2 < n + 1 → rad rs (k + 2) = wh rs (k + 2) (f (k + 2) * (s (k + 2) * s (k + 2))) := fun k hk => rad_wh fun j hj => by
      rw [h (k + 2) j hk hj, if_neg (by omega), if_neg (by omega)]
    intro k hk
    by_cases c : k = n
    · subst c
      match k, hk, hp with
      | 0, _, _ => rw [h0]; exact ns_zero hp0
      | 1, hk, hp =>
        rw [h1 (by omega)]
        refine ns_norm dom_zero (hp 0 (by omega)) ?_
        rw [nm_mk, h0, ← wh_mm, ← wh_mm, ← wh_mm, ← wh_sub]
        exact ns_zero hab
      | k + 2, hk, hp =>
        rw [hr k (by omega), wh_mm, wh_mm (s (k + 2))]
        exact ns_sq hp.dom (wh_ne (hs (k + 2) (by omega))) (ns_pair h0 (h1 (by omega)) hp0 hab (fun i hi => ⟨hr i (by omega), hs (i + 2) (by omega)⟩) hp (hn k (by omega)))
    · exact hp k (by omega)
/-! ### inverses -/
open Classical in
noncomputable def invT : {n : Nat} → T rs n → T rs n × Int
  | 0, x => (1, cf x 0)
  | _ + 1, x => if hi x = 0 then (mk (invT (lo x)).1 0, (invT (lo x)).2) else (mk (lo x * (invT (nm x)).1) (-(hi x * (invT (nm x)).1)), (invT (nm x)).2)
theorem invT_flat {n : Nat} {x : T rs (n + 1)} (h : hi x = 0) : invT x = (mk (invT (lo x)).1 0, (invT (lo x)).2) := if_pos h
theorem invT_steep {n : Nat} {x : T rs (n + 1)} (h : hi x ≠ 0) : invT x = (mk (lo x * (invT (nm x)).1) (-(hi x * (invT (nm x)).1)), (invT (nm x)).2) := if_neg h
theorem inv_mul : ∀ {n : Nat} (x : T rs n), x * (invT x).1 = wh rs n (invT x).2
  | 0, x => by
    show x * 1 = wh rs 0 (cf x 0)
    have : wh rs 0 (cf x 0) = x := rfl
    rw [this]
    grind
  | n + 1, x => by
    by_cases h : hi x = 0
    · rw [invT_flat h, wh_succ, ← inv_mul (lo x)]
      conv => lhs; rw [← mk_eta x]
      rw [h]
      show mk (lo x) 0 * mk (invT (lo x)).1 0 = _
      rw [mk_mul]
      congr 1 <;> grind
    · rw [invT_steep h, wh_succ, ← inv_mul (nm x)]
      conv => lhs; rw [← mk_eta x]
      show mk (lo x) (hi x) * mk (lo x * (invT (nm x)).1) (-(hi x * (invT (nm x)).1)) = mk (nm x * (invT (nm x)).1) 0
      rw [mk_mul]
      generalize (invT (nm x)).1 = o
      show _ = mk ((lo x * lo x - rad rs n * (hi x * hi x)) * o) 0
      congr 1 <;> grind
theorem inv_ne : ∀ {n : Nat}, Pr rs n → ∀ {x : T rs n}, x ≠ 0 → (invT x).2 ≠ 0
  | 0, _, x, h => fun e => h (cf_inj fun j hj => by
    have : j = 0 := by simpa using hj
    subst this
    exact e)
  | n + 1, hp, x, h => by
    have hp' : Pr rs n := hp.low (by omega)
    by_cases c : hi x = 0
    · rw [invT_flat c]
      refine inv_ne hp' fun e => h ?_
      rw [← mk_eta x, e, c, mk_zero]
    · rw [invT_steep c]
      exact inv_ne hp' fun e => h (nm_zero hp'.dom (hp n (by omega)) e)
theorem nm_wf {n : Nat} (hw : ∀ k, k < n + 1 → wf (rad rs k) ≤ 16777216) (x : T rs (n + 1)) : wf (nm x) ≤ wf x * wf x := by
  have hw' : ∀ k, k < n → wf (rad rs k) ≤ 16777216 := fun k hk => hw k (by omega)
  have e1 := wf_sub (lo x * lo x) (rad rs n * (hi x * hi x))
  have e2 := wf_mul hw' (lo x) (lo x)
  have e3 := wf_mul hw' (rad rs n) (hi x * hi x)
  have e4 : wf (rad rs n) * wf (hi x * hi x) ≤ 16777216 * (wf (hi x) * wf (hi x)) := Nat.mul_le_mul (hw n (by omega)) (wf_mul hw' (hi x) (hi x))
  have e5 : wf x * wf x = (wf (lo x) + 4096 * wf (hi x)) * (wf (lo x) + 4096 * wf (hi x)) := rfl
  have e6 : (wf (lo x) + 4096 * wf (hi x)) * (wf (lo x) + 4096 * wf (hi x)) = wf (lo x) * wf (lo x) + 16777216 * (wf (hi x) * wf (hi x)) + 8192 * (wf (lo x) * wf (hi x)) := by grind
  have e7 : wf (nm x) ≤ wf (lo x * lo x) + wf (rad rs n * (hi x * hi x)) := e1
  omega
theorem pow_sq (M k : Nat) : (M * M) ^ k = M ^ (2 * k) := by rw [Nat.pow_mul, Nat.pow_two]
theorem inv_wf : ∀ {n : Nat}, (∀ k, k < n → wf (rad rs k) ≤ 16777216) → ∀ {M : Nat} {x : T rs n}, 1 ≤ M → wf x ≤ M → wf (invT x).1 * M ≤ M ^ 2 ^ n ∧ (invT x).2.natAbs ≤ M ^ 2 ^ n
  | 0, _, M, x, hM, h => by
    show wf (1 : T rs 0) * M ≤ M ^ 1 ∧ (cf x 0).natAbs ≤ M ^ 1
    rw [wf_one, Nat.pow_one]
    exact ⟨by omega, by have : wf x = (cf x 0).natAbs := rfl; omega⟩
  | n + 1, hw, M, x, hM, h => by
    have hw' : ∀ k, k < n → wf (rad rs k) ≤ 16777216 := fun k hk => hw k (by omega)
    have hx : wf x = wf (lo x) + 4096 * wf (hi x) := rfl
    by_cases c : hi x = 0
    · rw [invT_flat c]
      obtain ⟨h1, h2⟩ := inv_wf hw' (M := M) (x := lo x) hM (by omega)
      have h3 : M ^ 2 ^ n ≤ M ^ 2 ^ (n + 1) := Nat.pow_le_pow_right hM (Nat.pow_le_pow_right (by decide) (by omega))
      refine ⟨?_, Nat.le_trans h2 h3⟩
      show wf (mk (invT (lo x)).1 0) * M ≤ _
      rw [wf_mk, wf_zero]
      exact Nat.le_trans h1 h3
    · rw [invT_steep c]
      have hn := Nat.le_trans (nm_wf hw x) (Nat.mul_le_mul h h)
      obtain ⟨h1, h2⟩ := inv_wf hw' (M := M * M) (x := nm x) (Nat.mul_pos hM hM) hn
      rw [pow_sq, ← Nat.pow_succ'] at h1 h2
      refine ⟨?_, h2⟩
      show wf (mk (lo x * (invT (nm x)).1) (-(hi x * (invT (nm x)).1))) * M ≤ _
      rw [wf_mk, wf_neg]
      have e1 := wf_mul hw' (lo x) (invT (nm x)).1
      have e2 := wf_mul hw' (hi x) (invT (nm x)).1
      generalize wf (invT (nm x)).1 = o at *
      have e3 : wf (lo x) * o + 4096 * (wf (hi x) * o) ≤ M * o := by
        have : wf (lo x) * o + 4096 * (wf (hi x) * o) = wf x * o := by rw [hx]; grind
        rw [this]
        exact Nat.mul_le_mul_right _ h
      have e4 : (wf (lo x * (invT (nm x)).1) + 4096 * wf (hi x * (invT (nm x)).1)) ≤ M * o := by omega
      refine Nat.le_trans (Nat.mul_le_mul_right M e4) ?_
      have : M * o * M = o * (M * M) := by grind
      rw [this]
      exact h1
end
end TV
namespace TV
open Lean.Grind
section
variable {rs : Nat → Nat → Int}
theorem wf_wh : ∀ {n : Nat} (c : Int), wf (wh rs n c) = c.natAbs
  | 0, c => rfl
  | n + 1, c => by rw [wh_succ, wf_mk, wf_zero, wf_wh c]; omega
theorem rad_tower {n : Nat} (h : ∀ k j, k < n → j < 2 ^ k → rs k j = if j = 0 then 2 else if 0 < k ∧ j = 2 ^ (k - 1) then 1 else 0) : ∀ k, k < n → wf (rad rs k) ≤ 16777216
  | 0, hn => by
    have r0 : rad rs 0 = wh rs 0 2 := rad_wh fun j hj => by
      have : j = 0 := by simpa using hj
      subst this
      rw [h 0 0 hn hj]
      rfl
    rw [r0, wf_wh]
    decide
  | k + 1, hk => by
    have e2 := two_pow_succ' k
    have hp := Nat.two_pow_pos k
    have : rad rs (k + 1) = mk (wh rs k 2) (wh rs k 1) := by
      refine rad_succ _ _ (fun j hj => ?_) fun j hj => ?_
      · rw [h (k + 1) j hk (by omega), Nat.add_sub_cancel]
        by_cases c : j = 0
        · rw [if_pos c, if_pos c]
        · rw [if_neg c, if_neg c, if_neg (by omega)]
      · rw [h (k + 1) _ hk (by omega), Nat.add_sub_cancel, if_neg (by omega)]
        by_cases c : j = 0
        · rw [if_pos c, if_pos ⟨by omega, by omega⟩]
        · rw [if_neg c, if_neg (by omega)]
    rw [this, wf_mk, wf_wh, wf_wh]
    decide
end
end TV
namespace TV
open Lean.Grind
section
variable {rs : Nat → Nat → Int}
/-! ### norms -/
def Nn {rs : Nat → Nat → Int} : {n : Nat} → T rs n → Int
  | 0, x => cf x 0
  | _ + 1, x => Nn (nm x)
theorem Nn_succ {n : Nat} (x : T rs (n + 1)) : Nn x = Nn (nm x) := rfl
theorem Nn_mul : ∀ {n : Nat} (x y : T rs n), Nn (x * y) = Nn x * Nn y
  | 0, x, y => rfl
  | n + 1, x, y => by rw [Nn_succ, nm_mul, Nn_mul, ← Nn_succ, ← Nn_succ]
theorem nm_wh {n : Nat} (c : Int) : nm (wh rs (n + 1) c) = wh rs n (c * c) := by
  rw [wh_succ, nm_mk, wh_mm]
  grind
theorem ipow_sq (c : Int) (k : Nat) : (c * c) ^ k = c ^ (2 * k) := by
  induction k with
  | zero => rw [Int.pow_zero, Nat.mul_zero, Int.pow_zero]
  | succ k ih => rw [Int.pow_succ, ih, show 2 * (k + 1) = 2 * k + 1 + 1 by omega, Int.pow_succ, Int.pow_succ, Int.mul_assoc]
theorem Nn_wh : ∀ {n : Nat} (c : Int), Nn (wh rs n c) = c ^ 2 ^ n
  | 0, c => by show c = c ^ 1; simp [Int.pow_succ]
  | n + 1, c => by rw [Nn_succ, nm_wh, Nn_wh, ipow_sq, ← Nat.pow_succ']
theorem Nn_eq_zero : ∀ {n : Nat}, Pr rs n → ∀ {x : T rs n}, Nn x = 0 → x = 0
  | 0, _, x, h => cf_inj fun j hj => by
    have : j = 0 := by simpa using hj
    subst this
    exact h
  | n + 1, hp, x, h => nm_zero (hp.low (by omega)).dom (hp n (by omega)) (Nn_eq_zero (hp.low (by omega)) h)
theorem Nn_zero : ∀ {n : Nat}, Nn (0 : T rs n) = 0
  | 0 => rfl
  | n + 1 => by
    rw [Nn_succ]
    have : nm (0 : T rs (n + 1)) = 0 := by rw [mk_zero, nm_mk]; grind
    rw [this, Nn_zero]
theorem Nn_wf : ∀ {n : Nat}, (∀ k, k < n → wf (rad rs k) ≤ 16777216) → ∀ {M : Nat} {x : T rs n}, 1 ≤ M → wf x ≤ M → (Nn x).natAbs ≤ M ^ 2 ^ n
  | 0, _, M, x, _, h => by
    have : wf x = (Nn x).natAbs := rfl
    show (Nn x).natAbs ≤ M ^ 1
    rw [Nat.pow_one]
    omega
  | n + 1, hw, M, x, hM, h => by
    rw [Nn_succ]
    have h1 := Nn_wf (fun k hk => hw k (by omega)) (M := M * M) (x := nm x) (Nat.mul_pos hM hM) (Nat.le_trans (nm_wf hw x) (Nat.mul_le_mul h h))
    rwa [pow_sq, ← Nat.pow_succ'] at h1
/-! ### signs changed -/
/-- the letters of s negated -/
def sg {rs : Nat → Nat → Int} : {n : Nat} → Nat → T rs n → T rs n
  | 0, _, x => x
  | n + 1, s, x => if s / 2 ^ n % 2 = 1 then mk (sg s (lo x)) (-(sg s (hi x))) else mk (sg s (lo x)) (sg s (hi x))
theorem sg_low {n s : Nat} (x : T rs (n + 1)) (h : s < 2 ^ n) : sg s x = mk (sg s (lo x)) (sg s (hi x)) := if_neg (by rw [bit_small h]; decide)
theorem sg_bits : ∀ {n s s' : Nat} (x : T rs n), (∀ q, q < n → s / 2 ^ q % 2 = s' / 2 ^ q % 2) → sg s x = sg s' x
  | 0, _, _, _, _ => rfl
  | n + 1, s, s', x, h => by
    unfold sg
    rw [h n (by omega), sg_bits (lo x) fun q hq => h q (by omega), sg_bits (hi x) fun q hq => h q (by omega)]
theorem sg_high {n s : Nat} (x : T rs (n + 1)) (h : s < 2 ^ n) : sg (s + 2 ^ n) x = mk (sg s (lo x)) (-(sg s (hi x))) := by
  have e : (s + 2 ^ n) / 2 ^ n % 2 = 1 := bit_high h
  have e2 : ∀ y : T rs n, sg (s + 2 ^ n) y = sg s y := fun y => sg_bits y fun q hq => bit_shift hq
  show (if (s + 2 ^ n) / 2 ^ n % 2 = 1 then _ else _) = _
  rw [if_pos e, e2, e2]
theorem sg_add : ∀ {n s : Nat} (x y : T rs n), sg s (x + y) = sg s x + sg s y
  | 0, _, _, _ => rfl
  | n + 1, s, x, y => by
    have e : x + y = mk (lo x + lo y) (hi x + hi y) := rfl
    rw [e]
    unfold sg
    rw [lo_mk, hi_mk, sg_add, sg_add]
    split
    · rw [mk_add]; congr 1; grind
    · rw [mk_add]
theorem sg_neg : ∀ {n s : Nat} (x : T rs n), sg s (-x) = -(sg s x)
  | 0, _, _ => rfl
  | n + 1, s, x => by
    have e : -x = mk (-lo x) (-hi x) := rfl
    rw [e]
    unfold sg
    rw [lo_mk, hi_mk, sg_neg, sg_neg]
    split <;> rw [mk_neg]
theorem sg_zero : ∀ {n s : Nat}, sg s (0 : T rs n) = 0
  | 0, _ => rfl
  | n + 1, s => by
    rw [mk_zero]
    unfold sg
    rw [lo_mk, hi_mk, sg_zero]
    split
    · congr 1; grind
    · rfl
theorem sg_wh : ∀ {n s : Nat} (c : Int), sg s (wh rs n c) = wh rs n c
  | 0, _, _ => rfl
  | n + 1, s, c => by
    rw [wh_succ]
    unfold sg
    rw [lo_mk, hi_mk, sg_wh, sg_zero]
    split
    · congr 1; grind
    · rfl
def Con (rs : Nat → Nat → Int) (n : Nat) : Prop := ∀ k, k < n → ∃ c, rad rs k = wh rs k c
theorem sg_mul : ∀ {n s : Nat}, Con rs n → ∀ x y : T rs n, sg s (x * y) = sg s x * sg s y
  | 0, _, _, _, _ => rfl
  | n + 1, s, hc, x, y => by
    obtain ⟨c, hr⟩ := hc n (by omega)
    have hc' : Con rs n := fun k hk => hc k (by omega)
    have e : x * y = mk (lo x * lo y + rad rs n * (hi x * hi y)) (lo x * hi y + hi x * lo y) := rfl
    rw [e]
    unfold sg
    rw [lo_mk, hi_mk, sg_add, sg_add, sg_mul hc', sg_mul hc', sg_mul hc', sg_mul hc', sg_mul hc', hr, sg_wh]
    split
    · rw [mk_mul, hr]
      congr 1 <;> grind
    · rw [mk_mul, hr]
/-- the product over the first k changes of signs -/
def sgP {rs : Nat → Nat → Int} {n : Nat} (x : T rs n) : Nat → T rs n
  | 0 => 1
  | k + 1 => sgP x k * sg k x
theorem sgP_low {n : Nat} (x : T rs (n + 1)) : ∀ k, k ≤ 2 ^ n → ∀ i, i ≤ k → True := fun _ _ _ _ => trivial
theorem sgP_split {n : Nat} (hc : Con rs (n + 1)) (x : T rs (n + 1)) : ∀ k, k ≤ 2 ^ n → ∃ p : T rs (n + 1), sgP x (2 ^ n + k) = sgP x (2 ^ n) * p ∧ sgP x k * p = mk (sgP (nm x) k) 0
  | 0, _ => ⟨1, by show sgP x (2 ^ n) = _; grind, by show (1 : T rs (n + 1)) * 1 = mk (1 : T rs n) 0; rw [← mk_one]; grind⟩
  | k + 1, hk => by
    obtain ⟨p, h1, h2⟩ := sgP_split hc x k (by omega)
    refine ⟨p * sg (k + 2 ^ n) x, ?_, ?_⟩
    · show sgP x (2 ^ n + k) * sg (2 ^ n + k) x = _
      rw [h1, Nat.add_comm k]
      grind
    · show sgP x k * sg k x * (p * sg (k + 2 ^ n) x) = mk (sgP (nm x) k * sg k (nm x)) 0
      have e1 : sgP x k * sg k x * (p * sg (k + 2 ^ n) x) = (sgP x k * p) * (sg k x * sg (k + 2 ^ n) x) := by grind
      have e2 : sg k x * sg (k + 2 ^ n) x = mk (sg k (nm x)) 0 := by
        rw [sg_low x (by omega), sg_high x (by omega), mk_mul]
        have hc' : Con rs n := fun i hi => hc i (by omega)
        obtain ⟨c, hr⟩ := hc n (by omega)
        have e3 : nm x = lo x * lo x + -(rad rs n * (hi x * hi x)) := by
          show lo x * lo x - rad rs n * (hi x * hi x) = _
          grind
        rw [e3, sg_add, sg_neg, sg_mul hc', sg_mul hc', sg_mul hc', hr, sg_wh]
        congr 1 <;> grind
      rw [e1, h2, e2, mk_mul]
      congr 1 <;> grind
theorem sgP_norm : ∀ {n : Nat}, Con rs n → ∀ x : T rs n, sgP x (2 ^ n) = wh rs n (Nn x)
  | 0, _, x => by
    show (1 : T rs 0) * x = wh rs 0 (cf x 0)
    have : wh rs 0 (cf x 0) = x := rfl
    rw [this]
    grind
  | n + 1, hc, x => by
    obtain ⟨p, h1, h2⟩ := sgP_split hc x (2 ^ n) (Nat.le_refl _)
    rw [two_pow_succ', h1, h2, sgP_norm (fun k hk => hc k (by omega)) (nm x), wh_succ]
    rfl
theorem sgP_wf {n : Nat} (hw : ∀ k, k < n → wf (rad rs k) ≤ 16777216) {M : Nat} {x : T rs n} (h : ∀ s, wf (sg s x) ≤ M) : ∀ k, wf (sgP x k) ≤ M ^ k
  | 0 => by show wf (1 : T rs n) ≤ 1; rw [wf_one]; exact Nat.le_refl _
  | k + 1 => by
    rw [Nat.pow_succ]
    exact Nat.le_trans (wf_mul hw _ _) (Nat.mul_le_mul (sgP_wf hw h k) (h k))
theorem sg_wf : ∀ {n s : Nat} (x : T rs n), wf (sg s x) = wf x
  | 0, _, _ => rfl
  | n + 1, s, x => by
    unfold sg
    split
    · rw [wf_mk, wf_neg, sg_wf, sg_wf]; rfl
    · rw [wf_mk, sg_wf, sg_wf]; rfl
/-- how often a letter of s stands in a place, even or odd -/
def par (s : Nat) : Nat → Nat → Bool
  | 0, _ => false
  | n + 1, j => par s n j != decide (s / 2 ^ n % 2 = 1 ∧ j / 2 ^ n % 2 = 1)
theorem par_shift {s : Nat} : ∀ {n m j : Nat}, n ≤ m → par s n (j + 2 ^ m) = par s n j
  | 0, _, _, _ => rfl
  | n + 1, m, j, h => by
    unfold par
    rw [par_shift (by omega), bit_shift (by omega)]
theorem cf_sg : ∀ {n s : Nat} (x : T rs n) (j : Nat), j < 2 ^ n → cf (sg s x) j = if par s n j then -cf x j else cf x j
  | 0, s, x, j, _ => by simp [sg, par]
  | n + 1, s, x, j, hj => by
    have e2 := two_pow_succ' n
    have ex : cf x j = if j < 2 ^ n then cf (lo x) j else cf (hi x) (j - 2 ^ n) := by rw [← cf_mk, mk_eta]
    have es : sg s x = mk (sg s (lo x)) (if s / 2 ^ n % 2 = 1 then -(sg s (hi x)) else sg s (hi x)) := by
      show (if s / 2 ^ n % 2 = 1 then _ else _) = _
      split <;> rfl
    rw [es, cf_mk, ex]
    by_cases c : j < 2 ^ n
    · rw [if_pos c, if_pos c, cf_sg _ _ c]
      have : par s (n + 1) j = par s n j := by
        show (par s n j != decide (s / 2 ^ n % 2 = 1 ∧ j / 2 ^ n % 2 = 1)) = _
        rw [bit_small c, _root_.decide_eq_false (by omega)]
        simp
      rw [this]
    · rw [if_neg c, if_neg c]
      obtain ⟨i, rfl⟩ : ∃ i, j = i + 2 ^ n := ⟨j - 2 ^ n, by omega⟩
      have hi' : i < 2 ^ n := by omega
      rw [Nat.add_sub_cancel]
      have ep : par s (n + 1) (i + 2 ^ n) = (par s n i != decide (s / 2 ^ n % 2 = 1)) := by
        show (par s n (i + 2 ^ n) != decide (s / 2 ^ n % 2 = 1 ∧ (i + 2 ^ n) / 2 ^ n % 2 = 1)) = _
        rw [par_shift (Nat.le_refl _), bit_high hi']
        congr 1
        simp
      rw [ep]
      by_cases d : s / 2 ^ n % 2 = 1
      · rw [if_pos d, cf_neg, cf_sg _ _ hi', _root_.decide_eq_true d]
        cases par s n i <;> simp
      · rw [if_neg d, cf_sg _ _ hi', _root_.decide_eq_false d]
        cases par s n i <;> simp
theorem wf_mono : ∀ {n : Nat} {s t : T rs n}, (∀ j, j < 2 ^ n → (cf s j).natAbs ≤ (cf t j).natAbs) → wf s ≤ wf t
  | 0, s, t, h => h 0 (by decide)
  | n + 1, s, t, h => by
    have e2 := two_pow_succ' n
    rw [← mk_eta s, ← mk_eta t] at h ⊢
    rw [wf_mk, wf_mk]
    have h1 := wf_mono (s := lo s) (t := lo t) fun j hj => by
      have := h j (by omega)
      rwa [cf_mk, cf_mk, if_pos hj, if_pos hj] at this
    have h2 := wf_mono (s := hi s) (t := hi t) fun j hj => by
      have := h (j + 2 ^ n) (by omega)
      rwa [cf_mk, cf_mk, if_neg (by omega), if_neg (by omega), Nat.add_sub_cancel] at this
    omega
/-- parity of the bits, from the lowest on -/
def pl : Nat → Nat → Bool
  | 0, _ => false
  | n + 1, r => decide (r % 2 = 1) != pl n (r / 2)
def px : Nat → Nat → Bool
  | 0, _ => false
  | n + 1, r => px n r != decide (r / 2 ^ n % 2 = 1)
theorem px_low : ∀ (n r : Nat), px (n + 1) r = (decide (r % 2 = 1) != px n (r / 2))
  | 0, r => by simp [px]
  | n + 1, r => by
    show (px (n + 1) r != decide (r / 2 ^ (n + 1) % 2 = 1)) = (decide (r % 2 = 1) != (px n (r / 2) != decide (r / 2 / 2 ^ n % 2 = 1)))
    rw [px_low n r, Nat.pow_succ', Nat.div_div_eq_div_mul]
    cases decide (r % 2 = 1) <;> cases px n (r / 2) <;> simp
theorem pl_px : ∀ (n r : Nat), pl n r = px n r
  | 0, _ => rfl
  | n + 1, r => by
    rw [px_low, ← pl_px n]
    rfl
theorem px_and (s : Nat) : ∀ (n j : Nat), px n (j &&& s) = par s n j
  | 0, _ => rfl
  | n + 1, j => by
    show (px n (j &&& s) != decide ((j &&& s) / 2 ^ n % 2 = 1)) = (par s n j != decide (s / 2 ^ n % 2 = 1 ∧ j / 2 ^ n % 2 = 1))
    rw [px_and s n j]
    congr 1
    have := Nat.testBit_and j s n
    rw [Nat.testBit_eq_decide_div_mod_eq, Nat.testBit_eq_decide_div_mod_eq, Nat.testBit_eq_decide_div_mod_eq] at this
    rw [this]
    rw [Bool.and_comm, ← Bool.decide_and]
end
end TV

namespace TV
open Lean.Grind
section
variable {rs : Nat → Nat → Int} {ρ : Nat → Nat}
/-! ### a weight by letters -/
def wr {rs : Nat → Nat → Int} (ρ : Nat → Nat) : {n : Nat} → T rs n → Nat
  | 0, t => (cf t 0).natAbs
  | n + 1, t => wr ρ (lo t) + ρ n * wr ρ (hi t)
theorem wr_mk {n : Nat} (a b : T rs n) : wr ρ (mk a b) = wr ρ a + ρ n * wr ρ b := rfl
theorem wr_eta {n : Nat} (x : T rs (n + 1)) : wr ρ x = wr ρ (lo x) + ρ n * wr ρ (hi x) := rfl
theorem wr_neg : ∀ {n : Nat} (a : T rs n), wr ρ (-a) = wr ρ a
  | 0, a => by show (cf (-a) 0).natAbs = (cf a 0).natAbs; rw [cf_neg, Int.natAbs_neg]
  | n + 1, a => by rw [← mk_eta a, mk_neg, wr_mk, wr_mk, wr_neg, wr_neg]
theorem wr_add : ∀ {n : Nat} (a b : T rs n), wr ρ (a + b) ≤ wr ρ a + wr ρ b
  | 0, a, b => by show (cf (a + b) 0).natAbs ≤ (cf a 0).natAbs + (cf b 0).natAbs; rw [cf_add]; exact Int.natAbs_add_le _ _
  | n + 1, a, b => by
    rw [← mk_eta a, ← mk_eta b, mk_add, wr_mk, wr_mk, wr_mk]
    have h1 := wr_add (lo a) (lo b)
    have h2 := Nat.mul_le_mul_left (ρ n) (wr_add (hi a) (hi b))
    rw [Nat.mul_add] at h2
    omega
theorem wr_sub {n : Nat} (a b : T rs n) : wr ρ (a - b) ≤ wr ρ a + wr ρ b := by
  rw [Ring.sub_eq_add_neg]
  have := wr_add (ρ := ρ) a (-b)
  rwa [wr_neg] at this
theorem wr_zero : ∀ {n : Nat}, wr ρ (0 : T rs n) = 0
  | 0 => rfl
  | n + 1 => by rw [mk_zero, wr_mk, wr_zero]; simp
theorem wr_one : ∀ {n : Nat}, wr ρ (1 : T rs n) = 1
  | 0 => rfl
  | n + 1 => by rw [mk_one, wr_mk, wr_one, wr_zero]; simp
theorem wr_wh : ∀ {n : Nat} (c : Int), wr ρ (wh rs n c) = c.natAbs
  | 0, c => rfl
  | n + 1, c => by rw [wh_succ, wr_mk, wr_zero, wr_wh c]; simp
theorem wh_mk {n : Nat} (c : Int) (a b : T rs n) : wh rs (n + 1) c * mk a b = mk (wh rs n c * a) (wh rs n c * b) := by
  rw [wh_succ, mk_mul]
  congr 1 <;> grind
theorem wr_whm : ∀ {n : Nat} (c : Int) (t : T rs n), wr ρ (wh rs n c * t) = c.natAbs * wr ρ t
  | 0, c, t => by
    have : ∀ x y : Int, (x * y).natAbs = x.natAbs * y.natAbs := Int.natAbs_mul
    exact this c t
  | n + 1, c, t => by
    rw [← mk_eta t, wh_mk, wr_mk, wr_mk, wr_whm, wr_whm]
    grind
/-- the weights suit the radicands -/
def WOk (rs : Nat → Nat → Int) (ρ : Nat → Nat) (n : Nat) : Prop := ∀ k, k < n → 1 ≤ ρ k ∧ wr ρ (rad rs k) ≤ ρ k * ρ k
theorem WOk.low {n m : Nat} (h : WOk rs ρ n) (e : m ≤ n) : WOk rs ρ m := fun k hk => h k (by omega)
theorem wr_mul : ∀ {n : Nat}, WOk rs ρ n → ∀ a b : T rs n, wr ρ (a * b) ≤ wr ρ a * wr ρ b
  | 0, _, a, b => by
    have : ∀ x y : Int, (x * y).natAbs ≤ x.natAbs * y.natAbs := fun x y => Nat.le_of_eq (Int.natAbs_mul x y)
    exact this a b
  | n + 1, h, a, b => by
    have h' : WOk rs ρ n := h.low (by omega)
    rw [← mk_eta a, ← mk_eta b, mk_mul, wr_mk, wr_mk, wr_mk]
    generalize lo a = p
    generalize hi a = q
    generalize lo b = r
    generalize hi b = s
    have e1 := Nat.le_trans (wr_add (p * r) (rad rs n * (q * s))) (Nat.add_le_add (wr_mul h' p r) (wr_mul h' (rad rs n) (q * s)))
    have e2 := Nat.le_trans (wr_add (p * s) (q * r)) (Nat.add_le_add (wr_mul h' p s) (wr_mul h' q r))
    have e3 : wr ρ (rad rs n) * wr ρ (q * s) ≤ ρ n * ρ n * (wr ρ q * wr ρ s) := Nat.mul_le_mul (h n (by omega)).2 (wr_mul h' q s)
    have e4 : (wr ρ p + ρ n * wr ρ q) * (wr ρ r + ρ n * wr ρ s) = wr ρ p * wr ρ r + ρ n * ρ n * (wr ρ q * wr ρ s) + ρ n * (wr ρ p * wr ρ s + wr ρ q * wr ρ r) := by grind
    have e5 := Nat.mul_le_mul_left (ρ n) e2
    omega
theorem cf_wr : ∀ {n : Nat}, WOk rs ρ n → ∀ (t : T rs n) (j : Nat), j < 2 ^ n → (cf t j).natAbs ≤ wr ρ t
  | 0, _, t, j, h => by
    have : j = 0 := by simpa using h
    subst this
    exact Nat.le_refl _
  | n + 1, hw, t, j, h => by
    have e2 := two_pow_succ' n
    have h1 := (hw n (by omega)).1
    rw [← mk_eta t, cf_mk, wr_mk]
    split
    · rename_i c; have := cf_wr (hw.low (by omega)) (lo t) j c; omega
    · have := cf_wr (hw.low (by omega)) (hi t) (j - 2 ^ n) (by omega)
      have h2 := Nat.le_mul_of_pos_left (wr ρ (hi t)) h1
      omega
theorem wr_hi {n : Nat} (hw : WOk rs ρ (n + 1)) (x : T rs (n + 1)) : wr ρ (hi x) ≤ wr ρ x := by
  have h1 := (hw n (by omega)).1
  have h2 := Nat.le_mul_of_pos_left (wr ρ (hi x)) h1
  rw [wr_eta x]
  omega
theorem wr_lo {n : Nat} (x : T rs (n + 1)) : wr ρ (lo x) ≤ wr ρ x := by rw [wr_eta x]; omega
theorem wr_mono : ∀ {n : Nat} {s t : T rs n}, (∀ j, j < 2 ^ n → (cf s j).natAbs ≤ (cf t j).natAbs) → wr ρ s ≤ wr ρ t
  | 0, s, t, h => h 0 (by decide)
  | n + 1, s, t, h => by
    have e2 := two_pow_succ' n
    rw [← mk_eta s, ← mk_eta t] at h ⊢
    rw [wr_mk, wr_mk]
    have h1 := wr_mono (s := lo s) (t := lo t) fun j hj => by
      have := h j (by omega)
      rwa [cf_mk, cf_mk, if_pos hj, if_pos hj] at this
    have h2 := wr_mono (s := hi s) (t := hi t) fun j hj => by
      have := h (j + 2 ^ n) (by omega)
      rwa [cf_mk, cf_mk, if_neg (by omega), if_neg (by omega), Nat.add_sub_cancel] at this
    have h3 := Nat.mul_le_mul_left (ρ n) h2
    omega
open PySem PySem.Builtin.Int PyProof PyProof.Rows L2 in
theorem wr_bd {n m : Nat} {t : T rs n} (hw : WOk rs ρ n) (h : wr ρ t < 2 ^ m) : Bd m t := fun j hj => intBits_le_iff.mpr (Nat.lt_of_le_of_lt (cf_wr hw t j hj) h)
theorem nm_wr {n : Nat} (hw : WOk rs ρ (n + 1)) (x : T rs (n + 1)) : wr ρ (nm x) ≤ wr ρ x * wr ρ x := by
  have hw' : WOk rs ρ n := hw.low (by omega)
  have e1 : wr ρ (nm x) ≤ wr ρ (lo x * lo x) + wr ρ (rad rs n * (hi x * hi x)) := wr_sub (lo x * lo x) (rad rs n * (hi x * hi x))
  have e2 := wr_mul hw' (lo x) (lo x)
  have e3 := wr_mul hw' (rad rs n) (hi x * hi x)
  have e4 : wr ρ (rad rs n) * wr ρ (hi x * hi x) ≤ ρ n * ρ n * (wr ρ (hi x) * wr ρ (hi x)) := Nat.mul_le_mul (hw n (by omega)).2 (wr_mul hw' (hi x) (hi x))
  have e6 : (wr ρ (lo x) + ρ n * wr ρ (hi x)) * (wr ρ (lo x) + ρ n * wr ρ (hi x)) = wr ρ (lo x) * wr ρ (lo x) + ρ n * ρ n * (wr ρ (hi x) * wr ρ (hi x)) + 2 * ρ n * (wr ρ (lo x) * wr ρ (hi x)) := by grind
  rw [wr_eta x, e6]
  omega
theorem inv_wr : ∀ {n : Nat}, WOk rs ρ n → ∀ {M : Nat} {x : T rs n}, 1 ≤ M → wr ρ x ≤ M → wr ρ (invT x).1 * M ≤ M ^ 2 ^ n ∧ (invT x).2.natAbs ≤ M ^ 2 ^ n
  | 0, _, M, x, hM, h => by
    show wr ρ (1 : T rs 0) * M ≤ M ^ 1 ∧ (cf x 0).natAbs ≤ M ^ 1
    rw [wr_one, Nat.pow_one]
    exact ⟨by omega, by have : wr ρ x = (cf x 0).natAbs := rfl; omega⟩
  | n + 1, hw, M, x, hM, h => by
    have hw' : WOk rs ρ n := hw.low (by omega)
    have hx : wr ρ x = wr ρ (lo x) + ρ n * wr ρ (hi x) := rfl
    by_cases c : hi x = 0
    · rw [invT_flat c]
      obtain ⟨h1, h2⟩ := inv_wr hw' (M := M) (x := lo x) hM (by omega)
      have h3 : M ^ 2 ^ n ≤ M ^ 2 ^ (n + 1) := Nat.pow_le_pow_right hM (Nat.pow_le_pow_right (by decide) (by omega))
      refine ⟨?_, Nat.le_trans h2 h3⟩
      show wr ρ (mk (invT (lo x)).1 0) * M ≤ _
      rw [wr_mk, wr_zero, Nat.mul_zero, Nat.add_zero]
      exact Nat.le_trans h1 h3
    · rw [invT_steep c]
      have hn := Nat.le_trans (nm_wr hw x) (Nat.mul_le_mul h h)
      obtain ⟨h1, h2⟩ := inv_wr hw' (M := M * M) (x := nm x) (Nat.mul_pos hM hM) hn
      rw [pow_sq, ← Nat.pow_succ'] at h1 h2
      refine ⟨?_, h2⟩
      show wr ρ (mk (lo x * (invT (nm x)).1) (-(hi x * (invT (nm x)).1))) * M ≤ _
      rw [wr_mk, wr_neg]
      have e1 := wr_mul hw' (lo x) (invT (nm x)).1
      have e2 := Nat.mul_le_mul_left (ρ n) (wr_mul hw' (hi x) (invT (nm x)).1)
      generalize wr ρ (invT (nm x)).1 = o at *
      have e3 : wr ρ (lo x) * o + ρ n * (wr ρ (hi x) * o) ≤ M * o := by
        have : wr ρ (lo x) * o + ρ n * (wr ρ (hi x) * o) = wr ρ x * o := by rw [hx]; grind
        rw [this]
        exact Nat.mul_le_mul_right _ h
      have e4 : (wr ρ (lo x * (invT (nm x)).1) + ρ n * wr ρ (hi x * (invT (nm x)).1)) ≤ M * o := by omega
      refine Nat.le_trans (Nat.mul_le_mul_right M e4) ?_
      have : M * o * M = o * (M * M) := by grind
      rw [this]
      exact h1
/-! ### roots -/
/-- z / d is a root of x -/
def IsRt {n : Nat} (x z : T rs n) (d : Int) : Prop := 1 ≤ d ∧ z * z = wh rs n (d * d) * x
def Sq {n : Nat} (x : T rs n) : Prop := ∃ z d, IsRt x z d
theorem nm_whm {n : Nat} (c : Int) (x : T rs (n + 1)) : nm (wh rs (n + 1) c * x) = wh rs n (c * c) * nm x := by rw [nm_mul, nm_wh]
theorem IsRt.nm {n : Nat} {x z : T rs (n + 1)} {d : Int} (h : IsRt x z d) : IsRt (nm x) (nm z) (d * d) := by
  have h0 := h.1
  refine ⟨by have := Int.mul_pos (show (0 : Int) < d by omega) (show (0 : Int) < d by omega); omega, ?_⟩
  rw [← nm_mul, h.2, nm_whm]
/-! ### denominators of roots -/
def AI {n : Nat} (y : T rs n) (d : Int) : Prop := ∃ c : Int, c ≠ 0 ∧ ∀ j : Nat, ∃ w : T rs n, wh rs n c * y ^ j = wh rs n (d ^ j) * w
theorem tpow_succ {n : Nat} (y : T rs n) (j : Nat) : y ^ (j + 1) = y ^ j * y := Semiring.pow_succ _ _
theorem tpow_zero {n : Nat} (y : T rs n) : y ^ 0 = 1 := Semiring.pow_zero _
theorem AI.add {n : Nat} {y y' : T rs n} {d : Int} (h : AI y d) (g : AI y' d) : AI (y + y') d := by
  obtain ⟨c, hc, h⟩ := h
  obtain ⟨c', hc', g⟩ := g
  have key : ∀ j a b : Nat, ∃ w, wh rs n (c * c') * ((y + y') ^ j * (y ^ a * y' ^ b)) = wh rs n (d ^ (j + a + b)) * w := by
    intro j
    induction j with
    | zero =>
      intro a b
      obtain ⟨w1, e1⟩ := h a
      obtain ⟨w2, e2⟩ := g b
      refine ⟨w1 * w2, ?_⟩
      rw [tpow_zero, wh_mm, Nat.zero_add, Int.pow_add, wh_mm]
      have : wh rs n c * wh rs n c' * (1 * (y ^ a * y' ^ b)) = (wh rs n c * y ^ a) * (wh rs n c' * y' ^ b) := by grind
      rw [this, e1, e2]
      grind
    | succ j ih =>
      intro a b
      obtain ⟨w1, e1⟩ := ih (a + 1) b
      obtain ⟨w2, e2⟩ := ih a (b + 1)
      refine ⟨w1 + w2, ?_⟩
      rw [show j + 1 + a + b = j + (a + 1) + b by omega]
      rw [show j + a + (b + 1) = j + (a + 1) + b by omega] at e2
      rw [tpow_succ y a] at e1
      rw [tpow_succ y' b] at e2
      rw [tpow_succ]
      generalize (y + y') ^ j = p at *
      generalize y ^ a = q at *
      generalize y' ^ b = r at *
      generalize wh rs n (c * c') = s at *
      generalize wh rs n (d ^ (j + (a + 1) + b)) = t at *
      grind
  refine ⟨c * c', Int.mul_ne_zero hc hc', fun j => ?_⟩
  obtain ⟨w, e⟩ := key j 0 0
  refine ⟨w, ?_⟩
  rw [tpow_zero, tpow_zero] at e
  rw [show j + 0 + 0 = j from rfl] at e
  rw [← e]
  grind
theorem mul_tpow {n : Nat} (t y : T rs n) : ∀ j : Nat, (t * y) ^ j = t ^ j * y ^ j
  | 0 => by rw [tpow_zero, tpow_zero, tpow_zero]; grind
  | j + 1 => by rw [tpow_succ, tpow_succ, tpow_succ, mul_tpow t y j]; grind
theorem AI.mul {n : Nat} {y : T rs n} {d : Int} (t : T rs n) (h : AI y d) : AI (t * y) d := by
  obtain ⟨c, hc, h⟩ := h
  refine ⟨c, hc, fun j => ?_⟩
  obtain ⟨w, e⟩ := h j
  refine ⟨t ^ j * w, ?_⟩
  rw [mul_tpow]
  generalize t ^ j = p at *
  generalize y ^ j = q at *
  grind
theorem cj_mul {n : Nat} (x y : T rs (n + 1)) : cj (x * y) = cj x * cj y := by
  rw [← mk_eta x, ← mk_eta y, mk_mul]
  show mk (lo (mk _ _)) (-hi (mk _ _)) = mk (lo x) (-hi x) * mk (lo y) (-hi y)
  rw [mk_mul, lo_mk, hi_mk]
  congr 1 <;> grind
theorem cj_wh {n : Nat} (c : Int) : cj (wh rs (n + 1) c) = wh rs (n + 1) c := by
  rw [wh_succ]
  show mk _ (-(0 : T rs n)) = _
  rw [show (-(0 : T rs n)) = 0 by grind]
  rfl
theorem cj_one {n : Nat} : cj (1 : T rs (n + 1)) = 1 := by rw [← wh_one, cj_wh]
theorem cj_pow {n : Nat} (y : T rs (n + 1)) : ∀ j : Nat, cj (y ^ j) = cj y ^ j
  | 0 => by rw [tpow_zero, tpow_zero, cj_one]
  | j + 1 => by rw [tpow_succ, tpow_succ, cj_mul, cj_pow y j]
theorem AI.cj {n : Nat} {y : T rs (n + 1)} {d : Int} (h : AI y d) : AI (cj y) d := by
  obtain ⟨c, hc, h⟩ := h
  refine ⟨c, hc, fun j => ?_⟩
  obtain ⟨w, e⟩ := h j
  refine ⟨TV.cj w, ?_⟩
  rw [← cj_pow, ← cj_wh c, ← cj_mul, e, cj_mul, cj_wh]
theorem mk_pow {n : Nat} (p : T rs n) : ∀ j : Nat, (mk p 0 : T rs (n + 1)) ^ j = mk (p ^ j) 0
  | 0 => by rw [tpow_zero, tpow_zero, mk_one]
  | j + 1 => by
    rw [tpow_succ, tpow_succ, mk_pow p j, mk_mul]
    congr 1 <;> grind
theorem AI.low {n : Nat} {p : T rs n} {d : Int} (h : AI (mk p 0 : T rs (n + 1)) d) : AI p d := by
  obtain ⟨c, hc, h⟩ := h
  refine ⟨c, hc, fun j => ?_⟩
  obtain ⟨w, e⟩ := h j
  refine ⟨lo w, ?_⟩
  rw [mk_pow, wh_mk] at e
  conv at e => rhs; rw [← mk_eta w, wh_mk]
  exact (mk_inj e).1
theorem AI.of_rt {n : Nat} {x z : T rs n} {d : Int} (h : IsRt x z d) : AI z d := by
  have hd := h.1
  refine ⟨d, by omega, fun j => ?_⟩
  have key : ∀ i : Nat, ∃ w, z ^ (2 * i) = wh rs n (d ^ (2 * i)) * w := by
    intro i
    induction i with
    | zero => exact ⟨1, by rw [Nat.mul_zero, tpow_zero, Int.pow_zero, wh_one]; grind⟩
    | succ i ih =>
      obtain ⟨w, e⟩ := ih
      refine ⟨w * x, ?_⟩
      rw [show 2 * (i + 1) = 2 * i + 1 + 1 by omega, tpow_succ, tpow_succ, e, Int.pow_succ, Int.pow_succ, wh_mm, wh_mm]
      have h2 := h.2
      rw [wh_mm] at h2
      grind
  rcases Nat.mod_two_eq_zero_or_one j with e | e
  · obtain ⟨w, ew⟩ := key (j / 2)
    rw [show 2 * (j / 2) = j by omega] at ew
    exact ⟨wh rs n d * w, by rw [ew]; grind⟩
  · obtain ⟨w, ew⟩ := key (j / 2)
    refine ⟨w * z, ?_⟩
    rw [show j = 2 * (j / 2) + 1 by omega, tpow_succ, ew, Int.pow_succ, wh_mm]
    grind
theorem AI.int {y : T rs 0} {d : Int} (hd : 1 ≤ d) (h : AI y d) : ∃ w : T rs 0, y = wh rs 0 d * w := by
  have key : ∀ (y c : Int), c ≠ 0 → (∀ j : Nat, ∃ w : Int, c * y ^ j = d ^ j * w) → ∃ w : Int, y = d * w := by
    intro y c hc h
    obtain ⟨g, y', d', hg, hcop, e1, e2⟩ := Nat.exists_coprime' (m := y.natAbs) (n := d.natAbs) (Nat.gcd_pos_of_pos_right _ (by omega))
    have h1 : ∀ j : Nat, d' ^ j ∣ c.natAbs := by
      intro j
      obtain ⟨w, e⟩ := h j
      have e := congrArg Int.natAbs e
      rw [Int.natAbs_mul, Int.natAbs_mul, Int.natAbs_pow, Int.natAbs_pow, e1, e2, Nat.mul_pow, Nat.mul_pow] at e
      have e3 : c.natAbs * y' ^ j = d' ^ j * w.natAbs := by
        have hp : 0 < g ^ j := Nat.pow_pos hg
        have : g ^ j * (c.natAbs * y' ^ j) = g ^ j * (d' ^ j * w.natAbs) := by grind
        exact Nat.eq_of_mul_eq_mul_left hp this
      have h2 : Nat.Coprime (d' ^ j) (y' ^ j) := Nat.Coprime.pow _ _ hcop.symm
      exact h2.dvd_of_dvd_mul_right ⟨w.natAbs, e3⟩
    have h3 : d' ≤ 1 := by
      refine Nat.not_lt.mp fun c2 => ?_
      have h4 := Nat.le_of_dvd (by omega) (h1 c.natAbs)
      have h5 := Nat.lt_pow_self (n := c.natAbs) (show 1 < d' from c2)
      omega
    have h6 : d' = 1 := by
      rcases Nat.eq_zero_or_pos d' with z | z
      · rw [z] at e2; omega
      · omega
    subst h6
    rw [Nat.one_mul] at e2
    have : d.natAbs ∣ y.natAbs := ⟨y', by rw [e1, e2, Nat.mul_comm]⟩
    exact Int.natAbs_dvd_natAbs.mp this
  obtain ⟨c, hc, h⟩ := h
  have key2 : ∀ (y : T rs 0) (j : Nat), cf (y ^ j) 0 = cf y 0 ^ j := by
    intro y j
    induction j with
    | zero => rw [tpow_zero, Int.pow_zero]; rfl
    | succ j ih =>
      rw [tpow_succ, Int.pow_succ, ← ih]
      rfl
  have key3 : ∀ (c : Int) (y : T rs 0), cf (wh rs 0 c * y) 0 = c * cf y 0 := fun c y => rfl
  obtain ⟨w, e⟩ := key (cf y 0) c hc fun j => by
    obtain ⟨w, e⟩ := h j
    refine ⟨cf w 0, ?_⟩
    rw [← key2, ← key3, e, key3]
  exact ⟨wh rs 0 w, e⟩
noncomputable def nuR (rs : Nat → Nat → Int) (k : Nat) : Int := (invT (rad rs k)).2
noncomputable def ooR (rs : Nat → Nat → Int) (k : Nat) : T rs k := (invT (rad rs k)).1
theorem oo_mul (k : Nat) : rad rs k * ooR rs k = wh rs k (nuR rs k) := inv_mul _
/-- what makes each root whole -/
noncomputable def EE (rs : Nat → Nat → Int) : Nat → Int
  | 0 => 1
  | k + 1 => 2 * EE rs k * nuR rs k
theorem ai_den : ∀ {n : Nat} {y : T rs n} {d : Int}, 1 ≤ d → AI y d → ∃ w, wh rs n (EE rs n) * y = wh rs n d * w
  | 0, y, d, hd, h => by
    obtain ⟨w, e⟩ := h.int hd
    refine ⟨w, ?_⟩
    show wh rs 0 1 * y = _
    rw [wh_one, e]
    grind
  | n + 1, y, d, hd, h => by
    have h1 : AI (mk (lo y + lo y) 0 : T rs (n + 1)) d := by
      have := h.add h.cj
      have e : y + cj y = mk (lo y + lo y) 0 := by
        conv => lhs; rw [← mk_eta y]
        show mk (lo y) (hi y) + mk (lo y) (-hi y) = _
        rw [mk_add]
        congr 1
        grind
      rwa [e] at this
    have h2 : AI (mk (rad rs n * (hi y + hi y)) 0 : T rs (n + 1)) d := by
      have h3 : AI (-cj y) d := by
        have := (h.cj).mul (-1)
        rwa [show (-1 : T rs (n + 1)) * cj y = -cj y by grind] at this
      have := (h.add h3).mul (mk 0 1)
      have e : (mk 0 1 : T rs (n + 1)) * (y + -cj y) = mk (rad rs n * (hi y + hi y)) 0 := by
        conv => lhs; rw [← mk_eta y]
        show mk 0 1 * (mk (lo y) (hi y) + -mk (lo y) (-hi y)) = _
        rw [mk_neg, mk_add, mk_mul]
        congr 1 <;> grind
      rwa [e] at this
    obtain ⟨w1, e1⟩ := ai_den hd h1.low
    obtain ⟨w2, e2⟩ := ai_den hd h2.low
    refine ⟨mk (wh rs n (nuR rs n) * w1) (ooR rs n * w2), ?_⟩
    conv => lhs; rw [← mk_eta y]
    rw [wh_mk, wh_mk]
    show mk (wh rs n (2 * EE rs n * nuR rs n) * lo y) (wh rs n (2 * EE rs n * nuR rs n) * hi y) = _
    have h4 := oo_mul (rs := rs) n
    rw [wh_mm, wh_mm, show wh rs n 2 = 1 + 1 by rw [← wh_one, ← wh_add]; rfl]
    generalize wh rs n (EE rs n) = E at *
    generalize wh rs n (nuR rs n) = N at *
    generalize wh rs n d = D at *
    generalize ooR rs n = O at *
    generalize rad rs n = v at *
    generalize lo y = a at *
    generalize hi y = b at *
    congr 1
    · have : (1 + 1) * E * N * a = N * (E * (a + a)) := by grind
      rw [this, e1]
      grind
    · have : (1 + 1) * E * N * b = O * (E * (v * (b + b))) := by
        rw [← h4]
        grind
      rw [this, e2]
      grind
end
end TV

namespace TV
open Lean.Grind
section
variable {rs : Nat → Nat → Int} {ρ b e iv : Nat → Nat}
/-- a tower fit for roots: weights, how great roots may be, their bottoms, inverses of radicands -/
structure Tw (rs : Nat → Nat → Int) (ρ b e iv : Nat → Nat) (n : Nat) : Prop where
  pr : Pr rs n
  w : WOk rs ρ n
  kap : ∀ k, k < n → ∃ κ, (nuR rs k).natAbs + ρ k * ρ k * wr ρ (ooR rs k) ≤ 2 ^ κ * (nuR rs k).natAbs ∧ 2 * κ + 3 * b k ≤ 2 * b (k + 1)
  den : ∀ k, k ≤ n → (EE rs k).natAbs ≤ 2 ^ e k
  inv : ∀ k, k < n → wr ρ (ooR rs k) ≤ 2 ^ iv k ∧ (nuR rs k).natAbs ≤ 2 ^ iv k
theorem Tw.low {n m : Nat} (h : Tw rs ρ b e iv n) (hm : m ≤ n) : Tw rs ρ b e iv m :=
  ⟨h.pr.low hm, h.w.low hm, fun k hk => h.kap k (by omega), fun k hk => h.den k (by omega), fun k hk => h.inv k (by omega)⟩
theorem one_ne {n : Nat} : (1 : T rs n) ≠ 0 := fun e => by
  have := wr_one (rs := rs) (n := n) (ρ := fun _ => 1)
  rw [e, wr_zero] at this
  omega
theorem NS.ne {n : Nat} {v : T rs n} (h : NS v) : v ≠ 0 := fun e => one_ne (h 0 1 (by rw [e]; grind))
theorem nu_ne {n : Nat} (h : Pr rs n) {k : Nat} (hk : k < n) : nuR rs k ≠ 0 := inv_ne (h.low (by omega)) (h k hk).ne
theorem EE_ne : ∀ {n : Nat}, Pr rs n → EE rs n ≠ 0
  | 0, _ => by show (1 : Int) ≠ 0; decide
  | n + 1, h => Int.mul_ne_zero (Int.mul_ne_zero (by decide) (EE_ne (h.low (by omega)))) (nu_ne h (by omega))
theorem two_mul {n : Nat} (p : T rs n) : p + p = wh rs n 2 * p := by
  rw [show wh rs n 2 = 1 + 1 by rw [← wh_one, ← wh_add]; rfl]
  grind
theorem wr_two {n : Nat} (p : T rs n) : wr ρ (p + p) = 2 * wr ρ p := by rw [two_mul, wr_whm]; rfl
theorem le_of_sq {a b : Nat} (h : a * a ≤ b * b) : a ≤ b := Nat.not_lt.mp fun c => by
  have := Nat.mul_lt_mul'' c c
  omega
/-- what a root's parts fulfil -/
theorem IsRt.parts {n : Nat} {x z : T rs (n + 1)} {d : Int} (h : IsRt x z d) : lo z * lo z + rad rs n * (hi z * hi z) = wh rs n (d * d) * lo x ∧ lo z * hi z + hi z * lo z = wh rs n (d * d) * hi x := by
  have h2 := h.2
  rw [← mk_eta z, ← mk_eta x, mk_mul, wh_mk] at h2
  exact mk_inj h2
theorem rt_wr : ∀ {n : Nat}, Tw rs ρ b e iv n → ∀ {x z : T rs n} {d : Int}, IsRt x z d → wr ρ z * wr ρ z ≤ d.natAbs * d.natAbs * (2 ^ b n * 2 ^ b n) * wr ρ x
  | 0, _, x, z, d, h => by
    have h2 := congrArg (fun t => (cf t 0).natAbs) h.2
    have key : ∀ z d x : Int, (z * z).natAbs = (d * d * x).natAbs → z.natAbs * z.natAbs ≤ d.natAbs * d.natAbs * (2 ^ b 0 * 2 ^ b 0) * x.natAbs := by
      intro z d x h
      rw [Int.natAbs_mul, Int.natAbs_mul, Int.natAbs_mul] at h
      rw [h]
      have h1 : 1 ≤ 2 ^ b 0 * 2 ^ b 0 := Nat.mul_pos (Nat.two_pow_pos _) (Nat.two_pow_pos _)
      exact Nat.mul_le_mul_right _ (Nat.le_mul_of_pos_right _ h1)
    exact key (cf z 0) d (cf x 0) h2
  | n + 1, hT, x, z, d, h => by
    have hT' : Tw rs ρ b e iv n := hT.low (by omega)
    have hw' := hT'.w
    obtain ⟨hp, _⟩ := h.parts
    have hd := h.1
    -- the norm
    have hN := rt_wr hT' h.nm
    have hN2 := nm_wr hT.w x
    have eN : nm z = lo z * lo z - rad rs n * (hi z * hi z) := rfl
    generalize nm z = N at hN eN
    generalize hβ : 2 ^ b n = β at *
    have hβ1 : 1 ≤ β := by rw [← hβ]; exact Nat.two_pow_pos _
    generalize hX : wr ρ x = X at *
    generalize hD : d.natAbs = D at *
    have lN : wr ρ N ≤ D * D * β * X := by
      refine le_of_sq (Nat.le_trans hN ?_)
      rw [Int.natAbs_mul, hD]
      have : D * D * β * X * (D * D * β * X) = D * D * (D * D) * (β * β) * (X * X) := by grind
      rw [this]
      exact Nat.mul_le_mul_left _ hN2
    have lX := wr_lo (ρ := ρ) x
    rw [hX] at lX
    have ldx : wr ρ (wh rs n (d * d) * lo x) ≤ D * D * X := by
      rw [wr_whm, Int.natAbs_mul, hD]
      exact Nat.mul_le_mul_left _ lX
    -- lo
    have r1 : IsRt ((wh rs n (d * d) * lo x + N) + (wh rs n (d * d) * lo x + N)) (lo z + lo z) 1 := by
      refine ⟨by decide, ?_⟩
      rw [show (1 : Int) * 1 = 1 from rfl, wh_one, ← hp, eN]
      grind
    have b1 := rt_wr hT' r1
    have c1 := wr_add (ρ := ρ) (wh rs n (d * d) * lo x) N
    have r2 : IsRt (rad rs n * ((wh rs n (d * d) * lo x - N) + (wh rs n (d * d) * lo x - N))) (rad rs n * (hi z + hi z)) 1 := by
      refine ⟨by decide, ?_⟩
      rw [show (1 : Int) * 1 = 1 from rfl, wh_one, ← hp, eN]
      grind
    have b2 := rt_wr hT' r2
    have c2 := wr_sub (ρ := ρ) (wh rs n (d * d) * lo x) N
    have c3 := Nat.le_trans (wr_mul hw' (rad rs n) ((wh rs n (d * d) * lo x - N) + (wh rs n (d * d) * lo x - N))) (Nat.mul_le_mul_right _ (hT.w n (by omega)).2)
    rw [wr_two] at b1 c3
    rw [wr_two] at b1
    have e3 : wh rs n (nuR rs n) * (hi z + hi z) = ooR rs n * (rad rs n * (hi z + hi z)) := by
      rw [← oo_mul]
      grind
    have c4 := wr_mul hw' (ooR rs n) (rad rs n * (hi z + hi z))
    rw [← e3, wr_whm, wr_two] at c4
    obtain ⟨κ, k1, k2⟩ := hT.kap n (by omega)
    have nu0 := nu_ne hT.pr (show n < n + 1 by omega)
    rw [wr_eta z]
    clear e3 r1 r2 hp eN hN hN2
    generalize wr ρ (rad rs n * (hi z + hi z)) = B at *
    generalize wr ρ (lo z) = P at *
    generalize wr ρ (hi z) = Q at *
    generalize wr ρ (ooR rs n) = O at *
    generalize hv : (nuR rs n).natAbs = v at *
    generalize ρ n = r at *
    generalize hΓ : D * D * (1 + β) * X = Γ at *
    rw [show (1 : Int).natAbs = 1 from rfl, hβ] at b1 b2
    have a1 : (2 * P) * (2 * P) ≤ β * β * (2 * Γ) := by
      refine Nat.le_trans b1 ?_
      have : wr ρ (wh rs n (d * d) * lo x + N) ≤ Γ := by
        have : Γ = D * D * X + D * D * β * X := by rw [← hΓ]; grind
        omega
      have := Nat.mul_le_mul_left (1 * 1 * (β * β)) (Nat.mul_le_mul_left 2 this)
      simpa using this
    have a2 : B * B ≤ β * β * (r * r * (2 * Γ)) := by
      refine Nat.le_trans b2 ?_
      have : wr ρ (wh rs n (d * d) * lo x - N) ≤ Γ := by
        have : Γ = D * D * X + D * D * β * X := by rw [← hΓ]; grind
        omega
      have := Nat.mul_le_mul_left (1 * 1 * (β * β)) (Nat.le_trans c3 (Nat.mul_le_mul_left (r * r) (Nat.mul_le_mul_left 2 this)))
      simpa using this
    clear c1 c2 c3 b1 b2 ldx lN
    generalize hG : β * β * (2 * Γ) = G at *
    have a2 : B * B ≤ r * r * G := by
      have : β * β * (r * r * (2 * Γ)) = r * r * (β * β * (2 * Γ)) := by grind
      rw [this, hG] at a2
      exact a2
    have a3 : (2 * P) * B ≤ r * G := by
      refine le_of_sq ?_
      have e1 : 2 * P * B * (2 * P * B) = (2 * P * (2 * P)) * (B * B) := by grind
      have e2 : r * G * (r * G) = G * (r * r * G) := by grind
      rw [e1, e2]
      exact Nat.mul_le_mul a1 a2
    have s1 : v * (2 * (P + r * Q)) ≤ v * (2 * P) + r * (O * B) := by
      have : v * (2 * (P + r * Q)) = v * (2 * P) + r * (v * (2 * Q)) := by grind
      rw [this]
      exact Nat.add_le_add_left (Nat.mul_le_mul_left _ c4) _
    have s2 := Nat.mul_le_mul s1 s1
    have s3 : (v * (2 * P) + r * (O * B)) * (v * (2 * P) + r * (O * B)) ≤ (v + r * r * O) * (v + r * r * O) * G := by
      have e1 : (v * (2 * P) + r * (O * B)) * (v * (2 * P) + r * (O * B)) = v * v * ((2 * P) * (2 * P)) + 2 * (v * r * O) * ((2 * P) * B) + r * r * O * O * (B * B) := by grind
      have e2 : (v + r * r * O) * (v + r * r * O) * G = v * v * G + 2 * (v * r * O) * (r * G) + r * r * O * O * (r * r * G) := by grind
      rw [e1, e2]
      exact Nat.add_le_add (Nat.add_le_add (Nat.mul_le_mul_left _ a1) (Nat.mul_le_mul_left _ a3)) (Nat.mul_le_mul_left _ a2)
    have s4 : (v + r * r * O) * (v + r * r * O) * G ≤ (2 ^ κ * v) * (2 ^ κ * v) * G := Nat.mul_le_mul_right _ (Nat.mul_le_mul k1 k1)
    have s5 := Nat.le_trans s2 (Nat.le_trans s3 s4)
    have v0 : 0 < v := by omega
    have s6 : 4 * ((P + r * Q) * (P + r * Q)) ≤ 2 ^ κ * 2 ^ κ * G := by
      have e1 : v * (2 * (P + r * Q)) * (v * (2 * (P + r * Q))) = v * v * (4 * ((P + r * Q) * (P + r * Q))) := by grind
      have e2 : 2 ^ κ * v * (2 ^ κ * v) * G = v * v * (2 ^ κ * 2 ^ κ * G) := by grind
      rw [e1, e2] at s5
      exact Nat.le_of_mul_le_mul_left s5 (Nat.mul_pos v0 v0)
    have s7 : G ≤ β * β * β * (4 * (D * D * X)) := by
      rw [← hG, ← hΓ]
      have : β * β * (2 * (D * D * (1 + β) * X)) ≤ β * β * (2 * (D * D * (2 * β) * X)) := Nat.mul_le_mul_left _ (Nat.mul_le_mul_left _ (Nat.mul_le_mul_right _ (Nat.mul_le_mul_left _ (by omega))))
      refine Nat.le_trans this (Nat.le_of_eq ?_)
      grind
    have s8 : 4 * ((P + r * Q) * (P + r * Q)) ≤ 4 * (2 ^ κ * 2 ^ κ * (β * β * β) * (D * D * X)) := by
      refine Nat.le_trans s6 (Nat.le_trans (Nat.mul_le_mul_left _ s7) (Nat.le_of_eq ?_))
      grind
    have s9 : 2 ^ κ * 2 ^ κ * (β * β * β) ≤ 2 ^ b (n + 1) * 2 ^ b (n + 1) := by
      rw [← hβ, ← Nat.pow_add, ← Nat.pow_add, ← Nat.pow_add, ← Nat.pow_add, ← Nat.pow_add]
      exact Nat.pow_le_pow_right (by decide) (by omega)
    have s10 : (P + r * Q) * (P + r * Q) ≤ 2 ^ κ * 2 ^ κ * (β * β * β) * (D * D * X) := by omega
    refine Nat.le_trans s10 (Nat.le_trans (Nat.mul_le_mul_right _ s9) (Nat.le_of_eq ?_))
    grind
end
end TV

namespace TV
open Lean.Grind
section
variable {rs : Nat → Nat → Int} {ρ b e iv : Nat → Nat}
/-! ### the sign of the first item other than zero -/
def sgL : List Int → Int
  | [] => 0
  | a :: r => if a = 0 then sgL r else a.sign
theorem sgL_app : ∀ l m : List Int, sgL (l ++ m) = if sgL l = 0 then sgL m else sgL l
  | [], m => rfl
  | a :: r, m => by
    show (if a = 0 then sgL (r ++ m) else a.sign) = if (if a = 0 then sgL r else a.sign) = 0 then _ else (if a = 0 then sgL r else a.sign)
    by_cases h : a = 0
    · rw [if_pos h, if_pos h, sgL_app r m]
    · rw [if_neg h, if_neg h, if_neg (by rw [Int.sign_eq_zero_iff_zero]; exact h)]
theorem sgL_neg : ∀ l : List Int, sgL (l.map fun a => -a) = -sgL l
  | [] => rfl
  | a :: r => by
    show (if -a = 0 then sgL (r.map fun a => -a) else (-a).sign) = -(if a = 0 then sgL r else a.sign)
    by_cases h : a = 0
    · rw [if_pos h, if_pos (by omega), sgL_neg r]
    · rw [if_neg h, if_neg (by omega), Int.sign_neg]
theorem sgL_mul {c : Int} (hc : 0 < c) : ∀ l : List Int, sgL (l.map fun a => c * a) = sgL l
  | [] => rfl
  | a :: r => by
    show (if c * a = 0 then sgL (r.map fun a => c * a) else (c * a).sign) = (if a = 0 then sgL r else a.sign)
    by_cases h : a = 0
    · rw [if_pos h, if_pos (by rw [h, Int.mul_zero]), sgL_mul hc r]
    · rw [if_neg h, if_neg (Int.mul_ne_zero (by omega) h), Int.sign_mul, Int.sign_eq_one_of_pos hc, Int.one_mul]
theorem sgL_zero : ∀ l : List Int, sgL l = 0 ↔ ∀ a ∈ l, a = 0
  | [] => by simp [sgL]
  | a :: r => by
    show (if a = 0 then sgL r else a.sign) = 0 ↔ _
    by_cases h : a = 0
    · rw [if_pos h, sgL_zero r]
      simp [h]
    · rw [if_neg h, Int.sign_eq_zero_iff_zero]
      simp [h]
theorem sgL_one : ∀ l : List Int, sgL l = 1 ∨ sgL l = 0 ∨ sgL l = -1
  | [] => .inr (.inl rfl)
  | a :: r => by
    show (if a = 0 then sgL r else a.sign) = 1 ∨ (if a = 0 then sgL r else a.sign) = 0 ∨ (if a = 0 then sgL r else a.sign) = -1
    by_cases h : a = 0
    · rw [if_pos h]; exact sgL_one r
    · rw [if_neg h]
      rcases Int.lt_or_gt_of_ne h with c | c
      · exact .inr (.inr (Int.sign_eq_neg_one_of_neg c))
      · exact .inl (Int.sign_eq_one_of_pos c)
def sT {n : Nat} (z : T rs n) : Int := sgL (ofT z)
theorem ofT_neg {n : Nat} (z : T rs n) : ofT (-z) = (ofT z).map fun a => -a := by
  unfold ofT
  rw [List.map_map]
  refine List.map_congr_left fun j _ => ?_
  rw [cf_neg]
  rfl
theorem cf_whm {n : Nat} (c : Int) (t : T rs n) {j : Nat} (h : j < 2 ^ n) : cf (wh rs n c * t) j = c * cf t j := by
  conv => lhs; rw [← Tf_cf t, ← wh_mul]
  rw [cf_Tf h]
theorem ofT_whm {n : Nat} (c : Int) (t : T rs n) : ofT (wh rs n c * t) = (ofT t).map fun a => c * a := by
  unfold ofT
  rw [List.map_map]
  refine List.map_congr_left fun j hj => ?_
  rw [cf_whm _ _ (by simpa using hj)]
  rfl
theorem sT_neg {n : Nat} (z : T rs n) : sT (-z) = -sT z := by unfold sT; rw [ofT_neg, sgL_neg]
theorem sT_wh {n : Nat} {c : Int} (hc : 0 < c) (z : T rs n) : sT (wh rs n c * z) = sT z := by unfold sT; rw [ofT_whm, sgL_mul hc]
theorem sT_mk {n : Nat} (a b : T rs n) : sT (mk a b) = if sT a = 0 then sT b else sT a := by unfold sT; rw [ofT_mk, sgL_app]
theorem sT_zero {n : Nat} {z : T rs n} : sT z = 0 ↔ z = 0 := by
  unfold sT
  rw [sgL_zero]
  have z0 : ∀ j, j < 2 ^ n → cf (0 : T rs n) j = 0 := fun j hj => by
    have := cf_le (0 : T rs n) j hj
    rw [wf_zero] at this
    omega
  refine ⟨fun h => cf_inj fun j hj => ?_, fun h a ha => ?_⟩
  · rw [z0 j hj]
    exact h _ (by unfold ofT; exact List.mem_map.mpr ⟨j, by simpa using hj, rfl⟩)
  · unfold ofT at ha
    obtain ⟨j, hj, rfl⟩ := List.mem_map.mp ha
    rw [h]
    exact z0 j (by simpa using hj)
theorem sT_mk0 {n : Nat} (a : T rs n) : sT (mk a 0 : T rs (n + 1)) = sT a := by
  rw [sT_mk]
  split
  · rename_i h; rw [h, sT_zero.mpr rfl]
  · rfl
theorem sT_0mk {n : Nat} (a : T rs n) : sT (mk 0 a : T rs (n + 1)) = sT a := by
  rw [sT_mk, if_pos (sT_zero.mpr rfl)]
/-- two roots, none of them negative, are the same -/
theorem rt_uniq {n : Nat} (hd : Dom rs n) {x z z' : T rs n} {d d' : Int} (h : IsRt x z d) (g : IsRt x z' d') (s : 0 ≤ sT z) (s' : 0 ≤ sT z') : wh rs n d' * z = wh rs n d * z' := by
  have h2 := h.2
  have g2 := g.2
  have h1 := h.1
  have g1 := g.1
  rw [wh_mm] at h2 g2
  have e1 : (wh rs n d' * z - wh rs n d * z') * (wh rs n d' * z + wh rs n d * z') = 0 := by grind
  rcases hd _ _ e1 with c | c
  · grind
  · have e2 : wh rs n d' * z = -(wh rs n d * z') := by grind
    have e3 := congrArg sT e2
    rw [sT_neg, sT_wh (by omega), sT_wh (by omega)] at e3
    have a1 : z = 0 := sT_zero.mp (by omega)
    have a2 : z' = 0 := sT_zero.mp (by omega)
    rw [a1, a2]
    grind
theorem IsRt.neg {n : Nat} {x z : T rs n} {d : Int} (h : IsRt x z d) : IsRt x (-z) d := ⟨h.1, by rw [← h.2]; grind⟩
theorem Sq.pos {n : Nat} {x : T rs n} (h : Sq x) : ∃ z d, IsRt x z d ∧ 0 ≤ sT z := by
  obtain ⟨z, d, h⟩ := h
  rcases Int.le_total 0 (sT z) with c | c
  · exact ⟨z, d, h, c⟩
  · exact ⟨-z, d, h.neg, by rw [sT_neg]; omega⟩
theorem wh_inj {n : Nat} {c d : Int} (h : wh rs n c = wh rs n d) : c = d := by
  have := congrArg (fun t => cf t 0) h
  have hp := Nat.two_pow_pos n
  simp only [wh] at this
  rwa [cf_Tf hp, cf_Tf hp, if_pos rfl, if_pos rfl] at this
theorem wh_cancel' {n : Nat} (hd : Dom rs n) {c : Int} (hc : c ≠ 0) {s t : T rs n} (h : wh rs n c * s = wh rs n c * t) : s = t := by
  have e : wh rs n c * (s - t) = 0 := by grind
  rcases hd _ _ e with q | q
  · exact absurd q (wh_ne hc)
  · grind
/-! ### a root of a vector without its last letter -/
theorem IsRt.flat {n : Nat} {a z : T rs n} {d : Int} (h : IsRt a z d) : IsRt (mk a 0 : T rs (n + 1)) (mk z 0) d := by
  refine ⟨h.1, ?_⟩
  rw [mk_mul, wh_mk]
  congr 1
  · rw [← h.2]; grind
  · grind
/-- the number asked second -/
noncomputable def otherQ {n : Nat} (a : T rs n) : T rs n := wh rs n (nuR rs n) * (a * ooR rs n)
theorem IsRt.turn {n : Nat} (hp : Pr rs (n + 1)) {a z : T rs n} {d : Int} (h : IsRt (otherQ a) z d) : IsRt (mk a 0 : T rs (n + 1)) (mk 0 z) (d * (nuR rs n).natAbs) := by
  have h0 := nu_ne hp (show n < n + 1 by omega)
  have h1 := h.1
  refine ⟨by have := Int.mul_pos (show (0 : Int) < d by omega) (show (0 : Int) < ((nuR rs n).natAbs : Int) by omega); omega, ?_⟩
  have e1 : d * ((nuR rs n).natAbs : Int) * (d * ((nuR rs n).natAbs : Int)) = d * d * (nuR rs n * nuR rs n) := by
    have : ((nuR rs n).natAbs : Int) * ((nuR rs n).natAbs : Int) = nuR rs n * nuR rs n := by
      rw [← Int.natCast_mul, Int.natAbs_mul_self]
    grind
  rw [mk_mul, wh_mk, e1]
  congr 1
  · have h2 := h.2
    rw [h2]
    unfold otherQ
    have h4 := oo_mul (rs := rs) n
    rw [wh_mm (d * d), wh_mm (nuR rs n)]
    generalize wh rs n (d * d) = D
    generalize wh rs n (nuR rs n) = N at *
    grind
  · grind
theorem flat_sq {n : Nat} (hp : Pr rs (n + 1)) {a : T rs n} (h : Sq (mk a 0 : T rs (n + 1))) (hn : ¬Sq a) : Sq (otherQ a) := by
  obtain ⟨z, d, h⟩ := h
  obtain ⟨h1, h2⟩ := h.parts
  have hd := (hp.low (m := n) (by omega)).dom
  rw [lo_mk] at h1
  rw [hi_mk] at h2
  have h3 : lo z * hi z = 0 := two_zero (by grind)
  rcases hd _ _ h3 with c | c
  · rw [c] at h1
    refine ⟨wh rs n (nuR rs n) * hi z, d, h.1, ?_⟩
    unfold otherQ
    have h4 := oo_mul (rs := rs) n
    have h5 : rad rs n * (hi z * hi z) = wh rs n (d * d) * a := by grind
    generalize wh rs n (nuR rs n) = N at *
    generalize wh rs n (d * d) = D at *
    generalize ooR rs n = O at *
    generalize hi z = q at *
    generalize rad rs n = v at *
    have s1 : N * q * (N * q) = N * (O * (v * (q * q))) := by rw [← h4]; grind
    rw [s1, h5]
    grind
  · rw [c] at h1
    exact absurd ⟨lo z, d, h.1, by grind⟩ hn
/-! ### a root of a vector with its last letter -/
/-- t / g is a root of (a + s * m / u) / 2, where s is 1 or -1 -/
def HR {n : Nat} (a m : T rs n) (u s : Int) (t : T rs n) (g : Int) : Prop := 1 ≤ g ∧ wh rs n (2 * u) * (t * t) = wh rs n (g * g) * (wh rs n u * a + wh rs n s * m)
theorem sq_norm {n : Nat} {x : T rs (n + 1)} (h : Sq x) : Sq (nm x) := by
  obtain ⟨z, d, h⟩ := h
  exact ⟨_, _, h.nm⟩
theorem hr_exists {n : Nat} (hp : Pr rs (n + 1)) {x : T rs (n + 1)} {m : T rs n} {u : Int} (hm : IsRt (nm x) m u) {z : T rs (n + 1)} {d : Int} (h : IsRt x z d) : ∃ s : Int, (s = 1 ∨ s = -1) ∧ HR (lo x) m u s (lo z) d ∧ wh rs n (d * d) * (wh rs n s * m) = wh rs n u * nm z := by
  obtain ⟨h1, _⟩ := h.parts
  have hd := (hp.low (m := n) (by omega)).dom
  have h2 := h.nm.2
  have h3 := hm.2
  have e1 : (wh rs n (d * d) * m - wh rs n u * nm z) * (wh rs n (d * d) * m + wh rs n u * nm z) = 0 := by
    rw [wh_mm u] at h3
    rw [wh_mm (d * d)] at h2
    grind
  have eN : nm z = lo z * lo z - rad rs n * (hi z * hi z) := rfl
  have w2 : wh rs n (2 * u) = wh rs n u + wh rs n u := by rw [← wh_add]; congr 1; omega
  have wm : wh rs n (-1) = -1 := by
    have := wh_sub (rs := rs) (n := n) 0 1
    rw [wh_zero, wh_one] at this
    rw [show (-1 : Int) = 0 - 1 from rfl, this]
    grind
  rcases hd _ _ e1 with c | c
  · refine ⟨1, .inl rfl, ⟨h.1, ?_⟩, ?_⟩
    · rw [w2, wh_one]
      grind
    · rw [wh_one]
      grind
  · refine ⟨-1, .inr rfl, ⟨h.1, ?_⟩, ?_⟩
    · rw [w2, wm]
      grind
    · rw [wm]
      grind
theorem hr_ne {n : Nat} (hp : Pr rs (n + 1)) {x : T rs (n + 1)} {m : T rs n} {u s : Int} (hm : IsRt (nm x) m u) (hs : s = 1 ∨ s = -1) (hx : hi x ≠ 0) {t : T rs n} {g : Int} (h : HR (lo x) m u s t g) : t ≠ 0 := fun e => by
  have hd := (hp.low (m := n) (by omega)).dom
  have h1 := h.1
  have h2 := h.2
  rw [e] at h2
  have e1 : wh rs n (g * g) * (wh rs n u * lo x + wh rs n s * m) = 0 := by rw [← h2]; grind
  have e2 := (hd _ _ e1).resolve_left (wh_ne (Int.mul_ne_zero (by omega) (by omega)))
  have e3 : wh rs n u * lo x * (wh rs n u * lo x) = m * m := by
    have e4 : wh rs n u * lo x = -(wh rs n s * m) := by grind
    rw [e4]
    have e5 : wh rs n s * wh rs n s = 1 := by rw [← wh_mm]; rcases hs with rfl | rfl <;> exact wh_one
    grind
  have hm2 := hm.2
  have eN : nm x = lo x * lo x - rad rs n * (hi x * hi x) := rfl
  rw [eN, wh_mm] at hm2
  have hu := hm.1
  have e6 : wh rs n u * (wh rs n u * (rad rs n * (hi x * hi x))) = 0 := by grind
  have e7 := (hd _ _ ((hd _ _ e6).resolve_left (wh_ne (by omega)))).resolve_left (wh_ne (by omega))
  exact hx (hd.sq ((hd _ _ e7).resolve_left (hp n (by omega)).ne))
/-- the root from the first part, the second being y / w with 2 * (t / g) * (y / w) = hi x -/
theorem hr_root {n : Nat} (hp : Pr rs (n + 1)) {x : T rs (n + 1)} {m : T rs n} {u s : Int} (hm : IsRt (nm x) m u) (hs : s = 1 ∨ s = -1) (hx : hi x ≠ 0) {t y : T rs n} {g w : Int} (h : HR (lo x) m u s t g) (hw : 1 ≤ w)
    (hy : wh rs n 2 * (t * y) = wh rs n (g * w) * hi x) : IsRt x (mk (wh rs n w * t) (wh rs n g * y)) (g * w) := by
  have hd := (hp.low (m := n) (by omega)).dom
  have h1 := h.1
  have h2 := h.2
  have hu := hm.1
  have ht := hr_ne hp hm hs hx h
  have hm2 := hm.2
  have eN : nm x = lo x * lo x - rad rs n * (hi x * hi x) := rfl
  refine ⟨by have := Int.mul_pos (show (0 : Int) < g by omega) (show (0 : Int) < w by omega); omega, ?_⟩
  conv => rhs; rw [← mk_eta x]
  rw [mk_mul, wh_mk]
  have e5 : wh rs n s * wh rs n s = 1 := by rw [← wh_mm]; rcases hs with rfl | rfl <;> exact wh_one
  have two : wh rs n 2 = 1 + 1 := by rw [← wh_one, ← wh_add]; rfl
  rw [eN, wh_mm] at hm2
  rw [wh_mm 2, wh_mm g] at h2
  rw [wh_mm] at hy
  rw [wh_mm (g * w), wh_mm g w]
  generalize lo x = a at *
  generalize hi x = c at *
  generalize rad rs n = v at *
  have u0 := wh_ne (rs := rs) (n := n) (show u ≠ 0 by omega)
  have t2 : wh rs n 2 ≠ 0 := wh_ne (by decide)
  have g0 := wh_ne (rs := rs) (n := n) (show g ≠ 0 by omega)
  generalize wh rs n u = U at *
  generalize wh rs n g = G at *
  generalize wh rs n w = W at *
  generalize wh rs n s = S at *
  generalize wh rs n 2 = K at *
  congr 1
  · -- 2 U t t = G G (U a + S m) =: G G F,  K t y = G W c,  m m = U U (a a - v c c)
    -- 4 U t t * (v G G y y) = U v G G (K t y)^2 = U v G^4 W^2 c^2
    have f1 : (U * a + S * m) * (U * a - S * m) = U * U * (v * (c * c)) := by grind
    have key : K * U * (t * t) * (W * t * (W * t) + v * (G * y * (G * y)) - G * W * (G * W) * a) = 0 := by
      have p1 : K * U * (t * t) * (W * W * (t * t)) * K * U = G * G * (U * a + S * m) * (W * W) * (G * G * (U * a + S * m)) := by grind
      have p2 : K * U * (t * t) * (v * (G * y * (G * y))) * K * U = G * G * (U * U * (v * (G * W * c * (G * W * c)))) := by
        rw [← hy]
        grind
      have p3 : K * U * (t * t) * (G * W * (G * W) * a) * K * U = G * G * (U * a + S * m) * (G * W * (G * W) * a) * K * U := by rw [h2]
      have p4 : K * U * (t * t) * (W * t * (W * t) + v * (G * y * (G * y)) - G * W * (G * W) * a) * (K * U) = 0 := by
        have q1 : K * U * (t * t) * (W * t * (W * t) + v * (G * y * (G * y)) - G * W * (G * W) * a) * (K * U) = K * U * (t * t) * (W * W * (t * t)) * K * U + K * U * (t * t) * (v * (G * y * (G * y))) * K * U - K * U * (t * t) * (G * W * (G * W) * a) * K * U := by grind
        rw [q1, p1, p2, p3]
        have q2 : G * G * (U * U * (v * (G * W * c * (G * W * c)))) = G * G * G * G * W * W * (U * U * (v * (c * c))) := by grind
        rw [q2, ← f1, two]
        grind
      exact (hd _ _ p4).resolve_right fun z => (hd _ _ z).elim t2 u0
    have k0 := (hd _ _ key).resolve_left fun z => (hd _ _ z).elim (fun z => (hd _ _ z).elim t2 u0) fun z => ht (hd.sq z)
    grind
  · have : W * t * (G * y) + G * y * (W * t) = G * W * ((1 + 1) * (t * y)) := by grind
    rw [this, ← two, hy]
    grind
end
end TV

namespace TV
open Lean.Grind
section
variable {rs : Nat → Nat → Int} {ρ b e iv : Nat → Nat}
/-! ### lowest terms -/
def Low {n : Nat} (z : T rs n) (d : Int) : Prop := ∀ k : Nat, k ∣ d.natAbs → (∀ j, j < 2 ^ n → k ∣ (cf z j).natAbs) → k = 1
theorem low_dvd_of {n : Nat} {z : T rs n} {d E : Int} (hd : 1 ≤ d) (h : Low z d) (he : ∀ j, j < 2 ^ n → d ∣ E * cf z j) : d ∣ E := by
  obtain ⟨g, d', e', hg, hcop, e1, e2⟩ := Nat.exists_coprime' (m := d.natAbs) (n := E.natAbs) (Nat.gcd_pos_of_pos_left _ (by omega))
  have h1 : d' = 1 := h d' ⟨g, e1⟩ fun j hj => by
    have := Int.natAbs_dvd_natAbs.mpr (he j hj)
    rw [Int.natAbs_mul, e1, e2] at this
    have h2 : d' ∣ e' * (cf z j).natAbs := by
      obtain ⟨k, hk⟩ := this
      refine ⟨k, ?_⟩
      have : g * (e' * (cf z j).natAbs) = g * (d' * k) := by grind
      exact Nat.eq_of_mul_eq_mul_left hg this
    exact hcop.dvd_of_dvd_mul_left h2
  subst h1
  exact Int.natAbs_dvd_natAbs.mp ⟨e', by rw [e2, e1]; grind⟩
theorem low_dvd {n : Nat} {z z' : T rs n} {d d' : Int} (hd : 1 ≤ d) (hd' : 1 ≤ d') (h : Low z' d') (he : wh rs n d' * z = wh rs n d * z') : ∃ k : Int, 1 ≤ k ∧ d = d' * k ∧ z = wh rs n k * z' := by
  have e1 : ∀ j, j < 2 ^ n → d' * cf z j = d * cf z' j := fun j hj => by
    have := congrArg (fun t => cf t j) he
    simp only [cf_whm _ _ hj] at this
    exact this
  obtain ⟨k, hk⟩ := low_dvd_of hd' h fun j hj => ⟨cf z j, (e1 j hj).symm⟩
  have k1 : 1 ≤ k := by
    refine Int.not_lt.mp fun c => ?_
    have : d' * k ≤ 0 := Int.mul_nonpos_of_nonneg_of_nonpos (by omega) (by omega)
    omega
  refine ⟨k, k1, hk, cf_inj fun j hj => ?_⟩
  rw [cf_whm _ _ hj]
  have := e1 j hj
  rw [hk, Int.mul_assoc] at this
  exact Int.eq_of_mul_eq_mul_left (by omega) this
theorem low_le {n : Nat} {z z' : T rs n} {d d' : Int} (hd : 1 ≤ d) (hd' : 1 ≤ d') (h : Low z' d') (he : wh rs n d' * z = wh rs n d * z') : d' ≤ d ∧ wr ρ z' ≤ wr ρ z := by
  obtain ⟨k, k1, rfl, rfl⟩ := low_dvd hd hd' h he
  refine ⟨?_, ?_⟩
  · have := Int.mul_le_mul_of_nonneg_left k1 (show (0 : Int) ≤ d' by omega)
    omega
  · rw [wr_whm]
    exact Nat.le_mul_of_pos_left _ (by omega)
/-- the bottom of a root -/
theorem rt_den {n : Nat} (hT : Tw rs ρ b e iv n) {x z : T rs n} {d : Int} (h : IsRt x z d) (hl : Low z d) : d ≤ 2 ^ e n := by
  have h1 := h.1
  obtain ⟨w, hw⟩ := ai_den h.1 (AI.of_rt h)
  have h2 : d ∣ EE rs n := low_dvd_of h.1 hl fun j hj => ⟨cf w j, by
    have := congrArg (fun t => cf t j) hw
    simp only [cf_whm _ _ hj] at this
    exact this⟩
  have h3 := Int.natAbs_dvd_natAbs.mpr h2
  have h4 := Nat.le_of_dvd (by have := EE_ne hT.pr; omega) h3
  have h5 := hT.den n (Nat.le_refl _)
  have e1 : (2 : Int) ^ e n = ((2 ^ e n : Nat) : Int) := by simp
  rw [e1]
  omega
/-- a root of half the sum -/
theorem HR.rt {n : Nat} {a m h t : T rs n} {u s c g : Int} (hd : Dom rs n) (hu : 1 ≤ u) (hh : wh rs n (2 * u) * h = wh rs n c * (wh rs n u * a + wh rs n s * m)) (hr : HR a m u s t g) : IsRt (wh rs n c * h) (wh rs n c * t) g := by
  refine ⟨hr.1, ?_⟩
  have h2 := hr.2
  refine wh_cancel' hd (c := 2 * u) (by omega) ?_
  generalize wh rs n (2 * u) = K at *
  generalize wh rs n c = C at *
  generalize wh rs n (g * g) = G at *
  have e1 : K * (C * t * (C * t)) = C * C * (K * (t * t)) := by grind
  have e2 : K * (G * (C * h)) = G * C * (K * h) := by grind
  rw [e1, e2, h2, hh]
  grind
theorem HR.of_rt {n : Nat} {a m h t : T rs n} {u s c f : Int} (hc : 1 ≤ c) (hh : wh rs n (2 * u) * h = wh rs n c * (wh rs n u * a + wh rs n s * m)) (hr : IsRt (wh rs n c * h) t f) : HR a m u s t (f * c) := by
  have h1 := hr.1
  refine ⟨by have := Int.mul_pos (show (0 : Int) < f by omega) (show (0 : Int) < c by omega); omega, ?_⟩
  have h2 := hr.2
  rw [wh_mm] at h2
  rw [wh_mm (f * c), wh_mm f c]
  generalize wh rs n (2 * u) = K at *
  generalize wh rs n c = C at *
  generalize wh rs n f = F at *
  have e1 : K * (t * t) = F * F * C * (K * h) := by rw [h2]; grind
  rw [e1, hh]
  grind
/-- if half the sum is a square, the whole is -/
theorem HR.sq {n : Nat} (hp : Pr rs (n + 1)) {x : T rs (n + 1)} {m t : T rs n} {u s g : Int} (hm : IsRt (nm x) m u) (hs : s = 1 ∨ s = -1) (hx : hi x ≠ 0) (h : HR (lo x) m u s t g) : Sq x := by
  have ht := hr_ne hp hm hs hx h
  have hN := inv_ne (hp.low (m := n) (by omega)) ht
  have h1 := inv_mul t
  obtain ⟨σ, w, hw, hσ⟩ : ∃ σ w : Int, 1 ≤ w ∧ w = 2 * (σ * (invT t).2) := by
    rcases Int.lt_or_gt_of_ne hN with c | c
    · exact ⟨-1, 2 * (-1 * (invT t).2), by omega, rfl⟩
    · exact ⟨1, 2 * (1 * (invT t).2), by omega, rfl⟩
  refine ⟨_, _, hr_root hp hm hs hx (y := wh rs n (g * σ) * ((invT t).1 * hi x)) h hw ?_⟩
  rw [hσ, wh_mm g σ, wh_mm g, wh_mm 2, wh_mm σ, ← h1]
  grind
/-! ### what keeps the search small -/
def Fine {rs : Nat → Nat → Int} (ρ : Nat → Nat) : (n : Nat) → T rs n → Prop
  | 0, x => wr ρ x < 2 ^ 12900
  | n + 1, x => wr ρ x < 2 ^ 60000 ∧ (hi x = 0 → Fine ρ n (lo x) ∧ (¬Sq (lo x) → Fine ρ n (otherQ (lo x)))) ∧
    (hi x ≠ 0 → Fine ρ n (nm x) ∧ ∀ (m : T rs n) (u s : Int) (h : T rs n) (c : Int), IsRt (nm x) m u → Low m u → (s = 1 ∨ s = -1) → 1 ≤ c → Low h c → wh rs n (2 * u) * h = wh rs n c * (wh rs n u * lo x + wh rs n s * m) →
      Fine ρ n (wh rs n c * h) ∧ ∀ (t : T rs n) (g : Int), HR (lo x) m u s t g → Low t g → (2 * wr ρ t) ^ 2 ^ n < 2 ^ 6000)
def okG (b e iv : Nat → Nat) : Nat → Nat → Bool
  | 0, s => decide (s < 12900)
  | n + 1, s => decide (s < 60000) && okG b e iv n s && okG b e iv n (s + 2 * iv n) && okG b e iv n (2 * s) && okG b e iv n (2 * e n + b n + s + 2) && decide ((1 + (e n + b n + (2 * e n + b n + s + 3) / 2)) * 2 ^ n < 6000)
def okN (b e iv : Nat → Nat) : Nat → Nat → Bool
  | 0, s => decide (s < 12900)
  | n + 1, s => decide (s < 60000) && okN b e iv n s && okN b e iv n (s + 2 * iv n) && okG b e iv n (2 * s) && okN b e iv n (2 * e n + b n + s + 2)
def okS (b e iv : Nat → Nat) : Nat → Nat → Nat → Bool
  | 0, t, _ => decide (2 * t < 12900)
  | n + 1, t, f => decide (2 * t < 60000) && okS b e iv n t f && okN b e iv n (2 * t) && okS b e iv n (t + iv n) f && okS b e iv n (2 * t) (2 * f) && okS b e iv n (t + 2 * f + 1) f && okN b e iv n (2 * t + 2 * f) && decide ((1 + t) * 2 ^ n < 6000)
theorem pow_le2 {a s t : Nat} (h : a ≤ 2 ^ s) (hs : s ≤ t) : a ≤ 2 ^ t := Nat.le_trans h (Nat.pow_le_pow_right (by decide) hs)
theorem pow_lt2 {a s t : Nat} (h : a ≤ 2 ^ s) (hs : s < t) : a < 2 ^ t := Nat.lt_of_le_of_lt h (Nat.pow_lt_pow_right (by decide) hs)
theorem mul_pow2 {a c s t : Nat} (h : a ≤ 2 ^ s) (g : c ≤ 2 ^ t) : a * c ≤ 2 ^ (s + t) := by rw [Nat.pow_add]; exact Nat.mul_le_mul h g
theorem sq_pow2 {a B s : Nat} (h : a * a ≤ B) (g : B ≤ 2 ^ s) : a ≤ 2 ^ ((s + 1) / 2) := by
  refine le_of_sq (Nat.le_trans h (Nat.le_trans g ?_))
  rw [← Nat.pow_add]
  exact Nat.pow_le_pow_right (by decide) (by omega)
/-- sizes of a root -/
theorem rt_size {n : Nat} (hT : Tw rs ρ b e iv n) {x z : T rs n} {d : Int} (h : IsRt x z d) (hl : Low z d) {s : Nat} (hx : wr ρ x ≤ 2 ^ s) : d.natAbs ≤ 2 ^ e n ∧ wr ρ z ≤ 2 ^ (e n + b n + (s + 1) / 2) := by
  have h1 := h.1
  have h2 := rt_den hT h hl
  have e1 : (2 : Int) ^ e n = ((2 ^ e n : Nat) : Int) := by simp
  rw [e1] at h2
  have h3 : d.natAbs ≤ 2 ^ e n := by omega
  refine ⟨h3, ?_⟩
  have h4 := rt_wr hT h
  have h5 := mul_pow2 (mul_pow2 (mul_pow2 h3 h3) (mul_pow2 (Nat.le_refl (2 ^ b n)) (Nat.le_refl (2 ^ b n)))) hx
  have := sq_pow2 h4 h5
  exact pow_le2 this (by omega)
theorem otherQ_wr {n : Nat} (hT : Tw rs ρ b e iv (n + 1)) {a : T rs n} {s : Nat} (h : wr ρ a ≤ 2 ^ s) : wr ρ (otherQ a) ≤ 2 ^ (s + 2 * iv n) := by
  unfold otherQ
  obtain ⟨i1, i2⟩ := hT.inv n (by omega)
  rw [wr_whm]
  have h1 := Nat.le_trans (wr_mul (hT.w.low (m := n) (by omega)) a (ooR rs n)) (mul_pow2 h i1)
  exact pow_le2 (mul_pow2 i2 h1) (by omega)
/-- sizes of half the sum -/
theorem half_size {n : Nat} (hT : Tw rs ρ b e iv n) {x : T rs (n + 1)} (hw : WOk rs ρ (n + 1)) {m h : T rs n} {u s c : Int} {k : Nat} (hx : wr ρ x ≤ 2 ^ k) (hm : IsRt (nm x) m u) (hl : Low m u) (hs : s = 1 ∨ s = -1) (hc : 1 ≤ c) (hlc : Low h c)
    (hh : wh rs n (2 * u) * h = wh rs n c * (wh rs n u * lo x + wh rs n s * m)) : c.natAbs ≤ 2 ^ (e n + 1) ∧ wr ρ (wh rs n c * h) ≤ 2 ^ (2 * e n + b n + k + 2) := by
  have hu := hm.1
  have n1 : wr ρ (nm x) ≤ 2 ^ (2 * k) := pow_le2 (Nat.le_trans (nm_wr hw x) (mul_pow2 hx hx)) (by omega)
  obtain ⟨s1, s2⟩ := rt_size hT hm hl n1
  obtain ⟨l1, l2⟩ := low_le (ρ := ρ) (z := wh rs n u * lo x + wh rs n s * m) (d := 2 * u) (by omega) hc hlc (by rw [hh])
  have c1 : c.natAbs ≤ 2 ^ (e n + 1) := by
    rw [Nat.pow_succ]
    omega
  have a1 := wr_add (ρ := ρ) (wh rs n u * lo x) (wh rs n s * m)
  rw [wr_whm, wr_whm] at a1
  have sn : s.natAbs = 1 := by rcases hs with rfl | rfl <;> rfl
  rw [sn, Nat.one_mul] at a1
  have a2 := mul_pow2 s1 (Nat.le_trans (wr_lo x) hx)
  have a3 : wr ρ h ≤ 2 ^ (e n + b n + k + 1) := by
    rw [Nat.pow_succ]
    have := pow_le2 a2 (show e n + k ≤ e n + b n + k by omega)
    have := pow_le2 s2 (show e n + b n + (2 * k + 1) / 2 ≤ e n + b n + k by omega)
    omega
  refine ⟨c1, ?_⟩
  rw [wr_whm]
  exact pow_le2 (mul_pow2 c1 a3) (by omega)
theorem first_size {n : Nat} (hT : Tw rs ρ b e iv n) {a m h t : T rs n} {u s c g : Int} {k : Nat} (hu : 1 ≤ u) (hc : 1 ≤ c) (hh : wh rs n (2 * u) * h = wh rs n c * (wh rs n u * a + wh rs n s * m)) (hk : wr ρ (wh rs n c * h) ≤ 2 ^ k) (hr : HR a m u s t g) (hl : Low t g) :
    g.natAbs ≤ c.natAbs * 2 ^ e n ∧ wr ρ t ≤ 2 ^ (e n + b n + (k + 1) / 2) := by
  have h1 := hr.rt hT.pr.dom hu hh
  have hg := hr.1
  obtain ⟨w, hw⟩ := ai_den h1.1 (AI.of_rt h1)
  have d1 : g ∣ EE rs n * c := low_dvd_of hg hl fun j hj => ⟨cf w j, by
    have := congrArg (fun t => cf t j) hw
    simp only [cf_whm _ _ hj] at this
    rw [← this]
    exact Int.mul_assoc _ _ _⟩
  have d2 := Int.natAbs_dvd_natAbs.mpr d1
  rw [Int.natAbs_mul] at d2
  have hE := EE_ne hT.pr
  have d3 := Nat.le_of_dvd (Nat.mul_pos (by omega) (by omega)) d2
  have d4 := hT.den n (Nat.le_refl _)
  have d5 : g.natAbs ≤ c.natAbs * 2 ^ e n := by
    rw [Nat.mul_comm c.natAbs]
    exact Nat.le_trans d3 (Nat.mul_le_mul_right _ d4)
  refine ⟨d5, ?_⟩
  have r1 := rt_wr hT h1
  rw [wr_whm c t] at r1
  have c0 : 0 < c.natAbs := by omega
  have r2 : (wr ρ t) * (wr ρ t) ≤ 2 ^ e n * 2 ^ e n * (2 ^ b n * 2 ^ b n) * 2 ^ k := by
    have e1 : c.natAbs * wr ρ t * (c.natAbs * wr ρ t) = c.natAbs * c.natAbs * (wr ρ t * wr ρ t) := by grind
    have e2 : g.natAbs * g.natAbs * (2 ^ b n * 2 ^ b n) * wr ρ (wh rs n c * h) ≤ c.natAbs * c.natAbs * (2 ^ e n * 2 ^ e n * (2 ^ b n * 2 ^ b n) * 2 ^ k) := by
      refine Nat.le_trans (Nat.mul_le_mul (Nat.mul_le_mul_right _ (Nat.mul_le_mul d5 d5)) hk) (Nat.le_of_eq ?_)
      grind
    rw [e1] at r1
    exact Nat.le_of_mul_le_mul_left (Nat.le_trans r1 e2) (Nat.mul_pos c0 c0)
  have r3 : 2 ^ e n * 2 ^ e n * (2 ^ b n * 2 ^ b n) * 2 ^ k ≤ 2 ^ (2 * e n + 2 * b n + k) := by
    rw [← Nat.pow_add, ← Nat.pow_add, ← Nat.pow_add, ← Nat.pow_add]
    exact Nat.pow_le_pow_right (by decide) (by omega)
  exact pow_le2 (sq_pow2 r2 r3) (by omega)
theorem pow_M {a k n : Nat} (h : a ≤ 2 ^ k) (hk : (1 + k) * 2 ^ n < 6000) : (2 * a) ^ 2 ^ n < 2 ^ 6000 := by
  have h1 : 2 * a ≤ 2 ^ (1 + k) := by rw [Nat.pow_add]; omega
  refine Nat.lt_of_le_of_lt (Nat.pow_le_pow_left h1 _) ?_
  rw [← Nat.pow_mul]
  exact Nat.pow_lt_pow_right (by decide) hk
theorem fine_gen : ∀ {n : Nat}, Tw rs ρ b e iv n → ∀ {x : T rs n} {s : Nat}, wr ρ x ≤ 2 ^ s → okG b e iv n s = true → Fine ρ n x
  | 0, _, x, s, h, ok => by
    simp only [okG, decide_eq_true_eq] at ok
    exact pow_lt2 h ok
  | n + 1, hT, x, s, h, ok => by
    simp only [okG, Bool.and_eq_true, decide_eq_true_eq] at ok
    obtain ⟨⟨⟨⟨⟨o1, o2⟩, o3⟩, o4⟩, o5⟩, o6⟩ := ok
    have hT' := hT.low (m := n) (by omega)
    have hlo := Nat.le_trans (wr_lo x) h
    refine ⟨pow_lt2 h o1, fun _ => ⟨fine_gen hT' hlo o2, fun _ => fine_gen hT' (otherQ_wr hT hlo) o3⟩, fun hx => ⟨fine_gen hT' (Nat.le_trans (nm_wr hT.w x) (by rw [Nat.two_mul]; exact mul_pow2 h h)) o4, fun m u σ y c hm hl hs hc hlc hh => ?_⟩⟩
    obtain ⟨z1, z2⟩ := half_size hT' hT.w h hm hl hs hc hlc hh
    refine ⟨fine_gen hT' z2 o5, fun t g hr hlt => ?_⟩
    exact pow_M (first_size hT' hm.1 hc hh z2 hr hlt).2 (by simpa using o6)
theorem fine_ns : ∀ {n : Nat}, Tw rs ρ b e iv n → ∀ {x : T rs n} {s : Nat}, ¬Sq x → wr ρ x ≤ 2 ^ s → okN b e iv n s = true → Fine ρ n x
  | 0, _, x, s, _, h, ok => by
    simp only [okN, decide_eq_true_eq] at ok
    exact pow_lt2 h ok
  | n + 1, hT, x, s, ns, h, ok => by
    simp only [okN, Bool.and_eq_true, decide_eq_true_eq] at ok
    obtain ⟨⟨⟨⟨o1, o2⟩, o3⟩, o4⟩, o5⟩ := ok
    have hT' := hT.low (m := n) (by omega)
    have hlo := Nat.le_trans (wr_lo x) h
    refine ⟨pow_lt2 h o1, fun hx => ⟨fine_ns hT' (fun ⟨z, d, r⟩ => ns ⟨_, _, by have := r.flat; rwa [← hx, mk_eta] at this⟩) hlo o2, fun _ => fine_ns hT' (fun ⟨z, d, r⟩ => ns ⟨_, _, by have := r.turn hT.pr; rwa [← hx, mk_eta] at this⟩) (otherQ_wr hT hlo) o3⟩,
      fun hx => ⟨fine_gen hT' (Nat.le_trans (nm_wr hT.w x) (by rw [Nat.two_mul]; exact mul_pow2 h h)) o4, fun m u σ y c hm hl hs hc hlc hh => ?_⟩⟩
    obtain ⟨z1, z2⟩ := half_size hT' hT.w h hm hl hs hc hlc hh
    refine ⟨fine_ns hT' (fun ⟨t, f, r⟩ => ns ((HR.of_rt hc hh r).sq hT.pr hm hs hx)) z2 o5, fun t g hr _ => absurd (hr.sq hT.pr hm hs hx) ns⟩
theorem rt_uniq' {n : Nat} (hd : Dom rs n) {x z z' : T rs n} {d d' : Int} (h : IsRt x z d) (g : IsRt x z' d') : wh rs n d' * z = wh rs n d * z' ∨ wh rs n d' * z = wh rs n d * -z' := by
  rcases Int.le_total 0 (sT z) with c | c <;> rcases Int.le_total 0 (sT z') with c' | c'
  · exact .inl (rt_uniq hd h g c c')
  · exact .inr (rt_uniq hd h g.neg c (by rw [sT_neg]; omega))
  · have := rt_uniq hd h.neg g (by rw [sT_neg]; omega) c'
    exact .inr (by grind)
  · have := rt_uniq hd h.neg g.neg (by rw [sT_neg]; omega) (by rw [sT_neg]; omega)
    exact .inl (by grind)
theorem rt_le {n : Nat} (hd : Dom rs n) {x z z' : T rs n} {d d' : Int} (h : IsRt x z d) (g : IsRt x z' d') (hl : Low z' d') : d' ≤ d ∧ wr ρ z' ≤ wr ρ z := by
  rcases rt_uniq' hd h g with c | c
  · exact low_le h.1 g.1 hl c
  · have := low_le (ρ := ρ) h.1 g.1 hl (z := -z) (by grind)
    rwa [wr_neg] at this
theorem rt_wx {n : Nat} {x z : T rs n} {d : Int} (hw : WOk rs ρ n) (h : IsRt x z d) : wr ρ x ≤ wr ρ z * wr ρ z := by
  have h1 := wr_mul hw z z
  rw [h.2, wr_whm, Int.natAbs_mul] at h1
  have hd := h.1
  have : 1 ≤ d.natAbs * d.natAbs := Nat.mul_pos (by omega) (by omega)
  exact Nat.le_trans (Nat.le_mul_of_pos_left _ this) h1
theorem fine_sq : ∀ {n : Nat}, Tw rs ρ b e iv n → ∀ {x z : T rs n} {d : Int} {t f : Nat}, IsRt x z d → wr ρ z ≤ 2 ^ t → d ≤ 2 ^ f → okS b e iv n t f = true → Fine ρ n x
  | 0, hT, x, z, d, t, f, h, hz, hd, ok => by
    simp only [okS, decide_eq_true_eq] at ok
    exact pow_lt2 (Nat.le_trans (rt_wx hT.w h) (mul_pow2 hz hz)) (by omega)
  | n + 1, hT, x, z, d, t, f, h, hz, hd, ok => by
    simp only [okS, Bool.and_eq_true, decide_eq_true_eq] at ok
    obtain ⟨⟨⟨⟨⟨⟨⟨o1, o2⟩, o3⟩, o4⟩, o5⟩, o6⟩, o7⟩, o8⟩ := ok
    have hT' := hT.low (m := n) (by omega)
    have hdm := hT'.pr.dom
    have h1 := h.1
    have hx2 : wr ρ x ≤ 2 ^ (2 * t) := by rw [Nat.two_mul]; exact Nat.le_trans (rt_wx hT.w h) (mul_pow2 hz hz)
    have hlo := Nat.le_trans (wr_lo z) hz
    have hhi := Nat.le_trans (wr_hi hT.w z) hz
    obtain ⟨p1, p2⟩ := h.parts
    refine ⟨pow_lt2 hx2 o1, fun hx => ?_, fun hx => ?_⟩
    · rw [hx] at p2
      have h3 : lo z * hi z = 0 := two_zero (by grind)
      have other : hi z ≠ 0 → lo z = 0 → Fine ρ n (lo x) ∧ (¬Sq (lo x) → Fine ρ n (otherQ (lo x))) := fun q0 c => by
        rw [c] at p1
        have h5 : rad rs n * (hi z * hi z) = wh rs n (d * d) * lo x := by grind
        have nsq : ¬Sq (lo x) := fun ⟨y, g, r⟩ => by
          have r1 := r.1
          have r2 := r.2
          have r3 := hT.pr n (by omega) (wh rs n d * y) (wh rs n g * hi z) (by
            rw [wh_mm] at h5 r2
            grind)
          rcases hdm _ _ r3 with q | q
          · exact wh_ne (by omega) q
          · exact q0 q
        have rt : IsRt (otherQ (lo x)) (wh rs n (nuR rs n) * hi z) d := by
          refine ⟨h.1, ?_⟩
          unfold otherQ
          have h4 := oo_mul (rs := rs) n
          generalize wh rs n (nuR rs n) = N at *
          generalize wh rs n (d * d) = D at *
          generalize ooR rs n = O at *
          generalize hi z = q at *
          generalize rad rs n = v at *
          have s1 : N * q * (N * q) = N * (O * (v * (q * q))) := by rw [← h4]; grind
          rw [s1, h5]
          grind
        refine ⟨fine_ns hT' nsq (Nat.le_trans (wr_lo x) hx2) o3, fun _ => fine_sq hT' rt ?_ hd o4⟩
        rw [wr_whm]
        exact pow_le2 (mul_pow2 (hT.inv n (by omega)).2 hhi) (by omega)
      by_cases c : hi z = 0
      · rw [c] at p1
        have rt : IsRt (lo x) (lo z) d := ⟨h.1, by rw [← p1]; grind⟩
        exact ⟨fine_sq hT' rt hlo hd o2, fun ns => absurd ⟨_, _, rt⟩ ns⟩
      · exact other c ((hdm _ _ h3).resolve_right c)
    · have q0 : hi z ≠ 0 := fun c => by
        rw [c] at p2
        have : wh rs n (d * d) * hi x = 0 := by rw [← p2]; grind
        exact hx ((hdm _ _ this).resolve_left (wh_ne (Int.mul_ne_zero (by omega) (by omega))))
      have hN := h.nm
      have wN : wr ρ (nm z) ≤ 2 ^ (2 * t) := by rw [Nat.two_mul]; exact Nat.le_trans (nm_wr hT.w z) (mul_pow2 hz hz)
      have dN : d * d ≤ 2 ^ (2 * f) := by
        rw [Nat.two_mul, Int.pow_add]
        exact Int.mul_le_mul hd hd (by omega) (by exact Int.le_of_lt (Int.pow_pos (by decide)))
      refine ⟨fine_sq hT' hN wN dN o5, fun m u σ y c hm hl hs hc hlc hh => ?_⟩
      obtain ⟨s0, hs0, hr0, hsN⟩ := hr_exists hT.pr hm h
      have hu := hm.1
      obtain ⟨u1, u2⟩ := rt_le (ρ := ρ) hdm hN hm hl
      have hcu : c ≤ 2 * u := (low_le (ρ := ρ) (z := wh rs n u * lo x + wh rs n σ * m) (d := 2 * u) (by omega) hc hlc (by rw [hh])).1
      have e2f : (2 : Int) ^ (2 * f) = ((2 ^ (2 * f) : Nat) : Int) := by simp
      have cn : c.natAbs ≤ 2 ^ (2 * f + 1) := by
        rw [Nat.pow_succ]
        omega
      by_cases hσ : σ = s0
      · subst hσ
        have rt := hr0.rt hdm hu hh
        refine ⟨fine_sq hT' rt (t := t + 2 * f + 1) (by rw [wr_whm]; exact pow_le2 (mul_pow2 cn hlo) (by omega)) hd o6, fun t' g hr hlt => ?_⟩
        refine pow_M (k := t) ?_ o8
        -- t' / g is lo z / d, up to the sign
        have r1 := hr.rt hdm hu hh
        have : wr ρ t' ≤ wr ρ (lo z) := by
          have cc := wh_ne (rs := rs) (n := n) (show c ≠ 0 by omega)
          rcases rt_uniq' hdm rt r1 with q | q
          · have : wh rs n g * lo z = wh rs n d * t' := wh_cancel' hdm (show c ≠ 0 by omega) (by grind)
            exact (low_le h.1 hr.1 hlt this).2
          · have : wh rs n g * -lo z = wh rs n d * t' := wh_cancel' hdm (show c ≠ 0 by omega) (by grind)
            have := (low_le (ρ := ρ) h.1 hr.1 hlt this).2
            rwa [wr_neg] at this
        exact Nat.le_trans this hlo
      · -- rad * hi z * hi z / d d
        have key : wh rs n (d * d) * y = wh rs n c * (rad rs n * (hi z * hi z)) := by
          have hσ' : wh rs n σ = -wh rs n s0 := by
            have wm : wh rs n (-1) = -1 := by
              have := wh_sub (rs := rs) (n := n) 0 1
              rw [wh_zero, wh_one] at this
              rw [show (-1 : Int) = 0 - 1 from rfl, this]
              grind
            rcases hs with rfl | rfl <;> rcases hs0 with rfl | rfl
            · exact absurd rfl hσ
            · rw [wm, wh_one]; grind
            · rw [wm, wh_one]
            · exact absurd rfl hσ
          have eN : nm z = lo z * lo z - rad rs n * (hi z * hi z) := rfl
          refine wh_cancel' hdm (show 2 * u ≠ 0 by omega) ?_
          have w2 : wh rs n (2 * u) = wh rs n u + wh rs n u := by rw [← wh_add]; congr 1; omega
          have s1 : wh rs n (2 * u) * (wh rs n (d * d) * y) = wh rs n (d * d) * (wh rs n (2 * u) * y) := by grind
          rw [s1, hh, hσ', w2]
          have s2 : wh rs n (d * d) * (wh rs n c * (wh rs n u * lo x + -wh rs n s0 * m)) = wh rs n c * (wh rs n u * (wh rs n (d * d) * lo x) - wh rs n (d * d) * (wh rs n s0 * m)) := by grind
          rw [s2, ← p1, hsN, eN]
          grind
        have nsq : ¬Sq (wh rs n c * y) := fun ⟨r, g, hr⟩ => by
          have r1 := hr.1
          have r2 := hr.2
          have r3 := hT.pr n (by omega) (wh rs n d * r) (wh rs n g * (wh rs n c * hi z)) (by
            rw [wh_mm] at key r2
            generalize wh rs n d = D at *
            generalize wh rs n c = C at *
            generalize wh rs n g = G at *
            have s1 : D * r * (D * r) = D * D * (r * r) := by grind
            have s2 : D * D * (G * G * (C * y)) = G * G * C * (D * D * y) := by grind
            rw [s1, r2, s2, key]
            grind)
          rcases hdm _ _ r3 with q | q
          · exact wh_ne (by omega) q
          · rcases hdm _ _ q with q | q
            · exact wh_ne (by omega) q
            · exact q0 q
        have hd2 : 1 ≤ d * d := hN.1
        obtain ⟨k, k1, k2, k3⟩ := low_dvd (z := rad rs n * (hi z * hi z)) (d := d * d) hd2 hc hlc (by rw [key])
        have hv : wr ρ (rad rs n * (hi z * hi z)) ≤ 2 ^ (2 * t) := by
          have v1 := wr_mul hT'.w (rad rs n) (hi z * hi z)
          have v2 := Nat.mul_le_mul (hT.w n (by omega)).2 (wr_mul hT'.w (hi z) (hi z))
          have v3 : ρ n * wr ρ (hi z) ≤ 2 ^ t := by rw [wr_eta z] at hz; omega
          have v4 := mul_pow2 v3 v3
          have v5 : ρ n * wr ρ (hi z) * (ρ n * wr ρ (hi z)) = ρ n * ρ n * (wr ρ (hi z) * wr ρ (hi z)) := by grind
          rw [v5] at v4
          rw [Nat.two_mul]
          omega
        have hy : wr ρ y ≤ 2 ^ (2 * t) := by
          rw [k3, wr_whm] at hv
          exact Nat.le_trans (Nat.le_mul_of_pos_left _ (by omega)) hv
        have hcd : c.natAbs ≤ 2 ^ (2 * f) := by
          have : c ≤ d * d := by
            rw [k2]
            have := Int.mul_le_mul_of_nonneg_left k1 (show (0 : Int) ≤ c by omega)
            omega
          omega
        refine ⟨fine_ns hT' nsq (s := 2 * t + 2 * f) ?_ o7, fun t' g hr _ => absurd ⟨_, _, hr.rt hdm hu hh⟩ nsq⟩
        rw [wr_whm]
        exact pow_le2 (mul_pow2 hcd hy) (by omega)
end
end TV

namespace TV
open Lean.Grind
section
variable {rs : Nat → Nat → Int} {ρ : Nat → Nat}
theorem Nn_wr : ∀ {n : Nat}, WOk rs ρ n → ∀ {M : Nat} {x : T rs n}, 1 ≤ M → wr ρ x ≤ M → (Nn x).natAbs ≤ M ^ 2 ^ n
  | 0, _, M, x, _, h => by
    have : wr ρ x = (Nn x).natAbs := rfl
    show (Nn x).natAbs ≤ M ^ 1
    rw [Nat.pow_one]
    omega
  | n + 1, hw, M, x, hM, h => by
    rw [Nn_succ]
    have h1 := Nn_wr (hw.low (by omega)) (M := M * M) (x := nm x) (Nat.mul_pos hM hM) (Nat.le_trans (nm_wr hw x) (Nat.mul_le_mul h h))
    rwa [pow_sq, ← Nat.pow_succ'] at h1
theorem ns_of_Nn : ∀ {n : Nat}, Pr rs n → ∀ {x : T rs n}, sqB (Nn x) = false → NS x
  | 0, _, x, h => by
    have : x = wh rs 0 (Nn x) := rfl
    rw [this]
    exact ns_zero h
  | n + 1, hp, x, h => ns_norm (hp.low (by omega)).dom (hp n (by omega)) (ns_of_Nn (hp.low (by omega)) (x := nm x) h)
/-! ### a row grows -/
theorem lev_congr {rs rs' : Nat → Nat → Int} : ∀ {n : Nat}, (∀ k, k < n → rs k = rs' k) → lev rs n = lev rs' n
  | 0, _ => rfl
  | n + 1, h => by
    have h1 := lev_congr (n := n) fun k hk => h k (by omega)
    have h2 := h n (by omega)
    unfold lev
    rw [h1, h2]
def NSl (l : Lv) (v : l.T) : Prop := ∀ x y : l.T, l.R.mul x x = l.R.mul v (l.R.mul y y) → y = l.f fun _ => 0
theorem ns_l {n : Nat} {v : T rs n} : NS v ↔ NSl (lev rs n) v := by
  have e : ∀ y : T rs n, (y = (lev rs n).f fun _ => 0) ↔ y = 0 := fun y => by
    have : (lev rs n).f (fun _ => 0) = (0 : T rs n) := Tf_nil
    rw [this]
  exact ⟨fun h x y q => (e y).mpr (h x y q), fun h x y q => (e y).mp (h x y q)⟩
theorem NS_congr {rs rs' : Nat → Nat → Int} {n : Nat} (h : ∀ k, k < n → rs k = rs' k) {g : Nat → Int} (hn : NS (Tf rs n g)) : NS (Tf rs' n g) := by
  have h1 := ns_l.mp hn
  have key : ∀ l l' : Lv, l = l' → NSl l (l.f g) → NSl l' (l'.f g) := by
    rintro l _ rfl z
    exact z
  exact ns_l.mpr (key _ _ (lev_congr h) h1)
theorem Pr_congr {rs rs' : Nat → Nat → Int} {n : Nat} (h : ∀ k, k < n → rs k = rs' k) (hp : Pr rs n) : Pr rs' n := fun k hk => by
  have := NS_congr (fun i hi => h i (by omega)) (hp k hk)
  rw [h k hk] at this
  exact this
def wl (ρ : Nat → Nat) : Nat → (Nat → Int) → Nat
  | 0, g => (g 0).natAbs
  | n + 1, g => wl ρ n g + ρ n * wl ρ n fun j => g (j + 2 ^ n)
theorem wr_Tf : ∀ {n : Nat} (g : Nat → Int), wr ρ (Tf rs n g) = wl ρ n g
  | 0, g => rfl
  | n + 1, g => by rw [Tf_succ, wr_mk, wr_Tf, wr_Tf]; rfl
theorem wr_toT {n : Nat} (l : List Int) : wr ρ (toT rs n l) = wl ρ n (fn l) := wr_Tf _
theorem wr_rad {n : Nat} : wr ρ (rad rs n) = wl ρ n (rs n) := wr_Tf _
theorem wl_le {B : Nat} : ∀ {n : Nat} {g : Nat → Int}, (∀ j, j < 2 ^ n → (g j).natAbs ≤ B) → wl ρ n g ≤ B * wl ρ n (fun _ => 1)
  | 0, g, h => by
    have := h 0 (by decide)
    show (g 0).natAbs ≤ B * 1
    omega
  | n + 1, g, h => by
    have e2 := two_pow_succ' n
    have h1 := wl_le (n := n) (g := g) fun j hj => h j (by omega)
    have h2 := wl_le (n := n) (g := fun j => g (j + 2 ^ n)) fun j hj => h (j + 2 ^ n) (by omega)
    show wl ρ n g + ρ n * wl ρ n (fun j => g (j + 2 ^ n)) ≤ B * (wl ρ n (fun _ => 1) + ρ n * wl ρ n (fun _ => 1))
    have h3 := Nat.mul_le_mul_left (ρ n) h2
    rw [Nat.mul_add]
    have : B * (ρ n * wl ρ n fun _ => 1) = ρ n * (B * wl ρ n fun _ => 1) := by grind
    omega
theorem WOk_congr {rs rs' : Nat → Nat → Int} {n : Nat} (h : ∀ k, k < n → rs k = rs' k) (hw : WOk rs ρ n) : WOk rs' ρ n := fun k hk => by
  have := hw k hk
  rw [wr_rad] at this ⊢
  rw [← h k hk]
  exact this
/-! ### towers fit for roots -/
def ivG (p : Nat → Nat) (k : Nat) : Nat := 2 * p k * 2 ^ k
def eF (iv : Nat → Nat) : Nat → Nat
  | 0 => 0
  | k + 1 => 1 + eF iv k + iv k
def bF (κ : Nat → Nat) : Nat → Nat
  | 0 => 0
  | k + 1 => κ k + (3 * bF κ k + 1) / 2
theorem EE_le {iv : Nat → Nat} : ∀ {n : Nat}, (∀ k, k < n → (nuR rs k).natAbs ≤ 2 ^ iv k) → (EE rs n).natAbs ≤ 2 ^ eF iv n
  | 0, _ => Nat.le_refl _
  | n + 1, h => by
    show (2 * EE rs n * nuR rs n).natAbs ≤ 2 ^ (1 + eF iv n + iv n)
    rw [Int.natAbs_mul, Int.natAbs_mul]
    exact mul_pow2 (mul_pow2 (Nat.le_refl 2) (EE_le fun k hk => h k (by omega))) (h n (by omega))
theorem Tw.mk' {iv κ : Nat → Nat} {n : Nat} (hp : Pr rs n) (hw : WOk rs ρ n) (hi : ∀ k, k < n → wr ρ (ooR rs k) ≤ 2 ^ iv k ∧ (nuR rs k).natAbs ≤ 2 ^ iv k)
    (hk : ∀ k, k < n → (nuR rs k).natAbs + ρ k * ρ k * wr ρ (ooR rs k) ≤ 2 ^ κ k * (nuR rs k).natAbs) : Tw rs ρ (bF κ) (eF iv) iv n where
  pr := hp
  w := hw
  kap := fun k h => ⟨κ k, hk k h, by show 2 * κ k + 3 * bF κ k ≤ 2 * (κ k + (3 * bF κ k + 1) / 2); omega⟩
  den := fun k h => EE_le fun i hi' => (hi i (by omega)).2
  inv := hi
/-- any row with weights that are powers of 2 -/
theorem tw_gen {p : Nat → Nat} {n : Nat} (hp : Pr rs n) (hw : WOk rs (fun k => 2 ^ p k) n) : Tw rs (fun k => 2 ^ p k) (bF fun k => ivG p k + 1) (eF (ivG p)) (ivG p) n := by
  have key : ∀ k, k < n → wr (fun k => 2 ^ p k) (ooR rs k) * (2 ^ p k * 2 ^ p k) ≤ 2 ^ ivG p k ∧ (nuR rs k).natAbs ≤ 2 ^ ivG p k := fun k hk => by
    obtain ⟨h1, h2⟩ := inv_wr (hw.low (show k ≤ n by omega)) (M := 2 ^ p k * 2 ^ p k) (x := rad rs k) (Nat.mul_pos (Nat.two_pow_pos _) (Nat.two_pow_pos _)) (hw k hk).2
    have e : (2 ^ p k * 2 ^ p k) ^ 2 ^ k = 2 ^ ivG p k := by
      rw [← Nat.pow_add, ← Nat.pow_mul]
      unfold ivG
      congr 2
      omega
    rw [e] at h1 h2
    exact ⟨h1, h2⟩
  refine Tw.mk' hp hw (fun k hk => ⟨Nat.le_trans (Nat.le_mul_of_pos_right _ (Nat.mul_pos (Nat.two_pow_pos _) (Nat.two_pow_pos _))) (key k hk).1, (key k hk).2⟩) fun k hk => ?_
  have h0 := nu_ne hp hk
  have h1 := (key k hk).1
  have e1 : 2 ^ p k * 2 ^ p k * wr (fun k => 2 ^ p k) (ooR rs k) ≤ 2 ^ ivG p k := by rw [Nat.mul_comm]; exact h1
  have e2 : 2 ^ ivG p k ≤ 2 ^ ivG p k * (nuR rs k).natAbs := Nat.le_mul_of_pos_right _ (by omega)
  have e3 : (nuR rs k).natAbs ≤ 2 ^ ivG p k * (nuR rs k).natAbs := Nat.le_mul_of_pos_left _ (Nat.two_pow_pos _)
  show (nuR rs k).natAbs + 2 ^ p k * 2 ^ p k * wr _ (ooR rs k) ≤ 2 ^ (ivG p k + 1) * (nuR rs k).natAbs
  rw [Nat.pow_succ]
  have : 2 ^ ivG p k * 2 * (nuR rs k).natAbs = 2 ^ ivG p k * (nuR rs k).natAbs + 2 ^ ivG p k * (nuR rs k).natAbs := by grind
  omega
theorem inv_wh : ∀ {n : Nat} (c : Int), invT (wh rs n c) = (1, c)
  | 0, c => rfl
  | n + 1, c => by
    rw [wh_succ, invT_flat (by rfl)]
    show (mk (invT (wh rs n c)).1 0, (invT (wh rs n c)).2) = _
    rw [inv_wh c, mk_one]
/-- a row of whole numbers -/
theorem tw_con {p : Nat → Nat} {c : Nat → Int} {n B : Nat} (hp : Pr rs n) (hc : ∀ k, k < n → rad rs k = wh rs k (c k)) (h1 : ∀ k, k < n → (c k).natAbs ≤ 2 ^ p k * 2 ^ p k ∧ 2 ^ p k * 2 ^ p k ≤ 4 * (c k).natAbs ∧ (c k).natAbs ≤ 2 ^ B) :
    Tw rs (fun k => 2 ^ p k) (bF fun _ => 3) (eF fun _ => B) (fun _ => B) n := by
  have ho : ∀ k, k < n → ooR rs k = 1 ∧ nuR rs k = c k := fun k hk => by
    unfold ooR nuR
    rw [hc k hk, inv_wh]
    exact ⟨rfl, rfl⟩
  refine Tw.mk' hp (fun k hk => ⟨Nat.two_pow_pos _, ?_⟩) (fun k hk => ?_) fun k hk => ?_
  · rw [hc k hk, wr_wh]; exact (h1 k hk).1
  · rw [(ho k hk).1, (ho k hk).2, wr_one]
    exact ⟨Nat.two_pow_pos _, (h1 k hk).2.2⟩
  · rw [(ho k hk).1, (ho k hk).2, wr_one]
    have := (h1 k hk).2.1
    show (c k).natAbs + 2 ^ p k * 2 ^ p k * 1 ≤ 2 ^ 3 * (c k).natAbs
    omega
/-- the least weight for a whole number -/
theorem least_p (c : Int) (hc : c ≠ 0) : ∃ p : Nat, c.natAbs ≤ 2 ^ p * 2 ^ p ∧ 2 ^ p * 2 ^ p ≤ 4 * c.natAbs ∧ ∀ k, c.natAbs ≤ 2 ^ k * 2 ^ k → p ≤ k := by
  have key : ∀ n : Nat, 0 < n → ∃ p : Nat, n ≤ 2 ^ p * 2 ^ p ∧ 2 ^ p * 2 ^ p ≤ 4 * n ∧ ∀ k, n ≤ 2 ^ k * 2 ^ k → p ≤ k := by
    intro n hn
    have ex : ∀ q : Nat, n ≤ 2 ^ q * 2 ^ q → ∃ p : Nat, n ≤ 2 ^ p * 2 ^ p ∧ 2 ^ p * 2 ^ p ≤ 4 * n ∧ ∀ k, n ≤ 2 ^ k * 2 ^ k → p ≤ k := by
      intro q
      induction q with
      | zero => intro h; exact ⟨0, h, by omega, fun k _ => Nat.zero_le _⟩
      | succ q ih =>
        intro h
        by_cases c : n ≤ 2 ^ q * 2 ^ q
        · exact ih c
        · refine ⟨q + 1, h, ?_, fun k hk => Nat.not_lt.mp fun z => c ?_⟩
          · have : 2 ^ (q + 1) * 2 ^ (q + 1) = 4 * (2 ^ q * 2 ^ q) := by rw [Nat.pow_succ]; grind
            omega
          · have : 2 ^ k ≤ 2 ^ q := Nat.pow_le_pow_right (by decide) (by omega)
            exact Nat.le_trans hk (Nat.mul_le_mul this this)
    refine ex n ?_
    have := Nat.lt_two_pow_self (n := n)
    exact Nat.le_trans (Nat.le_of_lt this) (Nat.le_mul_of_pos_right _ (Nat.two_pow_pos _))
  exact key c.natAbs (by omega)
end
end TV

namespace DL
open PySem PySem.Spec PyProof.Rows L2
section
variable {X : Cx} {pos : Pos}
/-- x = y.pop() -/
def sSetPop (i j : Nat) : RS := fun DD ρ => match ρ[j]? with
  | some (some (.own ds)) => (match ds.getLast? with | some d => DD.nx ((ρ.set j (some (.own ds.dropLast))).set i (some (.val d))) | none => False)
  | _ => False
theorem st_setPop {i j : Nat} {x y : Str} {pos' pos1 pos2 pos3 : Pos} (hNd : X.N.Nodup) (hi : X.N[i]? = some x := by rfl) (hx : Loc X.env.scope x := by first | exact Or.inl rfl | exact Or.inr rfl)
    (hN : X.N[j]? = some y := by rfl) (hv : Vis X.env.scope y := by first | exact Or.inl rfl | exact Or.inr (Or.inl rfl) | exact Or.inr (Or.inr rfl)) (hd : (y == ("__debug__" : Str)) = false := by decide)
    (hcd : (y == ("__classdict__" : Str)) = false := by decide)
    (hbase : attributeBase (.Name y pos1) "pop" X.env (eval (.Name y pos1) X.env) = eval (.Name y pos1) X.env := by rfl) (hline : (pos2.endLine == pos3.line) = true := by rfl)
    (hs : swapsWith (.Call (.Attribute (.Name y pos1) "pop" pos2) [] [] pos3) (some (.Name x pos')) pos.line X.env = pure false := by rfl)
    (hf : X.fn x = true ∨ X.env.scope.names.lookup x = some .local := by first | exact .inl rfl | exact .inr rfl | assumption) :
    DS X (.Assign [.Name x pos'] (.Call (.Attribute (.Name y pos1) "pop" pos2) [] [] pos3) pos) (sSetPop i j) := by
  refine ⟨_, ps_set hNd hi hx (pe_bm0 PySem.F.plainAttrs_list PySem.F.slot_list_pop PySem.F.type_list_pop mt_pop (pe_var hN hv hd hcd) hbase hline) hs hf, fun F0 B F H ρ σ s E DD h D k => ?_⟩
  unfold sSetPop at h
  split at h
  · rename_i ds q
    have hn : ds ≠ [] := fun z => by
      subst z
      exact h
    rw [List.getLast?_eq_some_getLast hn] at h
    obtain ⟨p, vs, h1, f0, f1, f2, f3⟩ := own_at E q
    obtain ⟨v, hl, r⟩ := dp_last f3 hn
    exact ⟨.ref p, h1, .inl ⟨rfl, vs, .inl (.inl f2)⟩, p, vs, v, rfl, rfl, f2, hl, k.nx F _ _ _ (s.wr f0 f1) ((own_chg E q h1 f0 f1 f3.dropLast).set i r) h⟩
  · exact h.elim
end
end DL

namespace K13
open PySem PySem.Spec PyProof.Rows L2 DL Builtin.Int
def topS (i : Nat) : Stmt := PySem.Challenge.pw_leastnest_k13_planted_non_squares.main.body.getD i (.Pass ⟨0, 0, 0, 0⟩)
local macro_rules | `(tactic| walk_at "rd") => `(tactic| simp -failIfUnchanged only [sSet, sSetL, sRet, sRetL, sRetO, sRetN, sNext, sBreak, sCont, sDrop, sApp, sAug, sAsg, sPar, sSetI, sPop, sSetPop, sRev, sFrz, frz1, iSeq, iRevD, iRange1, iRange2, iRangeD, rName, rTup, rTL_sq, gMulS_s, gStr1_i, rTL_t, rTL_l, rCons, rNil,
  dLst, dView, tView, lView, view, look, dVar, bVar, dC, d2, d1, l2, tBool, dNil, dCons, dTup, gI, gSubI, gMulI, gFdiv, gMod, gPow, gShl, gShr, gAnd, gXor, gLt, gLe, gGt, gGe, gAdd, gEq, gNe, isNone, gIs, gIsNot, gNeg, lCat, gLen_l, gLen_t, gLen_s, gInt, gAbs, gMax2, gMin2, gTuple_l, gTuple_t, lList_l, lList_t, gGcd, gIsqrt, dCall, lCall, dIsi, dIsi2,
  tAndD, tOrD, tNotD, tTru, truD, dAndV, dOrV, dNotV, dIf, dBits, wipeD, twoD, lComp, oNone, oSome, dSl, lSl, gSl_l, gSl_t, gSl_sq, gSq_l, gSq_t, gSq_sq, gIx_sq, gLen_sq, gTuple_sq, lList_sq, iZipD, gZip_sq, gZip_ts, gZip_st, gZip_ls, gZip_sl, gZip_tt, gZip_ll, gZip_lt, gZip_tl, dFn, lFn, valD, tYesD, eqOk_ii, eqOk_bb, eqOk_ss, eqv_int, eqv_str, eqv_bool, noLst, noLstAll, List.map_cons, List.map_nil, Option.map_some, Option.map_none,
  List.getElem?_cons_zero, List.getElem?_cons_succ, List.set_cons_zero, List.set_cons_succ, true_and, and_true, decide_eq_true_eq, decide_eq_false_iff_not, Bool.not_eq_true', Bool.not_eq_false', beq_iff_eq, beq_eq_false_iff_ne, Bool.true_eq_false, Bool.false_eq_true, false_imp_iff, true_imp_iff, forall_const, reduceCtorEq, ne_eq, not_true_eq_false, not_false_eq_true, Bool.not_true, Bool.not_false, Bool.true_and, Bool.and_true, Bool.false_and, Bool.and_false, Int.reduceToNat, Int.cast_ofNat_Int, eq_self, isTy_none_int, isTy_none_bool, isTy_none_str, isTy_none_list, isTy_none_tuple, isTy_bool_int, isTy_bool_bool, isTy_bool_str, isTy_bool_list, isTy_bool_tuple, isTy_int_int, isTy_int_bool, isTy_int_str, isTy_int_list, isTy_int_tuple, isTy_str_int, isTy_str_bool, isTy_str_str, isTy_str_list, isTy_str_tuple, isTy_list_int, isTy_list_bool, isTy_list_str, isTy_list_list, isTy_list_tuple, isTy_tuple_int, isTy_tuple_bool, isTy_tuple_str, isTy_tuple_list, isTy_tuple_tuple, List.length_cons, List.length_nil, Nat.reduceAdd, Nat.zero_add, ix2_0, ix2_1,
  gIx_l0, gIx_t0, gIx_l1, gIx_t1, gIx_l2, gIx_t2, gIx_l3, gIx_t3, gIx_l4, gIx_t4, gIx_l5, gIx_t5, gIx_l6, gIx_t6, gIx_l7, gIx_t7, gIx_l8, gIx_t8, gIx_l9, gIx_t9, gIx_l10, gIx_t10, gIx_l11, gIx_t11, gIx_l12, gIx_t12, gIx_l13, gIx_t13, gIx_l14, gIx_t14, gIx_l15, gIx_t15])
section
variable {P : Program} {w : World} {K : Frag} {mg : Str → Option Value} {base : Heap}
def wholeD : D → Bool
  | .int _ => true
  | _ => false
theorem toNat_lt {n : Int} {k : Nat} (h : intBits n ≤ k) : n.toNat < 2 ^ k := by
  have := intBits_le_iff.mp h
  omega
theorem bits_nat {n k : Nat} (h : n < 2 ^ k) : intBits (n : Int) ≤ k := intBits_le_iff.mpr (by simpa using h)
theorem fmod_pos {a b : Int} (h : 0 < b) : 0 ≤ a.fmod b ∧ a.fmod b < b := ⟨Int.fmod_nonneg_of_pos a h, Int.fmod_lt_of_pos a h⟩
theorem mul_r {a : Int} {b : Int} (h1 : -(2 ^ 64) < b) (h2 : b < 2 ^ 64) : MulOk a b := ⟨IntMulOk.of_right (intBits_le_64 h1 h2)⟩
theorem mul_l {a : Int} {b : Int} (h1 : -(2 ^ 64) < a) (h2 : a < 2 ^ 64) : MulOk a b := ⟨IntMulOk.of_left (intBits_le_64 h1 h2)⟩
theorem div_small {a b : Int} (h0 : 0 < b) (h1 : b < 2 ^ 30) : CDivZ a b := ⟨by omega, PyProof.noPylong_small (by omega)⟩
/-- drawn places: each below its size -/
def InR : List Int → List Int → Prop
  | [], [] => True
  | r :: rs, s :: ss => (0 ≤ r ∧ r < s) ∧ InR rs ss
  | _, _ => False
theorem InR.length : ∀ {rs ss : List Int}, InR rs ss → rs.length = ss.length
  | [], [], _ => rfl
  | r :: rs, s :: ss, h => by simp [InR.length h.2]
  | [], _ :: _, h => h.elim
  | _ :: _, [], h => h.elim
theorem InR.snoc : ∀ {rs ss : List Int} {r s : Int}, InR rs ss → 0 ≤ r → r < s → InR (rs ++ [r]) (ss ++ [s])
  | [], [], _, _, _, h1, h2 => ⟨⟨h1, h2⟩, trivial⟩
  | r :: rs, s :: ss, _, _, h, h1, h2 => ⟨h.1, InR.snoc h.2 h1 h2⟩
  | [], _ :: _, _, _, h, _, _ => h.elim
  | _ :: _, [], _, _, h, _, _ => h.elim
theorem InR.cons {rs ss : List Int} {s : Int} (h : InR rs (s :: ss)) : ∃ r rs', rs = r :: rs' ∧ (0 ≤ r ∧ r < s) ∧ InR rs' ss := by
  cases rs with
  | nil => exact h.elim
  | cons r rs => exact ⟨r, rs, rfl, h.1, h.2⟩
theorem InR.nil {rs : List Int} (h : InR rs []) : rs = [] := by
  cases rs with
  | nil => rfl
  | cons r rs => exact h.elim
theorem bits_lt {n : Int} {k : Nat} (h : -(2 ^ k) < n) (h' : n < 2 ^ k) : intBits n ≤ k := by
  refine intBits_le_iff.mpr ?_
  have e : (2 : Int) ^ k = ((2 ^ k : Nat) : Int) := by simp
  rw [e] at h h'
  omega
abbrev s__law_whole : Stmt := topS 31
theorem sc__law_whole : FnScope ["value"] ["value"] (defScope s__law_whole) := ⟨rfl, rfl, rfl, by decide +kernel, rfl, by decide +kernel, by decide +kernel⟩
def f__law_whole : FD := fun ds q => ∃ d, ds = [d] ∧ q (.val (.bool (wholeD d)))
theorem ok__law_whole {f fd} {k : Nat} (F : Fun K "_law_whole" "_law_whole" s__law_whole f fd) (hdg : base.NoDigits) (m_bool : mg "bool" = none) (m_int : mg "int" = none) (m_isinstance : mg "isinstance" = none) : FnG P w K mg base (k + 1) f fd ["value"] (SpD K 1 f__law_whole) := by
  refine fnD F sc__law_whole fun cdv A outer s H E gA hr => ?_
  have hu := hr.units
  have nd := sc__law_whole.nd
  refine ⟨_, (ss_one (st_ret (de_and (de_isi ty_int m_isinstance m_int (bv 0)) (de_one (de_not (de_isi ty_bool m_isinstance m_bool (bv 0))))))), ?_⟩
  clear F nd hu hr gA E H s outer A cdv hdg m_bool m_int m_isinstance
  intro ds q hl hg
  obtain ⟨d, rfl, hq⟩ := hg
  show sRet _ _ [some (.val d)]
  cases d <;> (walk_at "rd"; simpa [isTy, tyD, wholeD] using hq)
abbrev s__law_cell : Stmt := topS 32
theorem sc__law_cell : FnScope ["script", "k", "seed", "cell"] ["script", "k"] (defScope s__law_cell) := ⟨rfl, rfl, rfl, by decide +kernel, rfl, by decide +kernel, by decide +kernel⟩
def f__law_cell : FD := fun ds q => ∃ (ns : List Int) (k : Int), ds = [.list (ns.map .int), .int k] ∧ 0 ≤ k ∧ (∀ i ∈ ns, intBits i ≤ 1048576) ∧ ∀ v, intBits v ≤ 1048576 → q (.val (.int v))
theorem ok__law_cell {f fd} {k : Nat} (F : Fun K "_law_cell" "_law_cell" s__law_cell f fd) (hdg : base.NoDigits) (m_int : mg "int" = none) (m_len : mg "len" = none) : FnG P w K mg base (k + 1) f fd ["script", "k"] (SpD K 2 f__law_cell) := by
  refine fnD F sc__law_cell fun cdv A outer s H E gA hr => ?_
  have hu := hr.units
  have nd := sc__law_cell.nd
  refine ⟨_, (ss_cons (st_if (dt_cmp o_lt (bv 1) (DE.toB (de_B c_len m_len (ab_cons (bv 0) ab_nil)))) (ss_one (st_ret (de_T c_int m_int (ab_cons (DE.toB (de_ix x_ix (bv 0) (bv 1))) ab_nil)))) ss_nil)
    (ss_cons (st_set (i := 2) nd de_int)
    (ss_cons (st_for (i_seq (dv 0)) (tg_name (i := 3) nd) (ss_one (st_set (i := 2) nd (de_op o_mod (DE.toB (de_T c_int m_int (ab_cons (DE.toB (de_op o_add (DE.toB (de_op o_mul (bv 2) (DE.toB de_int))) (DE.toB (de_op o_mod (DE.toB (de_T c_int m_int (ab_cons (bv 3) ab_nil))) (DE.toB de_int))))) ab_nil))) (DE.toB de_int)))))
    (ss_one (st_ret (de_op o_mod (DE.toB (de_T c_int m_int (ab_cons (DE.toB (de_op o_mul (DE.toB (de_op o_mul (DE.toB (de_op o_add (bv 2) (DE.toB de_int))) (DE.toB (de_op o_add (bv 1) (DE.toB de_int))))) (DE.toB de_int))) ab_nil))) (DE.toB de_int))))))), ?_⟩
  clear F nd hu hr gA E H s outer A cdv hdg m_int m_len
  intro ds q hl hg
  obtain ⟨ns, k0, rfl, h0, hb, hq⟩ := hg
  show sSeq _ _ _ [some (.val (.list (ns.map .int))), some (.val (.int k0)), none, none]
  refine sq_i fun k hk => if_n fun T hT => ?_
  walk_at "rd"
  refine ⟨fun h => ?_, fun h => ?_⟩
  · subst hT
    walk_at "rd"
    have h' : k0 < ns.length := by simpa using h
    refine gIx_ints (fun n => n ∈ ns) h0 h' (fun n e => List.mem_of_getElem? e) fun n hn => ?_
    walk_at "rd"
    exact hq n (hb n hn)
  · subst hk
    refine sq_i fun k hk => ?_
    walk_at "rd"
    subst hk
    refine sq_i fun k hk => for_in fun W hW => ?_
    walk_at "rd"
    subst hW
    refine for_map (fun _ ρ => ∃ (s : Int) (y : Option DV), ρ = [some (.val (.list (ns.map .int))), some (.val (.int k0)), some (.val (.int s)), y] ∧ 0 ≤ s ∧ s < 1000003) ns ⟨17, none, rfl, by decide, by decide⟩ ?_ ?_
    · rintro _ ⟨s, y, rfl, h1, h2⟩
      subst hk
      walk_at "rd"
      refine ⟨mul_l (by omega) (by omega), mul_r (by decide) (by decide), by decide, hq _ ?_⟩
      have := fmod_pos (a := (s + 7) * (k0 + 3) * 69621) (b := 2147483647) (by decide)
      exact intBits_le_iff.mpr (Nat.lt_of_lt_of_le (m := 2 ^ 31) (by omega) (Nat.pow_le_pow_right (by decide) (by decide)))
    · rintro a r _ ⟨s, y, rfl, h1, h2⟩ k1 hk1
      walk_at "rd"
      refine ⟨mul_r (by decide) (by decide), by decide, by decide, hk1 _ ⟨_, _, rfl, ?_⟩⟩
      exact fmod_pos (by decide)
theorem len63 {n : Nat} (h : n ≤ 1000) : Fit (n + 1) := Fit.of (by omega)
abbrev s__law_digits : Stmt := topS 33
theorem sc__law_digits : FnScope ["cell", "sizes", "total", "size", "row", "seed", "k", "rest", "twice"] ["cell", "sizes"] (defScope s__law_digits) := ⟨rfl, rfl, rfl, by decide +kernel, rfl, by decide +kernel, by decide +kernel⟩
def f__law_digits : FD := fun ds q => ∃ (c : Int) (ss : List Int), ds = [.int c, .list (ss.map .int)] ∧ ss.length ≤ 100 ∧ (∀ s ∈ ss, 0 < s ∧ s < 2 ^ 30) ∧ ∀ rs : List Int, InR rs ss → q (.own (rs.map .int))
theorem ok__law_digits {f fd} {k : Nat} (F : Fun K "_law_digits" "_law_digits" s__law_digits f fd) (hdg : base.NoDigits) (m_int : mg "int" = none) (m_len : mg "len" = none) (m_range : mg "range" = none) : FnG P w K mg base (k + 1) f fd ["cell", "sizes"] (SpD K 2 f__law_digits) := by
  refine fnD F sc__law_digits fun cdv A outer s H E gA hr => ?_
  have hu := hr.units
  have nd := sc__law_digits.nd
  refine ⟨_, (ss_cons (st_set (i := 2) nd de_int)
    (ss_cons (st_for (i_seq (dv 1)) (tg_name (i := 3) nd) (ss_one (st_set (i := 2) nd (de_op o_mul (bv 2) (bv 3)))))
    (ss_cons (st_setL (i := 4) nd (dl_lst da_nil))
    (ss_cons (st_if (dt_cmp o_ge (DE.toB (de_T c_int m_int (ab_cons (bv 0) ab_nil))) (DE.toB (de_op o_pow (DE.toB de_int) (DE.toB de_int)))) (ss_cons (st_set (i := 7) nd (de_op o_mod (DE.toB (de_T c_int m_int (ab_cons (DE.toB (de_op o_sub (DE.toB (de_T c_int m_int (ab_cons (bv 0) ab_nil))) (DE.toB (de_op o_pow (DE.toB de_int) (DE.toB de_int))))) ab_nil))) (bv 2)))
    (ss_cons (st_for (i_seq (dv 1)) (tg_name (i := 3) nd) (ss_cons (st_app (i := 4) (de_op o_mod (DE.toB (de_T c_int m_int (ab_cons (bv 7) ab_nil))) (bv 3)))
    (ss_one (st_set (i := 7) nd (de_op o_fdiv (DE.toB (de_T c_int m_int (ab_cons (bv 7) ab_nil))) (bv 3))))))
    (ss_one (st_retO 4)))) ss_nil)
    (ss_cons (st_set (i := 5) nd (de_op o_mod (DE.toB (de_T c_int m_int (ab_cons (bv 0) ab_nil))) (DE.toB de_int)))
    (ss_cons (st_for (i_range1 (de_B c_len m_len (ab_cons (bv 1) ab_nil)) m_range) (tg_name (i := 6) nd) (ss_cons (st_set (i := 5) nd (de_op o_mod (DE.toB (de_T c_int m_int (ab_cons (DE.toB (de_op o_add (DE.toB (de_op o_add (DE.toB (de_op o_mul (bv 5) (DE.toB de_int))) (DE.toB (de_op o_mul (DE.toB de_int) (bv 6))))) (DE.toB de_int))) ab_nil))) (DE.toB de_int)))
    (ss_cons (st_set (i := 8) nd (de_op o_mod (DE.toB (de_T c_int m_int (ab_cons (DE.toB (de_op o_mul (bv 5) (DE.toB (de_op o_add (DE.toB (de_op o_fdiv (bv 5) (DE.toB de_int))) (DE.toB de_int))))) ab_nil))) (DE.toB de_int)))
    (ss_one (st_app (i := 4) (de_op o_mod (DE.toB (de_T c_int m_int (ab_cons (DE.toB (de_op o_fdiv (bv 8) (DE.toB de_int))) ab_nil))) (DE.toB (de_ix x_ix (bv 1) (bv 6)))))))))
    (ss_one (st_retO 4)))))))), ?_⟩
  clear F nd hu hr gA E H s outer A cdv hdg m_int m_len m_range
  intro ds q hl hg
  obtain ⟨c, ss, rfl, hlen, hs, hq⟩ := hg
  show sSeq _ _ _ [some (.val (.int c)), some (.val (.list (ss.map .int))), none, none, none, none, none, none, none]
  refine sq_i fun k hk => ?_
  walk_at "rd"
  subst hk
  refine sq_i fun k hk => for_in fun W hW => ?_
  walk_at "rd"
  subst hW
  refine for_map (fun r ρ => (∀ s ∈ r, 0 < s ∧ s < 2 ^ 30) ∧ ∃ (t : Int) (y : Option DV), ρ = [some (.val (.int c)), some (.val (.list (ss.map .int))), some (.val (.int t)), y, none, none, none, none, none] ∧ 0 < t) ss ⟨hs, 1, none, rfl, by decide⟩ ?_ ?_
  · rintro _ ⟨-, t, y, rfl, h1⟩
    subst hk
    refine sq_i fun k hk => ?_
    walk_at "rd"
    subst hk
    refine sq_i fun k hk => if_n fun T hT => ?_
    walk_at "rd"
    refine ⟨by decide, fun h => ?_, fun h => ?_⟩
    · subst hT
      refine sq_i fun k hk => ?_
      walk_at "rd"
      refine ⟨by decide, by omega, ?_⟩
      subst hk
      refine sq_i fun k hk => for_in fun W hW => ?_
      walk_at "rd"
      subst hW
      refine for_map (fun r ρ => ∃ (rs done : List Int) (z : Int) (y : Option DV), ρ = [some (.val (.int c)), some (.val (.list (ss.map .int))), some (.val (.int t)), y, some (.own (rs.map .int)), none, none, some (.val (.int z)), none] ∧ ss = done ++ r ∧ InR rs done) ss ⟨[], [], _, y, rfl, rfl, trivial⟩ ?_ ?_
      · rintro _ ⟨rs, done, z, y, rfl, e, hr⟩
        subst hk
        walk_at "rd"
        rw [List.append_nil] at e
        subst e
        exact hq rs hr
      · rintro a r _ ⟨rs, done, z, y, rfl, e, hr⟩ k1 hk1
        have ha := hs a (by rw [e]; simp)
        refine sq_i fun k2 hk2 => ?_
        walk_at "rd"
        have := hr.length
        have h3 : done.length + (r.length + 1) = ss.length := by rw [e]; simp
        refine ⟨by rw [List.length_map]; exact len63 (by omega), by omega, ?_⟩
        subst hk2
        walk_at "rd"
        refine ⟨div_small ha.1 ha.2, hk1 _ ⟨rs ++ [z.fmod a], done ++ [a], z.fdiv a, _, by simp only [List.map_append, List.map_cons, List.map_nil]; rfl, by rw [e]; simp, hr.snoc (fmod_pos ha.1).1 (fmod_pos ha.1).2⟩⟩
    · subst hk
      refine sq_i fun k hk => ?_
      walk_at "rd"
      refine ⟨by decide, ?_⟩
      subst hk
      refine sq_i fun k hk => for_in fun W hW => ?_
      walk_at "rd"
      refine ⟨Rng.of (by omega) (by simp; omega), ?_⟩
      subst hW
      simp only [List.length_map, Int.toNat_natCast]
      refine for_up (fun i ρ => ∃ (rs : List Int) (z : Int) (y y2 y3 : Option DV), ρ = [some (.val (.int c)), some (.val (.list (ss.map .int))), some (.val (.int t)), y, some (.own (rs.map .int)), some (.val (.int z)), y2, none, y3] ∧ InR rs (ss.take i) ∧ 0 ≤ z ∧ z < 2147483648) 0 ss.length ⟨[], _, _, none, none, rfl, by simp [InR], (fmod_pos (by decide)).1, Int.lt_trans (fmod_pos (by decide)).2 (by decide)⟩ ?_ ?_
      · rintro _ ⟨rs, z, y, y2, y3, rfl, hr, h3, h4⟩
        subst hk
        walk_at "rd"
        rw [List.take_length] at hr
        exact hq rs hr
      · rintro i _ hi ⟨rs, z, y, y2, y3, rfl, hr, h3, h4⟩ k1 hk1
        walk_at "rd"
        simp only [Int.zero_add]
        refine sq_i fun k2 hk2 => ?_
        walk_at "rd"
        refine ⟨mul_r (by decide) (by decide), mul_r (by omega) (by omega), by decide, ?_⟩
        have hz := fmod_pos (a := z * 48271 + 974711 * (i : Int) + 12345) (b := 2147483647) (by decide)
        generalize (z * 48271 + 974711 * (i : Int) + 12345).fmod 2147483647 = z' at hz ⊢
        subst hk2
        refine sq_i fun k2 hk2 => ?_
        walk_at "rd"
        have hd : z'.fdiv 65537 = z' / 65537 := Int.fdiv_eq_ediv_of_nonneg _ (by decide)
        refine ⟨div_small (by decide) (by decide), ?_⟩
        rw [hd]
        refine ⟨mul_r (by omega) (by omega), by decide, ?_⟩
        subst hk2
        walk_at "rd"
        have hs' := List.getElem?_eq_getElem hi
        have hm := hs _ (List.getElem_mem hi)
        have := hr.length
        rw [List.length_take] at this
        refine ⟨by rw [List.length_map]; exact len63 (by omega), div_small (by decide) (by decide), ?_⟩
        refine gIx_N (d := .int ss[i]) (by rw [List.getElem?_map, hs']; rfl) ?_
        walk_at "rd"
        refine ⟨by omega, hk1 _ ⟨rs ++ [_], z', _, _, _, by simp only [List.map_append, List.map_cons, List.map_nil]; rfl, ?_, hz.1, by omega⟩⟩
        rw [List.take_add_one, hs']
        exact hr.snoc (fmod_pos hm.1).1 (fmod_pos hm.1).2
  · rintro a r _ ⟨h0, t, y, rfl, h1⟩ k1 hk1
    have ha := h0 a List.mem_cons_self
    walk_at "rd"
    exact ⟨mul_r (by omega) (by omega), hk1 _ ⟨fun s hs => h0 s (List.mem_cons_of_mem _ hs), _, _, rfl, Int.mul_pos h1 ha.1⟩⟩
abbrev s__law_gcd : Stmt := topS 34
theorem sc__law_gcd : FnScope ["one", "two", "left", "right", "rest"] ["one", "two"] (defScope s__law_gcd) := ⟨rfl, rfl, rfl, by decide +kernel, rfl, by decide +kernel, by decide +kernel⟩
def f__law_gcd : FD := fun ds q => ∃ a b : Int, ds = [.int a, .int b] ∧ q (.val (.int (Nat.gcd a.natAbs b.natAbs : Nat)))
theorem ok__law_gcd {f fd} {k : Nat} (F : Fun K "_law_gcd" "_law_gcd" s__law_gcd f fd) (hdg : base.NoDigits) (m_abs : mg "abs" = none) (m_int : mg "int" = none) : FnG P w K mg base (k + 1) f fd ["one", "two"] (SpD K 2 f__law_gcd) := by
  refine fnD F sc__law_gcd fun cdv A outer s H E gA hr => ?_
  have hu := hr.units
  have nd := sc__law_gcd.nd
  refine ⟨_, (ss_cons (st_set (i := 2) nd (de_B c_abs m_abs (ab_cons (bv 0) ab_nil)))
    (ss_cons (st_set (i := 3) nd (de_B c_abs m_abs (ab_cons (bv 1) ab_nil)))
    (ss_cons (st_while (dt_cmp (o_ne hu) (bv 3) (DE.toB de_int)) (ss_cons (st_set (i := 4) nd (de_op o_mod (DE.toB (de_T c_int m_int (ab_cons (bv 2) ab_nil))) (bv 3)))
    (ss_cons (st_set (i := 2) nd (dv 3))
    (ss_one (st_set (i := 3) nd (dv 4))))))
    (ss_one (st_ret (dv 2)))))), ?_⟩
  clear F nd hu hr gA E H s outer A cdv hdg m_abs m_int
  intro ds q hl hg
  obtain ⟨a, b, rfl, hq⟩ := hg
  have ab : ∀ x : Int, (if x < 0 then -x else x) = (x.natAbs : Int) := fun x => by omega
  show sSeq _ _ _ [some (.val (.int a)), some (.val (.int b)), none, none, none]
  refine sq_i fun k hk => ?_
  walk_at "rd"
  subst hk
  refine sq_i fun k hk => ?_
  walk_at "rd"
  rw [ab, ab]
  subst hk
  refine sq_i fun k hk => while_i (fun m ρ => ∃ (x y : Nat) (z : Option DV), ρ = [some (.val (.int a)), some (.val (.int b)), some (.val (.int x)), some (.val (.int y)), z] ∧ y = m ∧ Nat.gcd x y = Nat.gcd a.natAbs b.natAbs) b.natAbs ⟨_, _, none, rfl, rfl, rfl⟩ ?_
  rintro _ _ ⟨x, y, z, rfl, rfl, e⟩ k1 hk1
  walk_at "rd"
  refine ⟨fun h => ?_, fun h => ?_⟩
  · refine sq_i fun k2 hk2 => ?_
    walk_at "rd"
    refine ⟨h, ?_⟩
    subst hk2
    refine sq_i fun k2 hk2 => ?_
    walk_at "rd"
    subst hk2
    walk_at "rd"
    subst hk1
    have hm : (x : Int).fmod (y : Int) = ((x % y : Nat) : Int) := by rw [Int.fmod_eq_emod_of_nonneg _ (by omega)]; rfl
    rw [hm]
    have h' : 0 < y := by omega
    refine ⟨x % y, Nat.mod_lt _ h', y, x % y, _, rfl, rfl, ?_⟩
    rw [← e, Nat.gcd_comm x y, Nat.gcd_rec y x, Nat.gcd_comm]
  · subst hk
    walk_at "rd"
    have h' : y = 0 := by omega
    subst h'
    rw [Nat.gcd_zero_right] at e
    rw [e]
    exact hq

/-- the whole root, or None -/
def rootD (n : Int) : D := if n < 0 then .none else if (Float64.isqrt n.toNat : Int) * (Float64.isqrt n.toNat : Int) = n then .int (Float64.isqrt n.toNat : Nat) else .none
theorem root_le {n r : Nat} (h : IsRoot n r) : r ≤ n := by
  rcases Nat.eq_zero_or_pos r with z | z
  · omega
  · exact Nat.le_trans (Nat.le_mul_of_pos_right r z) h.1
open TV
/-- whole numbers as data -/
abbrev inD (l : List Int) : List D := l.map .int
theorem noLst_ints : ∀ l : List Int, noLstAll (inD l) = true
  | [] => rfl
  | n :: r => by simp [inD, noLstAll, noLst]; exact noLst_ints r
theorem ints_get {l : List Int} {j : Nat} (h : j < l.length) : (inD l)[j]? = some (.int (fn l j)) := by
  simp [fn, h]
theorem fn_get {l : List Int} {j : Nat} (h : j < l.length) : l[j]? = some (fn l j) := by simp [fn, h]
/-- an item of whole numbers -/
theorem ix_ints {l : List Int} {i : Int} {j : Nat} {q : D → Prop} (e : i = (j : Int)) (h : j < l.length) (hq : q (.int (fn l j))) : gIx (.list (inD l)) (.int i) q := by
  subst e
  exact gIx_N (ints_get h) hq
/-- radicands, as lists or tuples -/
def RadD (d : D) (L : List (List Int)) : Prop := ∃ t xs, d = sqD t xs ∧ xs.length = L.length ∧ ∀ (k : Nat) l, L[k]? = some l → ∃ u, xs[k]? = some (sqD u (inD l))
def RadOk (r : Nat) (L : List (List Int)) : Prop := ∀ (k : Nat) l, L[k]? = some l → l.length = 2 ^ k ∧ BdL r l
def rsF (L : List (List Int)) : Nat → Nat → Int := fun k => fn (L.getD k [])
theorem rsF_bits {r : Nat} {L : List (List Int)} (h : RadOk r L) (k j : Nat) : intBits (rsF L k j) ≤ r := by
  unfold rsF
  rw [List.getD_eq_getElem?_getD]
  cases e : L[k]? with
  | none => exact BdL.fn (l := []) (fun i hi => by cases hi) j
  | some l => exact BdL.fn (h k l e).2 j
theorem rsF_sup {r : Nat} {L : List (List Int)} (h : RadOk r L) (k j : Nat) (hj : 2 ^ k ≤ j) : rsF L k j = 0 := by
  unfold rsF
  rw [List.getD_eq_getElem?_getD]
  cases e : L[k]? with
  | none => rfl
  | some l =>
    have := (h k l e).1
    show fn l j = 0
    unfold fn
    rw [List.getD_eq_getElem?_getD, List.getElem?_eq_none (by omega)]
    rfl
theorem RadD.ix {d : D} {L : List (List Int)} (h : RadD d L) {i : Int} {k : Nat} {l : List Int} {q : D → Prop} (e : i = (k : Int)) (hl : L[k]? = some l) (hq : ∀ u, q (sqD u (inD l))) : gIx d (.int i) q := by
  obtain ⟨t, xs, rfl, hlen, hx⟩ := h
  obtain ⟨u, hu⟩ := hx k l hl
  subst e
  rw [gIx_sq]
  exact gIx_N hu (hq u)
theorem getD_some {L : List (List Int)} {k : Nat} {l : List Int} (h : L[k]? = some l) : L.getD k [] = l := by rw [List.getD_eq_getElem?_getD, h]; rfl
/-- comprehensions -/
theorem lc_f {g : RG} {tt : RT} {de : RE} {vs : List Nat} {ρ : Rho} {q : List D → Prop} {α : Type} {emb : α → D} (f : α → D) (xs : List α) (hq : q (xs.map f))
    (hs : ∀ a ∈ xs, ∀ (q : D → Prop) (Z : Prop), q (f a) → g (emb a) (wipeD ρ vs) fun ρ1 => tt ρ1 fun b => (b = true → de ρ1 q) ∧ (b = false → Z)) : lcD g tt de vs (xs.map emb) ρ q := by
  induction xs generalizing q with
  | nil => exact hq
  | cons a r ih => exact hs a List.mem_cons_self _ _ (ih hq fun a ha => hs a (List.mem_cons_of_mem _ ha))
theorem lc_p {g : RG} {tt : RT} {de : RE} {vs : List Nat} {ρ : Rho} {q : List D → Prop} {α : Type} {emb : α → D} (p : α → Bool) (f : α → D) (xs : List α) (hq : q ((xs.filter p).map f))
    (hs : ∀ a ∈ xs, ∀ (q : D → Prop) (Z : Prop), (p a = true → q (f a)) → (p a = false → Z) → g (emb a) (wipeD ρ vs) fun ρ1 => tt ρ1 fun b => (b = true → de ρ1 q) ∧ (b = false → Z)) : lcD g tt de vs (xs.map emb) ρ q := by
  induction xs generalizing q with
  | nil => exact hq
  | cons a r ih =>
    have ih' := fun {q : List D → Prop} (h : q ((r.filter p).map f)) => ih (q := q) h fun a ha => hs a (List.mem_cons_of_mem _ ha)
    refine hs a List.mem_cons_self _ _ (fun e => ih' ?_) fun e => ih' ?_
    · rw [List.filter_cons_of_pos e] at hq; exact hq
    · rw [List.filter_cons_of_neg (by rw [e]; decide)] at hq; exact hq
theorem lc_ints {g : RG} {tt : RT} {de : RE} {vs : List Nat} {ρ : Rho} {q : List D → Prop} {α : Type} {emb : α → D} (f : α → Int) (xs : List α) (hq : q (inD (xs.map f)))
    (hs : ∀ a ∈ xs, ∀ (q : D → Prop) (Z : Prop), q (.int (f a)) → g (emb a) (wipeD ρ vs) fun ρ1 => tt ρ1 fun b => (b = true → de ρ1 q) ∧ (b = false → Z)) : lcD g tt de vs (xs.map emb) ρ q :=
  lc_f (fun a => .int (f a)) xs (by unfold inD at hq; rw [List.map_map] at hq; exact hq) hs
/-- over range(n) -/
theorem lc_up {g : RG} {tt : RT} {de : RE} {vs : List Nat} {ρ : Rho} {q : List D → Prop} (f : Nat → D) (n : Nat) (hq : q ((List.range n).map f))
    (hs : ∀ i, i < n → ∀ (q : D → Prop) (Z : Prop), q (f i) → g (.int (i : Int)) (wipeD ρ vs) fun ρ1 => tt ρ1 fun b => (b = true → de ρ1 q) ∧ (b = false → Z)) : lcD g tt de vs (upTo 0 n) ρ q := by
  have e : upTo 0 n = (List.range n).map fun i : Nat => PyData.int (i : Int) := by
    refine List.ext_getElem? fun i => ?_
    by_cases h : i < n
    · rw [upTo_get 0 n i h]
      simp [h]
    · rw [List.getElem?_eq_none (by rw [upTo_length]; omega), List.getElem?_eq_none (by simp; omega)]
  rw [e]
  exact lc_f f _ hq fun i hi => hs i (by simpa using hi)
abbrev s_is_zero : Stmt := topS 2
theorem sc_is_zero : FnScope ["vector"] ["vector"] (defScope s_is_zero) := ⟨rfl, rfl, rfl, by decide +kernel, rfl, by decide +kernel, by decide +kernel⟩
def f_is_zero : FD := fun ds q => ∃ (t : Bool) (l : List Int), ds = [sqD t (inD l)] ∧ q (.val (.bool (l.all (· == 0))))
theorem ok_is_zero {f fd} {k : Nat} (F : Fun K "is_zero" "is_zero" s_is_zero f fd) (hdg : base.NoDigits) (m_any : mg "any" = none) : FnG P w K mg base (k + 1) f fd ["vector"] (SpD K 1 f_is_zero) := by
  refine fnD F sc_is_zero fun cdv A outer s H E gA hr => ?_
  have hu := hr.units
  have nd := sc_is_zero.nd
  refine ⟨_, (ss_one (st_ret (de_not (de_B c_anyD m_any (ab_cons (bv 0) ab_nil))))), ?_⟩
  clear F nd hu hr gA E H s outer A cdv hdg m_any
  intro ds q hl hg
  obtain ⟨t, l, rfl, hq⟩ := hg
  show sRet _ _ [some (.val (sqD t (inD l)))]
  walk_at "rd"
  refine gAnyD_ints (seqD_sq _ _) ?_
  walk_at "rd"
  have e : (!l.any fun x => x != 0) = l.all fun x => x == 0 := by
    rw [List.not_any_eq_all_not]
    congr 1
    funext x
    show (!!(x == 0)) = _
    rw [Bool.not_not]
  simpa [e] using hq
abbrev s_zeros : Stmt := topS 3
theorem sc_zeros : FnScope ["size"] ["size"] (defScope s_zeros) := ⟨rfl, rfl, rfl, by decide +kernel, rfl, by decide +kernel, by decide +kernel⟩
def f_zeros : FD := fun ds q => ∃ k : Nat, ds = [.int k] ∧ k ≤ 1000 ∧ q (.val (.tuple (inD (List.replicate k 0))))
theorem ok_zeros {f fd} {k : Nat} (F : Fun K "zeros" "zeros" s_zeros f fd) (hdg : base.NoDigits) : FnG P w K mg base (k + 1) f fd ["size"] (SpD K 1 f_zeros) := by
  refine fnD F sc_zeros fun cdv A outer s H E gA hr => ?_
  have hu := hr.units
  have nd := sc_zeros.nd
  refine ⟨_, (ss_one (st_ret (de_op o_repT2 (DE.toB (de_tup (da_cons de_int da_nil))) (bv 0)))), ?_⟩
  clear F nd hu hr gA E H s outer A cdv hdg 
  intro ds q hl hg
  obtain ⟨k, rfl, hk, hq⟩ := hg
  show sRet _ _ [some (.val (.int k))]
  walk_at "rd"
  refine ⟨⟨by simp, by omega, by omega, by simp⟩, ?_⟩
  have e : (List.replicate (k : Int).toNat [PyData.int 0]).flatten = inD (List.replicate k 0) := by
    rw [Int.toNat_natCast]
    clear hk hq hl
    induction k with
    | zero => rfl
    | succ k ih => rw [List.replicate_succ, List.replicate_succ, List.flatten_cons, ih]; rfl
  rw [e]
  exact hq
abbrev s_top_letter : Stmt := topS 4
theorem sc_top_letter : FnScope ["half"] ["half"] (defScope s_top_letter) := ⟨rfl, rfl, rfl, by decide +kernel, rfl, by decide +kernel, by decide +kernel⟩
def f_top_letter : FD := fun ds q => ∃ n : Nat, ds = [.int ((2 ^ n : Nat) : Int)] ∧ q (.val (.int n))
theorem ok_top_letter {f fd} {k : Nat} (F : Fun K "top_letter" "top_letter" s_top_letter f fd) (hdg : base.NoDigits) : FnG P w K mg base (k + 1) f fd ["half"] (SpD K 1 f_top_letter) := by
  refine fnD F sc_top_letter fun cdv A outer s H E gA hr => ?_
  have hu := hr.units
  have nd := sc_top_letter.nd
  refine ⟨_, (ss_one (st_ret (de_op o_sub (DE.toB (de_bits (dv 0))) (DE.toB de_int)))), ?_⟩
  clear F nd hu hr gA E H s outer A cdv hdg 
  intro ds q hl hg
  obtain ⟨n, rfl, hq⟩ := hg
  show sRet _ _ [some (.val (.int _))]
  walk_at "rd"
  have e : intBits ((2 ^ n : Nat) : Int) = n + 1 := by
    refine Nat.le_antisymm (bits_nat (Nat.pow_lt_pow_right (by decide) (by omega))) (Nat.not_lt.mp fun c => ?_)
    have := intBits_le_iff.mp (Nat.lt_succ_iff.mp c)
    simp at this
  rw [e]
  have : ((n + 1 : Nat) : Int) - 1 = n := by omega
  rw [this]
  exact hq
theorem zip_ints (l m : List Int) : List.zipWith twoD (inD l) (inD m) = (l.zip m).map fun x => twoD (.int x.1) (.int x.2) := by
  rw [List.zipWith_map, List.zip, List.map_zipWith]
theorem fit_len {n : Nat} (h : n ≤ 100000) : Fit n := Fit.of (by omega)
abbrev s_add_vectors : Stmt := topS 5
theorem sc_add_vectors : FnScope ["one", "two", "left", "right"] ["one", "two"] (defScope s_add_vectors) := ⟨rfl, rfl, rfl, by decide +kernel, rfl, by decide +kernel, by decide +kernel⟩
def f_add_vectors : FD := fun ds q => ∃ (t u : Bool) (l m : List Int), ds = [sqD t (inD l), sqD u (inD m)] ∧ l.length ≤ 100000 ∧ q (.val (.tuple (inD ((l.zip m).map fun x => x.1 + x.2))))
theorem ok_add_vectors {f fd} {k : Nat} (F : Fun K "add_vectors" "add_vectors" s_add_vectors f fd) (hdg : base.NoDigits) (m_tuple : mg "tuple" = none) (m_zip : mg "zip" = none) : FnG P w K mg base (k + 1) f fd ["one", "two"] (SpD K 2 f_add_vectors) := by
  refine fnD F sc_add_vectors fun cdv A outer s H E gA hr => ?_
  have hu := hr.units
  have nd := sc_add_vectors.nd
  refine ⟨_, (ss_one (st_ret (de_T c_tuple m_tuple (ab_cons (DE.toB (DLs.toE (dl_lc (own := [("left", 2), ("right", 3)]) nd (i_zipC (bv 0) (bv 1) m_zip) (gw_tup (n := 2) (gw_cons (gw_name (i := 2) nd) (gw_cons (gw_name (i := 3) nd) gw_nil))) dts_nil (fun _ _ _ _ _ => (de_op o_add (bv 2) (bv 3)))))) ab_nil)))), ?_⟩
  clear F nd hu hr gA E H s outer A cdv hdg m_tuple m_zip
  intro ds q hl hg
  obtain ⟨t, u, l, m, rfl, hlen, hq⟩ := hg
  show sRet _ _ [some (.val (sqD t (inD l))), some (.val (sqD u (inD m))), none, none]
  walk_at "rd"
  walk_at "rd"
  rw [zip_ints]
  refine ⟨fit_len (by simp; omega), lc_ints (fun x : Int × Int => x.1 + x.2) _ ?_ fun a ha q Z hq => ?_⟩ <;> (walk_at "rd"; exact hq)
abbrev s_subtract_vectors : Stmt := topS 6
theorem sc_subtract_vectors : FnScope ["one", "two", "left", "right"] ["one", "two"] (defScope s_subtract_vectors) := ⟨rfl, rfl, rfl, by decide +kernel, rfl, by decide +kernel, by decide +kernel⟩
def f_subtract_vectors : FD := fun ds q => ∃ (t u : Bool) (l m : List Int), ds = [sqD t (inD l), sqD u (inD m)] ∧ l.length ≤ 100000 ∧ q (.val (.tuple (inD ((l.zip m).map fun x => x.1 - x.2))))
theorem ok_subtract_vectors {f fd} {k : Nat} (F : Fun K "subtract_vectors" "subtract_vectors" s_subtract_vectors f fd) (hdg : base.NoDigits) (m_tuple : mg "tuple" = none) (m_zip : mg "zip" = none) : FnG P w K mg base (k + 1) f fd ["one", "two"] (SpD K 2 f_subtract_vectors) := by
  refine fnD F sc_subtract_vectors fun cdv A outer s H E gA hr => ?_
  have hu := hr.units
  have nd := sc_subtract_vectors.nd
  refine ⟨_, (ss_one (st_ret (de_T c_tuple m_tuple (ab_cons (DE.toB (DLs.toE (dl_lc (own := [("left", 2), ("right", 3)]) nd (i_zipC (bv 0) (bv 1) m_zip) (gw_tup (n := 2) (gw_cons (gw_name (i := 2) nd) (gw_cons (gw_name (i := 3) nd) gw_nil))) dts_nil (fun _ _ _ _ _ => (de_op o_sub (bv 2) (bv 3)))))) ab_nil)))), ?_⟩
  clear F nd hu hr gA E H s outer A cdv hdg m_tuple m_zip
  intro ds q hl hg
  obtain ⟨t, u, l, m, rfl, hlen, hq⟩ := hg
  show sRet _ _ [some (.val (sqD t (inD l))), some (.val (sqD u (inD m))), none, none]
  walk_at "rd"
  walk_at "rd"
  rw [zip_ints]
  refine ⟨fit_len (by simp; omega), lc_ints (fun x : Int × Int => x.1 - x.2) _ ?_ fun a ha q Z hq => ?_⟩ <;> (walk_at "rd"; exact hq)
abbrev s_scale_vector : Stmt := topS 7
theorem sc_scale_vector : FnScope ["vector", "number", "item"] ["vector", "number"] (defScope s_scale_vector) := ⟨rfl, rfl, rfl, by decide +kernel, rfl, by decide +kernel, by decide +kernel⟩
def f_scale_vector : FD := fun ds q => ∃ (t : Bool) (l : List Int) (k : Int), ds = [sqD t (inD l), .int k] ∧ l.length ≤ 100000 ∧ (∀ i ∈ l, MulOk i k) ∧ q (.val (.tuple (inD (l.map fun x => x * k))))
theorem ok_scale_vector {f fd} {k : Nat} (F : Fun K "scale_vector" "scale_vector" s_scale_vector f fd) (hdg : base.NoDigits) (m_tuple : mg "tuple" = none) : FnG P w K mg base (k + 1) f fd ["vector", "number"] (SpD K 2 f_scale_vector) := by
  refine fnD F sc_scale_vector fun cdv A outer s H E gA hr => ?_
  have hu := hr.units
  have nd := sc_scale_vector.nd
  refine ⟨_, (ss_one (st_ret (de_T c_tuple m_tuple (ab_cons (DE.toB (DLs.toE (dl_lc (own := [("item", 2)]) nd (i_seqC (bv 0)) (gw_name (i := 2) nd) dts_nil (fun _ _ _ _ _ => (de_op o_mul (bv 2) (bv 1)))))) ab_nil)))), ?_⟩
  clear F nd hu hr gA E H s outer A cdv hdg m_tuple
  intro ds q hl hg
  obtain ⟨t, l, k, rfl, hlen, hm, hq⟩ := hg
  show sRet _ _ [some (.val (sqD t (inD l))), some (.val (.int k)), none]
  walk_at "rd"
  walk_at "rd"
  refine ⟨fit_len (by simp; omega), lc_ints (fun x : Int => x * k) _ ?_ fun a ha q Z hq => ?_⟩
  · walk_at "rd"
    exact hq
  · walk_at "rd"
    exact ⟨hm a ha, hq⟩
/-- the product -/
def mulL (L : List (List Int)) (n : Nat) (x y : List Int) : List Int := ofT (toT (rsF L) n x * toT (rsF L) n y)
theorem mulL_length (L : List (List Int)) (n : Nat) (x y : List Int) : (mulL L n x y).length = 2 ^ n := ofT_length _
theorem toT_mulL (L : List (List Int)) (n : Nat) (x y : List Int) : toT (rsF L) n (mulL L n x y) = toT (rsF L) n x * toT (rsF L) n y := toT_ofT _
theorem mulL_bits {L : List (List Int)} {r n a b : Nat} {x y : List Int} (h : RadOk r L) (hx : BdL a x) (hy : BdL b y) : BdL (a + b + gro r n) (mulL L n x y) :=
  (mul_bd (fun k j _ => rsF_bits h k j) hx.toT hy.toT).ofT
theorem toT_zero (L : Nat → Nat → Int) (n : Nat) {l : List Int} (h : l.all (· == 0) = true) : toT L n l = 0 := by
  rw [← Tf_nil]
  refine Tf_congr fun j _ => ?_
  unfold fn
  rw [List.getD_eq_getElem?_getD]
  cases e : l[j]? with
  | none => rfl
  | some i =>
    have := List.all_eq_true.mp h i (List.mem_of_getElem? e)
    simpa using this
theorem ofT_zero (L : Nat → Nat → Int) (n : Nat) : ofT (0 : T L n) = List.replicate (2 ^ n) 0 := by
  rw [← toT_zero L n (l := List.replicate (2 ^ n) 0) (by simp), ofT_toT _ (by simp)]
theorem zip_add {L : Nat → Nat → Int} {n : Nat} (s t : T L n) : ((ofT s).zip (ofT t)).map (fun x => x.1 + x.2) = ofT (s + t) := by
  refine List.ext_getElem (by simp [ofT_length]) fun i h1 h2 => ?_
  simp only [ofT_length] at h2
  simp [ofT, cf_add]
theorem zip_sub {L : Nat → Nat → Int} {n : Nat} (s t : T L n) : ((ofT s).zip (ofT t)).map (fun x => x.1 - x.2) = ofT (s - t) := by
  refine List.ext_getElem (by simp [ofT_length]) fun i h1 h2 => ?_
  simp only [ofT_length] at h2
  simp [ofT, cf_sub]
abbrev s_multiply_vectors : Stmt := topS 8
theorem sc_multiply_vectors : FnScope ["radicands", "one", "two", "size", "half", "a", "b", "c", "d", "both", "turned", "low", "high"] ["radicands", "one", "two"] (defScope s_multiply_vectors) := ⟨rfl, rfl, rfl, by decide +kernel, rfl, by decide +kernel, by decide +kernel⟩
def f_multiply_vectors_ : Nat → FD
  | 0 => fun _ _ => False
  | n + 1 => fun ds q => ∃ (m : Nat) (R : D) (L : List (List Int)) (t u : Bool) (x y : List Int) (r a b : Nat), ds = [R, sqD t (inD x), sqD u (inD y)] ∧ m ≤ n ∧ m ≤ 7 ∧ RadD R L ∧ RadOk r L ∧ m ≤ L.length ∧ x.length = 2 ^ m ∧ y.length = 2 ^ m ∧
    BdL a x ∧ BdL b y ∧ a + b + gro r m ≤ 1000000 ∧ q (.val (.tuple (inD (mulL L m x y))))
abbrev f_multiply_vectors : FD := f_multiply_vectors_ 8
theorem ok_multiply_vectors {f fd} {k n : Nat} (F : Fun K "multiply_vectors" "multiply_vectors" s_multiply_vectors f fd) (hdg : base.NoDigits) (m_len : mg "len" = none) (r_is_zero : Ready P w K mg base "is_zero" 1 k f_is_zero) (r_zeros : Ready P w K mg base "zeros" 1 k f_zeros) (r_multiply_vectors : Ready P w K mg base "multiply_vectors" 3 k (f_multiply_vectors_ n)) (r_top_letter : Ready P w K mg base "top_letter" 1 k f_top_letter) (r_add_vectors : Ready P w K mg base "add_vectors" 2 k f_add_vectors) : FnG P w K mg base (k + 1) f fd ["radicands", "one", "two"] (SpD K 3 (f_multiply_vectors_ (n + 1))) := by
  refine fnD F sc_multiply_vectors fun cdv A outer s H E gA hr => ?_
  have hu := hr.units
  have nd := sc_multiply_vectors.nd
  refine ⟨_, (ss_cons (st_set (i := 3) nd (de_B c_len m_len (ab_cons (bv 1) ab_nil)))
    (ss_cons (st_if (dt_cmp (o_eq hu) (bv 3) (DE.toB de_int)) (ss_one (st_ret (de_tup (da_cons (de_op o_mul (DE.toB (de_ix x_ix (bv 1) (DE.toB de_int))) (DE.toB (de_ix x_ix (bv 2) (DE.toB de_int)))) da_nil)))) ss_nil)
    (ss_cons (st_if (DW.pt (dw_or (dt_val (r_is_zero.toE gA hr (da_cons (dv 1) da_nil))) (dw_or1 (dt_val (r_is_zero.toE gA hr (da_cons (dv 2) da_nil)))))) (ss_one (st_ret (r_zeros.toE gA hr (da_cons (dv 3) da_nil)))) ss_nil)
    (ss_cons (st_set (i := 4) nd (de_op o_fdiv (bv 3) (DE.toB de_int)))
    (ss_cons (st_par (i := 5) (j := 6) nd (de_sl (bv 1) do_none (do_some (dv 4))) (de_sl (bv 1) (do_some (dv 4)) do_none))
    (ss_cons (st_par (i := 7) (j := 8) nd (de_sl (bv 2) do_none (do_some (dv 4))) (de_sl (bv 2) (do_some (dv 4)) do_none))
    (ss_cons (st_set (i := 9) nd (r_multiply_vectors.toE gA hr (da_cons (dv 0) (da_cons (dv 6) (da_cons (dv 8) da_nil)))))
    (ss_cons (st_set (i := 10) nd (r_multiply_vectors.toE gA hr (da_cons (dv 0) (da_cons (de_ix x_ix (bv 0) (DE.toB (r_top_letter.toE gA hr (da_cons (dv 4) da_nil)))) (da_cons (dv 9) da_nil)))))
    (ss_cons (st_set (i := 11) nd (r_add_vectors.toE gA hr (da_cons (r_multiply_vectors.toE gA hr (da_cons (dv 0) (da_cons (dv 5) (da_cons (dv 7) da_nil)))) (da_cons (dv 10) da_nil))))
    (ss_cons (st_set (i := 12) nd (r_add_vectors.toE gA hr (da_cons (r_multiply_vectors.toE gA hr (da_cons (dv 0) (da_cons (dv 5) (da_cons (dv 8) da_nil)))) (da_cons (r_multiply_vectors.toE gA hr (da_cons (dv 0) (da_cons (dv 6) (da_cons (dv 7) da_nil)))) da_nil))))
    (ss_one (st_ret (de_op o_add (bv 11) (bv 12)))))))))))))), ?_⟩
  clear F nd hu hr gA E H s outer A cdv hdg m_len r_is_zero r_zeros r_multiply_vectors r_top_letter r_add_vectors
  intro ds q hl hg
  obtain ⟨m, R, L, t, u, x, y, r, a, b, rfl, hmn, hm7, hR, hL, hmL, hx, hy, ba, bb, hsz, hq⟩ := hg
  show sSeq _ _ _ [some (.val R), some (.val (sqD t (inD x))), some (.val (sqD u (inD y))), none, none, none, none, none, none, none, none, none, none]
  have h128 : 2 ^ m ≤ 128 := Nat.pow_le_pow_right (by decide) hm7
  refine sq_i fun k hk => ?_
  walk_at "rd"
  rw [List.length_map, hx]
  subst hk
  refine sq_i fun k hk => if_n fun T hT => ?_
  walk_at "rd"
  refine ⟨fun h => ?_, fun h => ?_⟩
  · subst hT
    have hm : m = 0 := by
      cases m with
      | zero => rfl
      | succ m =>
        have := Nat.two_pow_pos m
        rw [Nat.pow_succ] at h
        omega
    subst hm
    walk_at "rd"
    refine ix_ints (j := 0) rfl (by omega) ?_
    walk_at "rd"
    refine ix_ints (j := 0) rfl (by omega) ?_
    walk_at "rd"
    refine ⟨MulOk.of_le (ba.fn 0) (bb.fn 0) (by omega), hq⟩
  · subst hk
    obtain ⟨m, rfl⟩ : ∃ i, m = i + 1 := by
      cases m with
      | zero => exact absurd rfl h
      | succ m => exact ⟨m, rfl⟩
    obtain ⟨n, rfl⟩ : ∃ i, n = i + 1 := ⟨n - 1, by omega⟩
    refine sq_i fun k hk => if_n fun T hT => ?_
    have hz : (x.all (· == 0) = true ∨ y.all (· == 0) = true) → T := by
      intro hc
      subst hT
      walk_at "rd"
      refine ⟨2 ^ (m + 1), by simp, by omega, ?_⟩
      have e : mulL L (m + 1) x y = List.replicate (2 ^ (m + 1)) 0 := by
        unfold mulL
        rw [← ofT_zero (rsF L)]
        congr 1
        rcases hc with hc | hc
        · rw [toT_zero _ _ hc]; grind
        · rw [toT_zero _ _ hc]; grind
      rw [← e]
      exact hq
    walk_at "rd"
    refine ⟨t, x, rfl, ?_⟩
    walk_at "rd"
    refine ⟨fun hc => hz (.inl hc), fun _ => ⟨u, y, rfl, ?_⟩⟩
    walk_at "rd"
    refine ⟨fun hc => hz (.inr hc), fun _ => ?_⟩
    clear hz hT T
    subst hk
    refine sq_i fun k hk => ?_
    walk_at "rd"
    refine ⟨div_small (by decide) (by decide), ?_⟩
    have e2 : ((2 ^ (m + 1) : Nat) : Int).fdiv 2 = ((2 ^ m : Nat) : Int) := by
      rw [Int.fdiv_eq_ediv_of_nonneg _ (by decide), Nat.pow_succ]
      omega
    rw [e2]
    subst hk
    have e3 := two_pow_succ' m
    refine sq_i fun k hk => ?_
    walk_at "rd"
    rw [cut_low (by simp; omega), cut_high (by simp; omega), ← List.map_take, ← List.map_drop]
    subst hk
    refine sq_i fun k hk => ?_
    walk_at "rd"
    rw [cut_low (by simp; omega), cut_high (by simp; omega), ← List.map_take, ← List.map_drop]
    subst hk
    have hg1 : gro r (m + 1) = 2 * gro r m + r + 1 := rfl
    have lx1 : (x.take (2 ^ m)).length = 2 ^ m := by simp; omega
    have lx2 : (x.drop (2 ^ m)).length = 2 ^ m := by simp; omega
    have ly1 : (y.take (2 ^ m)).length = 2 ^ m := by simp; omega
    have ly2 : (y.drop (2 ^ m)).length = 2 ^ m := by simp; omega
    have hlt : m < L.length := by omega
    have hv : L[m]? = some L[m] := List.getElem?_eq_getElem hlt
    generalize L[m] = lv at hv
    obtain ⟨lv1, lv2⟩ := hL m lv hv
    have hrad : toT (rsF L) m lv = rad (rsF L) m := by
      show Tf _ _ (fn lv) = Tf _ _ (fn (L.getD m []))
      rw [getD_some hv]
    have b1 := mulL_bits (n := m) hL (ba.drop (k := 2 ^ m)) (bb.drop (k := 2 ^ m))
    refine sq_i fun k hk => ?_
    walk_at "rd"
    refine ⟨m, R, L, t, u, _, _, r, a, b, rfl, by omega, by omega, hR, hL, by omega, lx2, ly2, ba.drop, bb.drop, by omega, ?_⟩
    walk_at "rd"
    subst hk
    refine sq_i fun k hk => ?_
    walk_at "rd"
    refine ⟨m, rfl, ?_⟩
    walk_at "rd"
    refine hR.ix rfl hv fun w => ?_
    rw [sqD_t]
    refine ⟨m, R, L, w, true, _, _, r, r, _, rfl, by omega, by omega, hR, hL, by omega, lv1, mulL_length _ _ _ _, lv2, b1, by omega, ?_⟩
    walk_at "rd"
    subst hk
    refine sq_i fun k hk => ?_
    walk_at "rd"
    refine ⟨m, R, L, t, u, _, _, r, a, b, rfl, by omega, by omega, hR, hL, by omega, lx1, ly1, ba.take, bb.take, by omega, ?_⟩
    walk_at "rd"
    rw [sqD_t, sqD_t]
    refine ⟨true, true, _, _, rfl, by rw [mulL_length]; omega, ?_⟩
    walk_at "rd"
    subst hk
    refine sq_i fun k hk => ?_
    walk_at "rd"
    refine ⟨m, R, L, t, u, _, _, r, a, b, rfl, by omega, by omega, hR, hL, by omega, lx1, ly2, ba.take, bb.drop, by omega, ?_⟩
    walk_at "rd"
    refine ⟨m, R, L, t, u, _, _, r, a, b, rfl, by omega, by omega, hR, hL, by omega, lx2, ly1, ba.drop, bb.take, by omega, ?_⟩
    walk_at "rd"
    rw [sqD_t, sqD_t]
    refine ⟨true, true, _, _, rfl, by rw [mulL_length]; omega, ?_⟩
    walk_at "rd"
    subst hk
    walk_at "rd"
    have e : mulL L (m + 1) x y = (((mulL L m (x.take (2 ^ m)) (y.take (2 ^ m))).zip (mulL L m lv (mulL L m (x.drop (2 ^ m)) (y.drop (2 ^ m))))).map fun z => z.1 + z.2) ++ (((mulL L m (x.take (2 ^ m)) (y.drop (2 ^ m))).zip (mulL L m (x.drop (2 ^ m)) (y.take (2 ^ m)))).map fun z => z.1 + z.2) := by
      unfold mulL
      rw [zip_add, zip_add, ← ofT_mk, toT_ofT, hrad, toT_succ x, toT_succ y, mk_mul]
    refine ⟨fit_len (by simp [mulL_length]; omega), ?_⟩
    rw [← List.map_append, ← e]
    exact hq

end
end K13

namespace K13
open PySem PySem.Spec PyProof.Rows L2 DL Builtin.Int
local macro_rules | `(tactic| walk_at "rd") => `(tactic| simp -failIfUnchanged only [sSet, sSetL, sRet, sRetL, sRetO, sRetN, sNext, sBreak, sCont, sDrop, sApp, sAug, sAsg, sPar, sSetI, sPop, sSetPop, sRev, sFrz, frz1, iSeq, iRevD, iRange1, iRange2, iRangeD, rName, rTup, rTL_sq, gMulS_s, gStr1_i, rTL_t, rTL_l, rCons, rNil,
  dLst, dView, tView, lView, view, look, dVar, bVar, dC, d2, d1, l2, tBool, dNil, dCons, dTup, gI, gSubI, gMulI, gFdiv, gMod, gPow, gShl, gShr, gAnd, gXor, gLt, gLe, gGt, gGe, gAdd, gEq, gNe, isNone, gIs, gIsNot, gNeg, lCat, gLen_l, gLen_t, gLen_s, gInt, gAbs, gMax2, gMin2, gTuple_l, gTuple_t, lList_l, lList_t, gGcd, gIsqrt, dCall, lCall, dIsi, dIsi2,
  tAndD, tOrD, tNotD, tTru, truD, dAndV, dOrV, dNotV, dIf, dBits, wipeD, twoD, lComp, oNone, oSome, dSl, lSl, gSl_l, gSl_t, gSl_sq, gSq_l, gSq_t, gSq_sq, gIx_sq, gLen_sq, gTuple_sq, lList_sq, iZipD, gZip_sq, gZip_ts, gZip_st, gZip_ls, gZip_sl, gZip_tt, gZip_ll, gZip_lt, gZip_tl, dFn, lFn, valD, tYesD, eqOk_ii, eqOk_bb, eqOk_ss, eqv_int, eqv_str, eqv_bool, noLst, noLstAll, List.map_cons, List.map_nil, Option.map_some, Option.map_none,
  List.getElem?_cons_zero, List.getElem?_cons_succ, List.set_cons_zero, List.set_cons_succ, true_and, and_true, decide_eq_true_eq, decide_eq_false_iff_not, Bool.not_eq_true', Bool.not_eq_false', beq_iff_eq, beq_eq_false_iff_ne, Bool.true_eq_false, Bool.false_eq_true, false_imp_iff, true_imp_iff, forall_const, reduceCtorEq, ne_eq, not_true_eq_false, not_false_eq_true, Bool.not_true, Bool.not_false, Bool.true_and, Bool.and_true, Bool.false_and, Bool.and_false, Int.reduceToNat, Int.cast_ofNat_Int, eq_self, isTy_none_int, isTy_none_bool, isTy_none_str, isTy_none_list, isTy_none_tuple, isTy_bool_int, isTy_bool_bool, isTy_bool_str, isTy_bool_list, isTy_bool_tuple, isTy_int_int, isTy_int_bool, isTy_int_str, isTy_int_list, isTy_int_tuple, isTy_str_int, isTy_str_bool, isTy_str_str, isTy_str_list, isTy_str_tuple, isTy_list_int, isTy_list_bool, isTy_list_str, isTy_list_list, isTy_list_tuple, isTy_tuple_int, isTy_tuple_bool, isTy_tuple_str, isTy_tuple_list, isTy_tuple_tuple, List.length_cons, List.length_nil, Nat.reduceAdd, Nat.zero_add, ix2_0, ix2_1,
  gIx_l0, gIx_t0, gIx_l1, gIx_t1, gIx_l2, gIx_t2, gIx_l3, gIx_t3, gIx_l4, gIx_t4, gIx_l5, gIx_t5, gIx_l6, gIx_t6, gIx_l7, gIx_t7, gIx_l8, gIx_t8, gIx_l9, gIx_t9, gIx_l10, gIx_t10, gIx_l11, gIx_t11, gIx_l12, gIx_t12, gIx_l13, gIx_t13, gIx_l14, gIx_t14, gIx_l15, gIx_t15])
section
variable {P : Program} {w : World} {K : Frag} {mg : Str → Option Value} {base : Heap}
open TV
/-- a list from its items -/
def tl (m : Nat) (f : Nat → Int) : List Int := (List.range (2 ^ m)).map f
theorem tl_length (m : Nat) (f : Nat → Int) : (tl m f).length = 2 ^ m := by simp [tl]
theorem tl_fn {m : Nat} {f : Nat → Int} {j : Nat} (h : j < 2 ^ m) : fn (tl m f) j = f j := by simp [fn, tl, h]
theorem tl_congr {m : Nat} {f g : Nat → Int} (h : ∀ j, j < 2 ^ m → f j = g j) : tl m f = tl m g := List.map_congr_left fun j hj => h j (by simpa using hj)
theorem tl_of {m : Nat} {l : List Int} (h : l.length = 2 ^ m) : l = tl m (fn l) := by
  refine List.ext_getElem (by rw [tl_length, h]) fun i h1 h2 => ?_
  simp [tl, fn, h1]
theorem tl_set {m : Nat} {f : Nat → Int} {j : Nat} {v : Int} : (tl m f).set j v = tl m fun i => if i = j then v else f i := by
  refine List.ext_getElem (by simp [tl]) fun i h1 h2 => ?_
  rw [List.getElem_set]
  simp only [tl, List.getElem_map, List.getElem_range]
  by_cases h : j = i
  · rw [if_pos h, if_pos h.symm]
  · rw [if_neg h, if_neg (Ne.symm h)]
theorem tl_setD {m : Nat} {f : Nat → Int} {j : Nat} {v : Int} : (inD (tl m f)).set j (.int v) = inD (tl m fun i => if i = j then v else f i) := by
  rw [← tl_set]
  unfold inD
  rw [List.map_set]
theorem toT_tl {L : Nat → Nat → Int} {m : Nat} {f : Nat → Int} : toT L m (tl m f) = Tf L m f := Tf_congr fun j hj => tl_fn hj
theorem bit_room {k p m : Nat} (h : k / 2 ^ p % 2 = 0) (hk : k < 2 ^ m) (hp : p < m) : k + 2 ^ p < 2 ^ m := by
  have e : 2 ^ m = 2 ^ p * (2 * 2 ^ (m - p - 1)) := by
    rw [← Nat.pow_succ', ← Nat.pow_add]
    congr 1
    omega
  have h0 := Nat.two_pow_pos p
  have h1 : k / 2 ^ p < 2 * 2 ^ (m - p - 1) := Nat.div_lt_of_lt_mul (by rw [← e]; exact hk)
  have h2 : k < 2 ^ p * (k / 2 ^ p + 1) := Nat.lt_mul_div_succ k h0
  have h3 : 2 ^ p * (k / 2 ^ p + 2) ≤ 2 ^ m := by
    rw [e]
    exact Nat.mul_le_mul_left _ (by omega)
  rw [Nat.mul_add] at h2 h3
  omega
theorem fdiv_nat (a b : Nat) : (a : Int).fdiv (b : Int) = ((a / b : Nat) : Int) := by
  rw [Int.fdiv_eq_ediv_of_nonneg _ (by omega)]
  rfl
theorem fmod_nat (a b : Nat) : (a : Int).fmod (b : Int) = ((a % b : Nat) : Int) := by
  rw [Int.fmod_eq_emod_of_nonneg _ (by omega)]
  rfl
theorem fmod_nat2 (a : Nat) : (a : Int).fmod 2 = ((a % 2 : Nat) : Int) := fmod_nat a 2
theorem fdiv_nat2 (a : Nat) : (a : Int).fdiv 2 = ((a / 2 : Nat) : Int) := fdiv_nat a 2
theorem ixN_at {n j : Nat} {i : Int} (e : i = (j : Int)) (h : j < n) : ixN n i = some j := by
  subst e
  unfold ixN
  rw [if_pos (by omega), if_pos (by omega)]
  rfl
theorem pb_stop {L : Nat → Nat → Int} {n k q : Nat} (h : k < 2 ^ q) : ∀ d, pb L n k (q + d) = pb L n k q
  | 0 => rfl
  | d + 1 => by
    have : k / 2 ^ (q + d) % 2 = 0 := bit_small (Nat.lt_of_lt_of_le h (Nat.pow_le_pow_right (by decide) (by omega)))
    show (if k / 2 ^ (q + d) % 2 = 1 then _ else pb L n k (q + d)) = _
    rw [if_neg (by omega), pb_stop h d]
theorem pb_bd {L : Nat → Nat → Int} {n k p : Nat} (hk : k < 2 ^ n) (hp : p ≤ n) : Bd 1 (pb L n k p) := by
  have e : pb L n k p = pb L n (k % 2 ^ p) n := by
    rw [show n = p + (n - p) by omega, pb_stop (Nat.mod_lt _ (Nat.two_pow_pos p)) (n - p)]
    refine pb_bits fun q hq => ?_
    have e2 : 2 ^ p = 2 ^ q * (2 * 2 ^ (p - q - 1)) := by
      rw [← Nat.pow_succ', ← Nat.pow_add]
      congr 1
      omega
    rw [e2, Nat.mod_mul_right_div_self, Nat.mod_mul_right_mod]
  have hlt : k % 2 ^ p < 2 ^ n := Nat.lt_of_le_of_lt (Nat.mod_le _ _) hk
  have h1 := unit_pb (rs := L) 1 hlt
  rw [wh_one] at h1
  rw [e]
  intro j hj
  have h2 : pb L n (k % 2 ^ p) n = Tf L n fun j => if j = k % 2 ^ p then 1 else 0 := by rw [h1]; grind
  rw [h2, cf_Tf hj]
  split <;> decide
theorem take_succ {L : Nat → Nat → Int} {m k : Nat} {y : List Int} (hk : k < y.length) (hm : k < 2 ^ m) : toT L m (y.take (k + 1)) = toT L m (y.take k) + wh L m (fn y k) * pb L m k m := by
  rw [← unit_pb _ hm]
  unfold toT
  rw [← Tf_add]
  refine Tf_congr fun j _ => ?_
  simp only [fn, List.getD_eq_getElem?_getD, List.getElem?_take]
  by_cases h1 : j < k
  · rw [if_pos (by omega), if_pos h1, if_neg (by omega), Int.add_zero]
  · by_cases h2 : j = k
    · subst h2
      rw [if_pos (by omega), if_neg h1, if_pos rfl]
      simp
    · rw [if_neg (by omega), if_neg h1, if_neg h2]
      rfl
theorem zero_list {L : Nat → Nat → Int} {m : Nat} {l : List Int} (h : l.length = 2 ^ m) : inD (l.map fun _ => (0 : Int)) = inD (ofT (0 : T L m)) := by
  rw [ofT_zero, ← h]
  congr 1
  exact List.map_const'
theorem smul_list {L : Nat → Nat → Int} {m : Nat} {l : List Int} {c : Int} (h : l.length = 2 ^ m) : (l.map fun x => x * c) = ofT (toT L m l * wh L m c) := by
  refine toT_inj (rs := L) (by simp [h]) (ofT_length _) ?_
  rw [toT_ofT]
  have : toT L m (l.map fun x => x * c) = Tf L m fun j => c * fn l j := Tf_congr fun j _ => by
    simp only [fn, List.getD_eq_getElem?_getD, List.getElem?_map]
    cases l[j]? with
    | none => simp
    | some x => simp [Int.mul_comm]
  rw [this, wh_mul]
  show _ * toT L m l = _
  grind
theorem sum_list {L : Nat → Nat → Int} {m : Nat} (s t : T L m) : (List.range (2 ^ m)).map (fun j => PyData.int (fn (ofT s) j + fn (ofT t) j)) = inD (ofT (s + t)) := by
  unfold inD ofT
  rw [List.map_map]
  refine List.map_congr_left fun j hj => ?_
  show PyData.int _ = PyData.int (cf (s + t) j)
  rw [cf_add]
  have := fn_ofT s j (by simpa using hj)
  have := fn_ofT t j (by simpa using hj)
  unfold ofT at *
  congr 2
abbrev gG (r m : Nat) : Nat := gro r m + r + 2
abbrev s__law_times_letter : Stmt := topS 36
theorem sc__law_times_letter : FnScope ["radicands", "vector", "place", "bit", "total", "turned", "is_empty", "k", "part", "item"] ["radicands", "vector", "place"] (defScope s__law_times_letter) := ⟨rfl, rfl, rfl, by decide +kernel, rfl, by decide +kernel, by decide +kernel⟩
def f__law_times_letter_ : Nat → FD
  | 0 => fun _ _ => False
  | n + 1 => fun ds q => ∃ (m : Nat) (R : D) (L : List (List Int)) (t : Bool) (x : List Int) (p r a : Nat), ds = [R, sqD t (inD x), .int p] ∧ p < m ∧ m ≤ 7 ∧ 2 * p + 1 ≤ n ∧ RadD R L ∧ RadOk r L ∧ m ≤ L.length ∧ x.length = 2 ^ m ∧
    BdL a x ∧ a + (p + 1) * gG r m ≤ 1000000 ∧ q (.own (inD (ofT (toT (rsF L) m x * TV.lt (rsF L) m p))))
abbrev f__law_times_letter : FD := f__law_times_letter_ 16
def f__law_times_vector_ : Nat → FD
  | 0 => fun _ _ => False
  | n + 1 => fun ds q => ∃ (m : Nat) (R : D) (L : List (List Int)) (t u : Bool) (x y : List Int) (p r a f : Nat), ds = [R, sqD t (inD x), sqD u (inD y)] ∧ p ≤ m ∧ m ≤ 7 ∧ 2 * p ≤ n ∧ RadD R L ∧ RadOk r L ∧ m ≤ L.length ∧ x.length = 2 ^ m ∧ y.length = 2 ^ p ∧
    BdL a x ∧ BdL f y ∧ a + f + 1 + gro r m + p * gG r m ≤ 1000000 ∧ q (.own (inD (ofT (toT (rsF L) m x * toT (rsF L) m y))))
abbrev f__law_times_vector : FD := f__law_times_vector_ 16
theorem ok__law_times_letter {f fd} {k n : Nat} (F : Fun K "_law_times_letter" "_law_times_letter" s__law_times_letter f fd) (hdg : base.NoDigits) (m_int : mg "int" = none) (m_len : mg "len" = none) (m_range : mg "range" = none) (r__law_times_vector : Ready P w K mg base "_law_times_vector" 3 k (f__law_times_vector_ n)) : FnG P w K mg base (k + 1) f fd ["radicands", "vector", "place"] (SpD K 3 (f__law_times_letter_ (n + 1))) := by
  refine fnD F sc__law_times_letter fun cdv A outer s H E gA hr => ?_
  have hu := hr.units
  have nd := sc__law_times_letter.nd
  refine ⟨_, (ss_cons (st_set (i := 3) nd (de_op o_shl (DE.toB de_int) (bv 2)))
    (ss_cons (st_setL (i := 4) nd (dl_lc (own := [("item", 9)]) nd (i_seqC (bv 1)) (gw_name (i := 9) nd) dts_nil (fun _ _ _ _ _ => de_int)))
    (ss_cons (st_lcL (own := [("item", 9)]) (i := 5) nd (i_seqC (bv 1)) (gw_name (i := 9) nd) dts_nil (fun _ _ _ _ _ => de_int) (sw_true rfl rfl rfl (by decide +kernel)))
    (ss_cons (st_set (i := 6) nd de_bl)
    (ss_cons (st_for (i_range1 (de_B c_len m_len (ab_cons (bv 1) ab_nil)) m_range) (tg_name (i := 7) nd) (ss_one (st_if (dt_cmp (o_eq hu) (DE.toB (de_op o_mod (DE.toB (de_T c_int m_int (ab_cons (DE.toB (de_op o_fdiv (bv 7) (bv 3))) ab_nil))) (DE.toB de_int))) (DE.toB de_int)) (ss_one (st_setI (i := 4) (de_ix x_ix (bv 1) (bv 7)) (de_op o_add (bv 7) (bv 3)))) (ss_cons (st_setI (i := 5) (de_ix x_ix (bv 1) (bv 7)) (de_op o_sub (bv 7) (bv 3)))
    (ss_one (st_set (i := 6) nd (de_and (dv 6) (de_one (de_cmp (o_eq hu) (DE.toB (de_ix x_ix (bv 1) (bv 7))) (DE.toB de_int))))))))))
    (ss_cons (st_if (dt_tru (bv 6)) (ss_one (st_retO 4)) ss_nil)
    (ss_cons (st_set (i := 8) nd (DLs.toE (DLs.vw (r__law_times_vector.toL gA hr (da_cons (dv 0) (da_cons (dv 5) (da_cons (de_ix x_ix (bv 0) (bv 2)) da_nil)))))))
    (ss_one (st_retL (dl_lc (own := [("k", 7)]) nd (DI.c (i_range1 (de_B c_len m_len (ab_cons (bv 1) ab_nil)) m_range)) (gw_name (i := 7) nd) dts_nil (fun _ _ _ _ _ => (de_op o_add (DE.toB (de_ix x_ix (bv 4) (bv 7))) (DE.toB (de_ix x_ix (bv 8) (bv 7))))))))))))))), ?_⟩
  clear F nd hu hr gA E H s outer A cdv hdg m_int m_len m_range r__law_times_vector
  intro ds q hl hg
  obtain ⟨m, R, L, t, x, p, r, a, rfl, hpm, hm7, hpn, hR, hL, hmL, hx, ba, hsz, hq⟩ := hg
  obtain ⟨n, rfl⟩ : ∃ i, n = i + 1 := ⟨n - 1, by omega⟩
  show sSeq _ _ _ [some (.val R), some (.val (sqD t (inD x))), some (.val (.int p)), none, none, none, none, none, none, none]
  have h128 : 2 ^ m ≤ 128 := Nat.pow_le_pow_right (by decide) hm7
  have hpp : 2 ^ p ≤ 2 ^ m := Nat.pow_le_pow_right (by decide) (by omega)
  have i1 : intBits 1 = 1 := by decide
  have hG : gG r m = gro r m + r + 2 := rfl
  have hp0 := Nat.two_pow_pos p
  refine sq_i fun k hk => ?_
  walk_at "rd"
  refine ⟨⟨⟨by omega, by rw [i1]; omega⟩⟩, ?_⟩
  have e1 : (1 : Int) * 2 ^ (p : Int).toNat = ((2 ^ p : Nat) : Int) := by rw [Int.one_mul, Int.toNat_natCast]; simp
  rw [e1]
  subst hk
  refine sq_i fun k hk => ?_
  walk_at "rd"
  refine ⟨fit_len (by simp; omega), lc_ints (fun _ : Int => 0) _ ?_ fun a ha q Z hq => by walk_at "rd"; exact hq⟩
  rw [zero_list (L := rsF L) hx]
  subst hk
  refine sq_i fun k hk => ?_
  walk_at "rd"
  refine ⟨fit_len (by simp; omega), lc_ints (fun _ : Int => 0) _ ?_ fun a ha q Z hq => by walk_at "rd"; exact hq⟩
  rw [zero_list (L := rsF L) hx]
  subst hk
  refine sq_i fun k hk => ?_
  walk_at "rd"
  subst hk
  refine sq_i fun k hk => for_in fun W hW => ?_
  walk_at "rd"
  rw [List.length_map, hx]
  refine ⟨Rng.of (by omega) (by omega), ?_⟩
  subst hW
  rw [Int.toNat_natCast]
  have zz : ofT (0 : T (rsF L) m) = tl m fun _ => 0 := by rw [ofT_zero]; unfold tl; rw [List.map_const', List.length_range]
  rw [zz]
  refine for_up (fun i ρ => ∃ y : Option DV, ρ = [some (.val R), some (.val (sqD t (inD x))), some (.val (.int p)), some (.val (.int ((2 ^ p : Nat) : Int))), some (.own (inD (tl m fun j => if j / 2 ^ p % 2 = 1 ∧ j - 2 ^ p < i then fn x (j - 2 ^ p) else 0))),
    some (.own (inD (tl m fun j => if j / 2 ^ p % 2 = 0 ∧ j + 2 ^ p < i then fn x (j + 2 ^ p) else 0))), some (.val (.bool (decide (∀ j, j < i → j / 2 ^ p % 2 = 1 → fn x j = 0)))), y, none, none]) 0 (2 ^ m) ⟨none, ?_⟩ ?_ ?_
  · have c1 : (tl m fun j => if j / 2 ^ p % 2 = 1 ∧ j - 2 ^ p < 0 then fn x (j - 2 ^ p) else 0) = tl m fun _ => 0 := tl_congr fun j _ => if_neg (by omega)
    have c2 : (tl m fun j => if j / 2 ^ p % 2 = 0 ∧ j + 2 ^ p < 0 then fn x (j + 2 ^ p) else 0) = tl m fun _ => 0 := tl_congr fun j _ => if_neg (by omega)
    have c3 : decide (∀ j, j < 0 → j / 2 ^ p % 2 = 1 → fn x j = 0) = true := decide_eq_true fun j hj => by omega
    rw [c1, c2, c3]
  · rintro _ ⟨y, rfl⟩
    have c1 : (tl m fun j => if j / 2 ^ p % 2 = 1 ∧ j - 2 ^ p < 2 ^ m then fn x (j - 2 ^ p) else 0) = tl m (up p (fn x)) := tl_congr fun j hj => by
      unfold up
      by_cases h : j / 2 ^ p % 2 = 1
      · rw [if_pos ⟨h, Nat.lt_of_le_of_lt (Nat.sub_le _ _) hj⟩, if_pos h]
      · rw [if_neg (fun c => h c.1), if_neg h]
    have c2 : (tl m fun j => if j / 2 ^ p % 2 = 0 ∧ j + 2 ^ p < 2 ^ m then fn x (j + 2 ^ p) else 0) = tl m (dn p (fn x)) := tl_congr fun j hj => by
      unfold dn
      by_cases h : j / 2 ^ p % 2 = 0
      · rw [if_pos ⟨h, bit_room h hj hpm⟩, if_pos h]
      · rw [if_neg (fun c => h c.1), if_neg h]
    rw [c1, c2]
    have ml := mul_letter (rs := rsF L) (p := p) (fun j hj => rsF_sup hL p j hj) (fn x) hpm
    have ml' : toT (rsF L) m x * TV.lt (rsF L) m p = Tf (rsF L) m (up p (fn x)) + Tf (rsF L) m (dn p (fn x)) * Tf (rsF L) m (rsF L p) := ml.symm
    rw [ml'] at hq
    subst hk
    refine sq_i fun k hk => if_n fun T hT => ?_
    walk_at "rd"
    refine ⟨fun h => ?_, fun h => ?_⟩
    · subst hT
      walk_at "rd"
      have e0 : Tf (rsF L) m (dn p (fn x)) = 0 := by
        rw [← Tf_nil]
        refine Tf_congr fun j hj => ?_
        unfold dn
        split
        · rename_i hb
          refine h _ (bit_room hb hj hpm) ?_
          have h0 := Nat.two_pow_pos p
          rw [Nat.add_div_right _ h0]
          omega
        · rfl
      rw [e0] at hq
      have e3 : Tf (rsF L) m (up p (fn x)) + 0 * Tf (rsF L) m (rsF L p) = toT (rsF L) m (tl m (up p (fn x))) := by rw [toT_tl]; grind
      rw [e3, ofT_toT _ (tl_length _ _)] at hq
      exact hq
    · subst hk
      have hlt : p < L.length := by omega
      have hv : L[p]? = some L[p] := List.getElem?_eq_getElem hlt
      generalize L[p] = lv at hv
      obtain ⟨lv1, lv2⟩ := hL p lv hv
      have hrp : toT (rsF L) m lv = Tf (rsF L) m (rsF L p) := by
        show Tf _ _ (fn lv) = Tf _ _ (fn (L.getD p []))
        rw [getD_some hv]
      have bt : BdL a (tl m (dn p (fn x))) := by
        intro i hi
        obtain ⟨j, hj, rfl⟩ := List.mem_map.mp hi
        unfold dn
        split
        · exact ba.fn _
        · exact bits0 _
      refine sq_i fun k hk => ?_
      walk_at "rd"
      refine hR.ix rfl hv fun w => ?_
      rw [sqD_l]
      refine ⟨m, R, L, false, w, _, _, p, r, a, r, rfl, by omega, hm7, by omega, hR, hL, hmL, tl_length _ _, lv1, bt, lv2, ?_, ?_⟩
      · have : (p + 1) * gG r m = p * gG r m + gG r m := Nat.succ_mul _ _
        omega
      refine ⟨noLst_ints _, ?_⟩
      subst hk
      skip
      walk_at "rd"
      rw [List.length_map, hx]
      refine ⟨Rng.of (by omega) (by omega), fit_len (by rw [upTo_length]; omega), ?_⟩
      rw [Int.toNat_natCast]
      refine lc_up (fun j => .int (fn (tl m (up p (fn x))) j + fn (ofT (toT (rsF L) m (tl m (dn p (fn x))) * toT (rsF L) m lv)) j)) _ ?_ ?_
      · have e4 : tl m (up p (fn x)) = ofT (Tf (rsF L) m (up p (fn x))) := by rw [← toT_tl, ofT_toT _ (tl_length _ _)]
        rw [e4, sum_list, toT_tl, hrp]
        exact hq
      · intro i hi q Z hq
        walk_at "rd"
        refine ix_ints rfl (by rw [tl_length]; exact hi) ?_
        walk_at "rd"
        refine ix_ints rfl (by rw [ofT_length]; exact hi) ?_
        walk_at "rd"
        exact hq
  · rintro i _ hi ⟨y, rfl⟩ k1 hk1
    simp only [Int.zero_add]
    refine if_in fun T U hT hU => ?_
    walk_at "rd"
    rw [fdiv_nat]
    walk_at "rd"
    rw [fmod_nat2]
    refine ⟨div_small (by omega) (by omega), by decide, fun h => ?_, fun h => ?_⟩
    · subst hT
      walk_at "rd"
      have hb : i / 2 ^ p % 2 = 0 := by omega
      have hb1 : (i + 2 ^ p) / 2 ^ p % 2 = 1 := by
        rw [Nat.add_div_right _ hp0]
        omega
      refine ix_ints rfl (by omega) ?_
      walk_at "rd"
      rw [ixN_at (j := i + 2 ^ p) (by omega) (by rw [List.length_map, tl_length]; exact bit_room hb hi hpm)]
      refine hk1 _ ⟨some (.val (.int i)), ?_⟩
      walk_at "rd"
      rw [tl_setD]
      have c1 : (tl m fun j => if j = i + 2 ^ p then fn x i else if j / 2 ^ p % 2 = 1 ∧ j - 2 ^ p < i then fn x (j - 2 ^ p) else 0) = tl m fun j => if j / 2 ^ p % 2 = 1 ∧ j - 2 ^ p < i + 1 then fn x (j - 2 ^ p) else 0 := tl_congr fun j hj => by
        by_cases e : j = i + 2 ^ p
        · subst e
          rw [if_pos rfl, if_pos ⟨hb1, by omega⟩, Nat.add_sub_cancel]
        · rw [if_neg e]
          by_cases h2 : j / 2 ^ p % 2 = 1
          · have := bit_ge h2
            by_cases h3 : j - 2 ^ p < i
            · rw [if_pos ⟨h2, h3⟩, if_pos ⟨h2, by omega⟩]
            · rw [if_neg (fun c => h3 c.2), if_neg (fun c => by omega)]
          · rw [if_neg (fun c => h2 c.1), if_neg (fun c => h2 c.1)]
      have c2 : (tl m fun j => if j / 2 ^ p % 2 = 0 ∧ j + 2 ^ p < i then fn x (j + 2 ^ p) else 0) = tl m fun j => if j / 2 ^ p % 2 = 0 ∧ j + 2 ^ p < i + 1 then fn x (j + 2 ^ p) else 0 := tl_congr fun j hj => by
        by_cases h2 : j / 2 ^ p % 2 = 0 ∧ j + 2 ^ p < i
        · rw [if_pos h2, if_pos ⟨h2.1, by omega⟩]
        · rw [if_neg h2, if_neg]
          intro c
          have e : i = j + 2 ^ p := by omega
          rw [e, Nat.add_div_right _ hp0] at hb
          omega
      have c3 : decide (∀ j, j < i → j / 2 ^ p % 2 = 1 → fn x j = 0) = decide (∀ j, j < i + 1 → j / 2 ^ p % 2 = 1 → fn x j = 0) := by
        congr 1
        refine propext ⟨fun h j hj hj2 => ?_, fun h j hj => h j (by omega)⟩
        by_cases e : j = i
        · subst e; omega
        · exact h j (by omega) hj2
      rw [c1, c2, c3]
    · subst hU
      have hb : i / 2 ^ p % 2 = 1 := by omega
      have hge := bit_ge hb
      refine sq_i fun k hk => ?_
      walk_at "rd"
      refine ix_ints rfl (by omega) ?_
      walk_at "rd"
      rw [ixN_at (j := i - 2 ^ p) (by omega) (by rw [List.length_map, tl_length]; omega)]
      walk_at "rd"
      rw [tl_setD]
      subst hk
      have hb0 : (i - 2 ^ p) / 2 ^ p % 2 = 0 := by
        have e := Nat.add_div_right (i - 2 ^ p) hp0
        rw [Nat.sub_add_cancel hge] at e
        omega
      have c1 : (tl m fun j => if j / 2 ^ p % 2 = 1 ∧ j - 2 ^ p < i then fn x (j - 2 ^ p) else 0) = tl m fun j => if j / 2 ^ p % 2 = 1 ∧ j - 2 ^ p < i + 1 then fn x (j - 2 ^ p) else 0 := tl_congr fun j hj => by
        by_cases h2 : j / 2 ^ p % 2 = 1 ∧ j - 2 ^ p < i
        · rw [if_pos h2, if_pos ⟨h2.1, by omega⟩]
        · rw [if_neg h2, if_neg]
          intro c
          have := bit_ge c.1
          have e : j = i + 2 ^ p := by omega
          rw [e, Nat.add_div_right _ hp0] at c
          omega
      have c2 : (tl m fun j => if j = i - 2 ^ p then fn x i else if j / 2 ^ p % 2 = 0 ∧ j + 2 ^ p < i then fn x (j + 2 ^ p) else 0) = tl m fun j => if j / 2 ^ p % 2 = 0 ∧ j + 2 ^ p < i + 1 then fn x (j + 2 ^ p) else 0 := tl_congr fun j hj => by
        by_cases e : j = i - 2 ^ p
        · subst e
          rw [if_pos rfl, if_pos ⟨hb0, by omega⟩, Nat.sub_add_cancel hge]
        · rw [if_neg e]
          by_cases h2 : j / 2 ^ p % 2 = 0 ∧ j + 2 ^ p < i
          · rw [if_pos h2, if_pos ⟨h2.1, by omega⟩]
          · rw [if_neg h2, if_neg (fun c => by omega)]
      rw [c1, c2]
      have fin : ∀ b, b = decide (∀ j, j < i + 1 → j / 2 ^ p % 2 = 1 → fn x j = 0) → k1 [some (.val R), some (.val (sqD t (inD x))), some (.val (.int p)), some (.val (.int ((2 ^ p : Nat) : Int))), some (.own (inD (tl m fun j => if j / 2 ^ p % 2 = 1 ∧ j - 2 ^ p < i + 1 then fn x (j - 2 ^ p) else 0))),
          some (.own (inD (tl m fun j => if j / 2 ^ p % 2 = 0 ∧ j + 2 ^ p < i + 1 then fn x (j + 2 ^ p) else 0))), some (.val (.bool b)), some (.val (.int i)), none, none] := by
        rintro _ rfl
        exact hk1 _ ⟨_, rfl⟩
      walk_at "rd"
      have dd : (∀ j, j < i + 1 → j / 2 ^ p % 2 = 1 → fn x j = 0) ↔ (∀ j, j < i → j / 2 ^ p % 2 = 1 → fn x j = 0) ∧ fn x i = 0 :=
        ⟨fun h => ⟨fun j hj => h j (by omega), h i (by omega) hb⟩, fun h j hj hj2 => by
          by_cases e : j = i
          · subst e; exact h.2
          · exact h.1 j (by omega) hj2⟩
      refine ⟨fun h1 => ix_ints rfl (by omega) ⟨by simp [eqOk, SeqAt.shaped, PyData.canLay0, PyData.depth], fin _ ?_⟩, fun h1 => fin _ ?_⟩
      · rw [eqv_int]
        by_cases h2 : fn x i = 0
        · rw [decide_eq_true (dd.mpr ⟨h1, h2⟩), h2]
          rfl
        · rw [decide_eq_false (fun c => h2 (dd.mp c).2)]
          exact beq_eq_false_iff_ne.mpr h2
      · rw [decide_eq_false (fun c => h1 (dd.mp c).1)]
abbrev s__law_times_vector : Stmt := topS 37
theorem sc__law_times_vector : FnScope ["radicands", "vector", "factor", "total", "k", "part", "rest", "place", "item", "j"] ["radicands", "vector", "factor"] (defScope s__law_times_vector) := ⟨rfl, rfl, rfl, by decide +kernel, rfl, by decide +kernel, by decide +kernel⟩
theorem ok__law_times_vector {f fd} {k n : Nat} (F : Fun K "_law_times_vector" "_law_times_vector" s__law_times_vector f fd) (hdg : base.NoDigits) (m_int : mg "int" = none) (m_len : mg "len" = none) (m_range : mg "range" = none) (r__law_times_letter : Ready P w K mg base "_law_times_letter" 3 k (f__law_times_letter_ n)) : FnG P w K mg base (k + 1) f fd ["radicands", "vector", "factor"] (SpD K 3 (f__law_times_vector_ (n + 1))) := by
  refine fnD F sc__law_times_vector fun cdv A outer s H E gA hr => ?_
  have hu := hr.units
  have nd := sc__law_times_vector.nd
  refine ⟨_, (ss_cons (st_setL (i := 3) nd (dl_lc (own := [("item", 8)]) nd (i_seqC (bv 1)) (gw_name (i := 8) nd) dts_nil (fun _ _ _ _ _ => de_int)))
    (ss_cons (st_for (i_range1 (de_B c_len m_len (ab_cons (bv 2) ab_nil)) m_range) (tg_name (i := 4) nd) (ss_one (st_if (dt_cmp (o_ne hu) (DE.toB (de_ix x_ix (bv 2) (bv 4))) (DE.toB de_int)) (ss_cons (st_set (i := 5) nd (DLs.toE (dl_lc (own := [("item", 8)]) nd (i_seqC (bv 1)) (gw_name (i := 8) nd) dts_nil (fun _ _ _ _ _ => (de_op o_mul (bv 8) (DE.toB (de_ix x_ix (bv 2) (bv 4))))))))
    (ss_cons (st_set (i := 6) nd (dv 4))
    (ss_cons (st_set (i := 7) nd de_int)
    (ss_cons (st_while (dt_cmp o_gt (bv 6) (DE.toB de_int)) (ss_cons (st_if (dt_cmp (o_eq hu) (DE.toB (de_op o_mod (DE.toB (de_T c_int m_int (ab_cons (bv 6) ab_nil))) (DE.toB de_int))) (DE.toB de_int)) (ss_one (st_set (i := 5) nd (r__law_times_letter.toE gA hr (da_cons (dv 0) (da_cons (dv 5) (da_cons (dv 7) da_nil)))))) ss_nil)
    (ss_cons (st_set (i := 6) nd (de_op o_fdiv (bv 6) (DE.toB de_int)))
    (ss_one (st_set (i := 7) nd (de_op o_add (bv 7) (DE.toB de_int)))))))
    (ss_one (st_setL (i := 3) nd (dl_lc (own := [("j", 9)]) nd (DI.c (i_range1 (de_B c_len m_len (ab_cons (bv 1) ab_nil)) m_range)) (gw_name (i := 9) nd) dts_nil (fun _ _ _ _ _ => (de_op o_add (DE.toB (de_ix x_ix (bv 3) (bv 9))) (DE.toB (de_ix x_ix (bv 5) (bv 9)))))))))))) ss_nil)))
    (ss_one (st_retO 3)))), ?_⟩
  clear F nd hu hr gA E H s outer A cdv hdg m_int m_len m_range r__law_times_letter
  intro ds q hl hg
  obtain ⟨m, R, L, t, u, x, y, p, r, a, f', rfl, hpm, hm7, hpn, hR, hL, hmL, hx, hy, ba, bf, hsz, hq⟩ := hg
  show sSeq _ _ _ [some (.val R), some (.val (sqD t (inD x))), some (.val (sqD u (inD y))), none, none, none, none, none, none, none]
  have h128 : 2 ^ m ≤ 128 := Nat.pow_le_pow_right (by decide) hm7
  have hpp : 2 ^ p ≤ 2 ^ m := Nat.pow_le_pow_right (by decide) hpm
  have hG : gG r m = gro r m + r + 2 := rfl
  refine sq_i fun k hk => ?_
  walk_at "rd"
  refine ⟨fit_len (by simp; omega), lc_ints (fun _ : Int => 0) _ ?_ fun a ha q Z hq => by walk_at "rd"; exact hq⟩
  rw [zero_list (L := rsF L) hx]
  subst hk
  refine sq_i fun k hk => for_in fun W hW => ?_
  walk_at "rd"
  rw [List.length_map, hy]
  refine ⟨Rng.of (by omega) (by omega), ?_⟩
  subst hW
  rw [Int.toNat_natCast]
  refine for_up (fun i ρ => ∃ z1 z2 z3 z4 : Option DV, ρ = [some (.val R), some (.val (sqD t (inD x))), some (.val (sqD u (inD y))), some (.own (inD (ofT (toT (rsF L) m x * toT (rsF L) m (y.take i))))), z1, z2, z3, z4, none, none]) 0 (2 ^ p) ⟨none, none, none, none, ?_⟩ ?_ ?_
  · have e : toT (rsF L) m x * toT (rsF L) m (y.take 0) = 0 := by
      rw [toT_zero (rsF L) m (l := y.take 0) (by simp)]
      grind
    rw [e]
  · rintro _ ⟨z1, z2, z3, z4, rfl⟩
    subst hk
    walk_at "rd"
    rw [List.take_of_length_le (by omega)]
    exact hq
  · rintro i _ hi ⟨z1, z2, z3, z4, rfl⟩ k1 hk1
    simp only [Int.zero_add]
    have hiy : i < y.length := by omega
    have him : i < 2 ^ m := by omega
    have tk := take_succ (L := rsF L) hiy him
    refine if_n fun T hT => ?_
    walk_at "rd"
    refine ix_ints rfl hiy ?_
    walk_at "rd"
    refine ⟨fun hc => ?_, fun hc => ?_⟩
    · subst hT
      refine sq_i fun k hk => ?_
      walk_at "rd"
      refine ⟨fit_len (by simp; omega), lc_ints (fun z : Int => z * fn y i) _ ?_ ?_⟩
      · subst hk
        refine sq_i fun k hk => ?_
        walk_at "rd"
        subst hk
        refine sq_i fun k hk => ?_
        walk_at "rd"
        subst hk
        refine sj_r (fun ρ' => ∃ z3 z4 : Option DV, ρ' = [some (.val R), some (.val (sqD t (inD x))), some (.val (sqD u (inD y))), some (.own (inD (ofT (toT (rsF L) m x * toT (rsF L) m (y.take i))))), some (.val (.int i)), some (.val (.list (inD (ofT (toT (rsF L) m x * wh (rsF L) m (fn y i) * pb (rsF L) m i m))))), z3, z4, none, none]) ?_ ?_
        · rintro _ ⟨z3, z4, rfl⟩
          walk_at "rd"
          rw [List.length_map, hx]
          refine ⟨Rng.of (by omega) (by omega), fit_len (by rw [upTo_length]; omega), ?_⟩
          rw [Int.toNat_natCast]
          refine lc_up (fun j => .int (fn (ofT (toT (rsF L) m x * toT (rsF L) m (y.take i))) j + fn (ofT (toT (rsF L) m x * wh (rsF L) m (fn y i) * pb (rsF L) m i m)) j)) _ ?_ ?_
          · rw [sum_list]
            have e : toT (rsF L) m x * toT (rsF L) m (y.take i) + toT (rsF L) m x * wh (rsF L) m (fn y i) * pb (rsF L) m i m = toT (rsF L) m x * toT (rsF L) m (y.take (i + 1)) := by
              rw [tk]
              grind
            rw [e]
            exact hk1 _ ⟨_, _, _, _, rfl⟩
          · intro j hj q Z hq
            walk_at "rd"
            refine ix_ints rfl (by rw [ofT_length]; exact hj) ?_
            walk_at "rd"
            refine ix_ints rfl (by rw [ofT_length]; exact hj) ?_
            walk_at "rd"
            exact hq
        · intro k hk
          refine while_i (fun mm ρ => ∃ (pl : Nat), ρ = [some (.val R), some (.val (sqD t (inD x))), some (.val (sqD u (inD y))), some (.own (inD (ofT (toT (rsF L) m x * toT (rsF L) m (y.take i))))), some (.val (.int i)), some (.val (.list (inD (ofT (toT (rsF L) m x * wh (rsF L) m (fn y i) * pb (rsF L) m i pl))))), some (.val (.int ((i / 2 ^ pl : Nat) : Int))), some (.val (.int pl)), none, none] ∧ mm = i / 2 ^ pl ∧ pl ≤ p) i ⟨0, ?_, by simp, by omega⟩ ?_
          · have e0 : toT (rsF L) m x * wh (rsF L) m (fn y i) * pb (rsF L) m i 0 = toT (rsF L) m x * wh (rsF L) m (fn y i) := by
              show _ * (1 : T (rsF L) m) = _
              grind
            rw [e0, ← smul_list hx]
            simp
          · rintro _ _ ⟨pl, rfl, rfl, hpl⟩ k2 hk2
            walk_at "rd"
            refine ⟨fun h => ?_, fun h => ?_⟩
            · have hlt : pl < p := by
                refine Nat.not_le.mp fun c => ?_
                have : i < 2 ^ pl := Nat.lt_of_lt_of_le hi (Nat.pow_le_pow_right (by decide) c)
                rw [Nat.div_eq_of_lt this] at h
                exact absurd h (by decide)
              have hdiv : i / 2 ^ (pl + 1) = i / 2 ^ pl / 2 := by rw [Nat.pow_succ, Nat.div_div_eq_div_mul]
              have hpos : 0 < i / 2 ^ pl := by omega
              refine sj_i 5 (fun d => d = .list (inD (ofT (toT (rsF L) m x * wh (rsF L) m (fn y i) * pb (rsF L) m i (pl + 1))))) ?_ ?_
              · rintro _ rfl
                refine sq_i fun k hk => ?_
                walk_at "rd"
                rw [fdiv_nat2]
                refine ⟨div_small (by decide) (by decide), ?_⟩
                subst hk
                walk_at "rd"
                subst hk2
                exact ⟨i / 2 ^ pl / 2, Nat.div_lt_self hpos (by decide), pl + 1, by rw [hdiv]; rfl, by rw [hdiv], hlt⟩
              · intro k hk
                refine if_n fun T hT => ?_
                walk_at "rd"
                rw [fmod_nat2]
                refine ⟨by decide, fun h => ?_, fun h => ?_⟩
                · subst hT
                  walk_at "rd"
                  obtain ⟨n, rfl⟩ : ∃ i, n = i + 1 := ⟨n - 1, by omega⟩
                  rw [sqD_l]
                  have b1 : BdL (a + f' + 1 + gro r m) (ofT (toT (rsF L) m x * wh (rsF L) m (fn y i) * pb (rsF L) m i pl)) := by
                    have e : toT (rsF L) m x * wh (rsF L) m (fn y i) = toT (rsF L) m (x.map fun z => z * fn y i) := by rw [smul_list hx, toT_ofT]
                    rw [e]
                    have bx : BdL (a + f') (x.map fun z => z * fn y i) := fun z hz => by
                      obtain ⟨w, hw, rfl⟩ := List.mem_map.mp hz
                      exact intBits_mul_le (ba w hw) (bf.fn i)
                    exact (mul_bd (fun k j _ => rsF_bits hL k j) bx.toT (pb_bd him (by omega))).ofT
                  refine ⟨m, R, L, false, _, pl, r, _, rfl, by omega, hm7, by omega, hR, hL, hmL, ofT_length _, b1, ?_, ?_⟩
                  · have : (pl + 1) * gG r m ≤ p * gG r m := Nat.mul_le_mul_right _ hlt
                    omega
                  · walk_at "rd"
                    refine hk _ ?_
                    rw [toT_ofT]
                    have e : pb (rsF L) m i (pl + 1) = pb (rsF L) m i pl * TV.lt (rsF L) m pl := if_pos (by omega)
                    rw [e]
                    congr 3
                    grind
                · have e : pb (rsF L) m i (pl + 1) = pb (rsF L) m i pl := if_neg (by omega)
                  exact hk (.list (inD (ofT (toT (rsF L) m x * wh (rsF L) m (fn y i) * pb (rsF L) m i pl)))) (by rw [e])
            · have hz : i / 2 ^ pl = 0 := by
                revert h
                generalize i / 2 ^ pl = z
                intro h
                omega
              have hlt : i < 2 ^ pl := (Nat.div_eq_zero_iff_lt (Nat.two_pow_pos pl)).mp hz
              have e : pb (rsF L) m i m = pb (rsF L) m i pl := by
                have e2 := pb_stop (L := rsF L) (n := m) hlt (m - pl)
                rwa [show pl + (m - pl) = m by omega] at e2
              rw [← e]
              exact hk _ ⟨_, _, rfl⟩
      · intro z hz q Z hq
        walk_at "rd"
        refine ix_ints rfl hiy ?_
        walk_at "rd"
        exact ⟨MulOk.of_le (ba z hz) (bf.fn i) (by omega), hq⟩
    · have e : toT (rsF L) m x * toT (rsF L) m (y.take i) = toT (rsF L) m x * toT (rsF L) m (y.take (i + 1)) := by
        have hc' : fn y i = 0 := by
          rcases Int.lt_trichotomy (fn y i) 0 with c | c | c <;> first | exact c | (exfalso; revert hc; simp; omega)
        rw [tk, hc', wh_zero]
        grind
      rw [e]
      exact hk1 _ ⟨_, _, _, _, rfl⟩

end
end K13

namespace K13
open PySem PySem.Spec PyProof.Rows L2 DL Builtin.Int
local macro_rules | `(tactic| walk_at "rd") => `(tactic| simp -failIfUnchanged only [sSet, sSetL, sRet, sRetL, sRetO, sRetN, sNext, sBreak, sCont, sDrop, sApp, sAug, sAsg, sPar, sSetI, sPop, sSetPop, sRev, sFrz, frz1, iSeq, iRevD, iRange1, iRange2, iRangeD, rName, rTup, rTL_sq, gMulS_s, gStr1_i, rTL_t, rTL_l, rCons, rNil,
  dLst, dView, tView, lView, view, look, dVar, bVar, dC, d2, d1, l2, tBool, dNil, dCons, dTup, gI, gSubI, gMulI, gFdiv, gMod, gPow, gShl, gShr, gAnd, gXor, gLt, gLe, gGt, gGe, gAdd, gEq, gNe, isNone, gIs, gIsNot, gNeg, lCat, gLen_l, gLen_t, gLen_s, gInt, gAbs, gMax2, gMin2, gTuple_l, gTuple_t, lList_l, lList_t, gGcd, gIsqrt, dCall, lCall, dIsi, dIsi2,
  tAndD, tOrD, tNotD, tTru, truD, dAndV, dOrV, dNotV, dIf, dBits, wipeD, twoD, lComp, oNone, oSome, dSl, lSl, gSl_l, gSl_t, gSl_sq, gSq_l, gSq_t, gSq_sq, gIx_sq, gLen_sq, gTuple_sq, lList_sq, iZipD, gZip_sq, gZip_ts, gZip_st, gZip_ls, gZip_sl, gZip_tt, gZip_ll, gZip_lt, gZip_tl, dFn, lFn, valD, tYesD, eqOk_ii, eqOk_bb, eqOk_ss, eqv_int, eqv_str, eqv_bool, noLst, noLstAll, List.map_cons, List.map_nil, Option.map_some, Option.map_none,
  List.getElem?_cons_zero, List.getElem?_cons_succ, List.set_cons_zero, List.set_cons_succ, true_and, and_true, decide_eq_true_eq, decide_eq_false_iff_not, Bool.not_eq_true', Bool.not_eq_false', beq_iff_eq, beq_eq_false_iff_ne, Bool.true_eq_false, Bool.false_eq_true, false_imp_iff, true_imp_iff, forall_const, reduceCtorEq, ne_eq, not_true_eq_false, not_false_eq_true, Bool.not_true, Bool.not_false, Bool.true_and, Bool.and_true, Bool.false_and, Bool.and_false, Int.reduceToNat, Int.cast_ofNat_Int, eq_self, isTy_none_int, isTy_none_bool, isTy_none_str, isTy_none_list, isTy_none_tuple, isTy_bool_int, isTy_bool_bool, isTy_bool_str, isTy_bool_list, isTy_bool_tuple, isTy_int_int, isTy_int_bool, isTy_int_str, isTy_int_list, isTy_int_tuple, isTy_str_int, isTy_str_bool, isTy_str_str, isTy_str_list, isTy_str_tuple, isTy_list_int, isTy_list_bool, isTy_list_str, isTy_list_list, isTy_list_tuple, isTy_tuple_int, isTy_tuple_bool, isTy_tuple_str, isTy_tuple_list, isTy_tuple_tuple, List.length_cons, List.length_nil, Nat.reduceAdd, Nat.zero_add, ix2_0, ix2_1,
  gIx_l0, gIx_t0, gIx_l1, gIx_t1, gIx_l2, gIx_t2, gIx_l3, gIx_t3, gIx_l4, gIx_t4, gIx_l5, gIx_t5, gIx_l6, gIx_t6, gIx_l7, gIx_t7, gIx_l8, gIx_t8, gIx_l9, gIx_t9, gIx_l10, gIx_t10, gIx_l11, gIx_t11, gIx_l12, gIx_t12, gIx_l13, gIx_t13, gIx_l14, gIx_t14, gIx_l15, gIx_t15])
section
variable {P : Program} {w : World} {K : Frag} {mg : Str → Option Value} {base : Heap}
open TV
theorem InR_rep : ∀ {n : Nat} {s : Int} {rs : List Int}, InR rs (List.replicate n s) → rs.length = n ∧ ∀ x ∈ rs, 0 ≤ x ∧ x < s
  | 0, s, rs, h => by
    obtain rfl := InR.nil h
    exact ⟨rfl, fun x hx => by cases hx⟩
  | n + 1, s, rs, h => by
    rw [List.replicate_succ] at h
    obtain ⟨r, rs', rfl, h1, h2⟩ := h.cons
    obtain ⟨h3, h4⟩ := InR_rep h2
    refine ⟨by rw [List.length_cons, h3], fun x hx => ?_⟩
    rcases List.mem_cons.mp hx with rfl | hx
    · exact h1
    · exact h4 x hx
end
end K13

namespace K13
open PySem PySem.Spec PyProof.Rows L2 DL Builtin.Int
local macro_rules | `(tactic| walk_at "rd") => `(tactic| simp -failIfUnchanged only [sSet, sSetL, sRet, sRetL, sRetO, sRetN, sNext, sBreak, sCont, sDrop, sApp, sAug, sAsg, sPar, sSetI, sPop, sSetPop, sRev, sFrz, frz1, iSeq, iRevD, iRange1, iRange2, iRangeD, rName, rTup, rTL_sq, gMulS_s, gStr1_i, rTL_t, rTL_l, rCons, rNil,
  dLst, dView, tView, lView, view, look, dVar, bVar, dC, d2, d1, l2, tBool, dNil, dCons, dTup, gI, gSubI, gMulI, gFdiv, gMod, gPow, gShl, gShr, gAnd, gXor, gLt, gLe, gGt, gGe, gAdd, gEq, gNe, isNone, gIs, gIsNot, gNeg, lCat, gLen_l, gLen_t, gLen_s, gInt, gAbs, gMax2, gMin2, gTuple_l, gTuple_t, lList_l, lList_t, gGcd, gIsqrt, dCall, lCall, dIsi, dIsi2,
  tAndD, tOrD, tNotD, tTru, truD, dAndV, dOrV, dNotV, dIf, dBits, wipeD, twoD, lComp, oNone, oSome, dSl, lSl, gSl_l, gSl_t, gSl_sq, gSq_l, gSq_t, gSq_sq, gIx_sq, gLen_sq, gTuple_sq, lList_sq, iZipD, gZip_sq, gZip_ts, gZip_st, gZip_ls, gZip_sl, gZip_tt, gZip_ll, gZip_lt, gZip_tl, dFn, lFn, valD, tYesD, eqOk_ii, eqOk_bb, eqOk_ss, eqv_int, eqv_str, eqv_bool, noLst, noLstAll, List.map_cons, List.map_nil, Option.map_some, Option.map_none,
  List.getElem?_cons_zero, List.getElem?_cons_succ, List.set_cons_zero, List.set_cons_succ, true_and, and_true, decide_eq_true_eq, decide_eq_false_iff_not, Bool.not_eq_true', Bool.not_eq_false', beq_iff_eq, beq_eq_false_iff_ne, Bool.true_eq_false, Bool.false_eq_true, false_imp_iff, true_imp_iff, forall_const, reduceCtorEq, ne_eq, not_true_eq_false, not_false_eq_true, Bool.not_true, Bool.not_false, Bool.true_and, Bool.and_true, Bool.false_and, Bool.and_false, Int.reduceToNat, Int.cast_ofNat_Int, eq_self, isTy_none_int, isTy_none_bool, isTy_none_str, isTy_none_list, isTy_none_tuple, isTy_bool_int, isTy_bool_bool, isTy_bool_str, isTy_bool_list, isTy_bool_tuple, isTy_int_int, isTy_int_bool, isTy_int_str, isTy_int_list, isTy_int_tuple, isTy_str_int, isTy_str_bool, isTy_str_str, isTy_str_list, isTy_str_tuple, isTy_list_int, isTy_list_bool, isTy_list_str, isTy_list_list, isTy_list_tuple, isTy_tuple_int, isTy_tuple_bool, isTy_tuple_str, isTy_tuple_list, isTy_tuple_tuple, List.length_cons, List.length_nil, Nat.reduceAdd, Nat.zero_add, ix2_0, ix2_1,
  gIx_l0, gIx_t0, gIx_l1, gIx_t1, gIx_l2, gIx_t2, gIx_l3, gIx_t3, gIx_l4, gIx_t4, gIx_l5, gIx_t5, gIx_l6, gIx_t6, gIx_l7, gIx_t7, gIx_l8, gIx_t8, gIx_l9, gIx_t9, gIx_l10, gIx_t10, gIx_l11, gIx_t11, gIx_l12, gIx_t12, gIx_l13, gIx_t13, gIx_l14, gIx_t14, gIx_l15, gIx_t15])
section
variable {P : Program} {w : World} {K : Frag} {mg : Str → Option Value} {base : Heap}
open TV
def rowL (n : Nat) (f : Nat → Nat → Int) : List (List Int) := (List.range n).map fun k => tl k (f k)
theorem rowL_get {n k : Nat} {f : Nat → Nat → Int} (h : k < n) : (rowL n f)[k]? = some (tl k (f k)) := by simp [rowL, h]
theorem rsF_row {n k j : Nat} {f : Nat → Nat → Int} (h : k < n) (hj : j < 2 ^ k) : rsF (rowL n f) k j = f k j := by
  unfold rsF
  rw [getD_some (rowL_get h), tl_fn hj]
theorem rowL_ok {n r : Nat} {f : Nat → Nat → Int} (h : ∀ k j, k < n → j < 2 ^ k → intBits (f k j) ≤ r) : RadOk r (rowL n f) := fun k l e => by
  have hk : k < n := by
    have := (List.getElem?_eq_some_iff.mp e).1
    simpa [rowL] using this
  rw [rowL_get hk] at e
  cases e
  refine ⟨tl_length _ _, fun i hi => ?_⟩
  obtain ⟨j, hj, rfl⟩ := List.mem_map.mp hi
  exact h k j hk (by simpa using hj)
theorem rowL_succ (i : Nat) (f : Nat → Nat → Int) : (rowL (i + 1) f).map (fun l => PyData.list (inD l)) = (rowL i f).map (fun l => .list (inD l)) ++ [.list (inD (tl i (f i)))] := by
  simp only [rowL, List.range_succ, List.map_append, List.map_cons, List.map_nil]
theorem nsP_congr {p : Int} {f g : Nat → Int} (h : ∀ i, f (i + 2) = g (i + 2)) : ∀ (n : Nat) (c : Int), nsP p f n c = nsP p g n c
  | 0, _ => rfl
  | n + 1, c => by simp only [nsP]; rw [nsP_congr h n, nsP_congr h n, h]
structure RowOk (n : Nat) (L : List (List Int)) : Prop where
  len : L.length = n
  ok : RadOk 30 L
  wt : ∀ k, k < n → wf (rad (rsF L) k) ≤ 16777216
  pr : Pr (rsF L) n
def twF (k j : Nat) : Int := if j = 0 then 2 else if 0 < k ∧ j = 2 ^ (k - 1) then 1 else 0
theorem row_tower (n : Nat) : RowOk n (rowL n twF) :=
  ⟨by simp [rowL], rowL_ok fun k j _ _ => by unfold twF; split <;> (try split) <;> decide, rad_tower fun k j hk hj => rsF_row hk hj, pr_tower fun k j hk hj => rsF_row hk hj⟩
def mnL : List Int := [2, 3, 5, 7, -1, 11]
def sqv (k6 k : Nat) : Int := fn [1, 1, 1, 4 + (k : Int), 1009] k6
def coF (num : Nat → Int) (k6 : Nat) (k j : Nat) : Int := if j = 0 then num k * (sqv k6 k * sqv k6 k) else 0
def paF (num : Nat → Int) (b : Int) (k6 : Nat) (k j : Nat) : Int := if k = 0 then num 0 else if k = 1 then (if j = 0 then num 1 else b) else if j = 0 then num k * (sqv k6 k * sqv k6 k) else 0
theorem sqv_bd {k6 k : Nat} (h : k6 < 5) (hk : k < 6) : 0 < sqv k6 k ∧ sqv k6 k ≤ 1009 := by
  unfold sqv
  match k6, h with
  | 0, _ => show 0 < (1 : Int) ∧ (1 : Int) ≤ 1009; decide
  | 1, _ => show 0 < (1 : Int) ∧ (1 : Int) ≤ 1009; decide
  | 2, _ => show 0 < (1 : Int) ∧ (1 : Int) ≤ 1009; decide
  | 3, _ => show 0 < 4 + (k : Int) ∧ 4 + (k : Int) ≤ 1009; omega
  | 4, _ => show 0 < (1009 : Int) ∧ (1009 : Int) ≤ 1009; decide
theorem num_bd {c s : Int} (hc : c.natAbs ≤ 11) (hs : 0 < s ∧ s ≤ 1009) : (c * (s * s)).natAbs ≤ 16777216 := by
  rw [Int.natAbs_mul, Int.natAbs_mul]
  have h1 : s.natAbs * s.natAbs ≤ 1009 * 1009 := Nat.mul_le_mul (by omega) (by omega)
  have h2 : c.natAbs * (s.natAbs * s.natAbs) ≤ 11 * (1009 * 1009) := Nat.mul_le_mul hc h1
  omega
theorem bits_na {c : Int} {m k : Nat} (h : c.natAbs ≤ k) (hk : k < 2 ^ m) : intBits c ≤ m := intBits_le_iff.mpr (by omega)
theorem row_co {n k6 : Nat} {num : Nat → Int} (hn : n ≤ 6) (h6 : k6 < 5) (hb : ∀ k, k < 6 → (num k).natAbs ≤ 11) (hs : ∀ k, k < 6 → nsF num k (num k) = true) : RowOk n (rowL n (coF num k6)) := by
  have bd : ∀ k, k < n → (num k * (sqv k6 k * sqv k6 k)).natAbs ≤ 16777216 := fun k hk => num_bd (hb k (by omega)) (sqv_bd h6 (by omega))
  refine ⟨by simp [rowL], rowL_ok fun k j hk _ => ?_, fun k hk => ?_, pr_const (f := num) (s := sqv k6) (fun k j hk hj => rsF_row hk hj) (fun k hk => ?_) fun k hk => hs k (by omega)⟩
  · unfold coF
    split
    · exact bits_na (bd k hk) (by decide)
    · decide
  · have : rad (rsF (rowL n (coF num k6))) k = wh _ k (num k * (sqv k6 k * sqv k6 k)) := rad_wh fun j hj => rsF_row hk hj
    rw [this, wf_wh]
    exact bd k hk
  · have := sqv_bd h6 (show k < 6 by omega)
    omega
theorem con_co {n k6 : Nat} {num : Nat → Int} : Con (rsF (rowL n (coF num k6))) n := fun k hk => ⟨_, rad_wh fun j hj => rsF_row hk hj⟩
theorem row_pa {n k6 : Nat} {num : Nat → Int} {b : Int} (hn : n ≤ 6) (h6 : k6 < 5) (hb : ∀ k, k < 6 → k ≠ 1 → (num k).natAbs ≤ 11) (ha : (num 1).natAbs ≤ 100) (hbb : b.natAbs ≤ 2) (hp : sqB (num 0) = false) (hab : sqB (num 1 * num 1 - num 0 * (b * b)) = false)
    (hs : ∀ k, k < 4 → nsP (num 0) num k (num (k + 2)) = true) : RowOk n (rowL n (paF num b k6)) := by
  have bd : ∀ k, k < n → 1 < k → (num k * (sqv k6 k * sqv k6 k)).natAbs ≤ 16777216 := fun k hk h1 => num_bd (hb k (by omega) (by omega)) (sqv_bd h6 (by omega))
  have rr : ∀ k j, k < n → j < 2 ^ k → rsF (rowL n (paF num b k6)) k j = if k = 0 then num 0 else if k = 1 then (if j = 0 then num 1 else b) else if j = 0 then num k * (sqv k6 k * sqv k6 k) else 0 := fun k j hk hj => rsF_row hk hj
  refine ⟨by simp [rowL], rowL_ok fun k j hk _ => ?_, fun k hk => ?_, pr_pair (f := num) (s := sqv k6) hp hab rr (fun k hk => ?_) fun k hk => hs k (by omega)⟩
  · unfold paF
    split
    · exact bits_na (hb 0 (by decide) (by decide)) (by decide)
    · split
      · split
        · exact bits_na ha (by decide)
        · exact bits_na hbb (by decide)
      · split
        · exact bits_na (bd k hk (by omega)) (by decide)
        · decide
  · match k, hk with
    | 0, hk =>
      have : rad (rsF (rowL n (paF num b k6))) 0 = wh _ 0 (num 0) := rad_wh fun j hj => by
        have : j = 0 := by simpa using hj
        subst this
        rw [rr 0 0 hk hj]
        rfl
      rw [this, wf_wh]
      exact Nat.le_trans (hb 0 (by decide) (by decide)) (by decide)
    | 1, hk =>
      have : rad (rsF (rowL n (paF num b k6))) 1 = mk (wh _ 0 (num 1)) (wh _ 0 b) := rad_succ _ _ (fun j hj => by
        have : j = 0 := by simpa using hj
        subst this
        rw [rr 1 0 hk (by decide)]
        rfl) fun j hj => by
        have : j = 0 := by simpa using hj
        subst this
        rw [rr 1 _ hk (by decide)]
        rfl
      rw [this, wf_mk, wf_wh, wf_wh]
      omega
    | k + 2, hk =>
      have : rad (rsF (rowL n (paF num b k6))) (k + 2) = wh _ (k + 2) (num (k + 2) * (sqv k6 (k + 2) * sqv k6 (k + 2))) := rad_wh fun j hj => by
        rw [rr (k + 2) j hk hj, if_neg (by omega), if_neg (by omega)]
      rw [this, wf_wh]
      exact bd _ hk (by omega)
  · have := sqv_bd h6 (show k < 6 by omega)
    omega
/-- the numbers of a row -/
def numA (k1 k2 : Nat) : List Int := (List.range 6).map fun k => fn mnL ((k1 + (1 + 4 * (k2 % 2)) * k) % 6)
theorem numA_ok : ∀ k1, k1 < 6 → ∀ k2, k2 < 6 → (numA k1 k2).length = 6 ∧ (∀ k, k < 6 → (fn (numA k1 k2) k).natAbs ≤ 11) ∧ ∀ k, k < 6 → nsF (fn (numA k1 k2)) k (fn (numA k1 k2) k) = true := by decide +kernel
def othC (p : Int) : List Int := mnL.filter (· != p)
def aStep (p b a d : Int) : Int := if sqB (a * a - b * b * p) then a + d else a
def aC (p b a : Int) : Int := aStep p b (aStep p b a (7 * (p.natAbs : Int))) 1
def numR (p : Int) (k2 k3 : Nat) : List Int := [fn (othC p) (k2 % 5), fn (othC p) ((k2 + 1 + k3 % 4) % 5)] ++ (othC p).filter fun i => i != fn (othC p) (k2 % 5) && i != fn (othC p) ((k2 + 1 + k3 % 4) % 5)
theorem aC_ok : ∀ k1, k1 < 6 → ∀ k4 : Nat, k4 < 5 → ∀ k5 : Nat, k5 < 2 → (aC (fn mnL k1) (1 + (k5 : Int)) ((k4 : Int) - 1)).natAbs ≤ 100 ∧ sqB (aC (fn mnL k1) (1 + (k5 : Int)) ((k4 : Int) - 1) * aC (fn mnL k1) (1 + (k5 : Int)) ((k4 : Int) - 1) - fn mnL k1 * ((1 + (k5 : Int)) * (1 + (k5 : Int)))) = false := by decide +kernel
def chR (k1 k2 k3 : Nat) : Bool := decide ((numR (fn mnL k1) k2 k3).length = 5) && (List.range 5).all (fun k => decide ((fn (numR (fn mnL k1) k2 k3) k).natAbs ≤ 11)) && decide ((othC (fn mnL k1)).length = 5) && decide ((fn mnL k1).natAbs ≤ 11) && !sqB (fn mnL k1) &&
  (List.range 4).all fun k => nsP (fn mnL k1) (fun i => fn (numR (fn mnL k1) k2 k3) (i - 2)) k (fn (numR (fn mnL k1) k2 k3) k)
theorem chR_ok : ∀ k1, k1 < 6 → ∀ k2, k2 < 6 → ∀ k3, k3 < 6 → chR k1 k2 k3 = true := by decide +kernel
theorem numR_ok (k1 k2 k3 : Nat) (h1 : k1 < 6) (h2 : k2 < 6) (h3 : k3 < 6) : (numR (fn mnL k1) k2 k3).length = 5 ∧ (∀ k, k < 5 → (fn (numR (fn mnL k1) k2 k3) k).natAbs ≤ 11) ∧ (othC (fn mnL k1)).length = 5 ∧ (fn mnL k1).natAbs ≤ 11 ∧ sqB (fn mnL k1) = false ∧
    ∀ k, k < 4 → nsP (fn mnL k1) (fun i => fn (numR (fn mnL k1) k2 k3) (i - 2)) k (fn (numR (fn mnL k1) k2 k3) k) = true := by
  have h := chR_ok k1 h1 k2 h2 k3 h3
  unfold chR at h
  simp only [Bool.and_eq_true, decide_eq_true_eq, List.all_eq_true, List.mem_range, Bool.not_eq_true'] at h
  obtain ⟨⟨⟨⟨⟨a, b⟩, c⟩, d⟩, e⟩, f⟩ := h
  exact ⟨a, b, c, d, e, f⟩
theorem rowLb {n : Nat} {L : List (List Int)} (h : RowOk n L) (hn : n ≤ 6) : (∀ l ∈ L, l.length ≤ 64) ∧ ∀ l ∈ L, BdL 90 l := by
  refine ⟨fun l hl => ?_, fun l hl => ?_⟩
  · obtain ⟨k, hk, e⟩ := List.getElem_of_mem hl
    have := (h.ok k l (by rw [List.getElem?_eq_getElem hk, e])).1
    rw [this]
    have := h.len
    exact Nat.le_trans (Nat.pow_le_pow_right (by decide) (show k ≤ 6 by omega)) (by decide)
  · obtain ⟨k, hk, e⟩ := List.getElem_of_mem hl
    exact (h.ok k l (by rw [List.getElem?_eq_getElem hk, e])).2.up (by decide)

end
end K13

namespace K13
open PySem PySem.Spec PyProof.Rows L2 DL Builtin.Int
local macro_rules | `(tactic| walk_at "rd") => `(tactic| simp -failIfUnchanged only [sSet, sSetL, sRet, sRetL, sRetO, sRetN, sNext, sBreak, sCont, sDrop, sApp, sAug, sAsg, sPar, sSetI, sPop, sSetPop, sRev, sFrz, frz1, iSeq, iRevD, iRange1, iRange2, iRangeD, rName, rTup, rTL_sq, gMulS_s, gStr1_i, rTL_t, rTL_l, rCons, rNil,
  dLst, dView, tView, lView, view, look, dVar, bVar, dC, d2, d1, l2, tBool, dNil, dCons, dTup, gI, gSubI, gMulI, gFdiv, gMod, gPow, gShl, gShr, gAnd, gXor, gLt, gLe, gGt, gGe, gAdd, gEq, gNe, isNone, gIs, gIsNot, gNeg, lCat, gLen_l, gLen_t, gLen_s, gInt, gAbs, gMax2, gMin2, gTuple_l, gTuple_t, lList_l, lList_t, gGcd, gIsqrt, dCall, lCall, dIsi, dIsi2,
  tAndD, tOrD, tNotD, tTru, truD, dAndV, dOrV, dNotV, dIf, dBits, wipeD, twoD, lComp, oNone, oSome, dSl, lSl, gSl_l, gSl_t, gSl_sq, gSq_l, gSq_t, gSq_sq, gIx_sq, gLen_sq, gTuple_sq, lList_sq, iZipD, gZip_sq, gZip_ts, gZip_st, gZip_ls, gZip_sl, gZip_tt, gZip_ll, gZip_lt, gZip_tl, dFn, lFn, valD, tYesD, eqOk_ii, eqOk_bb, eqOk_ss, eqv_int, eqv_str, eqv_bool, noLst, noLstAll, List.map_cons, List.map_nil, Option.map_some, Option.map_none,
  List.getElem?_cons_zero, List.getElem?_cons_succ, List.set_cons_zero, List.set_cons_succ, true_and, and_true, decide_eq_true_eq, decide_eq_false_iff_not, Bool.not_eq_true', Bool.not_eq_false', beq_iff_eq, beq_eq_false_iff_ne, Bool.true_eq_false, Bool.false_eq_true, false_imp_iff, true_imp_iff, forall_const, reduceCtorEq, ne_eq, not_true_eq_false, not_false_eq_true, Bool.not_true, Bool.not_false, Bool.true_and, Bool.and_true, Bool.false_and, Bool.and_false, Int.reduceToNat, Int.cast_ofNat_Int, eq_self, isTy_none_int, isTy_none_bool, isTy_none_str, isTy_none_list, isTy_none_tuple, isTy_bool_int, isTy_bool_bool, isTy_bool_str, isTy_bool_list, isTy_bool_tuple, isTy_int_int, isTy_int_bool, isTy_int_str, isTy_int_list, isTy_int_tuple, isTy_str_int, isTy_str_bool, isTy_str_str, isTy_str_list, isTy_str_tuple, isTy_list_int, isTy_list_bool, isTy_list_str, isTy_list_list, isTy_list_tuple, isTy_tuple_int, isTy_tuple_bool, isTy_tuple_str, isTy_tuple_list, isTy_tuple_tuple, List.length_cons, List.length_nil, Nat.reduceAdd, Nat.zero_add, ix2_0, ix2_1,
  gIx_l0, gIx_t0, gIx_l1, gIx_t1, gIx_l2, gIx_t2, gIx_l3, gIx_t3, gIx_l4, gIx_t4, gIx_l5, gIx_t5, gIx_l6, gIx_t6, gIx_l7, gIx_t7, gIx_l8, gIx_t8, gIx_l9, gIx_t9, gIx_l10, gIx_t10, gIx_l11, gIx_t11, gIx_l12, gIx_t12, gIx_l13, gIx_t13, gIx_l14, gIx_t14, gIx_l15, gIx_t15])
section
variable {P : Program} {w : World} {K : Frag} {mg : Str → Option Value} {base : Heap}
open TV
theorem hi_toT {L : Nat → Nat → Int} {m : Nat} {x : List Int} : hi (toT L (m + 1) x) = toT L m (x.drop (2 ^ m)) := by rw [toT_succ, hi_mk]
theorem lo_toT {L : Nat → Nat → Int} {m : Nat} {x : List Int} : lo (toT L (m + 1) x) = toT L m (x.take (2 ^ m)) := by rw [toT_succ, lo_mk]
theorem zero_iff {L : Nat → Nat → Int} {m : Nat} {l : List Int} (h : l.length = 2 ^ m) : l.all (· == 0) = true ↔ toT L m l = 0 := by
  refine ⟨toT_zero L m, fun e => ?_⟩
  rw [← ofT_toT (rs := L) l h, e, ofT_zero]
  simp
abbrev s_norm_vector : Stmt := topS 9
theorem sc_norm_vector : FnScope ["radicands", "vector", "half", "low", "high", "square", "turned"] ["radicands", "vector"] (defScope s_norm_vector) := ⟨rfl, rfl, rfl, by decide +kernel, rfl, by decide +kernel, by decide +kernel⟩
def f_norm_vector : FD := fun ds q => ∃ (m : Nat) (R : D) (L : List (List Int)) (t : Bool) (x : List Int) (r a : Nat), ds = [R, sqD t (inD x)] ∧ m ≤ 6 ∧ RadD R L ∧ RadOk r L ∧ m < L.length ∧ x.length = 2 ^ (m + 1) ∧ BdL a x ∧ 2 * a + r + 2 * gro r m ≤ 1000000 ∧
  q (.val (.tuple (inD (ofT (nm (toT (rsF L) (m + 1) x))))))
theorem ok_norm_vector {f fd} {k : Nat} (F : Fun K "norm_vector" "norm_vector" s_norm_vector f fd) (hdg : base.NoDigits) (m_len : mg "len" = none) (r_multiply_vectors : Ready P w K mg base "multiply_vectors" 3 k f_multiply_vectors) (r_top_letter : Ready P w K mg base "top_letter" 1 k f_top_letter) (r_subtract_vectors : Ready P w K mg base "subtract_vectors" 2 k f_subtract_vectors) : FnG P w K mg base (k + 1) f fd ["radicands", "vector"] (SpD K 2 f_norm_vector) := by
  refine fnD F sc_norm_vector fun cdv A outer s H E gA hr => ?_
  have hu := hr.units
  have nd := sc_norm_vector.nd
  refine ⟨_, (ss_cons (st_set (i := 2) nd (de_op o_fdiv (DE.toB (de_B c_len m_len (ab_cons (bv 1) ab_nil))) (DE.toB de_int)))
    (ss_cons (st_par (i := 3) (j := 4) nd (de_sl (bv 1) do_none (do_some (dv 2))) (de_sl (bv 1) (do_some (dv 2)) do_none))
    (ss_cons (st_set (i := 5) nd (r_multiply_vectors.toE gA hr (da_cons (dv 0) (da_cons (dv 4) (da_cons (dv 4) da_nil)))))
    (ss_cons (st_set (i := 6) nd (r_multiply_vectors.toE gA hr (da_cons (dv 0) (da_cons (de_ix x_ix (bv 0) (DE.toB (r_top_letter.toE gA hr (da_cons (dv 2) da_nil)))) (da_cons (dv 5) da_nil)))))
    (ss_one (st_ret (r_subtract_vectors.toE gA hr (da_cons (r_multiply_vectors.toE gA hr (da_cons (dv 0) (da_cons (dv 3) (da_cons (dv 3) da_nil)))) (da_cons (dv 6) da_nil))))))))), ?_⟩
  clear F nd hu hr gA E H s outer A cdv hdg m_len r_multiply_vectors r_top_letter r_subtract_vectors
  intro ds q hl hg
  obtain ⟨m, R, L, t, x, r, a, rfl, hm6, hR, hL, hmL, hx, ba, hsz, hq⟩ := hg
  show sSeq _ _ _ [some (.val R), some (.val (sqD t (inD x))), none, none, none, none, none]
  have e3 := two_pow_succ' m
  have h64 : 2 ^ m ≤ 64 := Nat.pow_le_pow_right (by decide) hm6
  have e2 : ((2 ^ (m + 1) : Nat) : Int).fdiv 2 = ((2 ^ m : Nat) : Int) := by
    rw [Int.fdiv_eq_ediv_of_nonneg _ (by decide), Nat.pow_succ]
    omega
  refine sq_i fun k hk => ?_
  walk_at "rd"
  rw [List.length_map, hx, e2]
  refine ⟨div_small (by decide) (by decide), ?_⟩
  subst hk
  refine sq_i fun k hk => ?_
  walk_at "rd"
  rw [cut_low (by simp; omega), cut_high (by simp; omega), ← List.map_take, ← List.map_drop]
  subst hk
  have lx1 : (x.take (2 ^ m)).length = 2 ^ m := by simp; omega
  have lx2 : (x.drop (2 ^ m)).length = 2 ^ m := by simp; omega
  have hv : L[m]? = some L[m] := List.getElem?_eq_getElem hmL
  generalize L[m] = lv at hv
  obtain ⟨lv1, lv2⟩ := hL m lv hv
  have hrad : toT (rsF L) m lv = rad (rsF L) m := by
    show Tf _ _ (fn lv) = Tf _ _ (fn (L.getD m []))
    rw [getD_some hv]
  have b1 := mulL_bits (n := m) hL (ba.drop (k := 2 ^ m)) (ba.drop (k := 2 ^ m))
  refine sq_i fun k hk => ?_
  walk_at "rd"
  refine ⟨m, R, L, t, t, _, _, r, a, a, rfl, Nat.le_trans hm6 (by decide), by omega, hR, hL, by omega, lx2, lx2, ba.drop, ba.drop, by omega, ?_⟩
  walk_at "rd"
  subst hk
  refine sq_i fun k hk => ?_
  walk_at "rd"
  refine ⟨m, rfl, ?_⟩
  walk_at "rd"
  refine hR.ix rfl hv fun w => ?_
  rw [sqD_t]
  refine ⟨m, R, L, w, true, _, _, r, r, _, rfl, Nat.le_trans hm6 (by decide), by omega, hR, hL, by omega, lv1, mulL_length _ _ _ _, lv2, b1, by omega, ?_⟩
  walk_at "rd"
  subst hk
  walk_at "rd"
  refine ⟨m, R, L, t, t, _, _, r, a, a, rfl, Nat.le_trans hm6 (by decide), by omega, hR, hL, by omega, lx1, lx1, ba.take, ba.take, by omega, ?_⟩
  walk_at "rd"
  rw [sqD_t, sqD_t]
  refine ⟨true, true, _, _, rfl, by rw [mulL_length]; omega, ?_⟩
  have e : ((mulL L m (x.take (2 ^ m)) (x.take (2 ^ m))).zip (mulL L m lv (mulL L m (x.drop (2 ^ m)) (x.drop (2 ^ m))))).map (fun z => z.1 - z.2) = ofT (nm (toT (rsF L) (m + 1) x)) := by
    unfold mulL
    rw [zip_sub, toT_ofT, hrad, toT_succ x, nm_mk]
  rw [e]
  exact hq
abbrev s_inverse_vector : Stmt := topS 11
theorem sc_inverse_vector : FnScope ["radicands", "vector", "size", "half", "low", "high", "other", "number", "first", "second"] ["radicands", "vector"] (defScope s_inverse_vector) := ⟨rfl, rfl, rfl, by decide +kernel, rfl, by decide +kernel, by decide +kernel⟩
def f_inverse_vector_ : Nat → FD
  | 0 => fun _ _ => False
  | n + 1 => fun ds q => ∃ (m : Nat) (R : D) (L : List (List Int)) (t : Bool) (x : List Int) (r M : Nat) (ρ : Nat → Nat), ds = [R, sqD t (inD x)] ∧ m ≤ n ∧ m ≤ 6 ∧ RadD R L ∧ RadOk r L ∧ r ≤ 100 ∧ m ≤ L.length ∧ x.length = 2 ^ m ∧
    WOk (rsF L) ρ m ∧ 1 ≤ M ∧ wr ρ (toT (rsF L) m x) ≤ M ∧ M ^ 2 ^ m < 2 ^ 6000 ∧ q (.val (.tuple [.tuple (inD (ofT (invT (toT (rsF L) m x)).1)), .int (invT (toT (rsF L) m x)).2]))
abbrev f_inverse_vector : FD := f_inverse_vector_ 8
theorem ok_inverse_vector {f fd} {k n : Nat} (F : Fun K "inverse_vector" "inverse_vector" s_inverse_vector f fd) (hdg : base.NoDigits) (m_len : mg "len" = none) (r_is_zero : Ready P w K mg base "is_zero" 1 k f_is_zero) (r_inverse_vector : Ready P w K mg base "inverse_vector" 2 k (f_inverse_vector_ n)) (r_zeros : Ready P w K mg base "zeros" 1 k f_zeros) (r_norm_vector : Ready P w K mg base "norm_vector" 2 k f_norm_vector) (r_multiply_vectors : Ready P w K mg base "multiply_vectors" 3 k f_multiply_vectors) (r_scale_vector : Ready P w K mg base "scale_vector" 2 k f_scale_vector) : FnG P w K mg base (k + 1) f fd ["radicands", "vector"] (SpD K 2 (f_inverse_vector_ (n + 1))) := by
  refine fnD F sc_inverse_vector fun cdv A outer s H E gA hr => ?_
  have hu := hr.units
  have nd := sc_inverse_vector.nd
  refine ⟨_, (ss_cons (st_set (i := 2) nd (de_B c_len m_len (ab_cons (bv 1) ab_nil)))
    (ss_cons (st_if (dt_cmp (o_eq hu) (bv 2) (DE.toB de_int)) (ss_one (st_ret (de_tup (da_cons (de_tup (da_cons de_int da_nil)) (da_cons (de_ix x_ix (bv 1) (DE.toB de_int)) da_nil))))) ss_nil)
    (ss_cons (st_set (i := 3) nd (de_op o_fdiv (bv 2) (DE.toB de_int)))
    (ss_cons (st_par (i := 4) (j := 5) nd (de_sl (bv 1) do_none (do_some (dv 3))) (de_sl (bv 1) (do_some (dv 3)) do_none))
    (ss_cons (st_if (dt_val (r_is_zero.toE gA hr (da_cons (dv 5) da_nil))) (ss_cons (st_asg (r_inverse_vector.toE gA hr (da_cons (dv 0) (da_cons (dv 4) da_nil))) (tg_tup (n := 2) (tg_cons (tg_name (i := 6) nd) (tg_cons (tg_name (i := 7) nd) tg_nil))))
    (ss_one (st_ret (de_tup (da_cons (de_op o_add (bv 6) (DE.toB (r_zeros.toE gA hr (da_cons (dv 3) da_nil)))) (da_cons (dv 7) da_nil)))))) ss_nil)
    (ss_cons (st_asg (r_inverse_vector.toE gA hr (da_cons (dv 0) (da_cons (r_norm_vector.toE gA hr (da_cons (dv 0) (da_cons (dv 1) da_nil))) da_nil))) (tg_tup (n := 2) (tg_cons (tg_name (i := 6) nd) (tg_cons (tg_name (i := 7) nd) tg_nil))))
    (ss_cons (st_set (i := 8) nd (r_multiply_vectors.toE gA hr (da_cons (dv 0) (da_cons (dv 4) (da_cons (dv 6) da_nil)))))
    (ss_cons (st_set (i := 9) nd (r_multiply_vectors.toE gA hr (da_cons (dv 0) (da_cons (dv 5) (da_cons (dv 6) da_nil)))))
    (ss_one (st_ret (de_tup (da_cons (de_op o_add (bv 8) (DE.toB (r_scale_vector.toE gA hr (da_cons (dv 9) (da_cons (de_un u_neg (DE.toB de_int)) da_nil))))) (da_cons (dv 7) da_nil))))))))))))), ?_⟩
  clear F nd hu hr gA E H s outer A cdv hdg m_len r_is_zero r_inverse_vector r_zeros r_norm_vector r_multiply_vectors r_scale_vector
  intro ds q hl hg
  obtain ⟨m, R, L, t, x, r, M, ρ, rfl, hmn, hm6, hR, hL, hr, hmL, hx, hw, hM, hwx, hB, hq⟩ := hg
  show sSeq _ _ _ [some (.val R), some (.val (sqD t (inD x))), none, none, none, none, none, none, none, none]
  have h64 : 2 ^ m ≤ 64 := Nat.pow_le_pow_right (by decide) hm6
  have hp0 := Nat.two_pow_pos m
  have hMB : M < 2 ^ 6000 := Nat.lt_of_le_of_lt (by
    have := Nat.pow_le_pow_right (n := M) hM (show 1 ≤ 2 ^ m by omega)
    rwa [Nat.pow_one] at this) hB
  have bx : BdL 6000 x := by
    have := (wr_bd hw (Nat.lt_of_le_of_lt hwx hMB)).ofT
    rwa [ofT_toT x hx] at this
  refine sq_i fun k hk => ?_
  walk_at "rd"
  rw [List.length_map, hx]
  subst hk
  refine sq_i fun k hk => if_n fun T hT => ?_
  walk_at "rd"
  refine ⟨fun h => ?_, fun h => ?_⟩
  · subst hT
    have hm : m = 0 := by
      cases m with
      | zero => rfl
      | succ m =>
        have := Nat.two_pow_pos m
        rw [Nat.pow_succ] at h
        omega
    subst hm
    walk_at "rd"
    refine ix_ints (j := 0) rfl (by omega) ?_
    have e1 : ofT (invT (toT (rsF L) 0 x)).1 = [1] := rfl
    have e2 : (invT (toT (rsF L) 0 x)).2 = fn x 0 := rfl
    rw [e1, e2] at hq
    exact hq
  subst hk
  clear hT T
  obtain ⟨m, rfl⟩ : ∃ i, m = i + 1 := by
    cases m with
    | zero => exact absurd rfl h
    | succ m => exact ⟨m, rfl⟩
  obtain ⟨n, rfl⟩ : ∃ i, n = i + 1 := ⟨n - 1, by omega⟩
  have e3 := two_pow_succ' m
  have e2 : ((2 ^ (m + 1) : Nat) : Int).fdiv 2 = ((2 ^ m : Nat) : Int) := by
    rw [Int.fdiv_eq_ediv_of_nonneg _ (by decide), Nat.pow_succ]
    omega
  have hw' : WOk (rsF L) ρ m := hw.low (by omega)
  have gro5 : gro r m ≤ 4000 := by
    have h1 : ∀ m, m ≤ 5 → gro r m ≤ gro 100 m := by
      intro m hm
      induction m with
      | zero => exact Nat.le_refl _
      | succ m ih =>
        have := ih (by omega)
        show 2 * gro r m + r + 1 ≤ 2 * gro 100 m + 100 + 1
        omega
    have h2 : ∀ m, m ≤ 5 → gro 100 m ≤ 4000 := by decide
    exact Nat.le_trans (h1 m (by omega)) (h2 m (by omega))
  refine sq_i fun k hk => ?_
  walk_at "rd"
  rw [e2]
  refine ⟨div_small (by decide) (by decide), ?_⟩
  subst hk
  refine sq_i fun k hk => ?_
  walk_at "rd"
  rw [cut_low (by simp; omega), cut_high (by simp; omega), ← List.map_take, ← List.map_drop]
  subst hk
  have lx1 : (x.take (2 ^ m)).length = 2 ^ m := by simp; omega
  have lx2 : (x.drop (2 ^ m)).length = 2 ^ m := by simp; omega
  refine sq_i fun k hk => if_n fun T hT => ?_
  walk_at "rd"
  refine ⟨t, _, rfl, ?_⟩
  walk_at "rd"
  refine ⟨fun hz => ?_, fun hz => ?_⟩
  · subst hT
    have hz' : hi (toT (rsF L) (m + 1) x) = 0 := by rw [hi_toT]; exact (zero_iff lx2).mp (by simpa using hz)
    rw [invT_flat hz', lo_toT] at hq
    have hwl : wr ρ (toT (rsF L) m (x.take (2 ^ m))) ≤ M := by
      rw [← lo_toT]
      exact Nat.le_trans (wr_lo _) hwx
    have hBl : M ^ 2 ^ m < 2 ^ 6000 := Nat.lt_of_le_of_lt (Nat.pow_le_pow_right hM (Nat.pow_le_pow_right (by decide) (by omega))) hB
    refine sq_i fun k hk => ?_
    walk_at "rd"
    refine ⟨m, R, L, t, _, r, M, ρ, rfl, by omega, by omega, hR, hL, hr, by omega, lx1, hw', hM, hwl, hBl, ?_⟩
    walk_at "rd"
    subst hk
    walk_at "rd"
    refine ⟨2 ^ m, rfl, by omega, ?_⟩
    walk_at "rd"
    refine ⟨fit_len (by simp [ofT_length]; omega), ?_⟩
    have e5 : ofT (mk (invT (toT (rsF L) m (x.take (2 ^ m)))).1 0) = ofT (invT (toT (rsF L) m (x.take (2 ^ m)))).1 ++ List.replicate (2 ^ m) 0 := by rw [ofT_mk, ofT_zero]
    rw [e5] at hq
    unfold inD at hq
    rw [List.map_append] at hq
    exact hq
  · subst hk
    clear hT T
    have hz' : hi (toT (rsF L) (m + 1) x) ≠ 0 := by
      rw [hi_toT]
      intro c
      have := (zero_iff lx2).mpr c
      rw [this] at hz
      cases hz
    rw [invT_steep hz', lo_toT, hi_toT] at hq
    have hwn : wr ρ (nm (toT (rsF L) (m + 1) x)) ≤ M * M := Nat.le_trans (nm_wr hw _) (Nat.mul_le_mul hwx hwx)
    have hBn : (M * M) ^ 2 ^ m < 2 ^ 6000 := by rw [pow_sq, ← Nat.pow_succ']; exact hB
    have iw := inv_wr hw' (M := M * M) (x := nm (toT (rsF L) (m + 1) x)) (Nat.mul_pos hM hM) hwn
    have bo : BdL 6000 (ofT (invT (nm (toT (rsF L) (m + 1) x))).1) := by
      refine (wr_bd hw' ?_).ofT
      refine Nat.lt_of_le_of_lt (Nat.le_trans ?_ iw.1) hBn
      exact Nat.le_mul_of_pos_right _ (Nat.mul_pos hM hM)
    refine sq_i fun k hk => ?_
    walk_at "rd"
    refine ⟨m, R, L, t, x, r, 6000, rfl, by omega, hR, hL, by omega, hx, bx, by omega, ?_⟩
    walk_at "rd"
    rw [sqD_t]
    refine ⟨m, R, L, true, _, r, M * M, ρ, rfl, by omega, by omega, hR, hL, hr, by omega, ofT_length _, hw', Nat.mul_pos hM hM, by rw [toT_ofT]; exact hwn, hBn, ?_⟩
    rw [toT_ofT]
    walk_at "rd"
    subst hk
    generalize invT (nm (toT (rsF L) (m + 1) x)) = res at bo hq ⊢
    refine sq_i fun k hk => ?_
    walk_at "rd"
    try rw [sqD_t]
    refine ⟨m, R, L, t, true, _, _, r, 6000, 6000, rfl, Nat.le_trans (show m ≤ 5 by omega) (by decide), by omega, hR, hL, by omega, lx1, ofT_length _, bx.take, bo, by omega, ?_⟩
    walk_at "rd"
    subst hk
    refine sq_i fun k hk => ?_
    walk_at "rd"
    try rw [sqD_t]
    refine ⟨m, R, L, t, true, _, _, r, 6000, 6000, rfl, Nat.le_trans (show m ≤ 5 by omega) (by decide), by omega, hR, hL, by omega, lx2, ofT_length _, bx.drop, bo, by omega, ?_⟩
    walk_at "rd"
    subst hk
    walk_at "rd"
    try rw [sqD_t]
    have bs := mulL_bits (n := m) hL (bx.drop (k := 2 ^ m)) bo
    refine ⟨true, _, -1, rfl, by rw [mulL_length]; omega, fun i hi => MulOk.of_le (bs i hi) (show intBits (-1) ≤ 1 by decide) (by omega), ?_⟩
    walk_at "rd"
    refine ⟨fit_len (by simp [mulL_length]; omega), ?_⟩
    have e5 : ofT (mk (toT (rsF L) m (x.take (2 ^ m)) * res.1) (-(toT (rsF L) m (x.drop (2 ^ m)) * res.1))) = mulL L m (x.take (2 ^ m)) (ofT res.1) ++ (mulL L m (x.drop (2 ^ m)) (ofT res.1)).map fun z => z * -1 := by
      rw [ofT_mk]
      unfold mulL
      rw [toT_ofT]
      congr 1
      unfold ofT
      rw [List.map_map]
      refine List.map_congr_left fun j _ => ?_
      show cf (-_) j = cf _ j * -1
      rw [cf_neg]
      omega
    rw [e5] at hq
    unfold inD at hq ⊢
    rw [List.map_append] at hq
    exact hq

end
end K13

namespace K13
open PySem PySem.Spec PyProof.Rows L2 DL Builtin.Int
local macro_rules | `(tactic| walk_at "rd") => `(tactic| simp -failIfUnchanged only [sSet, sSetL, sRet, sRetL, sRetO, sRetN, sNext, sBreak, sCont, sDrop, sApp, sAug, sAsg, sPar, sSetI, sPop, sSetPop, sRev, sFrz, frz1, iSeq, iRevD, iRange1, iRange2, iRangeD, rName, rTup, rTL_sq, gMulS_s, gStr1_i, rTL_t, rTL_l, rCons, rNil,
  dLst, dView, tView, lView, view, look, dVar, bVar, dC, d2, d1, l2, tBool, dNil, dCons, dTup, gI, gSubI, gMulI, gFdiv, gMod, gPow, gShl, gShr, gAnd, gXor, gLt, gLe, gGt, gGe, gAdd, gEq, gNe, isNone, gIs, gIsNot, gNeg, lCat, gLen_l, gLen_t, gLen_s, gInt, gAbs, gMax2, gMin2, gTuple_l, gTuple_t, lList_l, lList_t, gGcd, gIsqrt, dCall, lCall, dIsi, dIsi2,
  tAndD, tOrD, tNotD, tTru, truD, dAndV, dOrV, dNotV, dIf, dBits, wipeD, twoD, lComp, oNone, oSome, dSl, lSl, gSl_l, gSl_t, gSl_sq, gSq_l, gSq_t, gSq_sq, gIx_sq, gLen_sq, gTuple_sq, lList_sq, iZipD, gZip_sq, gZip_ts, gZip_st, gZip_ls, gZip_sl, gZip_tt, gZip_ll, gZip_lt, gZip_tl, dFn, lFn, valD, tYesD, eqOk_ii, eqOk_bb, eqOk_ss, eqv_int, eqv_str, eqv_bool, noLst, noLstAll, List.map_cons, List.map_nil, Option.map_some, Option.map_none,
  List.getElem?_cons_zero, List.getElem?_cons_succ, List.set_cons_zero, List.set_cons_succ, true_and, and_true, decide_eq_true_eq, decide_eq_false_iff_not, Bool.not_eq_true', Bool.not_eq_false', beq_iff_eq, beq_eq_false_iff_ne, Bool.true_eq_false, Bool.false_eq_true, false_imp_iff, true_imp_iff, forall_const, reduceCtorEq, ne_eq, not_true_eq_false, not_false_eq_true, Bool.not_true, Bool.not_false, Bool.true_and, Bool.and_true, Bool.false_and, Bool.and_false, Int.reduceToNat, Int.cast_ofNat_Int, eq_self, isTy_none_int, isTy_none_bool, isTy_none_str, isTy_none_list, isTy_none_tuple, isTy_bool_int, isTy_bool_bool, isTy_bool_str, isTy_bool_list, isTy_bool_tuple, isTy_int_int, isTy_int_bool, isTy_int_str, isTy_int_list, isTy_int_tuple, isTy_str_int, isTy_str_bool, isTy_str_str, isTy_str_list, isTy_str_tuple, isTy_list_int, isTy_list_bool, isTy_list_str, isTy_list_list, isTy_list_tuple, isTy_tuple_int, isTy_tuple_bool, isTy_tuple_str, isTy_tuple_list, isTy_tuple_tuple, List.length_cons, List.length_nil, Nat.reduceAdd, Nat.zero_add, ix2_0, ix2_1,
  gIx_l0, gIx_t0, gIx_l1, gIx_t1, gIx_l2, gIx_t2, gIx_l3, gIx_t3, gIx_l4, gIx_t4, gIx_l5, gIx_t5, gIx_l6, gIx_t6, gIx_l7, gIx_t7, gIx_l8, gIx_t8, gIx_l9, gIx_t9, gIx_l10, gIx_t10, gIx_l11, gIx_t11, gIx_l12, gIx_t12, gIx_l13, gIx_t13, gIx_l14, gIx_t14, gIx_l15, gIx_t15])
section
variable {P : Program} {w : World} {K : Frag} {mg : Str → Option Value} {base : Heap}
open TV
/-- l / b in lowest terms is l' / u -/
def IsElL (l' : List Int) (u : Int) (l : List Int) (b : Int) : Prop := 1 ≤ u ∧ l'.length = l.length ∧ (∀ i, fn l' i * b = fn l i * u) ∧ ∀ d : Nat, d ∣ u.natAbs → (∀ i, d ∣ (fn l' i).natAbs) → d = 1
abbrev elD (l : List Int) (u : Int) : D := .tuple [.tuple (inD l), .int u]
theorem IsElL.congr {l' l l2 : List Int} {u b b2 : Int} (h : IsElL l' u l b) (hl : l.length = l2.length) (e : ∀ i, fn l i * b2 = fn l2 i * b) (hb : b ≠ 0) : IsElL l' u l2 b2 := by
  obtain ⟨h1, h2, h3, h4⟩ := h
  refine ⟨h1, h2.trans hl, fun i => ?_, h4⟩
  have a := h3 i
  have c := e i
  have : b * (fn l' i * b2) = b * (fn l2 i * u) := by grind
  exact Int.eq_of_mul_eq_mul_left hb this
theorem IsElL.dvd {l' l : List Int} {u b : Int} (h : IsElL l' u l b) : u ∣ b := by
  obtain ⟨h1, h2, h3, h4⟩ := h
  have hu : 0 < u.natAbs := by omega
  obtain ⟨g, u', b', hg, hcop, e1, e2⟩ := Nat.exists_coprime' (m := u.natAbs) (n := b.natAbs) (Nat.gcd_pos_of_pos_left _ hu)
  have hu' : u' = 1 := h4 u' ⟨g, e1⟩ fun i => by
    have a := congrArg Int.natAbs (h3 i)
    rw [Int.natAbs_mul, Int.natAbs_mul, e1, e2] at a
    have : (fn l' i).natAbs * b' = (fn l i).natAbs * u' := by
      have : g * ((fn l' i).natAbs * b') = g * ((fn l i).natAbs * u') := by grind
      exact Nat.eq_of_mul_eq_mul_left hg this
    exact hcop.dvd_of_dvd_mul_right ⟨(fn l i).natAbs, by rw [this, Nat.mul_comm]⟩
  subst hu'
  exact Int.natAbs_dvd_natAbs.mp ⟨b', by rw [e2, e1]; grind⟩
theorem fn_ext {l m : List Int} (hl : l.length = m.length) (h : ∀ i, fn l i = fn m i) : l = m := by
  refine List.ext_getElem hl fun i h1 h2 => ?_
  have := h i
  simpa [fn, h1, h2] using this
theorem IsElL.uniq {l' l'' l : List Int} {u u' b : Int} (h : IsElL l' u l b) (g : IsElL l'' u' l b) (hb : b ≠ 0) : l' = l'' ∧ u = u' := by
  have c : IsElL l' u l'' u' := h.congr g.2.1.symm (fun i => (g.2.2.1 i).symm) hb
  have c2 : IsElL l'' u' l' u := g.congr h.2.1.symm (fun i => (h.2.2.1 i).symm) hb
  have d1 := c.dvd
  have d2 := c2.dvd
  have p1 := h.1
  have p2 := g.1
  have e1 := Int.le_of_dvd (by omega) d1
  have e2 := Int.le_of_dvd (by omega) d2
  have eu : u = u' := by omega
  subst eu
  refine ⟨fn_ext (h.2.1.trans g.2.1.symm) fun i => ?_, rfl⟩
  have := c.2.2.1 i
  exact Int.eq_of_mul_eq_mul_right (by omega) this
theorem IsElL.le {l' l : List Int} {u b : Int} (h : IsElL l' u l b) (hb : b ≠ 0) : (∀ i, (fn l' i).natAbs ≤ (fn l i).natAbs) ∧ u.natAbs ≤ b.natAbs := by
  obtain ⟨c, hc⟩ := h.dvd
  have hu := h.1
  have hc0 : c ≠ 0 := fun e => hb (by rw [hc, e, Int.mul_zero])
  refine ⟨fun i => ?_, ?_⟩
  · have a := h.2.2.1 i
    have : u * (fn l' i * c) = u * fn l i := by grind
    have := Int.eq_of_mul_eq_mul_left (by omega) this
    rw [← this, Int.natAbs_mul]
    exact Nat.le_mul_of_pos_right _ (by omega)
  · rw [hc, Int.natAbs_mul]
    exact Nat.le_mul_of_pos_right _ (by omega)
theorem IsElL.bits {l' l : List Int} {u b : Int} {m : Nat} (h : IsElL l' u l b) (hb : b ≠ 0) (hl : BdL m l) : BdL m l' := fun i hi => by
  obtain ⟨k, hk, e⟩ := List.getElem_of_mem hi
  have e2 : fn l' k = i := by simp [fn, hk, e]
  have := (h.le hb).1 k
  rw [e2] at this
  exact intBits_le_iff.mpr (Nat.lt_of_le_of_lt this (intBits_le_iff.mp (hl.fn k)))
theorem IsElL.self {l : List Int} {u : Int} (h1 : 1 ≤ u) (h : ∀ d : Nat, d ∣ u.natAbs → (∀ i, d ∣ (fn l i).natAbs) → d = 1) : IsElL l u l u := ⟨h1, rfl, fun _ => rfl, h⟩
theorem IsElL.norm {l' l : List Int} {u b : Int} (h : IsElL l' u l b) : IsElL l' u l' u := ⟨h.1, rfl, fun _ => rfl, h.2.2.2⟩
/-- the greatest common divisor of a number and a row -/
def gcR : Nat → List Int → Nat
  | d, [] => d
  | d, n :: r => gcR (Nat.gcd d n.natAbs) r
theorem gcR_dvd : ∀ (l : List Int) (d : Nat), gcR d l ∣ d ∧ ∀ i ∈ l, gcR d l ∣ i.natAbs
  | [], d => ⟨Nat.dvd_refl d, fun i hi => by cases hi⟩
  | n :: r, d => by
    obtain ⟨h1, h2⟩ := gcR_dvd r (Nat.gcd d n.natAbs)
    refine ⟨Nat.dvd_trans h1 (Nat.gcd_dvd_left _ _), fun i hi => ?_⟩
    rcases List.mem_cons.mp hi with rfl | hi
    · exact Nat.dvd_trans h1 (Nat.gcd_dvd_right _ _)
    · exact h2 i hi
theorem dvd_gcR : ∀ (l : List Int) (d e : Nat), e ∣ d → (∀ i ∈ l, e ∣ i.natAbs) → e ∣ gcR d l
  | [], d, e, h, _ => h
  | n :: r, d, e, h, g => dvd_gcR r _ e (Nat.dvd_gcd h (g n List.mem_cons_self)) fun i hi => g i (List.mem_cons_of_mem _ hi)
theorem fn_mem {l : List Int} {i : Nat} : fn l i = 0 ∨ fn l i ∈ l := by
  unfold fn
  rw [List.getD_eq_getElem?_getD]
  cases e : l[i]? with
  | none => exact .inl rfl
  | some x => exact .inr (List.mem_of_getElem? e)
theorem el_ok {l : List Int} {b g : Int} (hb : b ≠ 0) (h1 : g.natAbs = gcR b.natAbs l) (h2 : 0 < b ↔ 0 < g) : IsElL (l.map fun x => x.fdiv g) (b.fdiv g) l b := by
  obtain ⟨d1, d2⟩ := gcR_dvd l b.natAbs
  rw [← h1] at d1 d2
  have hg : g ≠ 0 := fun e => by
    rw [e] at d1
    have := Nat.eq_zero_of_zero_dvd d1
    omega
  obtain ⟨b', hb'⟩ := Int.natAbs_dvd_natAbs.mp d1
  have e1 : b.fdiv g = b' := by rw [hb']; exact Int.mul_fdiv_cancel_left _ hg
  have hdx : ∀ i, g ∣ fn l i := fun i => by
    rcases fn_mem (l := l) (i := i) with h | h
    · rw [h]; exact ⟨0, by simp⟩
    · exact Int.natAbs_dvd_natAbs.mp (d2 _ h)
  have e2 : ∀ i, fn (l.map fun x => x.fdiv g) i * g = fn l i := fun i => by
    have : fn (l.map fun x => x.fdiv g) i = (fn l i).fdiv g := by
      simp only [fn, List.getD_eq_getElem?_getD, List.getElem?_map]
      cases l[i]? with
      | none => simp
      | some x => rfl
    rw [this]
    exact Int.fdiv_mul_cancel (hdx i)
  rw [e1]
  have hb0 : 0 < b' := by
    rcases Int.lt_or_gt_of_ne hb with c | c
    · have : g < 0 := by omega
      refine Int.not_le.mp fun q => ?_
      have := Int.mul_nonneg_of_nonpos_of_nonpos (Int.le_of_lt this) q
      omega
    · have : 0 < g := h2.mp c
      refine Int.not_le.mp fun q => ?_
      have := Int.mul_nonpos_of_nonneg_of_nonpos (Int.le_of_lt this) q
      omega
  refine ⟨by omega, by simp, fun i => ?_, fun d h3 h4 => ?_⟩
  · rw [← e2 i, hb']
    grind
  · have hd : d * g.natAbs ∣ gcR b.natAbs l := by
      refine dvd_gcR _ _ _ ?_ fun i hi => ?_
      · rw [hb', Int.natAbs_mul, Nat.mul_comm d]
        exact Nat.mul_dvd_mul_left _ h3
      · obtain ⟨k, hk, e⟩ := List.getElem_of_mem hi
        have e3 : fn l k = i := by simp [fn, hk, e]
        rw [← e3, ← e2 k, Int.natAbs_mul]
        exact Nat.mul_dvd_mul_right (h4 k) _
    rw [← h1] at hd
    have hg0 : 0 < g.natAbs := by omega
    have := Nat.le_of_dvd hg0 hd
    refine Nat.le_antisymm (Nat.le_of_mul_le_mul_right (by omega) hg0) (Nat.pos_of_ne_zero fun c => ?_)
    subst c
    rw [Nat.zero_mul] at hd
    have := Nat.eq_zero_of_zero_dvd hd
    omega
theorem gcR_le {l : List Int} {d : Nat} (h : 0 < d) : gcR d l ≤ d ∧ 0 < gcR d l := ⟨Nat.le_of_dvd h (gcR_dvd l d).1, Nat.pos_of_dvd_of_pos (gcR_dvd l d).1 h⟩
abbrev s__law_element : Stmt := topS 38
theorem sc__law_element : FnScope ["tops", "bottom", "divisor", "top"] ["tops", "bottom"] (defScope s__law_element) := ⟨rfl, rfl, rfl, by decide +kernel, rfl, by decide +kernel, by decide +kernel⟩
def f__law_element : FD := fun ds q => ∃ (t : Bool) (l : List Int) (b : Int), ds = [sqD t (inD l), .int b] ∧ b ≠ 0 ∧ intBits b ≤ 8000 ∧ l.length ≤ 1000 ∧ ∀ l' u, IsElL l' u l b → q (.val (elD l' u))
theorem ok__law_element {f fd} {k : Nat} (F : Fun K "_law_element" "_law_element" s__law_element f fd) (hdg : base.NoDigits) (m_abs : mg "abs" = none) (m_tuple : mg "tuple" = none) (r__law_gcd : Ready P w K mg base "_law_gcd" 2 k f__law_gcd) : FnG P w K mg base (k + 1) f fd ["tops", "bottom"] (SpD K 2 f__law_element) := by
  refine fnD F sc__law_element fun cdv A outer s H E gA hr => ?_
  have hu := hr.units
  have nd := sc__law_element.nd
  refine ⟨_, (ss_cons (st_set (i := 2) nd (de_B c_abs m_abs (ab_cons (bv 1) ab_nil)))
    (ss_cons (st_for (i_seq (dv 0)) (tg_name (i := 3) nd) (ss_one (st_set (i := 2) nd (r__law_gcd.toE gA hr (da_cons (dv 2) (da_cons (dv 3) da_nil))))))
    (ss_cons (st_if (dt_cmp o_lt (bv 1) (DE.toB de_int)) (ss_one (st_set (i := 2) nd (de_un u_neg (bv 2)))) ss_nil)
    (ss_one (st_ret (de_tup (da_cons (de_T c_tuple m_tuple (ab_cons (DE.toB (DLs.toE (dl_lc (own := [("top", 3)]) nd (i_seqC (bv 0)) (gw_name (i := 3) nd) dts_nil (fun _ _ _ _ _ => (de_op o_fdiv (bv 3) (bv 2)))))) ab_nil)) (da_cons (de_op o_fdiv (bv 1) (bv 2)) da_nil)))))))), ?_⟩
  clear F nd hu hr gA E H s outer A cdv hdg m_abs m_tuple r__law_gcd
  intro ds q hl hg
  obtain ⟨t, l, b, rfl, hb, bb, hlen, hq⟩ := hg
  show sSeq _ _ _ [some (.val (sqD t (inD l))), some (.val (.int b)), none, none]
  refine sq_i fun k hk => ?_
  walk_at "rd"
  have ab : (if b < 0 then -b else b) = (b.natAbs : Int) := by omega
  try rw [ab]
  subst hk
  refine sq_i fun k hk => for_in fun W hW => ?_
  walk_at "rd"
  subst hW
  refine for_map (fun r ρ => ∃ (d : Nat) (y : Option DV), ρ = [some (.val (sqD t (inD l))), some (.val (.int b)), some (.val (.int d)), y] ∧ gcR d r = gcR b.natAbs l) l ⟨b.natAbs, none, rfl, rfl⟩ ?_ ?_
  rotate_left
  · rintro a r _ ⟨d, y, rfl, e⟩ k1 hk1
    walk_at "rd"
    refine ⟨_, _, rfl, ?_⟩
    walk_at "rd"
    exact hk1 _ ⟨_, _, rfl, by rw [← e]; rfl⟩
  rintro _ ⟨d, y, rfl, e⟩
  have e : d = gcR b.natAbs l := e
  obtain ⟨g1, g2⟩ := gcR_le (l := l) (d := b.natAbs) (by omega)
  rw [← e] at g1 g2
  have hbl := intBits_le_iff.mp bb
  subst hk
  have fin : ∀ g : Int, g.natAbs = d → (0 < b ↔ 0 < g) → (∀ x, CDivZ x g) ∧ q (.val (elD (l.map fun x => x.fdiv g) (b.fdiv g))) := by
    intro g h1 h2
    have hl : g.natAbs.log2 < 9000 := Nat.lt_trans (log2_lt_of (k := 8000) (by omega) (by decide)) (by decide)
    exact ⟨fun x => ⟨by omega, PyProof.noPylong_of_log2 hl⟩, hq _ _ (el_ok hb (by rw [h1, e]) h2)⟩
  have last : ∀ g : Int, g.natAbs = d → (0 < b ↔ 0 < g) → ∀ y : Option DV, sRet (dTup (dCons (dCall gTuple (dCons (dLst (lComp (iSeq (bVar 0)) (rName 3) tYesD (d2 gFdiv (bVar 3) (bVar 2)) [3])) dNil)) (dCons (d2 gFdiv (bVar 1) (bVar 2)) dNil))) { nx := fun _ => q (.val .none), rt := q } [some (.val (sqD t (inD l))), some (.val (.int b)), some (.val (.int g)), y] := by
    intro g h1 h2 y
    obtain ⟨c1, c2⟩ := fin g h1 h2
    walk_at "rd"
    refine ⟨fit_len (by rw [List.length_map]; omega), lc_ints (fun x : Int => x.fdiv g) _ ?_ fun a ha q Z hq => by walk_at "rd"; exact ⟨c1 a, hq⟩⟩
    walk_at "rd"
    exact ⟨c1 b, c2⟩
  refine sj_i 2 (fun dd => ∃ g : Int, dd = .int g ∧ g.natAbs = d ∧ (0 < b ↔ 0 < g)) ?_ fun k hk => if_n fun T hT => ?_
  · rintro _ ⟨g, rfl, h1, h2⟩
    exact last g h1 h2 _
  · walk_at "rd"
    refine ⟨fun h => ?_, fun h => hk _ ⟨d, rfl, by omega, by omega⟩⟩
    subst hT
    walk_at "rd"
    exact hk _ ⟨-(d : Int), rfl, by omega, by omega⟩
abbrev s__law_mul : Stmt := topS 40
theorem sc__law_mul : FnScope ["radicands", "one", "two"] ["radicands", "one", "two"] (defScope s__law_mul) := ⟨rfl, rfl, rfl, by decide +kernel, rfl, by decide +kernel, by decide +kernel⟩
def f__law_mul : FD := fun ds q => ∃ (m : Nat) (R : D) (L : List (List Int)) (x y : List Int) (b c : Int) (r p1 p2 : Nat), ds = [R, elD x b, elD y c] ∧ m ≤ 6 ∧ RadD R L ∧ RadOk r L ∧ m ≤ L.length ∧ x.length = 2 ^ m ∧ y.length = 2 ^ m ∧ BdL p1 x ∧ BdL p2 y ∧ p1 + p2 + 1 + gro r m + m * gG r m ≤ 1000000 ∧ b ≠ 0 ∧ c ≠ 0 ∧ (∃ c1 c2, intBits b ≤ c1 ∧ intBits c ≤ c2 ∧ c1 + c2 ≤ 8000) ∧
  ∀ l' u, IsElL l' u (ofT (toT (rsF L) m x * toT (rsF L) m y)) (b * c) → q (.val (elD l' u))
theorem ok__law_mul {f fd} {k : Nat} (F : Fun K "_law_mul" "_law_mul" s__law_mul f fd) (hdg : base.NoDigits) (m_list : mg "list" = none) (r__law_element : Ready P w K mg base "_law_element" 2 k f__law_element) (r__law_times_vector : Ready P w K mg base "_law_times_vector" 3 k f__law_times_vector) : FnG P w K mg base (k + 1) f fd ["radicands", "one", "two"] (SpD K 3 f__law_mul) := by
  refine fnD F sc__law_mul fun cdv A outer s H E gA hr => ?_
  have hu := hr.units
  have nd := sc__law_mul.nd
  refine ⟨_, (ss_one (st_ret (r__law_element.toE gA hr (da_cons (r__law_times_vector.toE gA hr (da_cons (dv 0) (da_cons (DLs.toE (dl_T c_list m_list (ab_cons (DE.toB (de_ix x_ix (bv 1) (DE.toB de_int))) ab_nil))) (da_cons (DLs.toE (dl_T c_list m_list (ab_cons (DE.toB (de_ix x_ix (bv 2) (DE.toB de_int))) ab_nil))) da_nil)))) (da_cons (de_op o_mul (DE.toB (de_ix x_ix (bv 1) (DE.toB de_int))) (DE.toB (de_ix x_ix (bv 2) (DE.toB de_int)))) da_nil))))), ?_⟩
  clear F nd hu hr gA E H s outer A cdv hdg m_list r__law_element r__law_times_vector
  intro ds q hl hg
  obtain ⟨m, R, L, x, y, b, c, r, p1, p2, rfl, hm6, hR, hL, hmL, hx, hy, bx, by', hsz, hb, hc, ⟨c1, c2, bb, bc, hcc⟩, hq⟩ := hg
  have h64 : 2 ^ m ≤ 64 := Nat.pow_le_pow_right (by decide) hm6
  show sRet _ _ [some (.val R), some (.val (elD x b)), some (.val (elD y c))]
  walk_at "rd"
  rw [sqD_l, sqD_l]
  refine ⟨m, R, L, false, false, x, y, m, r, p1, p2, rfl, Nat.le_refl _, by omega, Nat.le_trans (Nat.mul_le_mul_left 2 hm6) (by decide), hR, hL, hmL, hx, hy, bx, by', hsz, ?_⟩
  walk_at "rd"
  try rw [sqD_l]
  refine ⟨MulOk.of_le bb bc (by omega), false, _, _, rfl, Int.mul_ne_zero hb hc, Nat.le_trans (intBits_mul_le bb bc) (by omega), by rw [ofT_length]; omega, fun l' u h => ?_⟩
  walk_at "rd"
  exact hq l' u h
end
end K13

namespace K13
open PySem PySem.Spec PyProof.Rows L2 DL Builtin.Int
local macro_rules | `(tactic| walk_at "rd") => `(tactic| simp -failIfUnchanged only [sSet, sSetL, sRet, sRetL, sRetO, sRetN, sNext, sBreak, sCont, sDrop, sApp, sAug, sAsg, sPar, sSetI, sPop, sSetPop, sRev, sFrz, frz1, iSeq, iRevD, iRange1, iRange2, iRangeD, rName, rTup, rTL_sq, gMulS_s, gStr1_i, rTL_t, rTL_l, rCons, rNil,
  dLst, dView, tView, lView, view, look, dVar, bVar, dC, d2, d1, l2, tBool, dNil, dCons, dTup, gI, gSubI, gMulI, gFdiv, gMod, gPow, gShl, gShr, gAnd, gXor, gLt, gLe, gGt, gGe, gAdd, gEq, gNe, isNone, gIs, gIsNot, gNeg, lCat, gLen_l, gLen_t, gLen_s, gInt, gAbs, gMax2, gMin2, gTuple_l, gTuple_t, lList_l, lList_t, gGcd, gIsqrt, dCall, lCall, dIsi, dIsi2,
  tAndD, tOrD, tNotD, tTru, truD, dAndV, dOrV, dNotV, dIf, dBits, wipeD, twoD, lComp, oNone, oSome, dSl, lSl, gSl_l, gSl_t, gSl_sq, gSq_l, gSq_t, gSq_sq, gIx_sq, gLen_sq, gTuple_sq, lList_sq, iZipD, gZip_sq, gZip_ts, gZip_st, gZip_ls, gZip_sl, gZip_tt, gZip_ll, gZip_lt, gZip_tl, dFn, lFn, valD, tYesD, eqOk_ii, eqOk_bb, eqOk_ss, eqv_int, eqv_str, eqv_bool, noLst, noLstAll, List.map_cons, List.map_nil, Option.map_some, Option.map_none,
  List.getElem?_cons_zero, List.getElem?_cons_succ, List.set_cons_zero, List.set_cons_succ, true_and, and_true, decide_eq_true_eq, decide_eq_false_iff_not, Bool.not_eq_true', Bool.not_eq_false', beq_iff_eq, beq_eq_false_iff_ne, Bool.true_eq_false, Bool.false_eq_true, false_imp_iff, true_imp_iff, forall_const, reduceCtorEq, ne_eq, not_true_eq_false, not_false_eq_true, Bool.not_true, Bool.not_false, Bool.true_and, Bool.and_true, Bool.false_and, Bool.and_false, Int.reduceToNat, Int.cast_ofNat_Int, eq_self, isTy_none_int, isTy_none_bool, isTy_none_str, isTy_none_list, isTy_none_tuple, isTy_bool_int, isTy_bool_bool, isTy_bool_str, isTy_bool_list, isTy_bool_tuple, isTy_int_int, isTy_int_bool, isTy_int_str, isTy_int_list, isTy_int_tuple, isTy_str_int, isTy_str_bool, isTy_str_str, isTy_str_list, isTy_str_tuple, isTy_list_int, isTy_list_bool, isTy_list_str, isTy_list_list, isTy_list_tuple, isTy_tuple_int, isTy_tuple_bool, isTy_tuple_str, isTy_tuple_list, isTy_tuple_tuple, List.length_cons, List.length_nil, Nat.reduceAdd, Nat.zero_add, ix2_0, ix2_1,
  gIx_l0, gIx_t0, gIx_l1, gIx_t1, gIx_l2, gIx_t2, gIx_l3, gIx_t3, gIx_l4, gIx_t4, gIx_l5, gIx_t5, gIx_l6, gIx_t6, gIx_l7, gIx_t7, gIx_l8, gIx_t8, gIx_l9, gIx_t9, gIx_l10, gIx_t10, gIx_l11, gIx_t11, gIx_l12, gIx_t12, gIx_l13, gIx_t13, gIx_l14, gIx_t14, gIx_l15, gIx_t15])
section
variable {P : Program} {w : World} {K : Frag} {mg : Str → Option Value} {base : Heap}
open TV
theorem gcR_gcd : ∀ (l : List Int) (d b : Nat), Nat.gcd (gcR d l) b = gcR (Nat.gcd d b) l
  | [], d, b => rfl
  | n :: r, d, b => by
    show Nat.gcd (gcR (Nat.gcd d n.natAbs) r) b = gcR (Nat.gcd (Nat.gcd d b) n.natAbs) r
    rw [gcR_gcd r, Nat.gcd_assoc, Nat.gcd_comm n.natAbs b, ← Nat.gcd_assoc]
theorem gcR_zero (l : List Int) (b : Nat) : Nat.gcd (gcR 0 l) b = gcR b l := by rw [gcR_gcd, Nat.gcd_zero_left]
/-- a pair of a row and a number, each sequence a list or a tuple -/
abbrev elS (t u : Bool) (l : List Int) (b : Int) : D := sqD t [sqD u (inD l), .int b]
/-- sum or difference of tops -/
def plusL (s : Int) (x y : List Int) (u w : Int) : List Int := (List.range x.length).map fun k => fn x k * w + s * fn y k * u
theorem plusL_length (s : Int) (x y : List Int) (u w : Int) : (plusL s x y u w).length = x.length := by simp [plusL]
theorem plusL_zip {x y : List Int} {u w : Int} (h : y.length = x.length) : ((x.map fun a => a * w).zip (y.map fun a => a * u)).map (fun p => p.1 + p.2) = plusL 1 x y u w := by
  refine List.ext_getElem (by simp [plusL, h]) fun i h1 h2 => ?_
  rw [plusL_length] at h2
  have h3 : i < y.length := by omega
  simp [plusL, fn, h2, h3]
theorem minL_zip {x y : List Int} {u w : Int} (h : y.length = x.length) : ((x.map fun a => a * w).zip (y.map fun a => a * u)).map (fun p => p.1 - p.2) = plusL (-1) x y u w := by
  refine List.ext_getElem (by simp [plusL, h]) fun i h1 h2 => ?_
  rw [plusL_length] at h2
  have h3 : i < y.length := by omega
  simp [plusL, fn, h2, h3]
  grind
abbrev s_common_divisor : Stmt := topS 14
theorem sc_common_divisor : FnScope ["numbers", "divisor", "number"] ["numbers"] (defScope s_common_divisor) := ⟨rfl, rfl, rfl, by decide +kernel, rfl, by decide +kernel, by decide +kernel⟩
def f_common_divisor : FD := fun ds q => ∃ (t : Bool) (l : List Int), ds = [sqD t (inD l)] ∧ q (.val (.int (gcR 0 l : Nat)))
theorem ok_common_divisor {f fd} {k : Nat} (F : Fun K "common_divisor" "common_divisor" s_common_divisor f fd) (hdg : base.NoDigits) (m_gcd : mg "gcd" = some (.builtin "math.gcd")) : FnG P w K mg base (k + 1) f fd ["numbers"] (SpD K 1 f_common_divisor) := by
  refine fnD F sc_common_divisor fun cdv A outer s H E gA hr => ?_
  have hu := hr.units
  have nd := sc_common_divisor.nd
  refine ⟨_, (ss_cons (st_set (i := 1) nd de_int)
    (ss_cons (st_for (i_seq (dv 0)) (tg_name (i := 2) nd) (ss_one (st_set (i := 1) nd (de_M c_gcd m_gcd (ab_cons (bv 1) (ab_cons (bv 2) ab_nil))))))
    (ss_one (st_ret (dv 1))))), ?_⟩
  clear F nd hu hr gA E H s outer A cdv hdg m_gcd
  intro ds q hl hg
  obtain ⟨t, l, rfl, hq⟩ := hg
  show sSeq _ _ _ [some (.val (sqD t (inD l))), none, none]
  refine sq_i fun k hk => ?_
  walk_at "rd"
  subst hk
  refine sq_i fun k hk => for_in fun W hW => ?_
  walk_at "rd"
  subst hW
  refine for_map (fun r ρ => ∃ (d : Nat) (y : Option DV), ρ = [some (.val (sqD t (inD l))), some (.val (.int d)), y] ∧ gcR d r = gcR 0 l) l ⟨0, none, rfl, rfl⟩ ?_ ?_
  · rintro _ ⟨d, y, rfl, e⟩
    subst hk
    walk_at "rd"
    rw [← e] at hq
    exact hq
  · rintro a r _ ⟨d, y, rfl, e⟩ k1 hk1
    walk_at "rd"
    exact hk1 _ ⟨_, _, rfl, e⟩
abbrev s_element : Stmt := topS 16
theorem sc_element : FnScope ["tops", "bottom", "divisor", "top"] ["tops", "bottom"] (defScope s_element) := ⟨rfl, rfl, rfl, by decide +kernel, rfl, by decide +kernel, by decide +kernel⟩
def f_element : FD := fun ds q => ∃ (t : Bool) (l : List Int) (b : Int), ds = [sqD t (inD l), .int b] ∧ b ≠ 0 ∧ intBits b ≤ 8000 ∧ l.length ≤ 1000 ∧ ∀ l' u, IsElL l' u l b → q (.val (elD l' u))
theorem ok_element {f fd} {k : Nat} (F : Fun K "element" "element" s_element f fd) (hdg : base.NoDigits) (m_gcd : mg "gcd" = some (.builtin "math.gcd")) (m_tuple : mg "tuple" = none) (r_common_divisor : Ready P w K mg base "common_divisor" 1 k f_common_divisor) : FnG P w K mg base (k + 1) f fd ["tops", "bottom"] (SpD K 2 f_element) := by
  refine fnD F sc_element fun cdv A outer s H E gA hr => ?_
  have hu := hr.units
  have nd := sc_element.nd
  refine ⟨_, (ss_cons (st_set (i := 2) nd (de_M c_gcd m_gcd (ab_cons (DE.toB (r_common_divisor.toE gA hr (da_cons (dv 0) da_nil))) (ab_cons (bv 1) ab_nil))))
    (ss_cons (st_if (dt_cmp o_lt (bv 1) (DE.toB de_int)) (ss_one (st_set (i := 2) nd (de_un u_neg (bv 2)))) ss_nil)
    (ss_one (st_ret (de_tup (da_cons (de_T c_tuple m_tuple (ab_cons (DE.toB (DLs.toE (dl_lc (own := [("top", 3)]) nd (i_seqC (bv 0)) (gw_name (i := 3) nd) dts_nil (fun _ _ _ _ _ => (de_op o_fdiv (bv 3) (bv 2)))))) ab_nil)) (da_cons (de_op o_fdiv (bv 1) (bv 2)) da_nil))))))), ?_⟩
  clear F nd hu hr gA E H s outer A cdv hdg m_gcd m_tuple r_common_divisor
  intro ds q hl hg
  obtain ⟨t, l, b, rfl, hb, bb, hlen, hq⟩ := hg
  show sSeq _ _ _ [some (.val (sqD t (inD l))), some (.val (.int b)), none, none]
  refine sq_i fun k hk => ?_
  walk_at "rd"
  refine ⟨t, l, rfl, ?_⟩
  walk_at "rd"
  simp only [Int.natAbs_natCast, gcR_zero]
  obtain ⟨g1, g2⟩ := gcR_le (l := l) (d := b.natAbs) (by omega)
  generalize e : gcR b.natAbs l = d at g1 g2 ⊢
  have hbl := intBits_le_iff.mp bb
  have fin : ∀ g : Int, g.natAbs = d → (0 < b ↔ 0 < g) → (∀ x, CDivZ x g) ∧ q (.val (elD (l.map fun x => x.fdiv g) (b.fdiv g))) := by
    intro g h1 h2
    have hl : g.natAbs.log2 < 9000 := Nat.lt_trans (log2_lt_of (k := 8000) (by omega) (by decide)) (by decide)
    exact ⟨fun x => ⟨by omega, PyProof.noPylong_of_log2 hl⟩, hq _ _ (el_ok hb (by rw [h1, e]) h2)⟩
  subst hk
  have last : ∀ g : Int, g.natAbs = d → (0 < b ↔ 0 < g) → ∀ y : Option DV, sRet (dTup (dCons (dCall gTuple (dCons (dLst (lComp (iSeq (bVar 0)) (rName 3) tYesD (d2 gFdiv (bVar 3) (bVar 2)) [3])) dNil)) (dCons (d2 gFdiv (bVar 1) (bVar 2)) dNil))) { nx := fun _ => q (.val .none), rt := q } [some (.val (sqD t (inD l))), some (.val (.int b)), some (.val (.int g)), y] := by
    intro g h1 h2 y
    obtain ⟨c1, c2⟩ := fin g h1 h2
    walk_at "rd"
    refine ⟨fit_len (by rw [List.length_map]; omega), lc_ints (fun x : Int => x.fdiv g) _ ?_ fun a ha q Z hq => by walk_at "rd"; exact ⟨c1 a, hq⟩⟩
    walk_at "rd"
    exact ⟨c1 b, c2⟩
  refine sj_i 2 (fun dd => ∃ g : Int, dd = .int g ∧ g.natAbs = d ∧ (0 < b ↔ 0 < g)) ?_ fun k hk => if_n fun T hT => ?_
  · rintro _ ⟨g, rfl, h1, h2⟩
    exact last g h1 h2 _
  · walk_at "rd"
    refine ⟨fun h => ?_, fun h => hk _ ⟨d, rfl, by omega, by omega⟩⟩
    subst hT
    walk_at "rd"
    exact hk _ ⟨-(d : Int), rfl, by omega, by omega⟩
abbrev s_multiply_elements : Stmt := topS 21
theorem sc_multiply_elements : FnScope ["radicands", "one", "two"] ["radicands", "one", "two"] (defScope s_multiply_elements) := ⟨rfl, rfl, rfl, by decide +kernel, rfl, by decide +kernel, by decide +kernel⟩
def f_multiply_elements : FD := fun ds q => ∃ (m : Nat) (R : D) (L : List (List Int)) (t t' v v' : Bool) (x y : List Int) (b c : Int) (r p1 p2 : Nat), ds = [R, elS t t' x b, elS v v' y c] ∧ m ≤ 6 ∧ RadD R L ∧ RadOk r L ∧ m ≤ L.length ∧ x.length = 2 ^ m ∧ y.length = 2 ^ m ∧ BdL p1 x ∧ BdL p2 y ∧ p1 + p2 + 1 + gro r m + m * gG r m ≤ 1000000 ∧ b ≠ 0 ∧ c ≠ 0 ∧ (∃ c1 c2, intBits b ≤ c1 ∧ intBits c ≤ c2 ∧ c1 + c2 ≤ 8000) ∧
  ∀ l' u, IsElL l' u (ofT (toT (rsF L) m x * toT (rsF L) m y)) (b * c) → q (.val (elD l' u))
theorem ok_multiply_elements {f fd} {k : Nat} (F : Fun K "multiply_elements" "multiply_elements" s_multiply_elements f fd) (hdg : base.NoDigits) (r_element : Ready P w K mg base "element" 2 k f_element) (r_multiply_vectors : Ready P w K mg base "multiply_vectors" 3 k f_multiply_vectors) : FnG P w K mg base (k + 1) f fd ["radicands", "one", "two"] (SpD K 3 f_multiply_elements) := by
  refine fnD F sc_multiply_elements fun cdv A outer s H E gA hr => ?_
  have hu := hr.units
  have nd := sc_multiply_elements.nd
  refine ⟨_, (ss_one (st_ret (r_element.toE gA hr (da_cons (r_multiply_vectors.toE gA hr (da_cons (dv 0) (da_cons (de_ix x_ix (bv 1) (DE.toB de_int)) (da_cons (de_ix x_ix (bv 2) (DE.toB de_int)) da_nil)))) (da_cons (de_op o_mul (DE.toB (de_ix x_ix (bv 1) (DE.toB de_int))) (DE.toB (de_ix x_ix (bv 2) (DE.toB de_int)))) da_nil))))), ?_⟩
  clear F nd hu hr gA E H s outer A cdv hdg r_element r_multiply_vectors
  intro ds q hl hg
  obtain ⟨m, R, L, t, t', v, v', x, y, b, c, r, p1, p2, rfl, hm6, hR, hL, hmL, hx, hy, bx, by', hsz, hb, hc, ⟨c1, c2, bb, bc, hcc⟩, hq⟩ := hg
  have h64 : 2 ^ m ≤ 64 := Nat.pow_le_pow_right (by decide) hm6
  show sRet _ _ [some (.val R), some (.val (elS t t' x b)), some (.val (elS v v' y c))]
  walk_at "rd"
  refine ⟨m, R, L, t', v', x, y, r, p1, p2, rfl, Nat.le_trans hm6 (by decide), by omega, hR, hL, hmL, hx, hy, bx, by', by omega, ?_⟩
  walk_at "rd"
  refine ⟨MulOk.of_le bb bc (by omega), true, _, _, rfl, Int.mul_ne_zero hb hc, Nat.le_trans (intBits_mul_le bb bc) (by omega), by rw [mulL_length]; omega, fun l' u h => ?_⟩
  walk_at "rd"
  exact hq l' u h
theorem small_bits {L : Nat → Nat → Int} {j M : Nat} {y : T L j} (hM : 1 ≤ M) (h : wf y ≤ M) (hB : M ^ 2 ^ j < 2 ^ 5000) : BdL 5000 (ofT y) := by
  refine (wf_bd (Nat.lt_of_le_of_lt h (Nat.lt_of_le_of_lt ?_ hB))).ofT
  have := Nat.pow_le_pow_right (n := M) hM (show 1 ≤ 2 ^ j from Nat.two_pow_pos j)
  rwa [Nat.pow_one] at this
theorem inv_bits {L : Nat → Nat → Int} {j M : Nat} {y : T L j} (hw : ∀ k, k < j → wf (rad L k) ≤ 16777216) (hM : 1 ≤ M) (h : wf y ≤ M) (hB : M ^ 2 ^ j < 2 ^ 5000) : BdL 5000 (ofT (invT y).1) ∧ intBits (invT y).2 ≤ 5000 := by
  obtain ⟨h1, h2⟩ := inv_wf hw hM h
  refine ⟨(wf_bd (Nat.lt_of_le_of_lt (Nat.le_trans (Nat.le_mul_of_pos_right _ hM) h1) hB)).ofT, intBits_le_iff.mpr (Nat.lt_of_le_of_lt h2 hB)⟩
theorem gro_le {r m : Nat} (hr : r ≤ 100) (hm : m ≤ 6) : gro r m ≤ 7000 := by
  have h1 : ∀ m, gro r m ≤ gro 100 m := by
    intro m
    induction m with
    | zero => exact Nat.le_refl _
    | succ m ih =>
      show 2 * gro r m + r + 1 ≤ 2 * gro 100 m + 100 + 1
      omega
  have h2 : ∀ m, m ≤ 6 → gro 100 m ≤ 7000 := by decide
  exact Nat.le_trans (h1 m) (h2 m hm)
/-- the tops of the inverse times a number -/
noncomputable abbrev invL {L : Nat → Nat → Int} {m : Nat} (x : T L m) (u : Int) : List Int := (ofT (invT x).1).map fun a => a * u
theorem invL_bits {L : Nat → Nat → Int} {m : Nat} {x : T L m} {u : Int} {p : Nat} (h : BdL 5000 (ofT (invT x).1)) (hu : intBits u ≤ p) : BdL (5000 + p) (invL x u) := by
  intro i hi
  obtain ⟨a, ha, rfl⟩ := List.mem_map.mp hi
  exact intBits_mul_le (h a ha) hu
end
end K13

namespace K13
open PySem PySem.Spec PyProof.Rows L2 DL Builtin.Int
local macro_rules | `(tactic| walk_at "rd") => `(tactic| simp -failIfUnchanged only [sSet, sSetL, sRet, sRetL, sRetO, sRetN, sNext, sBreak, sCont, sDrop, sApp, sAug, sAsg, sPar, sSetI, sPop, sSetPop, sRev, sFrz, frz1, iSeq, iRevD, iRange1, iRange2, iRangeD, rName, rTup, rTL_sq, gMulS_s, gStr1_i, rTL_t, rTL_l, rCons, rNil,
  dLst, dView, tView, lView, view, look, dVar, bVar, dC, d2, d1, l2, tBool, dNil, dCons, dTup, gI, gSubI, gMulI, gFdiv, gMod, gPow, gShl, gShr, gAnd, gXor, gLt, gLe, gGt, gGe, gAdd, gEq, gNe, isNone, gIs, gIsNot, gNeg, lCat, gLen_l, gLen_t, gLen_s, gInt, gAbs, gMax2, gMin2, gTuple_l, gTuple_t, lList_l, lList_t, gGcd, gIsqrt, dCall, lCall, dIsi, dIsi2,
  tAndD, tOrD, tNotD, tTru, truD, dAndV, dOrV, dNotV, dIf, dBits, wipeD, twoD, lComp, oNone, oSome, dSl, lSl, gSl_l, gSl_t, gSl_sq, gSq_l, gSq_t, gSq_sq, gIx_sq, gLen_sq, gTuple_sq, lList_sq, iZipD, gZip_sq, gZip_ts, gZip_st, gZip_ls, gZip_sl, gZip_tt, gZip_ll, gZip_lt, gZip_tl, dFn, lFn, valD, tYesD, eqOk_ii, eqOk_bb, eqOk_ss, eqv_int, eqv_str, eqv_bool, noLst, noLstAll, List.map_cons, List.map_nil, Option.map_some, Option.map_none,
  List.getElem?_cons_zero, List.getElem?_cons_succ, List.set_cons_zero, List.set_cons_succ, true_and, and_true, decide_eq_true_eq, decide_eq_false_iff_not, Bool.not_eq_true', Bool.not_eq_false', beq_iff_eq, beq_eq_false_iff_ne, Bool.true_eq_false, Bool.false_eq_true, false_imp_iff, true_imp_iff, forall_const, reduceCtorEq, ne_eq, not_true_eq_false, not_false_eq_true, Bool.not_true, Bool.not_false, Bool.true_and, Bool.and_true, Bool.false_and, Bool.and_false, Int.reduceToNat, Int.cast_ofNat_Int, eq_self, isTy_none_int, isTy_none_bool, isTy_none_str, isTy_none_list, isTy_none_tuple, isTy_bool_int, isTy_bool_bool, isTy_bool_str, isTy_bool_list, isTy_bool_tuple, isTy_int_int, isTy_int_bool, isTy_int_str, isTy_int_list, isTy_int_tuple, isTy_str_int, isTy_str_bool, isTy_str_str, isTy_str_list, isTy_str_tuple, isTy_list_int, isTy_list_bool, isTy_list_str, isTy_list_list, isTy_list_tuple, isTy_tuple_int, isTy_tuple_bool, isTy_tuple_str, isTy_tuple_list, isTy_tuple_tuple, List.length_cons, List.length_nil, Nat.reduceAdd, Nat.zero_add, ix2_0, ix2_1,
  gIx_l0, gIx_t0, gIx_l1, gIx_t1, gIx_l2, gIx_t2, gIx_l3, gIx_t3, gIx_l4, gIx_t4, gIx_l5, gIx_t5, gIx_l6, gIx_t6, gIx_l7, gIx_t7, gIx_l8, gIx_t8, gIx_l9, gIx_t9, gIx_l10, gIx_t10, gIx_l11, gIx_t11, gIx_l12, gIx_t12, gIx_l13, gIx_t13, gIx_l14, gIx_t14, gIx_l15, gIx_t15])
section
variable {P : Program} {w : World} {K : Frag} {mg : Str → Option Value} {base : Heap}
open TV
theorem pow_hi : ∀ m, m ≤ 4 → (2 ^ 90 * 4097 ^ m) ^ 2 ^ m < 2 ^ 5000 := by decide +kernel
theorem pow_lo : ∀ m, m ≤ 6 → (4 * 4097 ^ m) ^ 2 ^ m < 2 ^ 5000 := by decide +kernel
/-- how great a drawn vector is -/
theorem vec_wf {m : Nat} {x : List Int} (hm : m ≤ 6) (hx : x.length = 2 ^ m) (bx : BdL 90 x) (sx : 4 < m → ∀ i ∈ x, i.natAbs ≤ 4) : ∃ M, 1 ≤ M ∧ M ^ 2 ^ m < 2 ^ 5000 ∧ ∀ L, wf (toT L m x) ≤ M := by
  have cfx : ∀ L (j : Nat), j < 2 ^ m → cf (toT L m x) j = fn x j := fun L j hj => cf_Tf hj
  have p4 : 0 < 4097 ^ m := Nat.pow_pos (by decide)
  rcases Nat.lt_or_ge 4 m with c | c
  · refine ⟨4 * 4097 ^ m, by omega, pow_lo m hm, fun L => wf_small _ fun j hj => ?_⟩
    rw [cfx L j hj]
    exact sx c _ (List.mem_of_getElem? (fn_get (by omega)))
  · refine ⟨2 ^ 90 * 4097 ^ m, Nat.mul_pos (by decide) p4, pow_hi m c, fun L => wf_small _ fun j hj => ?_⟩
    rw [cfx L j hj]
    exact Nat.le_of_lt (intBits_le_iff.mp (bx.fn j))
theorem pow12 : ∀ m, m ≤ 6 → 12 ^ 2 ^ m < 2 ^ 8000 ∧ 144 ^ 2 ^ m < 2 ^ 8000 ∧ 12 ^ 2 ^ m < 2 ^ 4000 := by decide +kernel
theorem ofT_wh {L : Nat → Nat → Int} {m : Nat} {c : Int} : ofT (wh L m c) = c :: List.replicate (2 ^ m - 1) 0 := by
  have hp := Nat.two_pow_pos m
  refine List.ext_getElem (by simp [ofT_length]; omega) fun i h1 h2 => ?_
  rw [ofT_length] at h1
  have e : (ofT (wh L m c))[i]? = some (cf (wh L m c) i) := ofT_get _ i h1
  rw [List.getElem?_eq_getElem (by rw [ofT_length]; exact h1)] at e
  have e2 := Option.some.inj e
  rw [e2]
  unfold wh
  rw [cf_Tf h1]
  cases i with
  | zero => simp
  | succ i => simp
theorem RadD.sq (t u : Bool) (L : List (List Int)) : RadD (sqD t (L.map fun l => sqD u (inD l))) L := ⟨t, _, rfl, by simp, fun k l h => ⟨u, by simp [h]⟩⟩
/-- the fraction of vectors, as an equation of vectors -/
theorem IsElL.eqn {l' l : List Int} {u b : Int} (h : IsElL l' u l b) (L : Nat → Nat → Int) (m : Nat) : wh L m b * toT L m l' = wh L m u * toT L m l := by
  unfold toT
  rw [← wh_mul, ← wh_mul]
  refine Tf_congr fun j _ => ?_
  have := h.2.2.1 j
  grind
theorem eqn_fn {L : Nat → Nat → Int} {m : Nat} {s t : T L m} {b u : Int} (h : wh L m b * s = wh L m u * t) : ∀ i, fn (ofT s) i * b = fn (ofT t) i * u := by
  intro i
  rcases Nat.lt_or_ge i (2 ^ m) with c | c
  · rw [fn_ofT s i c, fn_ofT t i c]
    have e : ∀ (k : Int) (v : T L m), cf (wh L m k * v) i = k * cf v i := fun k v => by
      conv => lhs; rw [← Tf_cf v]
      rw [← wh_mul, cf_Tf c]
    have := congrArg (fun v => cf v i) h
    simp only [e] at this
    grind
  · have e : ∀ v : T L m, fn (ofT v) i = 0 := fun v => by
      simp [fn, ofT_length, List.getD_eq_getElem?_getD, List.getElem?_eq_none (show (ofT v).length ≤ i by rw [ofT_length]; exact c)]
    rw [e, e]
    simp
theorem IsElL.wf {l' l : List Int} {u b : Int} (h : IsElL l' u l b) (hb : b ≠ 0) (L : Nat → Nat → Int) (m : Nat) : TV.wf (toT L m l') ≤ TV.wf (toT L m l) := wf_mono fun j hj => by
  have e1 : cf (toT L m l') j = fn l' j := cf_Tf hj
  have e2 : cf (toT L m l) j = fn l j := cf_Tf hj
  rw [e1, e2]
  exact (h.le hb).1 j
theorem IsElL.mem {l' l : List Int} {u b : Int} {B : Nat} (h : IsElL l' u l b) (hb : b ≠ 0) (hl : ∀ i ∈ l, i.natAbs ≤ B) : ∀ i ∈ l', i.natAbs ≤ B := fun i hi => by
  obtain ⟨k, hk, e⟩ := List.getElem_of_mem hi
  have e2 : fn l' k = i := by simp [fn, hk, e]
  have := (h.le hb).1 k
  rw [e2] at this
  rcases fn_mem (l := l) (i := k) with c | c
  · rw [c] at this; omega
  · exact Nat.le_trans this (hl _ c)
theorem tupOk {a b : Int} : eqOk (.tuple [.int a, .int b]) (.tuple [.int a, .int b]) = true ∧ PyData.eqv (.tuple [.int a, .int b]) (.tuple [.int a, .int b]) = true := by
  simp [eqOk, SeqAt.shaped, PyData.canLay0, PyData.canLayAll0, PyData.depth, PyData.depthAll, PyData.eqv, PyData.eqvAll]
theorem canLay_ints : ∀ l : List Int, PyData.canLayAll0 (inD l) = true
  | [] => rfl
  | n :: r => by simp [inD, PyData.canLayAll0, PyData.canLay0]; exact canLay_ints r
theorem eqv_ints : ∀ l : List Int, PyData.eqvAll (inD l) (inD l) = true
  | [] => rfl
  | n :: r => by simp [inD, PyData.eqvAll, PyData.eqv]; exact eqv_ints r
theorem elOk (l : List Int) (u : Int) : eqOk (elD l u) (elD l u) = true ∧ PyData.eqv (elD l u) (elD l u) = true := by
  simp [elD, eqOk, SeqAt.shaped, PyData.canLay0, PyData.canLayAll0, PyData.depth, PyData.depthAll, PyData.eqv, PyData.eqvAll, canLay_ints, eqv_ints, DL.depthAll_ints]
theorem rpD_sq (t : Bool) (xs : List D) : rpD (sqD t xs) = rpAll xs := by cases t <;> simp [sqD, rpD]
theorem cells_sq (t : Bool) (xs : List D) : cells (sqD t xs) = cellsAll xs + 1 := by cases t <;> simp [sqD, cells] <;> omega
theorem depth_sq (t : Bool) (xs : List D) : (sqD t xs).depth = PyData.depthAll xs + 1 := by cases t <;> simp [sqD, PyData.depth] <;> omega
theorem cells_ints (l : List Int) : cellsAll (inD l) = l.length := cellsAll_ints l
theorem dep_ints (l : List Int) : PyData.depthAll (inD l) = 0 := DL.depthAll_ints l
theorem rp_ints {l : List Int} {r : Nat} (h : BdL r l) (hr : r ≤ 12000) : rpAll (inD l) = true := rpAll_ints _ fun n hn => big_bits (h n hn) hr
theorem rp_lists : ∀ (L : List (List Int)) (r : Nat) (t : Bool), r ≤ 12000 → (∀ l ∈ L, BdL r l) → rpAll (L.map fun l => sqD t (inD l)) = true
  | [], r, t, _, _ => rfl
  | l :: L, r, t, hr, h => by
    simp only [List.map_cons, rpAll, Bool.and_eq_true, rpD_sq]
    exact ⟨rp_ints (h l List.mem_cons_self) hr, rp_lists L r t hr fun l' hl => h l' (List.mem_cons_of_mem _ hl)⟩
theorem cells_lists (t : Bool) : ∀ (L : List (List Int)), cellsAll (L.map fun l => sqD t (inD l)) = (L.map fun l => l.length + 1).sum
  | [] => by simp [cellsAll]
  | l :: L => by simp only [List.map_cons, cellsAll, List.sum_cons, cells_lists t L, cells_sq, cells_ints]
theorem depth_lists (t : Bool) : ∀ (L : List (List Int)), PyData.depthAll (L.map fun l => sqD t (inD l)) ≤ 1
  | [] => by simp [PyData.depthAll]
  | l :: L => by
    have := depth_lists t L
    simp only [List.map_cons, PyData.depthAll, depth_sq, dep_ints]
    omega
theorem sum_le (L : List (List Int)) (h : ∀ l ∈ L, l.length ≤ 64) : (L.map fun l => l.length + 1).sum ≤ 65 * L.length := by
  induction L with
  | nil => simp
  | cons l L ih =>
    have := ih fun l' hl => h l' (List.mem_cons_of_mem _ hl)
    have := h l List.mem_cons_self
    simp only [List.map_cons, List.sum_cons, List.length_cons]
    omega
/-- [radicands, [tops, bottom]] -/
def pas (L : List (List Int)) (x : List Int) (b : Int) : D := .list [.list (L.map fun l => .list (inD l)), .list [.list (inD x), .int b]]
theorem gRepr_pas {x : List Int} {L : List (List Int)} {b : Int} {q : D → Prop} (hL : L.length ≤ 10) (h1 : ∀ l ∈ L, l.length ≤ 64) (h2 : ∀ l ∈ L, BdL 90 l) (hx : x.length ≤ 64) (bx : BdL 90 x) (bb : intBits b ≤ 90) (hq : q (.str (PyData.shown (pas L x b)))) : gRepr [pas L x b] q := by
  have c := sum_le L h1
  have d := depth_lists false L
  have e := cells_lists false L
  have f := rp_lists L 90 false (by decide) h2
  simp only [sqD] at d e f
  refine ⟨⟨rfl, ?_, ?_, ?_⟩, hq⟩
  · simp only [pas, rpD, rpAll, rp_ints bx (by decide), Bool.and_true, Bool.true_and, decide_eq_true (big_bits bb (by decide))]
    exact f
  · simp only [pas, cells, cellsAll, cells_ints]
    simp only [Bool.false_eq_true, if_false] at e
    omega
  · simp only [pas, PyData.depth, PyData.depthAll, dep_ints]
    simp only [Bool.false_eq_true, if_false] at d
    omega
theorem gRepr_two {a b : Int} {q : D → Prop} (ha : intBits a ≤ 12000) (hb : intBits b ≤ 12000) (hq : q (.str (PyData.shown (.tuple [.int a, .int b])))) : gRepr [.tuple [.int a, .int b]] q := by
  refine ⟨⟨rfl, ?_, by simp [cells, cellsAll], by simp [PyData.depth, PyData.depthAll]⟩, hq⟩
  simp only [rpD, rpAll, Bool.and_true, decide_eq_true (big_bits ha (by decide)), decide_eq_true (big_bits hb (by decide))]

end
end K13

namespace K13
open PySem PySem.Spec PyProof.Rows L2 DL Builtin.Int
local macro_rules | `(tactic| walk_at "rd") => `(tactic| simp -failIfUnchanged only [sSet, sSetL, sRet, sRetL, sRetO, sRetN, sNext, sBreak, sCont, sDrop, sApp, sAug, sAsg, sPar, sSetI, sPop, sSetPop, sRev, sFrz, frz1, iSeq, iRevD, iRange1, iRange2, iRangeD, rName, rTup, rTL_sq, gMulS_s, gStr1_i, rTL_t, rTL_l, rCons, rNil,
  dLst, dView, tView, lView, view, look, dVar, bVar, dC, d2, d1, l2, tBool, dNil, dCons, dTup, gI, gSubI, gMulI, gFdiv, gMod, gPow, gShl, gShr, gAnd, gXor, gLt, gLe, gGt, gGe, gAdd, gEq, gNe, isNone, gIs, gIsNot, gNeg, lCat, gLen_l, gLen_t, gLen_s, gInt, gAbs, gMax2, gMin2, gTuple_l, gTuple_t, lList_l, lList_t, gGcd, gIsqrt, dCall, lCall, dIsi, dIsi2,
  tAndD, tOrD, tNotD, tTru, truD, dAndV, dOrV, dNotV, dIf, dBits, wipeD, twoD, lComp, oNone, oSome, dSl, lSl, gSl_l, gSl_t, gSl_sq, gSq_l, gSq_t, gSq_sq, gIx_sq, gLen_sq, gTuple_sq, lList_sq, iZipD, gZip_sq, gZip_ts, gZip_st, gZip_ls, gZip_sl, gZip_tt, gZip_ll, gZip_lt, gZip_tl, dFn, lFn, valD, tYesD, eqOk_ii, eqOk_bb, eqOk_ss, eqv_int, eqv_str, eqv_bool, noLst, noLstAll, List.map_cons, List.map_nil, Option.map_some, Option.map_none,
  List.getElem?_cons_zero, List.getElem?_cons_succ, List.set_cons_zero, List.set_cons_succ, true_and, and_true, decide_eq_true_eq, decide_eq_false_iff_not, Bool.not_eq_true', Bool.not_eq_false', beq_iff_eq, beq_eq_false_iff_ne, Bool.true_eq_false, Bool.false_eq_true, false_imp_iff, true_imp_iff, forall_const, reduceCtorEq, ne_eq, not_true_eq_false, not_false_eq_true, Bool.not_true, Bool.not_false, Bool.true_and, Bool.and_true, Bool.false_and, Bool.and_false, Int.reduceToNat, Int.cast_ofNat_Int, eq_self, isTy_none_int, isTy_none_bool, isTy_none_str, isTy_none_list, isTy_none_tuple, isTy_bool_int, isTy_bool_bool, isTy_bool_str, isTy_bool_list, isTy_bool_tuple, isTy_int_int, isTy_int_bool, isTy_int_str, isTy_int_list, isTy_int_tuple, isTy_str_int, isTy_str_bool, isTy_str_str, isTy_str_list, isTy_str_tuple, isTy_list_int, isTy_list_bool, isTy_list_str, isTy_list_list, isTy_list_tuple, isTy_tuple_int, isTy_tuple_bool, isTy_tuple_str, isTy_tuple_list, isTy_tuple_tuple, List.length_cons, List.length_nil, Nat.reduceAdd, Nat.zero_add, ix2_0, ix2_1,
  gIx_l0, gIx_t0, gIx_l1, gIx_t1, gIx_l2, gIx_t2, gIx_l3, gIx_t3, gIx_l4, gIx_t4, gIx_l5, gIx_t5, gIx_l6, gIx_t6, gIx_l7, gIx_t7, gIx_l8, gIx_t8, gIx_l9, gIx_t9, gIx_l10, gIx_t10, gIx_l11, gIx_t11, gIx_l12, gIx_t12, gIx_l13, gIx_t13, gIx_l14, gIx_t14, gIx_l15, gIx_t15])
section
variable {P : Program} {w : World} {K : Frag} {mg : Str → Option Value} {base : Heap}
open TV
abbrev s__law_is_element : Stmt := topS 39
theorem sc__law_is_element : FnScope ["value", "size", "top"] ["value", "size"] (defScope s__law_is_element) := ⟨rfl, rfl, rfl, by decide +kernel, rfl, by decide +kernel, by decide +kernel⟩
def f__law_is_element : FD := fun ds q => ∃ (l : List Int) (u : Int) (n : Nat), ds = [elD l u, .int n] ∧ l.length = n ∧ n ≤ 64 ∧ IsElL l u l u ∧ intBits u ≤ 8000 ∧ q (.val (.bool true))
theorem ok__law_is_element {f fd} {k : Nat} (F : Fun K "_law_is_element" "_law_is_element" s__law_is_element f fd) (hdg : base.NoDigits) (m_isinstance : mg "isinstance" = none) (m_len : mg "len" = none) (m_tuple : mg "tuple" = none) (r__law_whole : Ready P w K mg base "_law_whole" 1 k f__law_whole) (r__law_element : Ready P w K mg base "_law_element" 2 k f__law_element) : FnG P w K mg base (k + 1) f fd ["value", "size"] (SpD K 2 f__law_is_element) := by
  refine fnD F sc__law_is_element fun cdv A outer s H E gA hr => ?_
  have hu := hr.units
  have nd := sc__law_is_element.nd
  refine ⟨_, (ss_cons (st_if (DW.pt (dw_or (dt_not (dt_val (de_isi ty_tuple m_isinstance m_tuple (bv 0)))) (dw_or1 (dt_cmp (o_ne hu) (DE.toB (de_B c_len m_len (ab_cons (bv 0) ab_nil))) (DE.toB de_int))))) (ss_one (st_ret de_bl)) ss_nil)
    (ss_cons (st_if (DW.pt (dw_or (dt_not (dt_val (de_isi ty_tuple m_isinstance m_tuple (DE.toB (de_ix x_ix (bv 0) (DE.toB de_int)))))) (dw_or (dt_cmp (o_ne hu) (DE.toB (de_B c_len m_len (ab_cons (DE.toB (de_ix x_ix (bv 0) (DE.toB de_int))) ab_nil))) (bv 1)) (dw_or (dt_not (dt_val (r__law_whole.toE gA hr (da_cons (de_ix x_ix (bv 0) (DE.toB de_int)) da_nil)))) (dw_or1 (dt_cmp o_lt (DE.toB (de_ix x_ix (bv 0) (DE.toB de_int))) (DE.toB de_int))))))) (ss_one (st_ret de_bl)) ss_nil)
    (ss_cons (st_for (i_seq (de_ix x_ix (bv 0) (DE.toB de_int))) (tg_name (i := 2) nd) (ss_one (st_if (dt_not (dt_val (r__law_whole.toE gA hr (da_cons (dv 2) da_nil)))) (ss_one (st_ret de_bl)) ss_nil)))
    (ss_one (st_ret (de_cmp (o_eq hu) (DE.toB (r__law_element.toE gA hr (da_cons (de_ix x_ix (bv 0) (DE.toB de_int)) (da_cons (de_ix x_ix (bv 0) (DE.toB de_int)) da_nil)))) (bv 0))))))), ?_⟩
  clear F nd hu hr gA E H s outer A cdv hdg m_isinstance m_len m_tuple r__law_whole r__law_element
  intro ds q hl hg
  obtain ⟨l, u, n, rfl, hn, h64, hN, bu, hq⟩ := hg
  have hu := hN.1
  show sSeq _ _ _ [some (.val (elD l u)), some (.val (.int n)), none]
  refine sq_i fun k hk => if_n fun T hT => ?_
  walk_at "rd"
  clear hT T
  subst hk
  refine sq_i fun k hk => if_n fun T hT => ?_
  walk_at "rd"
  rw [List.length_map]
  refine ⟨fun c => absurd (congrArg _ hn) c, fun _ => ⟨_, rfl, ?_⟩⟩
  walk_at "rd"
  refine ⟨fun h => (by cases h), fun _ => ⟨fun c => (by omega), fun _ => ?_⟩⟩
  clear hT T
  subst hk
  refine sq_i fun k hk => for_in fun W hW => ?_
  walk_at "rd"
  subst hW
  refine for_map (fun r ρ => ∃ y : Option DV, ρ = [some (.val (elD l u)), some (.val (.int n)), y]) l ⟨none, rfl⟩ ?_ ?_
  · rintro _ ⟨y, rfl⟩
    subst hk
    walk_at "rd"
    refine ⟨true, l, u, rfl, by omega, bu, by omega, fun l' u' h => ?_⟩
    obtain ⟨rfl, rfl⟩ := h.uniq hN (by omega)
    walk_at "rd"
    refine ⟨(elOk _ _).1, ?_⟩
    rw [(elOk _ _).2]
    exact hq
  · rintro a r _ ⟨y, rfl⟩ k1 hk1
    refine if_n fun T hT => ?_
    walk_at "rd"
    refine ⟨_, rfl, ?_⟩
    walk_at "rd"
    exact ⟨fun h => (by cases h), fun _ => hk1 _ ⟨_, rfl⟩⟩
open TV
end
end K13

namespace K13
open PySem PySem.Spec PyProof.Rows L2 DL Builtin.Int
local macro_rules | `(tactic| walk_at "rd") => `(tactic| simp -failIfUnchanged only [sSet, sSetL, sRet, sRetL, sRetO, sRetN, sNext, sBreak, sCont, sDrop, sApp, sAug, sAsg, sPar, sSetI, sPop, sSetPop, sRev, sFrz, frz1, iSeq, iRevD, iRange1, iRange2, iRangeD, rName, rTup, rTL_sq, gMulS_s, gStr1_i, rTL_t, rTL_l, rCons, rNil,
  dLst, dView, tView, lView, view, look, dVar, bVar, dC, d2, d1, l2, tBool, dNil, dCons, dTup, gI, gSubI, gMulI, gFdiv, gMod, gPow, gShl, gShr, gAnd, gXor, gLt, gLe, gGt, gGe, gAdd, gEq, gNe, isNone, gIs, gIsNot, gNeg, lCat, gLen_l, gLen_t, gLen_s, gInt, gAbs, gMax2, gMin2, gTuple_l, gTuple_t, lList_l, lList_t, gGcd, gIsqrt, dCall, lCall, dIsi, dIsi2,
  tAndD, tOrD, tNotD, tTru, truD, dAndV, dOrV, dNotV, dIf, dBits, wipeD, twoD, lComp, oNone, oSome, dSl, lSl, gSl_l, gSl_t, gSl_sq, gSq_l, gSq_t, gSq_sq, gIx_sq, gLen_sq, gTuple_sq, lList_sq, iZipD, gZip_sq, gZip_ts, gZip_st, gZip_ls, gZip_sl, gZip_tt, gZip_ll, gZip_lt, gZip_tl, dFn, lFn, valD, tYesD, eqOk_ii, eqOk_bb, eqOk_ss, eqv_int, eqv_str, eqv_bool, noLst, noLstAll, List.map_cons, List.map_nil, Option.map_some, Option.map_none,
  List.getElem?_cons_zero, List.getElem?_cons_succ, List.set_cons_zero, List.set_cons_succ, true_and, and_true, decide_eq_true_eq, decide_eq_false_iff_not, Bool.not_eq_true', Bool.not_eq_false', beq_iff_eq, beq_eq_false_iff_ne, Bool.true_eq_false, Bool.false_eq_true, false_imp_iff, true_imp_iff, forall_const, reduceCtorEq, ne_eq, not_true_eq_false, not_false_eq_true, Bool.not_true, Bool.not_false, Bool.true_and, Bool.and_true, Bool.false_and, Bool.and_false, Int.reduceToNat, Int.cast_ofNat_Int, eq_self, isTy_none_int, isTy_none_bool, isTy_none_str, isTy_none_list, isTy_none_tuple, isTy_bool_int, isTy_bool_bool, isTy_bool_str, isTy_bool_list, isTy_bool_tuple, isTy_int_int, isTy_int_bool, isTy_int_str, isTy_int_list, isTy_int_tuple, isTy_str_int, isTy_str_bool, isTy_str_str, isTy_str_list, isTy_str_tuple, isTy_list_int, isTy_list_bool, isTy_list_str, isTy_list_list, isTy_list_tuple, isTy_tuple_int, isTy_tuple_bool, isTy_tuple_str, isTy_tuple_list, isTy_tuple_tuple, List.length_cons, List.length_nil, Nat.reduceAdd, Nat.zero_add, ix2_0, ix2_1,
  gIx_l0, gIx_t0, gIx_l1, gIx_t1, gIx_l2, gIx_t2, gIx_l3, gIx_t3, gIx_l4, gIx_t4, gIx_l5, gIx_t5, gIx_l6, gIx_t6, gIx_l7, gIx_t7, gIx_l8, gIx_t8, gIx_l9, gIx_t9, gIx_l10, gIx_t10, gIx_l11, gIx_t11, gIx_l12, gIx_t12, gIx_l13, gIx_t13, gIx_l14, gIx_t14, gIx_l15, gIx_t15])
section
variable {P : Program} {w : World} {K : Frag} {mg : Str → Option Value} {base : Heap}
open TV
abbrev s_add_elements : Stmt := topS 18
theorem sc_add_elements : FnScope ["one", "two"] ["one", "two"] (defScope s_add_elements) := ⟨rfl, rfl, rfl, by decide +kernel, rfl, by decide +kernel, by decide +kernel⟩
def f_add_elements : FD := fun ds q => ∃ (t t' v v' : Bool) (x y : List Int) (u w : Int), ds = [elS t t' x u, elS v v' y w] ∧ y.length = x.length ∧ x.length ≤ 64 ∧ u ≠ 0 ∧ w ≠ 0 ∧ BdL 100000 x ∧ BdL 100000 y ∧ intBits u ≤ 4000 ∧ intBits w ≤ 4000 ∧ ∀ l' b, IsElL l' b (plusL 1 x y u w) (u * w) → q (.val (elD l' b))
theorem ok_add_elements {f fd} {k : Nat} (F : Fun K "add_elements" "add_elements" s_add_elements f fd) (hdg : base.NoDigits) (r_element : Ready P w K mg base "element" 2 k f_element) (r_add_vectors : Ready P w K mg base "add_vectors" 2 k f_add_vectors) (r_scale_vector : Ready P w K mg base "scale_vector" 2 k f_scale_vector) : FnG P w K mg base (k + 1) f fd ["one", "two"] (SpD K 2 f_add_elements) := by
  refine fnD F sc_add_elements fun cdv A outer s H E gA hr => ?_
  have hu := hr.units
  have nd := sc_add_elements.nd
  refine ⟨_, (ss_one (st_ret (r_element.toE gA hr (da_cons (r_add_vectors.toE gA hr (da_cons (r_scale_vector.toE gA hr (da_cons (de_ix x_ix (bv 0) (DE.toB de_int)) (da_cons (de_ix x_ix (bv 1) (DE.toB de_int)) da_nil))) (da_cons (r_scale_vector.toE gA hr (da_cons (de_ix x_ix (bv 1) (DE.toB de_int)) (da_cons (de_ix x_ix (bv 0) (DE.toB de_int)) da_nil))) da_nil))) (da_cons (de_op o_mul (DE.toB (de_ix x_ix (bv 0) (DE.toB de_int))) (DE.toB (de_ix x_ix (bv 1) (DE.toB de_int)))) da_nil))))), ?_⟩
  clear F nd hu hr gA E H s outer A cdv hdg r_element r_add_vectors r_scale_vector
  intro ds q hl hg
  obtain ⟨t, t', v, v', x, y, u, w, rfl, hl', hx, hu, hw, bx, by', bu, bw, hq⟩ := hg
  show sRet _ _ [some (.val (elS t t' x u)), some (.val (elS v v' y w))]
  walk_at "rd"
  refine ⟨_, x, w, rfl, by omega, fun i hi => MulOk.of_le (bx i hi) bw (by decide), ?_⟩
  walk_at "rd"
  refine ⟨_, y, u, rfl, by omega, fun i hi => MulOk.of_le (by' i hi) bu (by decide), ?_⟩
  walk_at "rd"
  refine ⟨true, true, _, _, rfl, by rw [List.length_map]; omega, ?_⟩
  rw [plusL_zip hl']
  walk_at "rd"
  refine ⟨MulOk.of_le bu bw (by decide), true, _, _, rfl, Int.mul_ne_zero hu hw, Nat.le_trans (intBits_mul_le bu bw) (by decide), by rw [plusL_length]; omega, fun l' b h => ?_⟩
  walk_at "rd"
  exact hq l' b h
abbrev s_negate_element : Stmt := topS 19
theorem sc_negate_element : FnScope ["one"] ["one"] (defScope s_negate_element) := ⟨rfl, rfl, rfl, by decide +kernel, rfl, by decide +kernel, by decide +kernel⟩
def f_negate_element : FD := fun ds q => ∃ (t t' : Bool) (x : List Int) (u : Int), ds = [elS t t' x u] ∧ x.length ≤ 64 ∧ BdL 100000 x ∧ q (.val (elD (x.map fun a => -a) u))
theorem ok_negate_element {f fd} {k : Nat} (F : Fun K "negate_element" "negate_element" s_negate_element f fd) (hdg : base.NoDigits) (r_scale_vector : Ready P w K mg base "scale_vector" 2 k f_scale_vector) : FnG P w K mg base (k + 1) f fd ["one"] (SpD K 1 f_negate_element) := by
  refine fnD F sc_negate_element fun cdv A outer s H E gA hr => ?_
  have hu := hr.units
  have nd := sc_negate_element.nd
  refine ⟨_, (ss_one (st_ret (de_tup (da_cons (r_scale_vector.toE gA hr (da_cons (de_ix x_ix (bv 0) (DE.toB de_int)) (da_cons (de_un u_neg (DE.toB de_int)) da_nil))) (da_cons (de_ix x_ix (bv 0) (DE.toB de_int)) da_nil))))), ?_⟩
  clear F nd hu hr gA E H s outer A cdv hdg r_scale_vector
  intro ds q hl hg
  obtain ⟨t, t', x, u, rfl, hx, bx, hq⟩ := hg
  show sRet _ _ [some (.val (elS t t' x u))]
  walk_at "rd"
  refine ⟨_, x, -1, rfl, by omega, fun i hi => MulOk.of_le (bx i hi) (show intBits (-1) ≤ 1 by decide) (by decide), ?_⟩
  walk_at "rd"
  have e : (x.map fun a => a * -1) = x.map fun a => -a := List.map_congr_left fun a _ => by omega
  rw [e]
  exact hq
abbrev s_scale_element : Stmt := topS 20
theorem sc_scale_element : FnScope ["one", "factor"] ["one", "factor"] (defScope s_scale_element) := ⟨rfl, rfl, rfl, by decide +kernel, rfl, by decide +kernel, by decide +kernel⟩
def f_scale_element : FD := fun ds q => ∃ (t t' v : Bool) (x : List Int) (u f g : Int), ds = [elS t t' x u, sqD v [.int f, .int g]] ∧ x.length ≤ 64 ∧ u ≠ 0 ∧ g ≠ 0 ∧ BdL 100000 x ∧ intBits u ≤ 4000 ∧ intBits f ≤ 4000 ∧ intBits g ≤ 4000 ∧ ∀ l' b, IsElL l' b (x.map fun a => a * f) (u * g) → q (.val (elD l' b))
theorem ok_scale_element {f fd} {k : Nat} (F : Fun K "scale_element" "scale_element" s_scale_element f fd) (hdg : base.NoDigits) (r_element : Ready P w K mg base "element" 2 k f_element) (r_scale_vector : Ready P w K mg base "scale_vector" 2 k f_scale_vector) : FnG P w K mg base (k + 1) f fd ["one", "factor"] (SpD K 2 f_scale_element) := by
  refine fnD F sc_scale_element fun cdv A outer s H E gA hr => ?_
  have hu := hr.units
  have nd := sc_scale_element.nd
  refine ⟨_, (ss_one (st_ret (r_element.toE gA hr (da_cons (r_scale_vector.toE gA hr (da_cons (de_ix x_ix (bv 0) (DE.toB de_int)) (da_cons (de_ix x_ix (bv 1) (DE.toB de_int)) da_nil))) (da_cons (de_op o_mul (DE.toB (de_ix x_ix (bv 0) (DE.toB de_int))) (DE.toB (de_ix x_ix (bv 1) (DE.toB de_int)))) da_nil))))), ?_⟩
  clear F nd hu hr gA E H s outer A cdv hdg r_element r_scale_vector
  intro ds q hl hg
  obtain ⟨t, t', v, x, u, f, g, rfl, hx, hu, hg0, bx, bu, bf, bg, hq⟩ := hg
  show sRet _ _ [some (.val (elS t t' x u)), some (.val (sqD v [.int f, .int g]))]
  walk_at "rd"
  refine ⟨_, x, f, rfl, by omega, fun i hi => MulOk.of_le (bx i hi) bf (by decide), ?_⟩
  walk_at "rd"
  refine ⟨MulOk.of_le bu bg (by decide), true, _, _, rfl, Int.mul_ne_zero hu hg0, Nat.le_trans (intBits_mul_le bu bg) (by decide), by rw [List.length_map]; omega, fun l' b h => ?_⟩
  walk_at "rd"
  exact hq l' b h
theorem inv_bits2 {L : Nat → Nat → Int} {ρ : Nat → Nat} {j M : Nat} {y : T L j} (hw : WOk L ρ j) (hM : 1 ≤ M) (h : wr ρ y ≤ M) (hB : M ^ 2 ^ j < 2 ^ 6000) : BdL 6000 (ofT (invT y).1) ∧ intBits (invT y).2 ≤ 6000 := by
  obtain ⟨h1, h2⟩ := inv_wr hw hM h
  exact ⟨(wr_bd hw (Nat.lt_of_le_of_lt (Nat.le_trans (Nat.le_mul_of_pos_right _ hM) h1) hB)).ofT, intBits_le_iff.mpr (Nat.lt_of_le_of_lt h2 hB)⟩
theorem invL_bits2 {L : Nat → Nat → Int} {m : Nat} {x : T L m} {u : Int} {p : Nat} (h : BdL 6000 (ofT (invT x).1)) (hu : intBits u ≤ p) : BdL (6000 + p) (invL x u) := by
  intro i hi
  obtain ⟨a, ha, rfl⟩ := List.mem_map.mp hi
  exact intBits_mul_le (h a ha) hu
abbrev s_invert_element : Stmt := topS 22
theorem sc_invert_element : FnScope ["radicands", "one", "other", "number"] ["radicands", "one"] (defScope s_invert_element) := ⟨rfl, rfl, rfl, by decide +kernel, rfl, by decide +kernel, by decide +kernel⟩
def f_invert_element : FD := fun ds q => ∃ (m : Nat) (R : D) (L : List (List Int)) (t t' : Bool) (x : List Int) (u : Int) (r M : Nat) (ρ : Nat → Nat), ds = [R, elS t t' x u] ∧ m ≤ 6 ∧ RadD R L ∧ RadOk r L ∧ r ≤ 100 ∧ m ≤ L.length ∧ x.length = 2 ^ m ∧ WOk (rsF L) ρ m ∧ 1 ≤ M ∧ wr ρ (toT (rsF L) m x) ≤ M ∧ M ^ 2 ^ m < 2 ^ 6000 ∧ Pr (rsF L) m ∧ toT (rsF L) m x ≠ 0 ∧ intBits u ≤ 2000 ∧
  ∀ l' n', IsElL l' n' (invL (toT (rsF L) m x) u) (invT (toT (rsF L) m x)).2 → q (.val (elD l' n'))
theorem ok_invert_element {f fd} {k : Nat} (F : Fun K "invert_element" "invert_element" s_invert_element f fd) (hdg : base.NoDigits) (r_inverse_vector : Ready P w K mg base "inverse_vector" 2 k f_inverse_vector) (r_element : Ready P w K mg base "element" 2 k f_element) (r_scale_vector : Ready P w K mg base "scale_vector" 2 k f_scale_vector) : FnG P w K mg base (k + 1) f fd ["radicands", "one"] (SpD K 2 f_invert_element) := by
  refine fnD F sc_invert_element fun cdv A outer s H E gA hr => ?_
  have hu := hr.units
  have nd := sc_invert_element.nd
  refine ⟨_, (ss_cons (st_asg (r_inverse_vector.toE gA hr (da_cons (dv 0) (da_cons (de_ix x_ix (bv 1) (DE.toB de_int)) da_nil))) (tg_tup (n := 2) (tg_cons (tg_name (i := 2) nd) (tg_cons (tg_name (i := 3) nd) tg_nil))))
    (ss_one (st_ret (r_element.toE gA hr (da_cons (r_scale_vector.toE gA hr (da_cons (dv 2) (da_cons (de_ix x_ix (bv 1) (DE.toB de_int)) da_nil))) (da_cons (dv 3) da_nil)))))), ?_⟩
  clear F nd hu hr gA E H s outer A cdv hdg r_inverse_vector r_element r_scale_vector
  intro ds q hl hg
  obtain ⟨m, R, L, t, t', x, u, r, M, ρ, rfl, hm6, hR, hL, hr, hmL, hx, hw, hM, hwx, hB, hP, hx0, bu, hq⟩ := hg
  have h64 : 2 ^ m ≤ 64 := Nat.pow_le_pow_right (by decide) hm6
  obtain ⟨bi1, bi2⟩ := inv_bits2 hw hM hwx hB
  have hne := inv_ne hP hx0
  have li := ofT_length (invT (toT (rsF L) m x)).1
  show sSeq _ _ _ [some (.val R), some (.val (elS t t' x u)), none, none]
  refine sq_i fun k hk => ?_
  walk_at "rd"
  refine ⟨m, R, L, t', x, r, M, ρ, rfl, Nat.le_trans hm6 (by decide), hm6, hR, hL, hr, hmL, hx, hw, hM, hwx, hB, ?_⟩
  walk_at "rd"
  subst hk
  walk_at "rd"
  refine ⟨true, _, u, rfl, by omega, fun i hi => MulOk.of_le (bi1 i hi) bu (by decide), ?_⟩
  walk_at "rd"
  refine ⟨true, _, _, rfl, hne, by omega, by rw [List.length_map]; omega, fun l' n' h => ?_⟩
  walk_at "rd"
  exact hq l' n' h
abbrev s_divide_elements : Stmt := topS 23
theorem sc_divide_elements : FnScope ["radicands", "one", "two"] ["radicands", "one", "two"] (defScope s_divide_elements) := ⟨rfl, rfl, rfl, by decide +kernel, rfl, by decide +kernel, by decide +kernel⟩
def f_divide_elements : FD := fun ds q => ∃ (m : Nat) (R : D) (L : List (List Int)) (t t' v v' : Bool) (x y : List Int) (u w : Int) (r M : Nat) (ρ : Nat → Nat), ds = [R, elS t t' x u, elS v v' y w] ∧ m ≤ 6 ∧ RadD R L ∧ RadOk r L ∧ r ≤ 100 ∧ m ≤ L.length ∧ x.length = 2 ^ m ∧ y.length = 2 ^ m ∧ WOk (rsF L) ρ m ∧ 1 ≤ M ∧ wr ρ (toT (rsF L) m y) ≤ M ∧ M ^ 2 ^ m < 2 ^ 6000 ∧ Pr (rsF L) m ∧ toT (rsF L) m y ≠ 0 ∧ BdL 100000 x ∧ u ≠ 0 ∧ intBits u ≤ 2000 ∧ intBits w ≤ 2000 ∧
  ∀ i n', IsElL i n' (invL (toT (rsF L) m y) w) (invT (toT (rsF L) m y)).2 → ∀ l' b, IsElL l' b (ofT (toT (rsF L) m x * toT (rsF L) m i)) (u * n') → q (.val (elD l' b))
theorem ok_divide_elements {f fd} {k : Nat} (F : Fun K "divide_elements" "divide_elements" s_divide_elements f fd) (hdg : base.NoDigits) (r_multiply_elements : Ready P w K mg base "multiply_elements" 3 k f_multiply_elements) (r_invert_element : Ready P w K mg base "invert_element" 2 k f_invert_element) : FnG P w K mg base (k + 1) f fd ["radicands", "one", "two"] (SpD K 3 f_divide_elements) := by
  refine fnD F sc_divide_elements fun cdv A outer s H E gA hr => ?_
  have hu := hr.units
  have nd := sc_divide_elements.nd
  refine ⟨_, (ss_one (st_ret (r_multiply_elements.toE gA hr (da_cons (dv 0) (da_cons (dv 1) (da_cons (r_invert_element.toE gA hr (da_cons (dv 0) (da_cons (dv 2) da_nil))) da_nil)))))), ?_⟩
  clear F nd hu hr gA E H s outer A cdv hdg r_multiply_elements r_invert_element
  intro ds q hl hg
  obtain ⟨m, R, L, t, t', v, v', x, y, u, w, r, M, ρ, rfl, hm6, hR, hL, hr, hmL, hx, hy, hw, hM, hwx, hB, hP, hx0, bx, hu, bu, bw, hq⟩ := hg
  have h64 : 2 ^ m ≤ 64 := Nat.pow_le_pow_right (by decide) hm6
  obtain ⟨bi1, bi2⟩ := inv_bits2 hw hM hwx hB
  have hne := inv_ne hP hx0
  have li := ofT_length (invT (toT (rsF L) m y)).1
  have gr := gro_le hr hm6
  have gg : m * gG r m ≤ 6 * 7102 := Nat.mul_le_mul hm6 (by show gro r m + r + 2 ≤ 7102; omega)
  show sRet _ _ [some (.val R), some (.val (elS t t' x u)), some (.val (elS v v' y w))]
  walk_at "rd"
  refine ⟨m, R, L, v, v', y, w, r, M, ρ, rfl, hm6, hR, hL, hr, hmL, hy, hw, hM, hwx, hB, hP, hx0, bw, fun i n' h => ?_⟩
  have hi : i.length = 2 ^ m := h.2.1.trans (by rw [List.length_map]; exact li)
  have bi := h.bits hne (invL_bits2 bi1 bw)
  have hn0 := h.1
  have bn : intBits n' ≤ 6000 := intBits_le_iff.mpr (Nat.lt_of_le_of_lt (h.le hne).2 (intBits_le_iff.mp bi2))
  walk_at "rd"
  refine ⟨m, R, L, t, t', true, true, x, i, u, n', r, 100000, 8000, rfl, hm6, hR, hL, hmL, hx, hi, bx, bi, by omega, hu, by omega, ⟨2000, 6000, bu, bn, by decide⟩, fun l' b h' => ?_⟩
  walk_at "rd"
  exact hq i n' h l' b h'

end
end K13

namespace K13
open PySem PySem.Spec PyProof.Rows L2 DL Builtin.Int
local macro_rules | `(tactic| walk_at "rd") => `(tactic| simp -failIfUnchanged only [sSet, sSetL, sRet, sRetL, sRetO, sRetN, sNext, sBreak, sCont, sDrop, sApp, sAug, sAsg, sPar, sSetI, sPop, sSetPop, sRev, sFrz, frz1, iSeq, iRevD, iRange1, iRange2, iRangeD, rName, rTup, rTL_sq, gMulS_s, gStr1_i, rTL_t, rTL_l, rCons, rNil,
  dLst, dView, tView, lView, view, look, dVar, bVar, dC, d2, d1, l2, tBool, dNil, dCons, dTup, gI, gSubI, gMulI, gFdiv, gMod, gPow, gShl, gShr, gAnd, gXor, gLt, gLe, gGt, gGe, gAdd, gEq, gNe, isNone, gIs, gIsNot, gNeg, lCat, gLen_l, gLen_t, gLen_s, gInt, gAbs, gMax2, gMin2, gTuple_l, gTuple_t, lList_l, lList_t, gGcd, gIsqrt, dCall, lCall, dIsi, dIsi2,
  tAndD, tOrD, tNotD, tTru, truD, dAndV, dOrV, dNotV, dIf, dBits, wipeD, twoD, lComp, oNone, oSome, dSl, lSl, gSl_l, gSl_t, gSl_sq, gSq_l, gSq_t, gSq_sq, gIx_sq, gLen_sq, gTuple_sq, lList_sq, iZipD, gZip_sq, gZip_ts, gZip_st, gZip_ls, gZip_sl, gZip_tt, gZip_ll, gZip_lt, gZip_tl, dFn, lFn, valD, tYesD, eqOk_ii, eqOk_bb, eqOk_ss, eqv_int, eqv_str, eqv_bool, noLst, noLstAll, List.map_cons, List.map_nil, Option.map_some, Option.map_none,
  List.getElem?_cons_zero, List.getElem?_cons_succ, List.set_cons_zero, List.set_cons_succ, true_and, and_true, decide_eq_true_eq, decide_eq_false_iff_not, Bool.not_eq_true', Bool.not_eq_false', beq_iff_eq, beq_eq_false_iff_ne, Bool.true_eq_false, Bool.false_eq_true, false_imp_iff, true_imp_iff, forall_const, reduceCtorEq, ne_eq, not_true_eq_false, not_false_eq_true, Bool.not_true, Bool.not_false, Bool.true_and, Bool.and_true, Bool.false_and, Bool.and_false, Int.reduceToNat, Int.cast_ofNat_Int, eq_self, isTy_none_int, isTy_none_bool, isTy_none_str, isTy_none_list, isTy_none_tuple, isTy_bool_int, isTy_bool_bool, isTy_bool_str, isTy_bool_list, isTy_bool_tuple, isTy_int_int, isTy_int_bool, isTy_int_str, isTy_int_list, isTy_int_tuple, isTy_str_int, isTy_str_bool, isTy_str_str, isTy_str_list, isTy_str_tuple, isTy_list_int, isTy_list_bool, isTy_list_str, isTy_list_list, isTy_list_tuple, isTy_tuple_int, isTy_tuple_bool, isTy_tuple_str, isTy_tuple_list, isTy_tuple_tuple, List.length_cons, List.length_nil, Nat.reduceAdd, Nat.zero_add, ix2_0, ix2_1,
  gIx_l0, gIx_t0, gIx_l1, gIx_t1, gIx_l2, gIx_t2, gIx_l3, gIx_t3, gIx_l4, gIx_t4, gIx_l5, gIx_t5, gIx_l6, gIx_t6, gIx_l7, gIx_t7, gIx_l8, gIx_t8, gIx_l9, gIx_t9, gIx_l10, gIx_t10, gIx_l11, gIx_t11, gIx_l12, gIx_t12, gIx_l13, gIx_t13, gIx_l14, gIx_t14, gIx_l15, gIx_t15])
section
variable {P : Program} {w : World} {K : Frag} {mg : Str → Option Value} {base : Heap}
open TV
structure TwN (rs : Nat → Nat → Int) (ρ b e iv : Nat → Nat) (n : Nat) : Prop where
  tw : Tw rs ρ b e iv n
  eb : ∀ k, k ≤ n → e k ≤ 900 ∧ b k ≤ 3000
  rb : ∀ k, k < n → (ρ k * ρ k) ^ 2 ^ k < 2 ^ 5000
theorem TwN.low {rs : Nat → Nat → Int} {ρ b e iv : Nat → Nat} {n m : Nat} (h : TwN rs ρ b e iv n) (hm : m ≤ n) : TwN rs ρ b e iv m :=
  ⟨h.tw.low hm, fun k hk => h.eb k (by omega), fun k hk => h.rb k (by omega)⟩
theorem IsElL.lowT {l l0 : List Int} {u b : Int} {m : Nat} (h : IsElL l u l0 b) (hl : l.length = 2 ^ m) (L : Nat → Nat → Int) : Low (toT L m l) u := fun k h1 h2 => h.2.2.2 k h1 fun i => by
  by_cases c : i < 2 ^ m
  · have := h2 i c
    unfold toT at this
    rwa [cf_Tf c] at this
  · have : fn l i = 0 := by simp [fn]; rw [List.getElem?_eq_none (by omega)]; rfl
    rw [this]
    exact ⟨0, by simp⟩
open PySem PySem.Builtin.Int PyProof PyProof.Rows L2 in
theorem TwN.denB {rs : Nat → Nat → Int} {ρ b e iv : Nat → Nat} {n : Nat} (h : TwN rs ρ b e iv n) {x z : T rs n} {d : Int} (hr : IsRt x z d) (hl : Low z d) : intBits d ≤ 901 := by
  have d0 := hr.1
  have d1 := rt_den h.tw hr hl
  have d2 := (h.eb n (Nat.le_refl _)).1
  have d3 : (2 : Int) ^ e n = ((2 ^ e n : Nat) : Int) := by simp
  rw [d3] at d1
  have d4 : d.natAbs ≤ 2 ^ e n := by omega
  exact intBits_le_iff.mpr (Nat.lt_of_le_of_lt d4 (Nat.pow_lt_pow_right (by decide) (by omega)))
/-- the same root, with another top and bottom -/
theorem IsRt.same {rs : Nat → Nat → Int} {n : Nat} (hd : Dom rs n) {x z z' : T rs n} {d d' : Int} (h1 : 1 ≤ d') (h : IsRt x z d) (he : wh rs n d * z' = wh rs n d' * z) : IsRt x z' d' ∧ sT z' = sT z := by
  have d0 := h.1
  refine ⟨⟨h1, wh_cancel' hd (c := d * d) (Int.mul_ne_zero (by omega) (by omega)) ?_⟩, ?_⟩
  · have h2 := h.2
    rw [wh_mm] at h2
    rw [wh_mm d, wh_mm d']
    generalize wh rs n d = D at *
    generalize wh rs n d' = D' at *
    have s1 : D * D * (z' * z') = (D * z') * (D * z') := by grind
    rw [s1, he]
    have s2 : D' * z * (D' * z) = D' * D' * (z * z) := by grind
    rw [s2, h2]
    grind
  · have := congrArg sT he
    rwa [sT_wh (by omega), sT_wh (by omega)] at this
theorem fine_wr {rs : Nat → Nat → Int} {ρ : Nat → Nat} : ∀ {n : Nat} {x : T rs n}, Fine ρ n x → wr ρ x < 2 ^ 60000
  | 0, x, h => Nat.lt_trans h (Nat.pow_lt_pow_right (by decide) (by decide))
  | n + 1, x, h => h.1
theorem bot_bits {l' l : List Int} {u b : Int} {n : Nat} (h : IsElL l' u l b) (hb : b ≠ 0) (bb : intBits b ≤ n) : intBits u ≤ n := intBits_le_iff.mpr (Nat.lt_of_le_of_lt (h.le hb).2 (intBits_le_iff.mp bb))
theorem plusL_fn {s : Int} {x y : List Int} {u w : Int} {j : Nat} (h : j < x.length) : fn (plusL s x y u w) j = fn x j * w + s * fn y j * u := by
  simp [plusL, fn, h]
theorem toT_plusL {L : Nat → Nat → Int} {m : Nat} {s : Int} {x y : List Int} {u w : Int} (h : x.length = 2 ^ m) : toT L m (plusL s x y u w) = wh L m w * toT L m x + wh L m (s * u) * toT L m y := by
  unfold toT
  rw [← wh_mul, ← wh_mul, ← Tf_add]
  refine Tf_congr fun j hj => ?_
  rw [plusL_fn (by omega)]
  grind
theorem plusL_bd {s : Int} {x y : List Int} {u w : Int} {p c : Nat} (hs : s = 1 ∨ s = -1) (hx : BdL p x) (hy : BdL p y) (hu : intBits u ≤ c) (hw : intBits w ≤ c) : BdL (p + c + 1) (plusL s x y u w) := fun i hi => by
  unfold plusL at hi
  obtain ⟨k, _, rfl⟩ := List.mem_map.mp hi
  have h1 := intBits_mul_le (hx.fn k) hw
  have h2 := intBits_mul_le (hy.fn k) hu
  have h3 : intBits (s * fn y k * u) ≤ p + c := by
    rcases hs with rfl | rfl
    · rw [Int.one_mul]; exact h2
    · rw [show (-1 : Int) * fn y k * u = -(fn y k * u) by grind]; exact intBits_neg_le h2
  have := intBits_add_le h1 h3
  omega
/-- what a search for a root promises -/
def Rts {L : Nat → Nat → Int} {m : Nat} (x : T L m) (q : DV → Prop) : Prop := (¬Sq x → q (.val .none)) ∧ ∀ (l : List Int) (u : Int), l.length = 2 ^ m → IsRt x (toT L m l) u → 0 ≤ sT (toT L m l) → IsElL l u l u → q (.val (elD l u))
theorem sqB_not {L : Nat → Nat → Int} {l : List Int} (h : fn l 0 < 0 ∨ ¬ (Float64.isqrt (fn l 0).toNat : Int) * (Float64.isqrt (fn l 0).toNat : Int) = fn l 0) : ¬Sq (toT L 0 l) := fun ⟨z, d, h1, h2⟩ => by
  have key : ∀ z n : Int, z * z = d * d * n → ∃ y : Nat, n = (y * y : Nat) := fun z n e => int_sq (y := d) (x := z) (by rw [e]; exact Int.mul_comm _ _) (by omega)
  obtain ⟨y, hy⟩ := key (cf z 0) (fn l 0) (congrArg (fun t => cf t 0) h2)
  rcases h with c | c
  · omega
  · refine c ?_
    have h3 : IsRoot (y * y) y := ⟨Nat.le_refl _, by rw [Nat.add_mul, Nat.mul_add]; omega⟩
    have h4 := (isqrt_root (y * y)).uniq h3
    rw [hy, Int.toNat_natCast, h4]
    simp
theorem toT_mapR {L : Nat → Nat → Int} {m : Nat} {l : List Int} {w : Int} : toT L m (l.map fun a => a * w) = wh L m w * toT L m l := by
  unfold toT
  rw [← wh_mul]
  refine Tf_congr fun j _ => ?_
  simp only [fn, List.getD_eq_getElem?_getD, List.getElem?_map]
  cases l[j]? with
  | none => simp
  | some a => simp; exact Int.mul_comm _ _
theorem toT_app {L : Nat → Nat → Int} {m : Nat} {x y : List Int} (h : x.length = 2 ^ m) : toT L (m + 1) (x ++ y) = mk (toT L m x) (toT L m y) := by
  rw [toT_succ, List.take_left' h, List.drop_left' h]
theorem toT_zeros {L : Nat → Nat → Int} {m k : Nat} : toT L m (List.replicate k 0) = 0 := toT_zero L m (by simp)
abbrev s_square_root : Stmt := topS 13
theorem sc_square_root : FnScope ["number", "root"] ["number"] (defScope s_square_root) := ⟨rfl, rfl, rfl, by decide +kernel, rfl, by decide +kernel, by decide +kernel⟩
def f_square_root : FD := fun ds q => ∃ n : Int, ds = [.int n] ∧ intBits n ≤ 12900 ∧ q (.val (rootD n))
theorem ok_square_root {f fd} {k : Nat} (F : Fun K "square_root" "square_root" s_square_root f fd) (hdg : base.NoDigits) (m_isqrt : mg "isqrt" = some (.builtin "math.isqrt")) : FnG P w K mg base (k + 1) f fd ["number"] (SpD K 1 f_square_root) := by
  refine fnD F sc_square_root fun cdv A outer s H E gA hr => ?_
  have hu := hr.units
  have nd := sc_square_root.nd
  refine ⟨_, (ss_cons (st_if (dt_cmp o_lt (bv 0) (DE.toB de_int)) (ss_one (st_ret de_non)) ss_nil)
    (ss_cons (st_set (i := 1) nd (de_M c_isqrt m_isqrt (ab_cons (bv 0) ab_nil)))
    (ss_cons (st_if (dt_cmp (o_eq hu) (DE.toB (de_op o_mul (bv 1) (bv 1))) (bv 0)) (ss_one (st_ret (dv 1))) ss_nil)
    (ss_one (st_ret de_non))))), ?_⟩
  clear F nd hu hr gA E H s outer A cdv hdg m_isqrt
  intro ds q hl hg
  obtain ⟨n, rfl, hn, hq⟩ := hg
  show sSeq _ _ _ [some (.val (.int n)), none]
  refine sq_i fun k hk => if_n fun T hT => ?_
  walk_at "rd"
  refine ⟨fun h => ?_, fun h => ?_⟩
  · subst hT
    walk_at "rd"
    simpa [rootD, h] using hq
  · subst hk
    refine sq_i fun k hk => ?_
    walk_at "rd"
    have hb := toNat_lt hn
    refine ⟨by omega, Nat.lt_trans (log2_lt_of hb (by decide)) (by decide), ?_⟩
    subst hk
    have hr := root_le (isqrt_root n.toNat)
    have hm : MulOk (Float64.isqrt n.toNat : Nat) (Float64.isqrt n.toNat : Nat) := MulOk.of_le (bits_nat (Nat.lt_of_le_of_lt hr hb)) (bits_nat (Nat.lt_of_le_of_lt hr hb)) (by decide)
    refine sq_i fun k hk => if_n fun T hT => ?_
    walk_at "rd"
    refine ⟨hm, fun h2 => ?_, fun h2 => ?_⟩
    · subst hT
      walk_at "rd"
      simpa [rootD, h, h2] using hq
    · subst hk
      walk_at "rd"
      simpa [rootD, h, h2] using hq
abbrev s_lift_element : Stmt := topS 17
theorem sc_lift_element : FnScope ["one", "size"] ["one", "size"] (defScope s_lift_element) := ⟨rfl, rfl, rfl, by decide +kernel, rfl, by decide +kernel, by decide +kernel⟩
def f_lift_element : FD := fun ds q => ∃ (t t' : Bool) (x : List Int) (u : Int) (n : Nat), ds = [elS t t' x u, .int n] ∧ x.length ≤ n ∧ n ≤ 64 ∧ q (.val (elD (x ++ List.replicate (n - x.length) 0) u))
theorem ok_lift_element {f fd} {k : Nat} (F : Fun K "lift_element" "lift_element" s_lift_element f fd) (hdg : base.NoDigits) (m_len : mg "len" = none) (m_tuple : mg "tuple" = none) (r_zeros : Ready P w K mg base "zeros" 1 k f_zeros) : FnG P w K mg base (k + 1) f fd ["one", "size"] (SpD K 2 f_lift_element) := by
  refine fnD F sc_lift_element fun cdv A outer s H E gA hr => ?_
  have hu := hr.units
  have nd := sc_lift_element.nd
  refine ⟨_, (ss_one (st_ret (de_tup (da_cons (de_op o_add (DE.toB (de_T c_tuple m_tuple (ab_cons (DE.toB (de_ix x_ix (bv 0) (DE.toB de_int))) ab_nil))) (DE.toB (r_zeros.toE gA hr (da_cons (de_op o_sub (bv 1) (DE.toB (de_B c_len m_len (ab_cons (DE.toB (de_ix x_ix (bv 0) (DE.toB de_int))) ab_nil)))) da_nil)))) (da_cons (de_ix x_ix (bv 0) (DE.toB de_int)) da_nil))))), ?_⟩
  clear F nd hu hr gA E H s outer A cdv hdg m_len m_tuple r_zeros
  intro ds q hl hg
  obtain ⟨t, t', x, u, n, rfl, hx, hn, hq⟩ := hg
  show sRet _ _ [some (.val (elS t t' x u)), some (.val (.int n))]
  walk_at "rd"
  rw [List.length_map]
  have e : (n : Int) - (x.length : Int) = ((n - x.length : Nat) : Int) := by omega
  rw [e]
  refine ⟨n - x.length, rfl, by omega, ?_⟩
  walk_at "rd"
  refine ⟨fit_len (by simp; omega), ?_⟩
  have e2 : inD x ++ inD (List.replicate (n - x.length) 0) = inD (x ++ List.replicate (n - x.length) 0) := by unfold inD; rw [List.map_append]
  rw [e2]
  exact hq
abbrev s_join_halves : Stmt := topS 24
theorem sc_join_halves : FnScope ["low", "high", "bottom"] ["low", "high"] (defScope s_join_halves) := ⟨rfl, rfl, rfl, by decide +kernel, rfl, by decide +kernel, by decide +kernel⟩
def f_join_halves : FD := fun ds q => ∃ (t t' v v' : Bool) (x y : List Int) (u w : Int), ds = [elS t t' x u, elS v v' y w] ∧ x.length ≤ 64 ∧ y.length ≤ 64 ∧ u ≠ 0 ∧ w ≠ 0 ∧ BdL 100000 x ∧ BdL 100000 y ∧ intBits u ≤ 2000 ∧ intBits w ≤ 6000 ∧ ∀ l' b, IsElL l' b ((x.map fun a => a * w) ++ y.map fun a => a * u) (u * w) → q (.val (elD l' b))
theorem ok_join_halves {f fd} {k : Nat} (F : Fun K "join_halves" "join_halves" s_join_halves f fd) (hdg : base.NoDigits) (r_element : Ready P w K mg base "element" 2 k f_element) (r_scale_vector : Ready P w K mg base "scale_vector" 2 k f_scale_vector) : FnG P w K mg base (k + 1) f fd ["low", "high"] (SpD K 2 f_join_halves) := by
  refine fnD F sc_join_halves fun cdv A outer s H E gA hr => ?_
  have hu := hr.units
  have nd := sc_join_halves.nd
  refine ⟨_, (ss_cons (st_set (i := 2) nd (de_op o_mul (DE.toB (de_ix x_ix (bv 0) (DE.toB de_int))) (DE.toB (de_ix x_ix (bv 1) (DE.toB de_int)))))
    (ss_one (st_ret (r_element.toE gA hr (da_cons (de_op o_add (DE.toB (r_scale_vector.toE gA hr (da_cons (de_ix x_ix (bv 0) (DE.toB de_int)) (da_cons (de_ix x_ix (bv 1) (DE.toB de_int)) da_nil)))) (DE.toB (r_scale_vector.toE gA hr (da_cons (de_ix x_ix (bv 1) (DE.toB de_int)) (da_cons (de_ix x_ix (bv 0) (DE.toB de_int)) da_nil))))) (da_cons (dv 2) da_nil)))))), ?_⟩
  clear F nd hu hr gA E H s outer A cdv hdg r_element r_scale_vector
  intro ds q hl hg
  obtain ⟨t, t', v, v', x, y, u, w, rfl, hx, hy, hu, hw, bx, by', bu, bw, hq⟩ := hg
  show sSeq _ _ _ [some (.val (elS t t' x u)), some (.val (elS v v' y w)), none]
  refine sq_i fun k hk => ?_
  walk_at "rd"
  refine ⟨MulOk.of_le bu bw (by decide), ?_⟩
  subst hk
  walk_at "rd"
  refine ⟨_, x, w, rfl, by omega, fun i hi => MulOk.of_le (bx i hi) bw (by decide), ?_⟩
  walk_at "rd"
  refine ⟨_, y, u, rfl, by omega, fun i hi => MulOk.of_le (by' i hi) bu (by decide), ?_⟩
  walk_at "rd"
  have e2 : inD (x.map fun a => a * w) ++ inD (y.map fun a => a * u) = inD ((x.map fun a => a * w) ++ y.map fun a => a * u) := by unfold inD; rw [List.map_append]
  rw [e2, sqD_t]
  refine ⟨fit_len (by simp; omega), true, _, _, rfl, Int.mul_ne_zero hu hw, Nat.le_trans (intBits_mul_le bu bw) (by decide), by simp; omega, fun l' b h => ?_⟩
  walk_at "rd"
  exact hq l' b h
end
end K13

namespace K13
open PySem PySem.Spec PyProof.Rows L2 DL Builtin.Int
local macro_rules | `(tactic| walk_at "rd") => `(tactic| simp -failIfUnchanged only [sSet, sSetL, sRet, sRetL, sRetO, sRetN, sNext, sBreak, sCont, sDrop, sApp, sAug, sAsg, sPar, sSetI, sPop, sSetPop, sRev, sFrz, frz1, iSeq, iRevD, iRange1, iRange2, iRangeD, rName, rTup, rTL_sq, gMulS_s, gStr1_i, rTL_t, rTL_l, rCons, rNil,
  dLst, dView, tView, lView, view, look, dVar, bVar, dC, d2, d1, l2, tBool, dNil, dCons, dTup, gI, gSubI, gMulI, gFdiv, gMod, gPow, gShl, gShr, gAnd, gXor, gLt, gLe, gGt, gGe, gAdd, gEq, gNe, isNone, gIs, gIsNot, gNeg, lCat, gLen_l, gLen_t, gLen_s, gInt, gAbs, gMax2, gMin2, gTuple_l, gTuple_t, lList_l, lList_t, gGcd, gIsqrt, dCall, lCall, dIsi, dIsi2,
  tAndD, tOrD, tNotD, tTru, truD, dAndV, dOrV, dNotV, dIf, dBits, wipeD, twoD, lComp, oNone, oSome, dSl, lSl, gSl_l, gSl_t, gSl_sq, gSq_l, gSq_t, gSq_sq, gIx_sq, gLen_sq, gTuple_sq, lList_sq, iZipD, gZip_sq, gZip_ts, gZip_st, gZip_ls, gZip_sl, gZip_tt, gZip_ll, gZip_lt, gZip_tl, dFn, lFn, valD, tYesD, eqOk_ii, eqOk_bb, eqOk_ss, eqv_int, eqv_str, eqv_bool, noLst, noLstAll, List.map_cons, List.map_nil, Option.map_some, Option.map_none,
  List.getElem?_cons_zero, List.getElem?_cons_succ, List.set_cons_zero, List.set_cons_succ, true_and, and_true, decide_eq_true_eq, decide_eq_false_iff_not, Bool.not_eq_true', Bool.not_eq_false', beq_iff_eq, beq_eq_false_iff_ne, Bool.true_eq_false, Bool.false_eq_true, false_imp_iff, true_imp_iff, forall_const, reduceCtorEq, ne_eq, not_true_eq_false, not_false_eq_true, Bool.not_true, Bool.not_false, Bool.true_and, Bool.and_true, Bool.false_and, Bool.and_false, Int.reduceToNat, Int.cast_ofNat_Int, eq_self, isTy_none_int, isTy_none_bool, isTy_none_str, isTy_none_list, isTy_none_tuple, isTy_bool_int, isTy_bool_bool, isTy_bool_str, isTy_bool_list, isTy_bool_tuple, isTy_int_int, isTy_int_bool, isTy_int_str, isTy_int_list, isTy_int_tuple, isTy_str_int, isTy_str_bool, isTy_str_str, isTy_str_list, isTy_str_tuple, isTy_list_int, isTy_list_bool, isTy_list_str, isTy_list_list, isTy_list_tuple, isTy_tuple_int, isTy_tuple_bool, isTy_tuple_str, isTy_tuple_list, isTy_tuple_tuple, List.length_cons, List.length_nil, Nat.reduceAdd, Nat.zero_add, ix2_0, ix2_1,
  gIx_l0, gIx_t0, gIx_l1, gIx_t1, gIx_l2, gIx_t2, gIx_l3, gIx_t3, gIx_l4, gIx_t4, gIx_l5, gIx_t5, gIx_l6, gIx_t6, gIx_l7, gIx_t7, gIx_l8, gIx_t8, gIx_l9, gIx_t9, gIx_l10, gIx_t10, gIx_l11, gIx_t11, gIx_l12, gIx_t12, gIx_l13, gIx_t13, gIx_l14, gIx_t14, gIx_l15, gIx_t15])
section
variable {P : Program} {w : World} {K : Frag} {mg : Str → Option Value} {base : Heap}
open TV
abbrev s_root_of_vector : Stmt := topS 26
theorem sc_root_of_vector : FnScope ["radicands", "vector", "half", "low", "high", "root"] ["radicands", "vector"] (defScope s_root_of_vector) := ⟨rfl, rfl, rfl, by decide +kernel, rfl, by decide +kernel, by decide +kernel⟩
def f_root_of_vector_ : Nat → FD
  | 0 => fun _ _ => False
  | n + 1 => fun ds q => ∃ (m : Nat) (R : D) (L : List (List Int)) (t : Bool) (l : List Int) (r : Nat) (ρ b e iv : Nat → Nat), ds = [R, sqD t (inD l)] ∧ 3 * m ≤ n ∧ m ≤ 6 ∧ RadD R L ∧ RadOk r L ∧ r ≤ 100 ∧ m ≤ L.length ∧ l.length = 2 ^ m ∧
    TwN (rsF L) ρ b e iv m ∧ Fine ρ m (toT (rsF L) m l) ∧ Rts (toT (rsF L) m l) q
abbrev f_root_of_vector : FD := f_root_of_vector_ 24
def f_flat_root_ : Nat → FD
  | 0 => fun _ _ => False
  | n + 1 => fun ds q => ∃ (m : Nat) (R : D) (L : List (List Int)) (t : Bool) (l : List Int) (r : Nat) (ρ b e iv : Nat → Nat), ds = [R, sqD t (inD l)] ∧ 3 * m + 2 ≤ n ∧ m + 1 ≤ 6 ∧ RadD R L ∧ RadOk r L ∧ r ≤ 100 ∧ m < L.length ∧ l.length = 2 ^ m ∧
    TwN (rsF L) ρ b e iv (m + 1) ∧ wr ρ (toT (rsF L) m l) < 2 ^ 60000 ∧ Fine ρ m (toT (rsF L) m l) ∧ (¬Sq (toT (rsF L) m l) → Fine ρ m (otherQ (toT (rsF L) m l))) ∧ Rts (mk (toT (rsF L) m l) 0 : T (rsF L) (m + 1)) q
abbrev f_flat_root : FD := f_flat_root_ 24
def f_steep_root_ : Nat → FD
  | 0 => fun _ _ => False
  | n + 1 => fun ds q => ∃ (m : Nat) (R : D) (L : List (List Int)) (l h : List Int) (r : Nat) (ρ b e iv : Nat → Nat), ds = [R, .tuple (inD l), .tuple (inD h)] ∧ 3 * m + 2 ≤ n ∧ m + 1 ≤ 6 ∧ RadD R L ∧ RadOk r L ∧ r ≤ 100 ∧ m < L.length ∧ l.length = 2 ^ m ∧ h.length = 2 ^ m ∧
    TwN (rsF L) ρ b e iv (m + 1) ∧ toT (rsF L) m h ≠ 0 ∧ Fine ρ (m + 1) (mk (toT (rsF L) m l) (toT (rsF L) m h)) ∧ Rts (mk (toT (rsF L) m l) (toT (rsF L) m h) : T (rsF L) (m + 1)) q
abbrev f_steep_root : FD := f_steep_root_ 24
def f_root_of_element_ : Nat → FD
  | 0 => fun _ _ => False
  | n + 1 => fun ds q => ∃ (m : Nat) (R : D) (L : List (List Int)) (t t' : Bool) (l : List Int) (c : Int) (r : Nat) (ρ b e iv : Nat → Nat), ds = [R, elS t t' l c] ∧ 3 * m + 1 ≤ n ∧ m ≤ 6 ∧ RadD R L ∧ RadOk r L ∧ r ≤ 100 ∧ m ≤ L.length ∧ l.length = 2 ^ m ∧
    TwN (rsF L) ρ b e iv m ∧ 1 ≤ c ∧ intBits c ≤ 1000 ∧ BdL 70000 l ∧ Fine ρ m (wh (rsF L) m c * toT (rsF L) m l) ∧ (¬Sq (wh (rsF L) m c * toT (rsF L) m l) → q (.val .none)) ∧
    ∀ (l' : List Int) (u : Int), l'.length = 2 ^ m → 1 ≤ u → wh (rsF L) m c * (toT (rsF L) m l' * toT (rsF L) m l') = wh (rsF L) m (u * u) * toT (rsF L) m l → 0 ≤ sT (toT (rsF L) m l') → IsElL l' u l' u → q (.val (elD l' u))
abbrev f_root_of_element : FD := f_root_of_element_ 24
theorem ok_root_of_vector {f fd} {k n : Nat} (F : Fun K "root_of_vector" "root_of_vector" s_root_of_vector f fd) (hdg : base.NoDigits) (m_len : mg "len" = none) (m_tuple : mg "tuple" = none) (r_square_root : Ready P w K mg base "square_root" 1 k f_square_root) (r_is_zero : Ready P w K mg base "is_zero" 1 k f_is_zero) (r_flat_root : Ready P w K mg base "flat_root" 2 k (f_flat_root_ n)) (r_steep_root : Ready P w K mg base "steep_root" 3 k (f_steep_root_ n)) : FnG P w K mg base (k + 1) f fd ["radicands", "vector"] (SpD K 2 (f_root_of_vector_ (n + 1))) := by
  refine fnD F sc_root_of_vector fun cdv A outer s H E gA hr => ?_
  have hu := hr.units
  have nd := sc_root_of_vector.nd
  refine ⟨_, (ss_cons (st_if (dt_cmp (o_eq hu) (DE.toB (de_B c_len m_len (ab_cons (bv 1) ab_nil))) (DE.toB de_int)) (ss_cons (st_set (i := 5) nd (r_square_root.toE gA hr (da_cons (de_ix x_ix (bv 1) (DE.toB de_int)) da_nil)))
    (ss_cons (st_if (dt_cmp o_is (bv 5) (DE.toB de_non)) (ss_one (st_ret de_non)) ss_nil)
    (ss_one (st_ret (de_tup (da_cons (de_tup (da_cons (dv 5) da_nil)) (da_cons de_int da_nil))))))) ss_nil)
    (ss_cons (st_set (i := 2) nd (de_op o_fdiv (DE.toB (de_B c_len m_len (ab_cons (bv 1) ab_nil))) (DE.toB de_int)))
    (ss_cons (st_par (i := 3) (j := 4) nd (de_T c_tuple m_tuple (ab_cons (DE.toB (de_sl (bv 1) do_none (do_some (dv 2)))) ab_nil)) (de_T c_tuple m_tuple (ab_cons (DE.toB (de_sl (bv 1) (do_some (dv 2)) do_none)) ab_nil)))
    (ss_cons (st_if (dt_val (r_is_zero.toE gA hr (da_cons (dv 4) da_nil))) (ss_one (st_ret (r_flat_root.toE gA hr (da_cons (dv 0) (da_cons (dv 3) da_nil))))) ss_nil)
    (ss_one (st_ret (r_steep_root.toE gA hr (da_cons (dv 0) (da_cons (dv 3) (da_cons (dv 4) da_nil)))))))))), ?_⟩
  clear F nd hu hr gA E H s outer A cdv hdg m_len m_tuple r_square_root r_is_zero r_flat_root r_steep_root
  intro ds q hl hg
  obtain ⟨m, R, L, t, l, r, ρ, b, e, iv, rfl, hmn, hm6, hR, hL, hr, hmL, hl, hT, hF, hq⟩ := hg
  have h64 : 2 ^ m ≤ 64 := Nat.pow_le_pow_right (by decide) hm6
  show sSeq _ _ _ [some (.val R), some (.val (sqD t (inD l))), none, none, none, none]
  refine sq_i fun k hk => if_n fun T hT0 => ?_
  walk_at "rd"
  rw [List.length_map, hl]
  refine ⟨fun h => ?_, fun h => ?_⟩
  · subst hT0
    obtain rfl : m = 0 := by
      cases m with
      | zero => rfl
      | succ m =>
        have := Nat.two_pow_pos m
        rw [Nat.pow_succ] at h
        omega
    have hF' : (fn l 0).natAbs < 2 ^ 12900 := hF
    refine sq_i fun k hk => ?_
    walk_at "rd"
    refine ix_ints (j := 0) rfl (by omega) ?_
    walk_at "rd"
    refine ⟨_, rfl, intBits_le_iff.mpr hF', ?_⟩
    unfold rootD
    walk_at "rd"
    subst hk
    by_cases c : fn l 0 < 0
    · rw [if_pos c]
      refine sq_i fun k hk => if_n fun T hT => ?_
      walk_at "rd"
      subst hT
      walk_at "rd"
      exact hq.1 (sqB_not (.inl c))
    · rw [if_neg c]
      by_cases c2 : (Float64.isqrt (fn l 0).toNat : Int) * (Float64.isqrt (fn l 0).toNat : Int) = fn l 0
      · rw [if_pos c2]
        refine sq_i fun k hk => if_n fun T hT => ?_
        walk_at "rd"
        clear hT T
        subst hk
        walk_at "rd"
        generalize hs : Float64.isqrt (fn l 0).toNat = s at c2 ⊢
        have e0 : cf (toT (rsF L) 0 [(s : Int)]) 0 = s := rfl
        refine hq.2 [(s : Int)] 1 rfl ⟨by decide, ?_⟩ ?_ (IsElL.self (by decide) fun d h1 _ => Nat.dvd_one.mp h1)
        · have : ∀ a n : Int, a * a = n → a * a = 1 * 1 * n := fun a n h => by omega
          exact this s (fn l 0) c2
        · show 0 ≤ (if (s : Int) = 0 then 0 else (s : Int).sign)
          split
          · exact Int.le_refl _
          · rename_i c3
            rw [Int.sign_eq_one_of_pos (by omega)]
            decide
      · rw [if_neg c2]
        refine sq_i fun k hk => if_n fun T hT => ?_
        walk_at "rd"
        subst hT
        walk_at "rd"
        exact hq.1 (sqB_not (.inr c2))
  clear hT0 T
  subst hk
  obtain ⟨m, rfl⟩ : ∃ i, m = i + 1 := by
    cases m with
    | zero => exact absurd rfl h
    | succ m => exact ⟨m, rfl⟩
  obtain ⟨n, rfl⟩ : ∃ i, n = i + 1 := ⟨n - 1, by omega⟩
  have e3 := two_pow_succ' m
  have e2 : ((2 ^ (m + 1) : Nat) : Int).fdiv 2 = ((2 ^ m : Nat) : Int) := by
    rw [Int.fdiv_eq_ediv_of_nonneg _ (by decide), Nat.pow_succ]
    omega
  refine sq_i fun k hk => ?_
  walk_at "rd"
  rw [List.length_map, hl, e2]
  refine ⟨div_small (by decide) (by decide), ?_⟩
  subst hk
  refine sq_i fun k hk => ?_
  walk_at "rd"
  rw [cut_low (by simp; omega), cut_high (by simp; omega), ← List.map_take, ← List.map_drop]
  walk_at "rd"
  subst hk
  have lx1 : (l.take (2 ^ m)).length = 2 ^ m := by simp; omega
  have lx2 : (l.drop (2 ^ m)).length = 2 ^ m := by simp; omega
  obtain ⟨F1, F2, F3⟩ := hF
  rw [hi_toT] at F2 F3
  rw [lo_toT] at F2
  rw [toT_succ] at F1 F3 hq
  refine sq_i fun k hk => if_n fun T hT0 => ?_
  walk_at "rd"
  refine ⟨true, _, rfl, ?_⟩
  walk_at "rd"
  refine ⟨fun hz => ?_, fun hz => ?_⟩
  · subst hT0
    have hz' := (zero_iff (L := rsF L) lx2).mp (by simpa using hz)
    obtain ⟨G1, G2⟩ := F2 hz'
    rw [hz'] at hq
    walk_at "rd"
    refine ⟨m, R, L, true, _, r, ρ, b, e, iv, rfl, by omega, by omega, hR, hL, hr, by omega, lx1, hT, Nat.lt_of_le_of_lt (wr_lo (mk _ _)) F1, G1, G2, hq.1, fun l' u h1 h2 h3 h4 => ?_⟩
    walk_at "rd"
    exact hq.2 l' u h1 h2 h3 h4
  · clear hT0 T
    subst hk
    have hz' : toT (rsF L) m (l.drop (2 ^ m)) ≠ 0 := fun c => by
      have := (zero_iff (L := rsF L) lx2).mpr c
      rw [this] at hz
      cases hz
    have hF' : Fine ρ (m + 1) (mk (toT (rsF L) m (l.take (2 ^ m))) (toT (rsF L) m (l.drop (2 ^ m))) : T (rsF L) (m + 1)) := ⟨F1, fun c => absurd c hz', F3⟩
    walk_at "rd"
    refine ⟨m, R, L, _, _, r, ρ, b, e, iv, rfl, by omega, by omega, hR, hL, hr, by omega, lx1, lx2, hT, hz', hF', hq.1, fun l' u h1 h2 h3 h4 => ?_⟩
    walk_at "rd"
    exact hq.2 l' u h1 h2 h3 h4
abbrev s_flat_root : Stmt := topS 27
theorem sc_flat_root : FnScope ["radicands", "low", "half", "root", "other", "number"] ["radicands", "low"] (defScope s_flat_root) := ⟨rfl, rfl, rfl, by decide +kernel, rfl, by decide +kernel, by decide +kernel⟩
theorem ok_flat_root {f fd} {k n : Nat} (F : Fun K "flat_root" "flat_root" s_flat_root f fd) (hdg : base.NoDigits) (m_abs : mg "abs" = none) (m_len : mg "len" = none) (r_root_of_vector : Ready P w K mg base "root_of_vector" 2 k (f_root_of_vector_ n)) (r_lift_element : Ready P w K mg base "lift_element" 2 k f_lift_element) (r_inverse_vector : Ready P w K mg base "inverse_vector" 2 k f_inverse_vector) (r_top_letter : Ready P w K mg base "top_letter" 1 k f_top_letter) (r_scale_vector : Ready P w K mg base "scale_vector" 2 k f_scale_vector) (r_multiply_vectors : Ready P w K mg base "multiply_vectors" 3 k f_multiply_vectors) (r_element : Ready P w K mg base "element" 2 k f_element) (r_zeros : Ready P w K mg base "zeros" 1 k f_zeros) : FnG P w K mg base (k + 1) f fd ["radicands", "low"] (SpD K 2 (f_flat_root_ (n + 1))) := by
  refine fnD F sc_flat_root fun cdv A outer s H E gA hr => ?_
  have hu := hr.units
  have nd := sc_flat_root.nd
  refine ⟨_, (ss_cons (st_set (i := 2) nd (de_B c_len m_len (ab_cons (bv 1) ab_nil)))
    (ss_cons (st_set (i := 3) nd (r_root_of_vector.toE gA hr (da_cons (dv 0) (da_cons (dv 1) da_nil))))
    (ss_cons (st_if (dt_cmp o_isNot (bv 3) (DE.toB de_non)) (ss_one (st_ret (r_lift_element.toE gA hr (da_cons (dv 3) (da_cons (de_op o_mul (DE.toB de_int) (bv 2)) da_nil))))) ss_nil)
    (ss_cons (st_asg (r_inverse_vector.toE gA hr (da_cons (dv 0) (da_cons (de_ix x_ix (bv 0) (DE.toB (r_top_letter.toE gA hr (da_cons (dv 2) da_nil)))) da_nil))) (tg_tup (n := 2) (tg_cons (tg_name (i := 4) nd) (tg_cons (tg_name (i := 5) nd) tg_nil))))
    (ss_cons (st_set (i := 3) nd (r_root_of_vector.toE gA hr (da_cons (dv 0) (da_cons (r_scale_vector.toE gA hr (da_cons (r_multiply_vectors.toE gA hr (da_cons (dv 0) (da_cons (dv 1) (da_cons (dv 4) da_nil)))) (da_cons (dv 5) da_nil))) da_nil))))
    (ss_cons (st_if (dt_cmp o_is (bv 3) (DE.toB de_non)) (ss_one (st_ret de_non)) ss_nil)
    (ss_one (st_ret (r_element.toE gA hr (da_cons (de_op o_add (DE.toB (r_zeros.toE gA hr (da_cons (dv 2) da_nil))) (DE.toB (de_ix x_ix (bv 3) (DE.toB de_int)))) (da_cons (de_op o_mul (DE.toB (de_ix x_ix (bv 3) (DE.toB de_int))) (DE.toB (de_B c_abs m_abs (ab_cons (bv 5) ab_nil)))) da_nil))))))))))), ?_⟩
  clear F nd hu hr gA E H s outer A cdv hdg m_abs m_len r_root_of_vector r_lift_element r_inverse_vector r_top_letter r_scale_vector r_multiply_vectors r_element r_zeros
  intro ds q hl hg
  obtain ⟨m, R, L, t, l, r, ρ, b, e, iv, rfl, hmn, hm6, hR, hL, hr, hmL, hl, hT, hlw, hF, hF2, hq⟩ := hg
  obtain ⟨n, rfl⟩ : ∃ i, n = i + 1 := ⟨n - 1, by omega⟩
  have hT' : TwN (rsF L) ρ b e iv m := hT.low (by omega)
  have h64 : 2 ^ m ≤ 32 := by
    have : 2 ^ m ≤ 2 ^ 5 := Nat.pow_le_pow_right (by decide) (by omega)
    omega
  have hp0 := Nat.two_pow_pos m
  have e3 := two_pow_succ' m
  show sSeq _ _ _ [some (.val R), some (.val (sqD t (inD l))), none, none, none, none]
  refine sq_i fun k hk => ?_
  walk_at "rd"
  rw [List.length_map, hl]
  subst hk
  refine sq_i fun k hk => ?_
  walk_at "rd"
  refine ⟨m, R, L, t, l, r, ρ, b, e, iv, rfl, by omega, by omega, hR, hL, hr, by omega, hl, hT', hF, ?_⟩
  refine ⟨fun hns => ?_, fun l' u h1 h2 h3 h4 => ?_⟩
  rotate_left
  · walk_at "rd"
    subst hk
    refine sq_i fun k hk => if_n fun T hT0 => ?_
    walk_at "rd"
    subst hT0
    walk_at "rd"
    have e64 : (2 : Int) * ((2 ^ m : Nat) : Int) = ((2 ^ (m + 1) : Nat) : Int) := by omega
    rw [e64]
    refine ⟨mul_l (by decide) (by decide), true, true, l', u, 2 ^ (m + 1), rfl, by omega, by omega, ?_⟩
    walk_at "rd"
    have e5 : toT (rsF L) (m + 1) (l' ++ List.replicate (2 ^ (m + 1) - l'.length) 0) = mk (toT (rsF L) m l') 0 := by rw [toT_app h1, toT_zeros]
    have hfn : ∀ i, fn (l' ++ List.replicate (2 ^ (m + 1) - l'.length) 0) i = fn l' i := fun i => by
      simp only [fn, List.getD_eq_getElem?_getD, List.getElem?_append]
      split
      · rfl
      · rename_i c
        rw [List.getElem?_eq_none (l := l') (by omega), List.getElem?_replicate]
        split <;> rfl
    refine hq.2 _ u (by simp; omega) (by rw [e5]; exact h2.flat) (by rw [e5, sT_mk0]; exact h3) ⟨h4.1, rfl, fun _ => rfl, fun d d1 d2 => h4.2.2.2 d d1 fun i => by have := d2 i; rwa [hfn] at this⟩
  walk_at "rd"
  subst hk
  refine sq_i fun k hk => if_n fun T hT0 => ?_
  walk_at "rd"
  clear hT0 T
  subst hk
  have hv : L[m]? = some L[m] := List.getElem?_eq_getElem hmL
  generalize L[m] = lv at hv
  obtain ⟨lv1, lv2⟩ := hL m lv hv
  have hrad : toT (rsF L) m lv = rad (rsF L) m := by
    show Tf _ _ (fn lv) = Tf _ _ (fn (L.getD m []))
    rw [getD_some hv]
  obtain ⟨w1, w2⟩ := hT.tw.w m (by omega)
  have wB := hT.rb m (by omega)
  have wB6 : (ρ m * ρ m) ^ 2 ^ m < 2 ^ 6000 := Nat.lt_trans wB (Nat.pow_lt_pow_right (by decide) (by decide))
  have wM : 1 ≤ ρ m * ρ m := Nat.mul_pos w1 w1
  obtain ⟨bo, bn⟩ := inv_bits2 hT'.tw.w wM w2 wB6
  have nu0 := nu_ne hT.tw.pr (show m < m + 1 by omega)
  have nuB : (nuR (rsF L) m).natAbs < 2 ^ 5000 := Nat.lt_of_le_of_lt (inv_wr hT'.tw.w wM w2).2 wB
  have bn5 : intBits (nuR (rsF L) m) ≤ 5000 := intBits_le_iff.mpr nuB
  refine sq_i fun k hk => ?_
  walk_at "rd"
  refine ⟨m, rfl, ?_⟩
  walk_at "rd"
  refine hR.ix rfl hv fun w => ?_
  refine ⟨m, R, L, w, lv, r, _, ρ, rfl, Nat.le_trans (show m ≤ 6 by omega) (by decide), by omega, hR, hL, hr, by omega, lv1, hT'.tw.w, wM, by rw [hrad]; exact w2, wB6, ?_⟩
  rw [hrad]
  walk_at "rd"
  subst hk
  refine sq_i fun k hk => ?_
  walk_at "rd"
  have bl : BdL 60000 l := by
    have := (wr_bd hT'.tw.w hlw).ofT
    rwa [ofT_toT l hl] at this
  have gr := gro_le hr (show m ≤ 6 by omega)
  have gg : m * gG r m ≤ 6 * 7102 := Nat.mul_le_mul (show m ≤ 6 by omega) (by show gro r m + r + 2 ≤ 7102; omega)
  rw [sqD_t]
  refine ⟨m, R, L, t, true, l, _, r, 60000, 6000, rfl, Nat.le_trans (show m ≤ 6 by omega) (by decide), by omega, hR, hL, by omega, hl, ofT_length _, bl, bo, by omega, ?_⟩
  walk_at "rd"
  rw [sqD_t]
  have bm := mulL_bits (n := m) hL bl bo
  refine ⟨true, _, _, rfl, by rw [mulL_length]; omega, fun i hi => MulOk.of_le (bm i hi) bn (by omega), ?_⟩
  walk_at "rd"
  rw [sqD_t]
  have eO : toT (rsF L) m ((mulL L m l (ofT (ooR (rsF L) m))).map fun x => x * nuR (rsF L) m) = otherQ (toT (rsF L) m l) := by
    rw [toT_mapR]
    unfold mulL
    rw [toT_ofT, toT_ofT]
    rfl
  refine ⟨m, R, L, true, _, r, ρ, b, e, iv, rfl, by omega, by omega, hR, hL, hr, by omega, by rw [List.length_map, mulL_length], hT', ?_⟩
  have eO' : toT (rsF L) m ((mulL L m l (ofT (invT (rad (rsF L) m)).1)).map fun x => x * (invT (rad (rsF L) m)).2) = otherQ (toT (rsF L) m l) := eO
  rw [eO']
  refine ⟨hF2 hns, fun hno => ?_, fun l' u h1 h2 h3 h4 => ?_⟩
  · walk_at "rd"
    subst hk
    refine sq_i fun k hk => if_n fun T hT0 => ?_
    walk_at "rd"
    subst hT0
    walk_at "rd"
    exact hq.1 fun hs => hno (flat_sq hT.tw.pr hs hns)
  · walk_at "rd"
    subst hk
    refine sq_i fun k hk => if_n fun T hT0 => ?_
    walk_at "rd"
    clear hT0 T
    subst hk
    walk_at "rd"
    refine ⟨2 ^ m, rfl, by omega, ?_⟩
    walk_at "rd"
    have hu := h2.1
    have ue := hT'.denB h2 (h4.lowT h1 (rsF L))
    have ea : (if (invT (rad (rsF L) m)).2 < 0 then -(invT (rad (rsF L) m)).2 else (invT (rad (rsF L) m)).2) = ((nuR (rsF L) m).natAbs : Int) := by
      show (if nuR (rsF L) m < 0 then -nuR (rsF L) m else nuR (rsF L) m) = _
      split <;> omega
    rw [ea]
    have ba : intBits ((nuR (rsF L) m).natAbs : Int) ≤ 5000 := intBits_le_iff.mpr (by rw [Int.natAbs_natCast]; exact nuB)
    have e2 : inD (List.replicate (2 ^ m) 0) ++ inD l' = inD (List.replicate (2 ^ m) 0 ++ l') := by unfold inD; rw [List.map_append]
    rw [e2, sqD_t]
    have b0 : u * ((nuR (rsF L) m).natAbs : Int) ≠ 0 := Int.mul_ne_zero (by omega) (by omega)
    refine ⟨fit_len (by simp; omega), MulOk.of_le ue ba (by decide), true, _, _, rfl, b0, Nat.le_trans (intBits_mul_le ue ba) (by decide), by simp; omega, fun l2 u2 h5 => ?_⟩
    walk_at "rd"
    have len5 : l2.length = 2 ^ (m + 1) := by have := h5.2.1; simp at this; omega
    have t5 : toT (rsF L) (m + 1) (List.replicate (2 ^ m) 0 ++ l') = mk 0 (toT (rsF L) m l') := by rw [toT_app (by simp), toT_zeros]
    have q5 := h5.eqn (rsF L) (m + 1)
    rw [t5] at q5
    have hd5 := hT.tw.pr.dom
    have h6 := h2.turn hT.tw.pr
    have u2p := h5.1
    obtain ⟨r1, r2⟩ := IsRt.same hd5 u2p h6 q5
    exact hq.2 l2 u2 len5 r1 (by rw [r2, sT_0mk]; exact h3) h5.norm
abbrev s_steep_root : Stmt := topS 28
theorem sc_steep_root : FnScope ["radicands", "low", "high", "root", "summand", "half_sum", "first", "second"] ["radicands", "low", "high"] (defScope s_steep_root) := ⟨rfl, rfl, rfl, by decide +kernel, rfl, by decide +kernel, by decide +kernel⟩
theorem ok_steep_root {f fd} {k n : Nat} (F : Fun K "steep_root" "steep_root" s_steep_root f fd) (hdg : base.NoDigits) (r_root_of_vector : Ready P w K mg base "root_of_vector" 2 k (f_root_of_vector_ n)) (r_norm_vector : Ready P w K mg base "norm_vector" 2 k f_norm_vector) (r_negate_element : Ready P w K mg base "negate_element" 1 k f_negate_element) (r_scale_element : Ready P w K mg base "scale_element" 2 k f_scale_element) (r_add_elements : Ready P w K mg base "add_elements" 2 k f_add_elements) (r_root_of_element : Ready P w K mg base "root_of_element" 2 k (f_root_of_element_ n)) (r_divide_elements : Ready P w K mg base "divide_elements" 3 k f_divide_elements) (r_join_halves : Ready P w K mg base "join_halves" 2 k f_join_halves) : FnG P w K mg base (k + 1) f fd ["radicands", "low", "high"] (SpD K 3 (f_steep_root_ (n + 1))) := by
  refine fnD F sc_steep_root fun cdv A outer s H E gA hr => ?_
  have hu := hr.units
  have nd := sc_steep_root.nd
  refine ⟨_, (ss_cons (st_set (i := 3) nd (r_root_of_vector.toE gA hr (da_cons (dv 0) (da_cons (r_norm_vector.toE gA hr (da_cons (dv 0) (da_cons (de_op o_add (bv 1) (bv 2)) da_nil))) da_nil))))
    (ss_cons (st_if (dt_cmp o_is (bv 3) (DE.toB de_non)) (ss_one (st_ret de_non)) ss_nil)
    (ss_cons (st_for (i_seq (de_tup (da_cons (dv 3) (da_cons (r_negate_element.toE gA hr (da_cons (dv 3) da_nil)) da_nil)))) (tg_name (i := 4) nd) (ss_cons (st_set (i := 5) nd (r_scale_element.toE gA hr (da_cons (r_add_elements.toE gA hr (da_cons (de_tup (da_cons (dv 1) (da_cons de_int da_nil))) (da_cons (dv 4) da_nil))) (da_cons (de_tup (da_cons de_int (da_cons de_int da_nil))) da_nil))))
    (ss_cons (st_set (i := 6) nd (r_root_of_element.toE gA hr (da_cons (dv 0) (da_cons (dv 5) da_nil))))
    (ss_one (st_if (dt_cmp o_isNot (bv 6) (DE.toB de_non)) (ss_cons (st_set (i := 7) nd (r_divide_elements.toE gA hr (da_cons (dv 0) (da_cons (de_tup (da_cons (dv 2) (da_cons de_int da_nil))) (da_cons (r_scale_element.toE gA hr (da_cons (dv 6) (da_cons (de_tup (da_cons de_int (da_cons de_int da_nil))) da_nil))) da_nil)))))
    (ss_one (st_ret (r_join_halves.toE gA hr (da_cons (dv 6) (da_cons (dv 7) da_nil)))))) ss_nil)))))
    (ss_one (st_ret de_non))))), ?_⟩
  clear F nd hu hr gA E H s outer A cdv hdg r_root_of_vector r_norm_vector r_negate_element r_scale_element r_add_elements r_root_of_element r_divide_elements r_join_halves
  intro ds q hl hg
  obtain ⟨m, R, L, l, h, r, ρ, b, e, iv, rfl, hmn, hm6, hR, hL, hr, hmL, hl, hh, hT, hh0, hF, hq⟩ := hg
  obtain ⟨n, rfl⟩ : ∃ i, n = i + 1 := ⟨n - 1, by omega⟩
  have hT' : TwN (rsF L) ρ b e iv m := hT.low (by omega)
  have h64 : 2 ^ m ≤ 32 := by
    have : 2 ^ m ≤ 2 ^ 5 := Nat.pow_le_pow_right (by decide) (by omega)
    omega
  have hp0 := Nat.two_pow_pos m
  have e3 := two_pow_succ' m
  obtain ⟨F1, F2, F3⟩ := hF
  obtain ⟨F3, F4⟩ := F3 hh0
  have tx : toT (rsF L) (m + 1) (l ++ h) = mk (toT (rsF L) m l) (toT (rsF L) m h) := toT_app hl
  have bx : BdL 60000 (l ++ h) := by
    have := (wr_bd hT.tw.w F1).ofT
    rw [← tx] at this
    rwa [ofT_toT (l ++ h) (by simp; omega)] at this
  have bl : BdL 60000 l := fun i hi => bx i (by simp [hi])
  have bh : BdL 60000 h := fun i hi => bx i (by simp [hi])
  generalize hX : (mk (toT (rsF L) m l) (toT (rsF L) m h) : T (rsF L) (m + 1)) = X at *
  have hlX : lo X = toT (rsF L) m l := by rw [← hX]; rfl
  have hhX : hi X = toT (rsF L) m h := by rw [← hX]; rfl
  have gr := gro_le hr (show m ≤ 6 by omega)
  show sSeq _ _ _ [some (.val R), some (.val (.tuple (inD l))), some (.val (.tuple (inD h))), none, none, none, none, none]
  refine sq_i fun k hk => ?_
  walk_at "rd"
  have ea : inD l ++ inD h = inD (l ++ h) := by unfold inD; rw [List.map_append]
  rw [ea, sqD_t]
  refine ⟨fit_len (by simp; omega), m, R, L, true, _, r, 60000, rfl, by omega, hR, hL, by omega, by simp; omega, bx, by omega, ?_⟩
  rw [tx]
  walk_at "rd"
  rw [sqD_t]
  refine ⟨m, R, L, true, _, r, ρ, b, e, iv, rfl, by omega, by omega, hR, hL, hr, by omega, ofT_length _, hT', ?_⟩
  rw [toT_ofT]
  refine ⟨F3, fun hns => ?_, fun l1 u1 h1 h2 h3 h4 => ?_⟩
  · walk_at "rd"
    subst hk
    refine sq_i fun k hk => if_n fun T hT0 => ?_
    walk_at "rd"
    subst hT0
    walk_at "rd"
    exact hq.1 fun hs => hns (sq_norm hs)
  walk_at "rd"
  subst hk
  refine sq_i fun k hk => if_n fun T hT0 => ?_
  walk_at "rd"
  clear hT0 T
  subst hk
  refine sq_i fun k hk => for_in fun W hW => ?_
  walk_at "rd"
  have lw1 := h4.lowT h1 (rsF L)
  have b1 : BdL 64000 l1 := by
    have s1 := (rt_size hT'.tw h2 lw1 (s := 120000) (Nat.le_trans (nm_wr hT.tw.w X) (by
      have := mul_pow2 (Nat.le_of_lt F1) (Nat.le_of_lt F1)
      exact pow_le2 this (by decide)))).2
    obtain ⟨eb1, eb2⟩ := hT'.eb m (Nat.le_refl _)
    have := (wr_bd hT'.tw.w (pow_lt2 (t := 64000) s1 (by omega))).ofT
    rwa [ofT_toT l1 h1] at this
  refine ⟨true, true, l1, u1, rfl, by omega, b1.up (by decide), ?_⟩
  walk_at "rd"
  have turn : ∀ (s : Int) (ls : List Int) (DD : DEnds) (y5 y6 : Option DV), (s = 1 ∨ s = -1) → ls.length = 2 ^ m → toT (rsF L) m ls = wh (rsF L) m s * toT (rsF L) m l1 → BdL 64000 ls → DD.rt = q →
      ((∀ (t' : T (rsF L) m) (g : Int), ¬HR (lo X) (toT (rsF L) m l1) u1 s t' g) → ∀ y5 y6 : Option DV, DD.nx [some (.val R), some (.val (.tuple (inD l))), some (.val (.tuple (inD h))), some (.val (elD l1 u1)), some (.val (elD ls u1)), y5, y6, none]) →
      sSeq (sSet 5 (dFn f_scale_element (dCons (dFn f_add_elements (dCons (dTup (dCons (dVar 1) (dCons (dC (PyData.int 1)) dNil))) (dCons (dVar 4) dNil))) (dCons (dTup (dCons (dC (PyData.int 1)) (dCons (dC (PyData.int 2)) dNil))) dNil))))
        (sSeq (sSet 6 (dFn (f_root_of_element_ (n + 1)) (dCons (dVar 0) (dCons (dVar 5) dNil))))
          (sIf (tBool (d2 gIsNot (bVar 6) (dC PyData.none)))
            (sSeq (sSet 7 (dFn f_divide_elements (dCons (dVar 0) (dCons (dTup (dCons (dVar 2) (dCons (dC (PyData.int 1)) dNil))) (dCons (dFn f_scale_element (dCons (dVar 6) (dCons (dTup (dCons (dC (PyData.int 2)) (dCons (dC (PyData.int 1)) dNil))) dNil))) dNil)))))
              (sRet (dFn f_join_halves (dCons (dVar 6) (dCons (dVar 7) dNil))))) sNext)) DD [some (.val R), some (.val (.tuple (inD l))), some (.val (.tuple (inD h))), some (.val (elD l1 u1)), some (.val (elD ls u1)), y5, y6, none] := by
    intro s ls DD y5 y6 hs hls hts bls hrt hno
    have u1p := h2.1
    have ub := hT'.denB h2 lw1
    refine sq_i fun k hk => ?_
    walk_at "rd"
    refine ⟨true, true, true, true, l, ls, 1, u1, rfl, by omega, by omega, by decide, by omega, bl.up (by decide), bls.up (by decide), by decide, by omega, fun l2 b2 e2 => ?_⟩
    walk_at "rd"
    have b2p := e2.1
    have b2b := bot_bits e2 (by omega) (show intBits (1 * u1) ≤ 901 by rw [Int.one_mul]; exact ub)
    have ll2 : l2.length = 2 ^ m := by have := e2.2.1; rw [plusL_length] at this; omega
    have bl2 := e2.bits (by omega) (plusL_bd (s := 1) (u := 1) (w := u1) (.inl rfl) (bl.up (show 60000 ≤ 64000 by decide)) bls (show intBits 1 ≤ 901 by decide) ub)
    rw [sqD_t]
    refine ⟨true, true, true, l2, b2, 1, 2, rfl, by omega, by omega, by decide, bl2.up (by decide), by omega, by decide, by decide, fun hh c e3 => ?_⟩
    walk_at "rd"
    have cp := e3.1
    have lhh : hh.length = 2 ^ m := by have := e3.2.1; rw [List.length_map] at this; omega
    have bhh := e3.bits (by omega) (m := 64902) (fun i hi => by
      obtain ⟨a, ha, rfl⟩ := List.mem_map.mp hi
      rw [Int.mul_one]
      exact bl2 a ha)
    have cb : intBits c ≤ 903 := bot_bits e3 (by omega) (Nat.le_trans (intBits_mul_le b2b (show intBits 2 ≤ 2 by decide)) (by decide))
    have Ehh : wh (rsF L) m (2 * u1) * toT (rsF L) m hh = wh (rsF L) m c * (wh (rsF L) m u1 * lo X + wh (rsF L) m s * toT (rsF L) m l1) := by
      have q2 := e2.eqn (rsF L) m
      have q3 := e3.eqn (rsF L) m
      rw [toT_plusL hl, hts, ← hlX] at q2
      rw [toT_mapR] at q3
      have w1 : wh (rsF L) m 1 = 1 := wh_one
      rw [Int.one_mul] at q2
      rw [show (1 : Int) * 1 = 1 from rfl, w1] at q2
      rw [w1, wh_mm] at q3
      rw [wh_mm]
      refine wh_cancel' hT'.tw.pr.dom (show b2 ≠ 0 by omega) ?_
      generalize wh (rsF L) m b2 = B at *
      generalize wh (rsF L) m u1 = U at *
      generalize wh (rsF L) m 2 = K at *
      generalize wh (rsF L) m c = C at *
      have s1 : B * (K * U * toT (rsF L) m hh) = U * (B * K * toT (rsF L) m hh) := by grind
      rw [s1, q3]
      have s2 : U * (C * (1 * toT (rsF L) m l2)) = C * (U * toT (rsF L) m l2) := by grind
      rw [s2, q2]
      grind
    obtain ⟨G1, G2⟩ := F4 _ _ s _ c h2 lw1 hs cp (e3.lowT lhh (rsF L)) Ehh
    subst hk
    refine sq_i fun k hk => ?_
    walk_at "rd"
    refine ⟨m, R, L, true, true, hh, c, r, ρ, b, e, iv, rfl, by omega, by omega, hR, hL, hr, by omega, lhh, hT', cp, by omega, bhh.up (by decide), G1, fun hns => ?_, fun t1 g1 k1 k2 k3 k4 k5 => ?_⟩
    · walk_at "rd"
      subst hk
      refine if_n fun T hT0 => ?_
      walk_at "rd"
      exact hno (fun t' g hr' => hns ⟨_, _, hr'.rt hT'.tw.pr.dom u1p Ehh⟩) _ _
    · walk_at "rd"
      subst hk
      refine if_n fun T hT0 => ?_
      walk_at "rd"
      subst hT0
      have hHR : HR (lo X) (toT (rsF L) m l1) u1 s (toT (rsF L) m t1) g1 := by
        refine ⟨k2, wh_cancel' hT'.tw.pr.dom (show c ≠ 0 by omega) ?_⟩
        generalize wh (rsF L) m (2 * u1) = K at *
        generalize wh (rsF L) m (g1 * g1) = G at *
        generalize wh (rsF L) m c = C at *
        have s1 : C * (K * (toT (rsF L) m t1 * toT (rsF L) m t1)) = K * (C * (toT (rsF L) m t1 * toT (rsF L) m t1)) := by grind
        have s2 : C * (G * (wh (rsF L) m u1 * lo X + wh (rsF L) m s * toT (rsF L) m l1)) = G * (K * toT (rsF L) m hh) := by rw [Ehh]; grind
        rw [s1, k3, s2]
        grind
      have low1 := k5.lowT k1 (rsF L)
      have hM := G2 _ _ hHR low1
      have ht0 := hr_ne hT.tw.pr h2 hs (by rw [hhX]; exact hh0) hHR
      have hw0 : 1 ≤ wr ρ (toT (rsF L) m t1) := Nat.not_lt.mp fun z => by
        have z' : wr ρ (toT (rsF L) m t1) = 0 := by omega
        refine ht0 (cf_inj fun j hj => ?_)
        have := cf_wr hT'.tw.w (toT (rsF L) m t1) j hj
        have z0 := cf_wr hT'.tw.w (0 : T (rsF L) m) j hj
        rw [wr_zero] at z0
        omega
      obtain ⟨fs1, fs2⟩ := first_size hT'.tw u1p cp Ehh (Nat.le_of_lt (fine_wr G1)) hHR low1
      obtain ⟨eb1, eb2⟩ := hT'.eb m (Nat.le_refl _)
      have gb : intBits g1 ≤ 1803 := by
        refine intBits_le_iff.mpr (Nat.lt_of_le_of_lt fs1 ?_)
        have c1 := intBits_le_iff.mp cb
        have c2 : 2 ^ e m ≤ 2 ^ 900 := Nat.pow_le_pow_right (by decide) eb1
        have : c.natAbs * 2 ^ e m < 2 ^ 903 * 2 ^ 900 := Nat.lt_of_lt_of_le (Nat.mul_lt_mul_of_pos_right c1 (Nat.two_pow_pos _)) (Nat.mul_le_mul_left _ c2)
        rwa [← Nat.pow_add] at this
      have b1t : BdL 40000 t1 := by
        have := (wr_bd hT'.tw.w (pow_lt2 (t := 40000) fs2 (by omega))).ofT
        rwa [ofT_toT t1 k1] at this
      refine sq_i fun k hk => ?_
      walk_at "rd"
      try rw [sqD_t]
      refine ⟨true, true, true, t1, g1, 2, 1, rfl, by omega, by omega, by decide, b1t.up (by decide), by omega, by decide, by decide, fun t2 g2 e5 => ?_⟩
      walk_at "rd"
      have g2p := e5.1
      have lt2 : t2.length = 2 ^ m := by have := e5.2.1; rw [List.length_map] at this; omega
      have q5 := e5.eqn (rsF L) m
      rw [toT_mapR, Int.mul_one] at q5
      have g2b := bot_bits e5 (by omega) (show intBits (g1 * 1) ≤ 1803 by rw [Int.mul_one]; exact gb)
      have wt2 : wr ρ (toT (rsF L) m t2) ≤ 2 * wr ρ (toT (rsF L) m t1) := by
        have := (low_le (ρ := ρ) (z := wh (rsF L) m 2 * toT (rsF L) m t1) k2 g2p (e5.lowT lt2 (rsF L)) (by rw [q5])).2
        rwa [wr_whm] at this
      have ht2 : toT (rsF L) m t2 ≠ 0 := fun z => by
        rw [z] at q5
        have z2 : wh (rsF L) m g2 * (wh (rsF L) m 2 * toT (rsF L) m t1) = 0 := by rw [← q5]; grind
        rcases hT'.tw.pr.dom _ _ z2 with z | z
        · exact wh_ne (by omega) z
        · rcases hT'.tw.pr.dom _ _ z with z | z
          · exact wh_ne (by decide) z
          · exact ht0 z
      refine ⟨m, R, L, true, true, true, true, h, t2, 1, g2, r, 2 * wr ρ (toT (rsF L) m t1), ρ, rfl, by omega, hR, hL, hr, by omega, by omega, lt2, hT'.tw.w, by omega, wt2, hM, hT'.tw.pr, ht2, bh.up (by decide), by decide, by decide, by omega, fun i n' hI y w hy => ?_⟩
      walk_at "rd"
      have hN0 := inv_ne hT'.tw.pr ht2
      obtain ⟨bi1, bi2⟩ := inv_bits2 hT'.tw.w (by omega) wt2 hM
      have n'p := hI.1
      have n'b := bot_bits hI hN0 bi2
      have wp := hy.1
      have wb := bot_bits hy (show (1 : Int) * n' ≠ 0 by omega) (show intBits (1 * n') ≤ 6000 by rw [Int.one_mul]; exact n'b)
      have ly : y.length = 2 ^ m := hy.2.1.trans (ofT_length _)
      have bi := hI.bits hN0 (invL_bits2 bi1 g2b)
      have by1 := hy.bits (show (1 : Int) * n' ≠ 0 by omega) (mulL_bits hL bh bi)
      have qi := hI.eqn (rsF L) m
      have qy := hy.eqn (rsF L) m
      rw [toT_mapR, toT_ofT] at qi
      rw [toT_ofT, Int.one_mul] at qy
      have qJ := inv_mul (toT (rsF L) m t2)
      have Hy : wh (rsF L) m 2 * (toT (rsF L) m t1 * toT (rsF L) m y) = wh (rsF L) m (g1 * w) * hi X := by
        rw [hhX]
        have hd := hT'.tw.pr.dom
        refine wh_cancel' hd (show g2 ≠ 0 by omega) (wh_cancel' hd (show n' ≠ 0 by omega) (wh_cancel' hd hN0 ?_))
        rw [wh_mm]
        generalize toT (rsF L) m t2 = t2' at *
        generalize (invT t2').1 = J at *
        generalize wh (rsF L) m (invT t2').2 = N at *
        generalize wh (rsF L) m n' = n2 at *
        generalize wh (rsF L) m g2 = G2' at *
        generalize wh (rsF L) m g1 = G1' at *
        generalize wh (rsF L) m w = W' at *
        generalize toT (rsF L) m y = Y at *
        generalize toT (rsF L) m h = H at *
        generalize toT (rsF L) m i = I at *
        have s1 : N * (n2 * (G2' * (wh (rsF L) m 2 * (toT (rsF L) m t1 * Y)))) = N * (n2 * Y) * (G2' * (wh (rsF L) m 2 * toT (rsF L) m t1)) := by grind
        rw [s1, ← q5, qy]
        have s2 : N * (W' * (H * I)) * (G1' * t2') = W' * H * (N * I) * (G1' * t2') := by grind
        rw [s2, qi]
        have s3 : W' * H * (n2 * (G2' * J)) * (G1' * t2') = W' * H * n2 * G2' * G1' * (t2' * J) := by grind
        rw [s3, qJ]
        grind
      subst hk
      walk_at "rd"
      refine ⟨true, true, true, true, t1, y, g1, w, rfl, by omega, by omega, by omega, by omega, b1t.up (by decide), by1.up (by omega), by omega, wb, fun l' b' e6 => ?_⟩
      walk_at "rd"
      have hroot := hr_root hT.tw.pr h2 hs (by rw [hhX]; exact hh0) hHR wp Hy
      have q6 := e6.eqn (rsF L) (m + 1)
      rw [toT_app (by rw [List.length_map]; exact k1), toT_mapR, toT_mapR] at q6
      obtain ⟨r1, r2⟩ := IsRt.same hT.tw.pr.dom e6.1 hroot q6
      rw [hrt]
      refine hq.2 l' b' (by have := e6.2.1; simp at this; omega) r1 ?_ e6.norm
      rw [r2, sT_mk, sT_wh (by omega), if_neg (fun z => ht0 (sT_zero.mp z))]
      exact k4
  have hneg : toT (rsF L) m (l1.map fun a => -a) = wh (rsF L) m (-1) * toT (rsF L) m l1 := by
    have : (l1.map fun a => -a) = l1.map fun a => a * -1 := List.map_congr_left fun a _ => by omega
    rw [this, toT_mapR]
  have bneg : BdL 64000 (l1.map fun a => -a) := fun i hi => by
    obtain ⟨a, ha, rfl⟩ := List.mem_map.mp hi
    exact intBits_neg_le (b1 a ha)
  subst hW
  simp only [forD]
  refine turn 1 l1 _ none none (.inl rfl) h1 (by rw [wh_one]; grind) b1 rfl fun n1 y5 y6 => ?_
  refine turn (-1) (l1.map fun a => -a) _ y5 y6 (.inr rfl) (by rw [List.length_map]; exact h1) hneg bneg rfl fun n2 y5 y6 => ?_
  subst hk
  walk_at "rd"
  refine hq.1 fun ⟨z, d, hz⟩ => ?_
  obtain ⟨s, hs, hHR, _⟩ := hr_exists hT.tw.pr h2 hz
  rcases hs with rfl | rfl
  · exact n1 _ _ hHR
  · exact n2 _ _ hHR
abbrev s_root_of_element : Stmt := topS 29
theorem sc_root_of_element : FnScope ["radicands", "one", "root"] ["radicands", "one"] (defScope s_root_of_element) := ⟨rfl, rfl, rfl, by decide +kernel, rfl, by decide +kernel, by decide +kernel⟩
theorem ok_root_of_element {f fd} {k n : Nat} (F : Fun K "root_of_element" "root_of_element" s_root_of_element f fd) (hdg : base.NoDigits) (r_root_of_vector : Ready P w K mg base "root_of_vector" 2 k (f_root_of_vector_ n)) (r_scale_vector : Ready P w K mg base "scale_vector" 2 k f_scale_vector) (r_element : Ready P w K mg base "element" 2 k f_element) : FnG P w K mg base (k + 1) f fd ["radicands", "one"] (SpD K 2 (f_root_of_element_ (n + 1))) := by
  refine fnD F sc_root_of_element fun cdv A outer s H E gA hr => ?_
  have hu := hr.units
  have nd := sc_root_of_element.nd
  refine ⟨_, (ss_cons (st_set (i := 2) nd (r_root_of_vector.toE gA hr (da_cons (dv 0) (da_cons (r_scale_vector.toE gA hr (da_cons (de_ix x_ix (bv 1) (DE.toB de_int)) (da_cons (de_ix x_ix (bv 1) (DE.toB de_int)) da_nil))) da_nil))))
    (ss_cons (st_if (dt_cmp o_is (bv 2) (DE.toB de_non)) (ss_one (st_ret de_non)) ss_nil)
    (ss_one (st_ret (r_element.toE gA hr (da_cons (de_ix x_ix (bv 2) (DE.toB de_int)) (da_cons (de_op o_mul (DE.toB (de_ix x_ix (bv 2) (DE.toB de_int))) (DE.toB (de_ix x_ix (bv 1) (DE.toB de_int)))) da_nil))))))), ?_⟩
  clear F nd hu hr gA E H s outer A cdv hdg r_root_of_vector r_scale_vector r_element
  intro ds q hl hg
  obtain ⟨m, R, L, t, t', l, c, r, ρ, b, e, iv, rfl, hmn, hm6, hR, hL, hr, hmL, hl, hT, hc, cb, bl, hF, hq1, hq2⟩ := hg
  obtain ⟨n, rfl⟩ : ∃ i, n = i + 1 := ⟨n - 1, by omega⟩
  have h64 : 2 ^ m ≤ 64 := Nat.pow_le_pow_right (by decide) hm6
  show sSeq _ _ _ [some (.val R), some (.val (elS t t' l c)), none]
  refine sq_i fun k hk => ?_
  walk_at "rd"
  refine ⟨t', l, c, rfl, by omega, fun i hi => MulOk.of_le (bl i hi) cb (by decide), ?_⟩
  walk_at "rd"
  rw [sqD_t]
  refine ⟨m, R, L, true, _, r, ρ, b, e, iv, rfl, by omega, by omega, hR, hL, hr, by omega, by rw [List.length_map]; exact hl, hT, ?_⟩
  rw [toT_mapR]
  refine ⟨hF, fun hns => ?_, fun t0 f h1 h2 h3 h4 => ?_⟩
  · walk_at "rd"
    subst hk
    refine sq_i fun k hk => if_n fun T hT0 => ?_
    walk_at "rd"
    subst hT0
    walk_at "rd"
    exact hq1 hns
  · walk_at "rd"
    subst hk
    refine sq_i fun k hk => if_n fun T hT0 => ?_
    walk_at "rd"
    clear hT0 T
    subst hk
    walk_at "rd"
    have fb := hT.denB h2 (h4.lowT h1 (rsF L))
    have fp := h2.1
    have fc0 : f * c ≠ 0 := Int.mul_ne_zero (by omega) (by omega)
    refine ⟨MulOk.of_le fb cb (by decide), true, t0, f * c, rfl, fc0, Nat.le_trans (intBits_mul_le fb cb) (by decide), by omega, fun l' u e6 => ?_⟩
    walk_at "rd"
    have q6 := e6.eqn (rsF L) m
    have up := e6.1
    have ll : l'.length = 2 ^ m := e6.2.1.trans h1
    have hd := hT.tw.pr.dom
    refine hq2 l' u ll up ?_ ?_ e6.norm
    · refine wh_cancel' hd (show f * f * c ≠ 0 from Int.mul_ne_zero (Int.mul_ne_zero (by omega) (by omega)) (by omega)) ?_
      have h22 := h2.2
      rw [wh_mm] at h22 q6
      rw [wh_mm (f * f), wh_mm f, wh_mm u]
      generalize wh (rsF L) m f = F at *
      generalize wh (rsF L) m c = C at *
      generalize wh (rsF L) m u = U at *
      generalize toT (rsF L) m l' = A at *
      generalize toT (rsF L) m t0 = B at *
      have s1 : F * F * C * (C * (A * A)) = (F * C * A) * (F * C * A) := by grind
      rw [s1, q6]
      have s2 : U * B * (U * B) = U * U * (B * B) := by grind
      rw [s2, h22]
      grind
    · have := congrArg sT q6
      have fcp : 0 < f * c := Int.mul_pos (by omega) (by omega)
      rw [sT_wh fcp, sT_wh (by omega)] at this
      rw [this]
      exact h3

end
end K13

namespace K13
open PySem PySem.Spec PyProof.Rows L2 DL Builtin.Int
local macro_rules | `(tactic| walk_at "rd") => `(tactic| simp -failIfUnchanged only [sSet, sSetL, sRet, sRetL, sRetO, sRetN, sNext, sBreak, sCont, sDrop, sApp, sAug, sAsg, sPar, sSetI, sPop, sSetPop, sRev, sFrz, frz1, iSeq, iRevD, iRange1, iRange2, iRangeD, rName, rTup, rTL_sq, gMulS_s, gStr1_i, rTL_t, rTL_l, rCons, rNil,
  dLst, dView, tView, lView, view, look, dVar, bVar, dC, d2, d1, l2, tBool, dNil, dCons, dTup, gI, gSubI, gMulI, gFdiv, gMod, gPow, gShl, gShr, gAnd, gXor, gLt, gLe, gGt, gGe, gAdd, gEq, gNe, isNone, gIs, gIsNot, gNeg, lCat, gLen_l, gLen_t, gLen_s, gInt, gAbs, gMax2, gMin2, gTuple_l, gTuple_t, lList_l, lList_t, gGcd, gIsqrt, dCall, lCall, dIsi, dIsi2,
  tAndD, tOrD, tNotD, tTru, truD, dAndV, dOrV, dNotV, dIf, dBits, wipeD, twoD, lComp, oNone, oSome, dSl, lSl, gSl_l, gSl_t, gSl_sq, gSq_l, gSq_t, gSq_sq, gIx_sq, gLen_sq, gTuple_sq, lList_sq, iZipD, gZip_sq, gZip_ts, gZip_st, gZip_ls, gZip_sl, gZip_tt, gZip_ll, gZip_lt, gZip_tl, dFn, lFn, valD, tYesD, eqOk_ii, eqOk_bb, eqOk_ss, eqv_int, eqv_str, eqv_bool, noLst, noLstAll, List.map_cons, List.map_nil, Option.map_some, Option.map_none,
  List.getElem?_cons_zero, List.getElem?_cons_succ, List.set_cons_zero, List.set_cons_succ, true_and, and_true, decide_eq_true_eq, decide_eq_false_iff_not, Bool.not_eq_true', Bool.not_eq_false', beq_iff_eq, beq_eq_false_iff_ne, Bool.true_eq_false, Bool.false_eq_true, false_imp_iff, true_imp_iff, forall_const, reduceCtorEq, ne_eq, not_true_eq_false, not_false_eq_true, Bool.not_true, Bool.not_false, Bool.true_and, Bool.and_true, Bool.false_and, Bool.and_false, Int.reduceToNat, Int.cast_ofNat_Int, eq_self, isTy_none_int, isTy_none_bool, isTy_none_str, isTy_none_list, isTy_none_tuple, isTy_bool_int, isTy_bool_bool, isTy_bool_str, isTy_bool_list, isTy_bool_tuple, isTy_int_int, isTy_int_bool, isTy_int_str, isTy_int_list, isTy_int_tuple, isTy_str_int, isTy_str_bool, isTy_str_str, isTy_str_list, isTy_str_tuple, isTy_list_int, isTy_list_bool, isTy_list_str, isTy_list_list, isTy_list_tuple, isTy_tuple_int, isTy_tuple_bool, isTy_tuple_str, isTy_tuple_list, isTy_tuple_tuple, List.length_cons, List.length_nil, Nat.reduceAdd, Nat.zero_add, ix2_0, ix2_1,
  gIx_l0, gIx_t0, gIx_l1, gIx_t1, gIx_l2, gIx_t2, gIx_l3, gIx_t3, gIx_l4, gIx_t4, gIx_l5, gIx_t5, gIx_l6, gIx_t6, gIx_l7, gIx_t7, gIx_l8, gIx_t8, gIx_l9, gIx_t9, gIx_l10, gIx_t10, gIx_l11, gIx_t11, gIx_l12, gIx_t12, gIx_l13, gIx_t13, gIx_l14, gIx_t14, gIx_l15, gIx_t15])
section
variable {P : Program} {w : World} {K : Frag} {mg : Str → Option Value} {base : Heap}
open TV
theorem diff_list {L : Nat → Nat → Int} {m : Nat} (s t : T L m) : (List.range (2 ^ m)).map (fun j => PyData.int (fn (ofT s) j - fn (ofT t) j)) = inD (ofT (s - t)) := by
  unfold inD ofT
  rw [List.map_map]
  refine List.map_congr_left fun j hj => ?_
  show PyData.int _ = PyData.int (cf (s - t) j)
  rw [cf_sub]
  have := fn_ofT s j (by simpa using hj)
  have := fn_ofT t j (by simpa using hj)
  unfold ofT at *
  congr 2
theorem Nn_flat {L : Nat → Nat → Int} (y : T L 0) : Nn y = fn (ofT y) 0 := rfl
theorem pow_sizes {s j c : Nat} (h : s * 2 ^ j ≤ c) : (2 ^ s) ^ 2 ^ j ≤ 2 ^ c := by
  rw [← Nat.pow_mul]
  exact Nat.pow_le_pow_right (by decide) h
abbrev s__law_isqrt : Stmt := topS 35
theorem sc__law_isqrt : FnScope ["number", "root"] ["number"] (defScope s__law_isqrt) := ⟨rfl, rfl, rfl, by decide +kernel, rfl, by decide +kernel, by decide +kernel⟩
def f__law_isqrt : FD := fun ds q => ∃ n : Int, ds = [.int n] ∧ 0 ≤ n ∧ intBits n ≤ 15999 ∧ q (.val (.int (Float64.isqrt n.toNat : Nat)))
theorem ok__law_isqrt {f fd} {k : Nat} (F : Fun K "_law_isqrt" "_law_isqrt" s__law_isqrt f fd) (hdg : base.NoDigits) : FnG P w K mg base (k + 1) f fd ["number"] (SpD K 1 f__law_isqrt) := by
  refine fnD F sc__law_isqrt fun cdv A outer s H E gA hr => ?_
  have hu := hr.units
  have nd := sc__law_isqrt.nd
  refine ⟨_, (ss_cons (st_if (dt_cmp o_lt (bv 0) (DE.toB de_int)) (ss_one (st_ret (dv 0))) ss_nil)
    (ss_cons (st_set (i := 1) nd (de_op o_shl (DE.toB de_int) (DE.toB (de_op o_fdiv (DE.toB (de_op o_add (DE.toB (de_bits (dv 0))) (DE.toB de_int))) (DE.toB de_int)))))
    (ss_cons (st_while (dt_cmp o_gt (DE.toB (de_op o_mul (bv 1) (bv 1))) (bv 0)) (ss_one (st_set (i := 1) nd (de_op o_fdiv (DE.toB (de_op o_add (bv 1) (DE.toB (de_op o_fdiv (bv 0) (bv 1))))) (DE.toB de_int)))))
    (ss_one (st_ret (dv 1)))))), ?_⟩
  clear F nd hu hr gA E H s outer A cdv hdg 
  intro ds q hl hg
  obtain ⟨n, rfl, h0, hn, hq⟩ := hg
  obtain ⟨N, rfl⟩ : ∃ N : Nat, n = (N : Int) := ⟨n.toNat, by omega⟩
  rw [Int.toNat_natCast] at hq
  show sSeq _ _ _ [some (.val (.int (N : Int))), none]
  refine sq_i fun k hk => if_n fun T hT => ?_
  walk_at "rd"
  refine ⟨fun h => ?_, fun h => ?_⟩
  · subst hT
    walk_at "rd"
    have : N = 0 ∨ N = 1 := by omega
    rcases this with rfl | rfl
    · exact hq
    · exact hq
  · subst hk
    refine sq_i fun k hk => ?_
    walk_at "rd"
    generalize hb : intBits (N : Int) = b at hn
    have hNb : N < 2 ^ b := by
      have := intBits_le_iff.mp (Nat.le_of_eq hb)
      simpa using this
    have hd : ((b : Int) + 1).fdiv 2 = (((b + 1) / 2 : Nat) : Int) := by rw [Int.fdiv_eq_ediv_of_nonneg _ (by decide)]; rfl
    refine ⟨div_small (by decide) (by decide), ?_⟩
    rw [hd]
    have h1 : intBits 1 = 1 := by decide
    refine ⟨⟨⟨by omega, by rw [h1]; omega⟩⟩, ?_⟩
    rw [Int.one_mul, Int.toNat_natCast]
    have hr0 : (2 : Int) ^ ((b + 1) / 2) = ((2 ^ ((b + 1) / 2) : Nat) : Int) := by simp
    rw [hr0]
    subst hk
    have up : N < (2 ^ ((b + 1) / 2) + 1) * (2 ^ ((b + 1) / 2) + 1) := by
      have e1 : 2 ^ b ≤ 2 ^ ((b + 1) / 2) * 2 ^ ((b + 1) / 2) := by
        rw [← Nat.pow_add]
        exact Nat.pow_le_pow_right (by decide) (by omega)
      have e2 : 2 ^ ((b + 1) / 2) * 2 ^ ((b + 1) / 2) ≤ (2 ^ ((b + 1) / 2) + 1) * (2 ^ ((b + 1) / 2) + 1) := Nat.mul_le_mul (by omega) (by omega)
      omega
    have small : 2 ^ ((b + 1) / 2) ≤ 2 ^ 8000 := Nat.pow_le_pow_right (by decide) (by omega)
    refine sq_i fun k hk => while_i (fun m ρ => ∃ r : Nat, ρ = [some (.val (.int (N : Int))), some (.val (.int r))] ∧ r = m ∧ 0 < r ∧ r ≤ 2 ^ 8000 ∧ N < (r + 1) * (r + 1)) _ ⟨_, rfl, rfl, Nat.two_pow_pos _, small, up⟩ ?_
    rintro _ _ ⟨r, rfl, rfl, hp, hs, hu⟩ k1 hk1
    walk_at "rd"
    have hrb : intBits (r : Int) ≤ 8001 := bits_nat (Nat.lt_of_le_of_lt hs (Nat.pow_lt_pow_right (by decide) (by decide)))
    have rr : (r : Int) * (r : Int) = ((r * r : Nat) : Int) := by simp
    rw [rr]
    refine ⟨MulOk.of_le hrb hrb (by decide), fun h => ?_, fun h => ?_⟩
    · have hf : (N : Int).fdiv (r : Int) = ((N / r : Nat) : Int) := by rw [Int.fdiv_eq_ediv_of_nonneg _ (by omega)]; rfl
      have hf2 : ((r : Int) + ((N / r : Nat) : Int)).fdiv 2 = (((r + N / r) / 2 : Nat) : Int) := by rw [Int.fdiv_eq_ediv_of_nonneg _ (by decide)]; rfl
      have hlt : N < r * r := by omega
      have hdec : N / r < r := (Nat.div_lt_iff_lt_mul hp).mpr hlt
      walk_at "rd"
      have hr1 : r < 2 ^ 8001 := Nat.lt_of_le_of_lt hs (Nat.pow_lt_pow_right (by decide) (by decide))
      have hlog : (r : Int).natAbs.log2 < 9000 := Nat.lt_trans (log2_lt_of (k := 8001) (by simpa using hr1) (by decide)) (by decide)
      refine ⟨⟨by omega, PyProof.noPylong_of_log2 hlog⟩, ?_⟩
      rw [hf]
      refine ⟨div_small (by decide) (by decide), ?_⟩
      rw [hf2]
      subst hk1
      refine ⟨_, ?_, _, rfl, rfl, ?_, by omega, newton_up hp⟩
      · omega
      · have h2r : 2 ≤ r := by
          apply Classical.byContradiction
          intro z
          have : r = 1 := by omega
          subst this
          omega
        exact Nat.div_pos (Nat.le_trans h2r (Nat.le_add_right _ _)) (by decide)
    · subst hk
      walk_at "rd"
      have : IsRoot N r := ⟨by omega, hu⟩
      rw [this.uniq (isqrt_root N)]
      exact hq
abbrev s__law_norm_whole : Stmt := topS 41
theorem sc__law_norm_whole : FnScope ["radicands", "vector", "rest", "place", "half", "low", "high", "k"] ["radicands", "vector"] (defScope s__law_norm_whole) := ⟨rfl, rfl, rfl, by decide +kernel, rfl, by decide +kernel, by decide +kernel⟩
def f__law_norm_whole : FD := fun ds q => ∃ (m : Nat) (R : D) (L : List (List Int)) (t : Bool) (x : List Int) (r s : Nat) (ρ : Nat → Nat), ds = [R, sqD t (inD x)] ∧ m ≤ 6 ∧ RadD R L ∧ RadOk r L ∧ r ≤ 100 ∧ m ≤ L.length ∧ x.length = 2 ^ m ∧ WOk (rsF L) ρ m ∧ wr ρ (toT (rsF L) m x) ≤ 2 ^ s ∧ s * 2 ^ m ≤ 15998 ∧ q (.val (.int (Nn (toT (rsF L) m x))))
theorem ok__law_norm_whole {f fd} {k : Nat} (F : Fun K "_law_norm_whole" "_law_norm_whole" s__law_norm_whole f fd) (hdg : base.NoDigits) (m_len : mg "len" = none) (m_list : mg "list" = none) (m_range : mg "range" = none) (r__law_times_vector : Ready P w K mg base "_law_times_vector" 3 k f__law_times_vector) : FnG P w K mg base (k + 1) f fd ["radicands", "vector"] (SpD K 2 f__law_norm_whole) := by
  refine fnD F sc__law_norm_whole fun cdv A outer s H E gA hr => ?_
  have hu := hr.units
  have nd := sc__law_norm_whole.nd
  refine ⟨_, (ss_cons (st_set (i := 2) nd (DLs.toE (dl_T c_list m_list (ab_cons (bv 1) ab_nil))))
    (ss_cons (st_set (i := 3) nd de_int)
    (ss_cons (st_while (dt_cmp o_lt (DE.toB (de_op o_shl (DE.toB de_int) (bv 3))) (DE.toB (de_B c_len m_len (ab_cons (bv 2) ab_nil)))) (ss_one (st_set (i := 3) nd (de_op o_add (bv 3) (DE.toB de_int)))))
    (ss_cons (st_while (dt_cmp o_gt (bv 3) (DE.toB de_int)) (ss_cons (st_set (i := 3) nd (de_op o_sub (bv 3) (DE.toB de_int)))
    (ss_cons (st_set (i := 4) nd (de_op o_shl (DE.toB de_int) (bv 3)))
    (ss_cons (st_set (i := 5) nd (r__law_times_vector.toE gA hr (da_cons (dv 0) (da_cons (de_sl (bv 2) do_none (do_some (dv 4))) (da_cons (de_sl (bv 2) do_none (do_some (dv 4))) da_nil)))))
    (ss_cons (st_set (i := 6) nd (r__law_times_vector.toE gA hr (da_cons (dv 0) (da_cons (de_sl (bv 2) (do_some (dv 4)) do_none) (da_cons (de_sl (bv 2) (do_some (dv 4)) do_none) da_nil)))))
    (ss_cons (st_set (i := 6) nd (r__law_times_vector.toE gA hr (da_cons (dv 0) (da_cons (dv 6) (da_cons (de_ix x_ix (bv 0) (bv 3)) da_nil)))))
    (ss_one (st_lc (own := [("k", 7)]) (i := 2) nd (DI.c (i_range1 (dv 4) m_range)) (gw_name (i := 7) nd) dts_nil (fun _ _ _ _ _ => (de_op o_sub (DE.toB (de_ix x_ix (bv 5) (bv 7))) (DE.toB (de_ix x_ix (bv 6) (bv 7))))) (sw_true rfl rfl rfl (by decide +kernel))))))))))
    (ss_one (st_ret (de_ix x_ix (bv 2) (DE.toB de_int)))))))), ?_⟩
  clear F nd hu hr gA E H s outer A cdv hdg m_len m_list m_range r__law_times_vector
  intro ds q hl hg
  obtain ⟨m, R, L, t, x, r, s, ρ, rfl, hm6, hR, hL, hr, hmL, hx, hw, hwx, hs, hq⟩ := hg
  show sSeq _ _ _ [some (.val R), some (.val (sqD t (inD x))), none, none, none, none, none, none]
  have i1 : intBits 1 = 1 := by decide
  have ex : x = ofT (toT (rsF L) m x) := (ofT_toT x hx).symm
  generalize hX : toT (rsF L) m x = X at hwx hq ex
  refine sq_i fun k hk => ?_
  walk_at "rd"
  rw [ex]
  clear hX ex hx
  subst hk
  refine sq_i fun k hk => ?_
  walk_at "rd"
  subst hk
  refine sj_i 3 (fun d => d = .int (m : Int)) ?_ ?_
  rotate_left
  · intro k hk
    refine while_i (fun mm ρ => ∃ pl : Nat, ρ = [some (.val R), some (.val (sqD t (inD (ofT X)))), some (.val (.list (inD (ofT X)))), some (.val (.int (pl : Int))), none, none, none, none] ∧ pl ≤ m ∧ mm = m - pl) m ⟨0, rfl, by omega, by omega⟩ ?_
    rintro _ _ ⟨pl, rfl, hpl, rfl⟩ k3 hk3
    walk_at "rd"
    have e1 : (1 : Int) * 2 ^ (pl : Int).toNat = ((2 ^ pl : Nat) : Int) := by rw [Int.one_mul, Int.toNat_natCast]; simp
    rw [e1, List.length_map, ofT_length]
    refine ⟨⟨⟨by omega, by rw [i1]; omega⟩⟩, fun hc => ?_, fun hc => ?_⟩
    · have hlt : pl < m := by
        refine Nat.not_le.mp fun c => ?_
        have : 2 ^ m ≤ 2 ^ pl := Nat.pow_le_pow_right (by decide) c
        omega
      subst hk3
      exact ⟨m - (pl + 1), by omega, pl + 1, rfl, by omega, rfl⟩
    · have hge : pl = m := by
        refine Nat.le_antisymm hpl (Nat.not_lt.mp fun c => hc ?_)
        have : 2 ^ pl < 2 ^ m := Nat.pow_lt_pow_right (by decide) c
        omega
      subst hge
      exact hk _ rfl
  rintro _ rfl
  walk_at "rd"
  refine sq_i fun k hk => while_i (fun mm σ => ∃ (j : Nat) (y : T (rsF L) j) (s' : Nat) (y5 y6 y7 : Option DV), j = mm ∧ σ = [some (.val R), some (.val (sqD t (inD (ofT X)))), some (.val (.list (inD (ofT y)))), some (.val (.int (j : Int))), y5, y6, y7, none] ∧ j ≤ m ∧ Nn y = Nn X ∧ wr ρ y ≤ 2 ^ s' ∧ s' * 2 ^ j ≤ 15998) m ⟨m, X, s, none, none, none, rfl, rfl, Nat.le_refl _, rfl, hwx, hs⟩ ?_
  rintro _ _ ⟨j, y, s', y5, y6, y7, rfl, rfl, hjm, hN, hwy, hs'⟩ k1 hk1
  walk_at "rd"
  refine ⟨fun h => ?_, fun h => ?_⟩
  rotate_left
  · obtain rfl : j = 0 := by omega
    subst hk
    walk_at "rd"
    refine ix_ints (j := 0) rfl (by rw [ofT_length]; decide) ?_
    rw [← Nn_flat, hN]
    exact hq
  obtain ⟨j, rfl⟩ : ∃ i, j = i + 1 := by
    cases j with
    | zero => exact absurd h (by decide)
    | succ j => exact ⟨j, rfl⟩
  have h64 : 2 ^ j ≤ 64 := Nat.le_trans (Nat.pow_le_pow_right (by decide) (show j ≤ 6 by omega)) (by decide)
  have e3 := two_pow_succ' j
  have ey : ofT y = ofT (lo y) ++ ofT (hi y) := by rw [← ofT_mk, mk_eta]
  have ly := ofT_length (lo y)
  have lh := ofT_length (hi y)
  have eyD : inD (ofT y) = inD (ofT (lo y)) ++ inD (ofT (hi y)) := by rw [ey]; exact List.map_append
  have gj := gro_le hr (show j ≤ 6 by omega)
  have s16 : s' ≤ 15998 := Nat.le_trans (Nat.le_mul_of_pos_right _ (Nat.two_pow_pos _)) hs'
  have by' : BdL 16000 (ofT y) := (wr_bd (hw.low hjm) (pow_lt2 (t := 16000) hwy (by omega))).ofT
  have bl : BdL 16000 (ofT (lo y)) := fun i hi' => by' i (by rw [ey]; exact List.mem_append_left _ hi')
  have bh : BdL 16000 (ofT (hi y)) := fun i hi' => by' i (by rw [ey]; exact List.mem_append_right _ hi')
  have gg : j * gG r j ≤ 6 * 7102 := Nat.mul_le_mul (by omega) (by show gro r j + r + 2 ≤ 7102; omega)
  have cl : cutD (inD (ofT y)) none (some ((2 ^ j : Nat) : Int)) = inD (ofT (lo y)) := by rw [cut_low (by simp [ofT_length]; omega), eyD, List.take_left' (by simp [ly])]
  have ch : cutD (inD (ofT y)) (some ((2 ^ j : Nat) : Int)) none = inD (ofT (hi y)) := by rw [cut_high (by simp [ofT_length]; omega), eyD, List.drop_left' (by simp [ly])]
  refine sq_i fun k2 hk2 => ?_
  walk_at "rd"
  have ej : ((j + 1 : Nat) : Int) - 1 = (j : Int) := by omega
  rw [ej]
  subst hk2
  refine sq_i fun k2 hk2 => ?_
  walk_at "rd"
  have e1 : (1 : Int) * 2 ^ (j : Int).toNat = ((2 ^ j : Nat) : Int) := by rw [Int.one_mul, Int.toNat_natCast]; simp
  rw [e1]
  refine ⟨⟨⟨by omega, by rw [i1]; omega⟩⟩, ?_⟩
  subst hk2
  refine sq_i fun k2 hk2 => ?_
  walk_at "rd"
  rw [cl, sqD_l]
  refine ⟨j, R, L, false, false, _, _, j, r, 16000, 16000, rfl, Nat.le_refl _, by omega, Nat.le_trans (Nat.mul_le_mul_left 2 (show j ≤ 6 by omega)) (by decide), hR, hL, by omega, ly, ly, bl, bl, by omega, ?_⟩
  walk_at "rd"
  rw [toT_ofT]
  subst hk2
  have hv : L[j]? = some L[j] := List.getElem?_eq_getElem (by omega)
  generalize L[j] = lv at hv
  obtain ⟨lv1, lv2⟩ := hL j lv hv
  have hrad : toT (rsF L) j lv = rad (rsF L) j := by
    show Tf _ _ (fn lv) = Tf _ _ (fn (L.getD j []))
    rw [getD_some hv]
  have bq := mulL_bits (n := j) hL bh bh
  unfold mulL at bq
  rw [toT_ofT] at bq
  refine sq_i fun k2 hk2 => ?_
  walk_at "rd"
  rw [ch, sqD_l]
  refine ⟨j, R, L, false, false, _, _, j, r, 16000, 16000, rfl, Nat.le_refl _, by omega, Nat.le_trans (Nat.mul_le_mul_left 2 (show j ≤ 6 by omega)) (by decide), hR, hL, by omega, lh, lh, bh, bh, by omega, ?_⟩
  walk_at "rd"
  rw [toT_ofT]
  subst hk2
  refine sq_i fun k2 hk2 => ?_
  walk_at "rd"
  refine hR.ix rfl hv fun w => ?_
  try rw [sqD_l]
  refine ⟨j, R, L, false, w, _, _, j, r, 16000 + 16000 + gro r j, r, rfl, Nat.le_refl _, by omega, Nat.le_trans (Nat.mul_le_mul_left 2 (show j ≤ 6 by omega)) (by decide), hR, hL, by omega, ofT_length _, lv1, bq, lv2, by omega, ?_⟩
  walk_at "rd"
  rw [toT_ofT, hrad]
  subst hk2
  walk_at "rd"
  refine ⟨Rng.of (by omega) (by omega), fit_len (by rw [upTo_length]; omega), ?_⟩
  rw [Int.toNat_natCast]
  refine lc_up (fun i => .int (fn (ofT (lo y * lo y)) i - fn (ofT (hi y * hi y * rad (rsF L) j)) i)) _ ?_ fun i hi q Z hq => ?_
  rotate_left
  · walk_at "rd"
    refine ix_ints rfl (by rw [ofT_length]; exact hi) ?_
    walk_at "rd"
    refine ix_ints rfl (by rw [ofT_length]; exact hi) ?_
    walk_at "rd"
    exact hq
  rw [diff_list]
  have en : lo y * lo y - hi y * hi y * rad (rsF L) j = nm y := by
    show _ = lo y * lo y - rad (rsF L) j * (hi y * hi y)
    grind
  rw [en]
  subst hk1
  refine ⟨j, by omega, j, nm y, s' + s', _, _, _, rfl, rfl, by omega, hN, Nat.le_trans (nm_wr (hw.low hjm) y) (mul_pow2 hwy hwy), ?_⟩
  rw [Nat.pow_succ] at hs'
  have : (s' + s') * 2 ^ j = s' * (2 ^ j * 2) := by grind
  omega
end
end K13

namespace K13
open PySem PySem.Spec PyProof.Rows L2 DL Builtin.Int
local macro_rules | `(tactic| walk_at "rd") => `(tactic| simp -failIfUnchanged only [sSet, sSetL, sRet, sRetL, sRetO, sRetN, sNext, sBreak, sCont, sDrop, sApp, sAug, sAsg, sPar, sSetI, sPop, sSetPop, sRev, sFrz, frz1, iSeq, iRevD, iRange1, iRange2, iRangeD, rName, rTup, rTL_sq, gMulS_s, gStr1_i, rTL_t, rTL_l, rCons, rNil,
  dLst, dView, tView, lView, view, look, dVar, bVar, dC, d2, d1, l2, tBool, dNil, dCons, dTup, gI, gSubI, gMulI, gFdiv, gMod, gPow, gShl, gShr, gAnd, gXor, gLt, gLe, gGt, gGe, gAdd, gEq, gNe, isNone, gIs, gIsNot, gNeg, lCat, gLen_l, gLen_t, gLen_s, gInt, gAbs, gMax2, gMin2, gTuple_l, gTuple_t, lList_l, lList_t, gGcd, gIsqrt, dCall, lCall, dIsi, dIsi2,
  tAndD, tOrD, tNotD, tTru, truD, dAndV, dOrV, dNotV, dIf, dBits, wipeD, twoD, lComp, oNone, oSome, dSl, lSl, gSl_l, gSl_t, gSl_sq, gSq_l, gSq_t, gSq_sq, gIx_sq, gLen_sq, gTuple_sq, lList_sq, iZipD, gZip_sq, gZip_ts, gZip_st, gZip_ls, gZip_sl, gZip_tt, gZip_ll, gZip_lt, gZip_tl, dFn, lFn, valD, tYesD, eqOk_ii, eqOk_bb, eqOk_ss, eqv_int, eqv_str, eqv_bool, noLst, noLstAll, List.map_cons, List.map_nil, Option.map_some, Option.map_none,
  List.getElem?_cons_zero, List.getElem?_cons_succ, List.set_cons_zero, List.set_cons_succ, true_and, and_true, decide_eq_true_eq, decide_eq_false_iff_not, Bool.not_eq_true', Bool.not_eq_false', beq_iff_eq, beq_eq_false_iff_ne, Bool.true_eq_false, Bool.false_eq_true, false_imp_iff, true_imp_iff, forall_const, reduceCtorEq, ne_eq, not_true_eq_false, not_false_eq_true, Bool.not_true, Bool.not_false, Bool.true_and, Bool.and_true, Bool.false_and, Bool.and_false, Int.reduceToNat, Int.cast_ofNat_Int, eq_self, isTy_none_int, isTy_none_bool, isTy_none_str, isTy_none_list, isTy_none_tuple, isTy_bool_int, isTy_bool_bool, isTy_bool_str, isTy_bool_list, isTy_bool_tuple, isTy_int_int, isTy_int_bool, isTy_int_str, isTy_int_list, isTy_int_tuple, isTy_str_int, isTy_str_bool, isTy_str_str, isTy_str_list, isTy_str_tuple, isTy_list_int, isTy_list_bool, isTy_list_str, isTy_list_list, isTy_list_tuple, isTy_tuple_int, isTy_tuple_bool, isTy_tuple_str, isTy_tuple_list, isTy_tuple_tuple, List.length_cons, List.length_nil, Nat.reduceAdd, Nat.zero_add, ix2_0, ix2_1,
  gIx_l0, gIx_t0, gIx_l1, gIx_t1, gIx_l2, gIx_t2, gIx_l3, gIx_t3, gIx_l4, gIx_t4, gIx_l5, gIx_t5, gIx_l6, gIx_t6, gIx_l7, gIx_t7, gIx_l8, gIx_t8, gIx_l9, gIx_t9, gIx_l10, gIx_t10, gIx_l11, gIx_t11, gIx_l12, gIx_t12, gIx_l13, gIx_t13, gIx_l14, gIx_t14, gIx_l15, gIx_t15])
section
variable {P : Program} {w : World} {K : Frag} {mg : Str → Option Value} {base : Heap}
open TV
/-- vectors that are asked, one after the other -/
def VecOk (L : Nat → Nat → Int) (ρ S : Nat → Nat) (m : Nat) (v : List Int) : Prop := ∃ j, j ≤ m ∧ v.length = 2 ^ j ∧ wr ρ (toT L j v) ≤ 2 ^ S j
def NSv (L : Nat → Nat → Int) (v : List Int) : Prop := ∀ j, v.length = 2 ^ j → NS (toT L j v)
theorem canLay_lists (t : Bool) : ∀ L : List (List Int), PyData.canLayAll0 (L.map fun l => sqD t (inD l)) = true
  | [] => rfl
  | l :: r => by
    have h1 := canLay_ints l
    have h2 := canLay_lists t r
    cases t <;> simp [sqD, PyData.canLayAll0, PyData.canLay0] at h2 ⊢ <;> exact ⟨h1, h2⟩
theorem eqOk_lists (L M : List (List Int)) : eqOk (.list (L.map fun l => .list (inD l))) (.list (M.map fun l => .list (inD l))) = true := by
  have h1 := canLay_lists false L
  have h2 := canLay_lists false M
  have h3 := depth_lists false L
  have h4 := depth_lists false M
  simp only [sqD] at h1 h2 h3 h4
  simp only [Bool.false_eq_true, if_false] at h1 h2 h3 h4
  simp [eqOk, SeqAt.shaped, PyData.canLay0, PyData.depth, h1, h2]
  omega
theorem two_inj {a b : Nat} (h : 2 ^ a = 2 ^ b) : a = b := by
  rcases Nat.lt_trichotomy a b with c | c | c
  · have := Nat.pow_lt_pow_right (a := 2) (by decide) c
    omega
  · exact c
  · have := Nat.pow_lt_pow_right (a := 2) (by decide) c
    omega
theorem eqv_nil (xs : List D) : PyData.eqv (.list xs) (.list []) = xs.isEmpty := by cases xs <;> simp [PyData.eqv, PyData.eqvAll]
theorem eqOk_int0 (l : List Int) : eqOk (.list (inD l)) (.list []) = true := by
  have h1 := canLay_ints l
  have h2 := dep_ints l
  simp only [eqOk, SeqAt.shaped, PyData.canLay0, PyData.canLayAll0, PyData.depth, PyData.depthAll, h1, h2]
  decide
theorem hi_filter {L : Nat → Nat → Int} {j : Nat} {v : List Int} (h : v.length = 2 ^ (j + 1)) : ((v.drop (2 ^ j)).filter fun i : Int => i != 0).isEmpty = true ↔ hi (toT L (j + 1) v) = 0 := by
  rw [hi_toT]
  have e3 := two_pow_succ' j
  have lx : (v.drop (2 ^ j)).length = 2 ^ j := by simp; omega
  rw [← zero_iff lx, List.isEmpty_iff, List.filter_eq_nil_iff, List.all_eq_true]
  refine ⟨fun z x hx => ?_, fun z x hx => ?_⟩
  · have := z x hx
    simpa using this
  · have := z x hx
    simpa using this
abbrev s__law_no_square : Stmt := topS 42
theorem sc__law_no_square : FnScope ["radicands", "vector", "left", "turn", "one", "half", "number", "is_flat", "place", "item"] ["radicands", "vector"] (defScope s__law_no_square) := ⟨rfl, rfl, rfl, by decide +kernel, rfl, by decide +kernel, by decide +kernel⟩
def f__law_no_square : FD := fun ds q => ∃ (m : Nat) (R : D) (L : List (List Int)) (t : Bool) (x : List Int) (r : Nat) (ρ S p : Nat → Nat), ds = [R, sqD t (inD x)] ∧ m ≤ 6 ∧ RadD R L ∧ RadOk r L ∧ r ≤ 100 ∧ m ≤ L.length ∧ x.length = 2 ^ m ∧ WOk (rsF L) ρ m ∧ Pr (rsF L) m ∧ wr ρ (toT (rsF L) m x) ≤ 2 ^ S m ∧
  (∀ j, j < m → ρ j * ρ j ≤ 2 ^ p j ∧ S (j + 1) + p j ≤ S j) ∧ (∀ j, j ≤ m → S j * 2 ^ j ≤ 15998) ∧ ∀ b : Bool, (b = true → NS (toT (rsF L) m x)) → q (.val (.bool b))
theorem ok__law_no_square {f fd} {k : Nat} (F : Fun K "_law_no_square" "_law_no_square" s__law_no_square f fd) (hdg : base.NoDigits) (m_len : mg "len" = none) (m_list : mg "list" = none) (m_range : mg "range" = none) (r__law_times_vector : Ready P w K mg base "_law_times_vector" 3 k f__law_times_vector) (r__law_norm_whole : Ready P w K mg base "_law_norm_whole" 2 k f__law_norm_whole) (r__law_isqrt : Ready P w K mg base "_law_isqrt" 1 k f__law_isqrt) : FnG P w K mg base (k + 1) f fd ["radicands", "vector"] (SpD K 2 f__law_no_square) := by
  refine fnD F sc__law_no_square fun cdv A outer s H E gA hr => ?_
  have hu := hr.units
  have nd := sc__law_no_square.nd
  refine ⟨_, (ss_cons (st_setL (i := 2) nd (dl_lst (da_cons (DLs.toE (dl_T c_list m_list (ab_cons (bv 1) ab_nil))) da_nil)))
    (ss_cons (st_for (i_range1 de_int m_range) (tg_name (i := 3) nd) (ss_cons (st_if (dt_cmp (o_eq hu) (bv 2) (DE.toB (DLs.toE (dl_lst da_nil)))) (ss_one (st_ret de_bl)) ss_nil)
    (ss_cons (st_setPop (i := 4) (j := 2) nd)
    (ss_cons (st_set (i := 5) nd (de_op o_fdiv (DE.toB (de_B c_len m_len (ab_cons (bv 4) ab_nil))) (DE.toB de_int)))
    (ss_cons (st_set (i := 6) nd (de_ix x_ix (bv 4) (DE.toB de_int)))
    (ss_cons (st_set (i := 7) nd (de_and (de_cmp o_gt (bv 5) (DE.toB de_int)) (de_one (de_cmp (o_eq hu) (DE.toB (DLs.toE (dl_lc (own := [("item", 9)]) nd (i_seqC (DE.toB (de_sl (bv 4) (do_some (dv 5)) do_none))) (gw_name (i := 9) nd) (dts_one fun _ _ _ _ _ => (dt_cmp (o_ne hu) (bv 9) (DE.toB de_int))) (fun _ _ _ _ _ => (dv 9))))) (DE.toB (DLs.toE (dl_lst da_nil)))))))
    (ss_one (st_if (dt_tru (bv 7)) (ss_cons (st_set (i := 8) nd de_int)
    (ss_cons (st_while (dt_cmp o_lt (DE.toB (de_op o_shl (DE.toB de_int) (bv 8))) (bv 5)) (ss_one (st_set (i := 8) nd (de_op o_add (bv 8) (DE.toB de_int)))))
    (ss_cons (st_app (i := 2) (de_sl (bv 4) do_none (do_some (dv 5))))
    (ss_one (st_app (i := 2) (r__law_times_vector.toE gA hr (da_cons (dv 0) (da_cons (de_sl (bv 4) do_none (do_some (dv 5))) (da_cons (de_ix x_ix (bv 0) (bv 8)) da_nil))))))))) (ss_cons (st_if (dt_cmp o_gt (bv 5) (DE.toB de_int)) (ss_one (st_set (i := 6) nd (r__law_norm_whole.toE gA hr (da_cons (dv 0) (da_cons (dv 4) da_nil))))) ss_nil)
    (ss_one (st_if (DW.pt (dw_and (dt_cmp o_ge (bv 6) (DE.toB de_int)) (dw_and1 (dt_cmp (o_eq hu) (DE.toB (de_op o_mul (DE.toB (r__law_isqrt.toE gA hr (da_cons (dv 6) da_nil))) (DE.toB (r__law_isqrt.toE gA hr (da_cons (dv 6) da_nil))))) (bv 6))))) (ss_one (st_ret de_bl)) ss_nil)))))))))))
    (ss_one (st_ret (de_cmp (o_eq hu) (bv 2) (DE.toB (DLs.toE (dl_lst da_nil)))))))), ?_⟩
  clear F nd hu hr gA E H s outer A cdv hdg m_len m_list m_range r__law_times_vector r__law_norm_whole r__law_isqrt
  intro ds q hl hg
  obtain ⟨m, R, L, t, x, r, ρ, S, p, rfl, hm6, hR, hL, hr, hmL, hx, hw, hP, hwx, hS, hS2, hq⟩ := hg
  show sSeq _ _ _ [some (.val R), some (.val (sqD t (inD x))), none, none, none, none, none, none, none, none]
  have i1 : intBits 1 = 1 := by decide
  refine sq_i fun k hk => ?_
  walk_at "rd"
  subst hk
  refine sq_i fun k hk => for_in fun W hW => ?_
  walk_at "rd"
  refine ⟨Rng.of (by decide) (by decide), ?_⟩
  subst hW
  refine for_up (fun i σ => ∃ (V : List (List Int)) (y3 y4 y5 y6 y7 y8 : Option DV), σ = [some (.val R), some (.val (sqD t (inD x))), some (.own (V.map fun l => .list (inD l))), y3, y4, y5, y6, y7, y8, none] ∧ V.length ≤ i + 1 ∧ (∀ v ∈ V, VecOk (rsF L) ρ S m v) ∧ ((∀ v ∈ V, NSv (rsF L) v) → NS (toT (rsF L) m x))) 0 127
    ⟨[x], none, none, none, none, none, none, rfl, Nat.le_refl _, fun v hv => ?_, fun h => h x (by simp) m hx⟩ ?_ ?_
  · rw [List.mem_singleton.mp hv]
    exact ⟨m, Nat.le_refl _, hx, hwx⟩
  · rintro _ ⟨V, y3, y4, y5, y6, y7, y8, rfl, hV1, hV2, hV3⟩
    subst hk
    walk_at "rd"
    refine ⟨eqOk_lists V [], ?_⟩
    rw [eqv_nil]
    refine hq _ fun h => hV3 fun v hv => ?_
    have : V = [] := by simpa using h
    rw [this] at hv
    cases hv
  rintro i _ hi127 ⟨V, y3, y4, y5, y6, y7, y8, rfl, hV1, hV2, hV3⟩ k1 hk1
  simp only [Int.zero_add]
  refine sq_i fun k2 hk2 => if_n fun T hT => ?_
  walk_at "rd"
  refine ⟨eqOk_lists V [], ?_⟩
  rw [eqv_nil]
  refine ⟨fun h => ?_, fun h => ?_⟩
  · subst hT
    walk_at "rd"
    refine hq _ fun _ => hV3 fun v hv => ?_
    have : V = [] := by simpa using h
    rw [this] at hv
    cases hv
  clear hT T
  obtain ⟨V, v, rfl⟩ : ∃ V' v, V = V' ++ [v] := by
    have hne : V ≠ [] := fun c => by rw [c] at h; cases h
    exact ⟨V.dropLast, V.getLast hne, (List.dropLast_concat_getLast hne).symm⟩
  clear h
  obtain ⟨j, hj, hvl, hvw⟩ := hV2 v (by simp)
  have hVr : ∀ v ∈ V, VecOk (rsF L) ρ S m v := fun u hu => hV2 u (by simp [hu])
  have hVl : V.length ≤ i := by simp at hV1; omega
  subst hk2
  refine sq_i fun k2 hk2 => ?_
  walk_at "rd"
  rw [List.map_append, List.map_cons, List.map_nil, List.getLast?_concat, List.dropLast_concat]
  walk_at "rd"
  subst hk2
  have h64 : 2 ^ j ≤ 64 := Nat.le_trans (Nat.pow_le_pow_right (by decide) (show j ≤ 6 by omega)) (by decide)
  have hp0 := Nat.two_pow_pos j
  refine sq_i fun k2 hk2 => ?_
  walk_at "rd"
  rw [List.length_map, hvl]
  refine ⟨div_small (by decide) (by decide), ?_⟩
  have eh : ((2 ^ j : Nat) : Int).fdiv 2 = ((2 ^ j / 2 : Nat) : Int) := fdiv_nat2 _
  rw [eh]
  subst hk2
  refine sq_i fun k2 hk2 => ?_
  walk_at "rd"
  refine ix_ints (j := 0) rfl (by omega) ?_
  subst hk2
  have Sj := hS2 j hj
  have S16 : S j ≤ 15998 := Nat.le_trans (Nat.le_mul_of_pos_right _ hp0) Sj
  have bv : BdL 15999 v := by
    have := (wr_bd (hw.low hj) (pow_lt2 (t := 15999) hvw (by omega))).ofT
    rwa [ofT_toT v hvl] at this
  have keep : NSv (rsF L) v → (∀ u ∈ V, NSv (rsF L) u) → NS (toT (rsF L) m x) := fun h1 h2 => hV3 fun u hu => by
    rcases List.mem_append.mp hu with h | h
    · exact h2 u h
    · rw [List.mem_singleton.mp h]; exact h1
  have fin : ∀ (N : Int) (y5 y7 y8 : Option DV), intBits N ≤ 15999 → (sqB N = false → NSv (rsF L) v) →
      sIf (tAndD (tBool (d2 gGe (bVar 6) (dC (PyData.int 0)))) (tBool (d2 gEq (d2 gMulI (dFn f__law_isqrt (dCons (dVar 6) dNil)) (dFn f__law_isqrt (dCons (dVar 6) dNil))) (bVar 6)))) (sRet (dC (PyData.bool false))) sNext { nx := k1, rt := q, bk := k, ct := k1 }
        [some (.val R), some (.val (sqD t (inD x))), some (.own (V.map fun l => .list (inD l))), some (.val (.int (i : Int))), some (.val (.list (inD v))), y5, some (.val (.int N)), y7, y8, none] := by
    intro N y5 y7 y8 hN hns
    have go : sqB N = false → k1 [some (.val R), some (.val (sqD t (inD x))), some (.own (V.map fun l => .list (inD l))), some (.val (.int (i : Int))), some (.val (.list (inD v))), y5, some (.val (.int N)), y7, y8, none] := fun h =>
      hk1 _ ⟨V, _, _, _, _, _, _, rfl, by omega, hVr, keep (hns h)⟩
    refine if_n fun T hT => ?_
    walk_at "rd"
    refine ⟨fun h0 => ?_, fun h0 => go ?_⟩
    · refine ⟨N, rfl, h0, hN, ?_⟩
      walk_at "rd"
      refine ⟨N, rfl, h0, hN, ?_⟩
      walk_at "rd"
      obtain ⟨n, rfl⟩ : ∃ n : Nat, N = (n : Int) := ⟨N.toNat, by omega⟩
      rw [Int.toNat_natCast]
      have hr2 := root_le (isqrt_root n)
      have hb : intBits ((Float64.isqrt n : Nat) : Int) ≤ 15999 := intBits_le_iff.mpr (by
        have := intBits_le_iff.mp hN
        rw [Int.natAbs_natCast] at this ⊢
        omega)
      refine ⟨MulOk.of_le hb hb (by decide), fun h => ?_, fun h => go ?_⟩
      · subst hT
        walk_at "rd"
        exact hq false fun c => by cases c
      · unfold sqB
        rw [Int.toNat_natCast, decide_eq_true h0, Bool.true_and]
        refine beq_eq_false_iff_ne.mpr fun c => h ?_
        rw [← Int.natCast_mul, c]
    · unfold sqB
      rw [decide_eq_false h0, Bool.false_and]
  rcases j with _ | j
  · -- no letter
    refine sq_i fun k2 hk2 => ?_
    walk_at "rd"
    refine ⟨fun h => absurd h (by decide), fun _ => ?_⟩
    subst hk2
    refine if_in fun T U hT hU => ?_
    walk_at "rd"
    subst hU
    refine sq_i fun k2 hk2 => if_n fun T2 hT2 => ?_
    walk_at "rd"
    refine ⟨fun h => absurd h (by decide), fun _ => ?_⟩
    subst hk2
    refine fin _ _ _ _ (bv.fn 0) fun h j' hj' => ?_
    have : j' = 0 := by
      rw [hvl] at hj'
      exact (two_inj hj').symm
    subst this
    exact ns_of_Nn (n := 0) (fun k hk => by omega) h
  have e3 := two_pow_succ' j
  have e2 : 2 ^ (j + 1) / 2 = 2 ^ j := by omega
  rw [e2]
  have hpj := Nat.two_pow_pos j
  have hPj : Pr (rsF L) (j + 1) := hP.low hj
  have nsj : NS (toT (rsF L) (j + 1) v) → NSv (rsF L) v := fun h j' hj' => by
    rw [hvl] at hj'
    obtain rfl := two_inj hj'
    exact h
  have lx1 : (v.take (2 ^ j)).length = 2 ^ j := by simp; omega
  have lx2 : (v.drop (2 ^ j)).length = 2 ^ j := by simp; omega
  refine sj_i 7 (fun d => ∃ fl : Bool, d = .bool fl ∧ (fl = true ↔ hi (toT (rsF L) (j + 1) v) = 0)) ?_ fun k hk => ?_
  rotate_left
  · walk_at "rd"
    refine ⟨fun _ => ?_, fun h => absurd hpj (by omega)⟩
    rw [cut_high (by simp; omega), ← List.map_drop]
    refine ⟨fit_len (by simp; omega), ?_⟩
    refine lc_p (emb := fun i : Int => PyData.int i) (fun i : Int => i != 0) (fun i : Int => .int i) (v.drop (2 ^ j)) ?_ fun a ha q Z h1 h2 => ?_
    rotate_left
    · walk_at "rd"
      exact ⟨fun c => h1 (by simpa using c), fun c => h2 (by simpa using c)⟩
    refine ⟨eqOk_int0 _, ?_⟩
    rw [eqv_nil]
    rw [List.isEmpty_map]
    exact hk _ ⟨_, rfl, hi_filter hvl⟩
  rintro _ ⟨fl, rfl, hfl⟩
  refine if_in fun T U hT hU => ?_
  walk_at "rd"
  refine ⟨fun h => ?_, fun h => ?_⟩
  · clear hU U
    have hi0 := hfl.mp h
    subst hT
    refine sq_i fun k2 hk2 => ?_
    walk_at "rd"
    subst hk2
    refine sj_i 8 (fun d => d = .int (j : Int)) ?_ fun k hk => ?_
    rotate_left
    · refine while_i (fun mm σ => ∃ pl : Nat, σ = [some (.val R), some (.val (sqD t (inD x))), some (.own (V.map fun l => .list (inD l))), some (.val (.int (i : Int))), some (.val (.list (inD v))), some (.val (.int ((2 ^ j : Nat) : Int))), some (.val (.int (fn v 0))), some (.val (.bool fl)), some (.val (.int (pl : Int))), none] ∧ pl ≤ j ∧ mm = j - pl) j ⟨0, rfl, by omega, by omega⟩ ?_
      rintro _ _ ⟨pl, rfl, hpl, rfl⟩ k3 hk3
      walk_at "rd"
      have e1 : (1 : Int) * 2 ^ (pl : Int).toNat = ((2 ^ pl : Nat) : Int) := by rw [Int.one_mul, Int.toNat_natCast]; simp
      rw [e1]
      refine ⟨⟨⟨by omega, by rw [i1]; omega⟩⟩, fun hc => ?_, fun hc => ?_⟩
      · have hlt : pl < j := by
          refine Nat.not_le.mp fun c => ?_
          have : 2 ^ j ≤ 2 ^ pl := Nat.pow_le_pow_right (by decide) c
          omega
        subst hk3
        exact ⟨j - (pl + 1), by omega, pl + 1, rfl, by omega, rfl⟩
      · have hge : pl = j := by
          refine Nat.le_antisymm hpl (Nat.not_lt.mp fun c => hc ?_)
          have : 2 ^ pl < 2 ^ j := Nat.pow_lt_pow_right (by decide) c
          omega
        subst hge
        exact hk _ rfl
    rintro _ rfl
    have hv : L[j]? = some L[j] := List.getElem?_eq_getElem (by omega)
    generalize L[j] = lv at hv
    obtain ⟨lv1, lv2⟩ := hL j lv hv
    have hrad : toT (rsF L) j lv = rad (rsF L) j := by
      show Tf _ _ (fn lv) = Tf _ _ (fn (L.getD j []))
      rw [getD_some hv]
    have gj := gro_le hr (show j ≤ 6 by omega)
    have gg : j * gG r j ≤ 6 * 7102 := Nat.mul_le_mul (by omega) (by show gro r j + r + 2 ≤ 7102; omega)
    have ecl : cutD (inD v) none (some ((2 ^ j : Nat) : Int)) = inD (v.take (2 ^ j)) := by rw [cut_low (by simp; omega), ← List.map_take]
    refine sq_i fun k2 hk2 => ?_
    walk_at "rd"
    rw [ecl]
    refine ⟨fit_len (by simp; omega), ?_⟩
    subst hk2
    walk_at "rd"
    rw [ecl]
    refine ⟨fit_len (by simp; omega), ?_⟩
    refine hR.ix rfl hv fun w => ?_
    rw [sqD_l]
    refine ⟨j, R, L, false, w, _, _, j, r, 15999, r, rfl, Nat.le_refl _, by omega, Nat.le_trans (Nat.mul_le_mul_left 2 (show j ≤ 6 by omega)) (by decide), hR, hL, by omega, lx1, lv1, bv.take, lv2, by omega, ?_⟩
    walk_at "rd"
    rw [hrad]
    have el : lo (toT (rsF L) (j + 1) v) = toT (rsF L) j (v.take (2 ^ j)) := lo_toT
    obtain ⟨s1, s2⟩ := hS j (by omega)
    have wl1 : wr ρ (toT (rsF L) j (v.take (2 ^ j))) ≤ 2 ^ S (j + 1) := by
      rw [← el]
      exact Nat.le_trans (wr_lo _) hvw
    refine hk1 _ ⟨V ++ [v.take (2 ^ j)] ++ [ofT (toT (rsF L) j (v.take (2 ^ j)) * rad (rsF L) j)], _, _, _, _, _, _, by simp only [List.map_append, List.map_cons, List.map_nil]; rfl, by simp; omega, fun u hu => ?_, fun h1 => ?_⟩
    · rcases List.mem_append.mp hu with hu | hu
      · rcases List.mem_append.mp hu with hu | hu
        · exact hVr u hu
        · rw [List.mem_singleton.mp hu]
          exact ⟨j, by omega, lx1, pow_le2 wl1 (by omega)⟩
      · rw [List.mem_singleton.mp hu]
        refine ⟨j, by omega, ofT_length _, ?_⟩
        rw [toT_ofT]
        have hwj := hw.low (show j ≤ m by omega)
        have := Nat.le_trans (wr_mul hwj (toT (rsF L) j (v.take (2 ^ j))) (rad (rsF L) j)) (mul_pow2 wl1 (Nat.le_trans (hw j (by omega)).2 s1))
        exact pow_le2 this (by omega)
    · have n1 := h1 (v.take (2 ^ j)) (by simp) j lx1
      have n2 := h1 (ofT (toT (rsF L) j (v.take (2 ^ j)) * rad (rsF L) j)) (by simp) j (ofT_length _)
      rw [toT_ofT] at n2
      refine keep (nsj ?_) fun u hu => h1 u (by simp [hu])
      rw [← mk_eta (toT (rsF L) (j + 1) v), hi0, el]
      exact ns_low (hPj.low (by omega)).dom (hPj j (by omega)) n1 n2
  · clear hT T
    subst hU
    refine sj_i 6 (fun d => d = .int (Nn (toT (rsF L) (j + 1) v))) ?_ fun k hk => if_n fun T hT => ?_
    rotate_left
    · walk_at "rd"
      refine ⟨fun _ => ?_, fun h => absurd hpj (by omega)⟩
      subst hT
      walk_at "rd"
      rw [sqD_l]
      refine ⟨j + 1, R, L, false, v, r, S (j + 1), ρ, rfl, by omega, hR, hL, hr, by omega, hvl, hw.low hj, hvw, Sj, ?_⟩
      walk_at "rd"
      exact hk _ rfl
    rintro _ rfl
    refine fin _ _ _ _ ?_ fun h => nsj (ns_of_Nn hPj h)
    refine intBits_le_iff.mpr ?_
    have := Nn_wr (hw.low hj) (Nat.two_pow_pos _) hvw
    refine Nat.lt_of_le_of_lt (Nat.le_trans this (pow_sizes Sj)) (Nat.pow_lt_pow_right (by decide) (by decide))

end
end K13

namespace K13
open PySem PySem.Spec PyProof.Rows L2 DL Builtin.Int
local macro_rules | `(tactic| walk_at "rd") => `(tactic| simp -failIfUnchanged only [sSet, sSetL, sRet, sRetL, sRetO, sRetN, sNext, sBreak, sCont, sDrop, sApp, sAug, sAsg, sPar, sSetI, sPop, sSetPop, sRev, sFrz, frz1, iSeq, iRevD, iRange1, iRange2, iRangeD, rName, rTup, rTL_sq, gMulS_s, gStr1_i, rTL_t, rTL_l, rCons, rNil,
  dLst, dView, tView, lView, view, look, dVar, bVar, dC, d2, d1, l2, tBool, dNil, dCons, dTup, gI, gSubI, gMulI, gFdiv, gMod, gPow, gShl, gShr, gAnd, gXor, gLt, gLe, gGt, gGe, gAdd, gEq, gNe, isNone, gIs, gIsNot, gNeg, lCat, gLen_l, gLen_t, gLen_s, gInt, gAbs, gMax2, gMin2, gTuple_l, gTuple_t, lList_l, lList_t, gGcd, gIsqrt, dCall, lCall, dIsi, dIsi2,
  tAndD, tOrD, tNotD, tTru, truD, dAndV, dOrV, dNotV, dIf, dBits, wipeD, twoD, lComp, oNone, oSome, dSl, lSl, gSl_l, gSl_t, gSl_sq, gSq_l, gSq_t, gSq_sq, gIx_sq, gLen_sq, gTuple_sq, lList_sq, iZipD, gZip_sq, gZip_ts, gZip_st, gZip_ls, gZip_sl, gZip_tt, gZip_ll, gZip_lt, gZip_tl, dFn, lFn, valD, tYesD, eqOk_ii, eqOk_bb, eqOk_ss, eqv_int, eqv_str, eqv_bool, noLst, noLstAll, List.map_cons, List.map_nil, Option.map_some, Option.map_none,
  List.getElem?_cons_zero, List.getElem?_cons_succ, List.set_cons_zero, List.set_cons_succ, true_and, and_true, decide_eq_true_eq, decide_eq_false_iff_not, Bool.not_eq_true', Bool.not_eq_false', beq_iff_eq, beq_eq_false_iff_ne, Bool.true_eq_false, Bool.false_eq_true, false_imp_iff, true_imp_iff, forall_const, reduceCtorEq, ne_eq, not_true_eq_false, not_false_eq_true, Bool.not_true, Bool.not_false, Bool.true_and, Bool.and_true, Bool.false_and, Bool.and_false, Int.reduceToNat, Int.cast_ofNat_Int, eq_self, isTy_none_int, isTy_none_bool, isTy_none_str, isTy_none_list, isTy_none_tuple, isTy_bool_int, isTy_bool_bool, isTy_bool_str, isTy_bool_list, isTy_bool_tuple, isTy_int_int, isTy_int_bool, isTy_int_str, isTy_int_list, isTy_int_tuple, isTy_str_int, isTy_str_bool, isTy_str_str, isTy_str_list, isTy_str_tuple, isTy_list_int, isTy_list_bool, isTy_list_str, isTy_list_list, isTy_list_tuple, isTy_tuple_int, isTy_tuple_bool, isTy_tuple_str, isTy_tuple_list, isTy_tuple_tuple, List.length_cons, List.length_nil, Nat.reduceAdd, Nat.zero_add, ix2_0, ix2_1,
  gIx_l0, gIx_t0, gIx_l1, gIx_t1, gIx_l2, gIx_t2, gIx_l3, gIx_t3, gIx_l4, gIx_t4, gIx_l5, gIx_t5, gIx_l6, gIx_t6, gIx_l7, gIx_t7, gIx_l8, gIx_t8, gIx_l9, gIx_t9, gIx_l10, gIx_t10, gIx_l11, gIx_t11, gIx_l12, gIx_t12, gIx_l13, gIx_t13, gIx_l14, gIx_t14, gIx_l15, gIx_t15])
section
variable {P : Program} {w : World} {K : Frag} {mg : Str → Option Value} {base : Heap}
open TV
def IsC (v : List Int) (c : Int) : Prop := ∀ j, fn v j = if j = 0 then c else 0
def IsTow (k : Nat) (v : List Int) (s : Int) : Prop := ∀ j, fn v j = if j = 0 then 2 else if j = 2 ^ (k - 1) then s else 0
/-- a radicand that may be drawn -/
def RadC (k mode : Nat) (v : List Int) : Prop := (∃ c : Int, c.natAbs ≤ 1000001 ∧ IsC v c ∧ (mode = 0 → c.natAbs ≤ 11)) ∨ (mode = 0 ∧ 1 ≤ k ∧ ∃ s : Int, (s = 1 ∨ s = -1) ∧ IsTow k v s) ∨ (k ≤ 3 ∧ 2 ≤ mode ∧ ∀ i ∈ v, i.natAbs ≤ 8078)
theorem fn_rep0 {n j : Nat} : fn (List.replicate n (0 : Int)) j = 0 := by
  simp only [fn, List.getD_eq_getElem?_getD, List.getElem?_replicate]
  split <;> rfl
theorem fn_set {l : List Int} {i j : Nat} {x : Int} (h : i < l.length) : fn (l.set i x) j = if j = i then x else fn l j := by
  simp only [fn, List.getD_eq_getElem?_getD, List.getElem?_set]
  by_cases c : i = j
  · subst c
    simp [h]
  · rw [if_neg c, if_neg (fun z => c z.symm)]
theorem setD {l : List Int} {i : Nat} {x : Int} : (inD l).set i (.int x) = inD (l.set i x) := by unfold inD; rw [List.map_set]
theorem ixN_in {l : List Int} {i : Int} {j : Nat} (e : i = (j : Int)) (h : j < l.length) : ixN (inD l).length i = some j := ixN_at e (by rw [List.length_map]; exact h)
theorem mem_set' {l : List Int} {i : Nat} {x y : Int} (h : y ∈ l.set i x) : y ∈ l ∨ y = x := List.mem_or_eq_of_mem_set h
theorem add_bd {a b : Int} {m n : Nat} (h1 : a.natAbs ≤ m) (h2 : b.natAbs ≤ n) : (a + b).natAbs ≤ m + n := by omega
abbrev s__law_radicand : Stmt := topS 43
theorem sc__law_radicand : FnScope ["cell", "k", "mode", "menu", "digits", "size", "vector", "place", "item"] ["cell", "k", "mode"] (defScope s__law_radicand) := ⟨rfl, rfl, rfl, by decide +kernel, rfl, by decide +kernel, by decide +kernel⟩
def f__law_radicand : FD := fun ds q => ∃ (c : Int) (k mode : Nat), ds = [.int c, .int k, .int mode] ∧ k ≤ 5 ∧ mode ≤ 8 ∧ intBits c ≤ 1048576 ∧ ∀ v : List Int, v.length = 2 ^ k → RadC k mode v → q (.own (inD v))
theorem ok__law_radicand {f fd} {k : Nat} (F : Fun K "_law_radicand" "_law_radicand" s__law_radicand f fd) (hdg : base.NoDigits) (m_int : mg "int" = none) (m_range : mg "range" = none) (r__law_digits : Ready P w K mg base "_law_digits" 2 k f__law_digits) : FnG P w K mg base (k + 1) f fd ["cell", "k", "mode"] (SpD K 3 f__law_radicand) := by
  refine fnD F sc__law_radicand fun cdv A outer s H E gA hr => ?_
  have hu := hr.units
  have nd := sc__law_radicand.nd
  refine ⟨_, (ss_cons (st_set (i := 3) nd (DLs.toE (dl_lst (da_cons de_int (da_cons de_int (da_cons de_int (da_cons de_int (da_cons (de_un u_neg (DE.toB de_int)) (da_cons de_int (da_cons (de_un u_neg (DE.toB de_int)) (da_cons de_int (da_cons (de_un u_neg (DE.toB de_int)) (da_cons de_int (da_cons de_int (da_cons de_int da_nil)))))))))))))))
    (ss_cons (st_set (i := 4) nd (r__law_digits.toE gA hr (da_cons (dv 0) (da_cons (DLs.toE (dl_lst (da_cons de_int (da_cons de_int (da_cons de_int (da_cons de_int (da_cons de_int (da_cons de_int (da_cons de_int (da_cons de_int (da_cons de_int (da_cons de_int da_nil)))))))))))) da_nil))))
    (ss_cons (st_set (i := 5) nd (de_op o_shl (DE.toB de_int) (bv 1)))
    (ss_cons (st_lcL (own := [("place", 7)]) (i := 6) nd (DI.c (i_range1 (dv 5) m_range)) (gw_name (i := 7) nd) dts_nil (fun _ _ _ _ _ => de_int) (sw_true rfl rfl rfl (by decide +kernel)))
    (ss_cons (st_if (dt_cmp (o_eq hu) (bv 2) (DE.toB de_int)) (ss_cons (st_setI (i := 6) de_int de_int)
    (ss_one (st_if (dt_cmp o_gt (bv 1) (DE.toB de_int)) (ss_one (st_setI (i := 6) (de_op o_sub (DE.toB de_int) (DE.toB (de_op o_mul (DE.toB de_int) (DE.toB (de_T c_int m_int (ab_cons (DE.toB (de_op o_mod (DE.toB (de_T c_int m_int (ab_cons (DE.toB (de_ix x_ix (bv 4) (DE.toB de_int))) ab_nil))) (DE.toB de_int))) ab_nil)))))) (de_op o_fdiv (bv 5) (DE.toB de_int)))) ss_nil))) (ss_one (st_if (DW.pt (dw_or (dt_cmp (o_eq hu) (bv 1) (DE.toB de_int)) (dw_or (dt_cmp o_gt (bv 1) (DE.toB de_int)) (dw_or (dt_cmp (o_eq hu) (bv 2) (DE.toB de_int)) (dw_or1 (dt_cmp (o_eq hu) (DE.toB (de_ix x_ix (bv 4) (DE.toB de_int))) (DE.toB de_int))))))) (ss_cons (st_setI (i := 6) (de_ix x_ix (bv 3) (DE.toB (de_ix x_ix (bv 4) (DE.toB de_int)))) de_int)
    (ss_one (st_if (dt_cmp (o_eq hu) (DE.toB (de_ix x_ix (bv 4) (DE.toB de_int))) (DE.toB de_int)) (ss_one (st_setI (i := 6) (de_op o_sub (DE.toB (de_op o_mod (DE.toB (de_T c_int m_int (ab_cons (bv 0) ab_nil))) (DE.toB de_int))) (DE.toB de_int)) de_int)) ss_nil))) (ss_cons (st_if (dt_cmp (o_eq hu) (DE.toB (de_ix x_ix (bv 4) (DE.toB de_int))) (DE.toB de_int)) (ss_one (st_lcL (own := [("place", 7)]) (i := 6) nd (DI.c (i_range1 (dv 5) m_range)) (gw_name (i := 7) nd) dts_nil (fun _ _ _ _ _ => (de_op o_sub (DE.toB (de_ix x_ix (bv 4) (DE.toB (de_op o_add (DE.toB de_int) (bv 7))))) (DE.toB de_int))) (sw_true rfl rfl rfl (by decide +kernel)))) (ss_cons (st_setI (i := 6) (de_op o_sub (DE.toB (de_ix x_ix (bv 4) (DE.toB de_int))) (DE.toB de_int)) de_int)
    (ss_cons (st_setI (i := 6) (de_op o_add (DE.toB de_int) (DE.toB (de_op o_mod (DE.toB (de_T c_int m_int (ab_cons (DE.toB (de_ix x_ix (bv 4) (DE.toB de_int))) ab_nil))) (DE.toB de_int)))) (de_op o_fdiv (bv 5) (DE.toB de_int)))
    (ss_cons (st_set (i := 7) nd (de_op o_mod (DE.toB (de_T c_int m_int (ab_cons (DE.toB (de_op o_add (DE.toB (de_op o_mul (DE.toB (de_ix x_ix (bv 4) (DE.toB de_int))) (DE.toB de_int))) (DE.toB (de_ix x_ix (bv 4) (DE.toB de_int))))) ab_nil))) (bv 5)))
    (ss_one (st_setI (i := 6) (de_op o_sub (DE.toB (de_op o_add (DE.toB (de_ix x_ix (bv 6) (bv 7))) (DE.toB (de_ix x_ix (bv 4) (DE.toB de_int))))) (DE.toB de_int)) (dv 7)))))))
    (ss_one (st_if (dt_cmp (o_eq hu) (DE.toB (de_ix x_ix (bv 4) (DE.toB de_int))) (DE.toB de_int)) (ss_cons (st_lcL (own := [("item", 8)]) (i := 6) nd (i_seqC (bv 6)) (gw_name (i := 8) nd) dts_nil (fun _ _ _ _ _ => (de_op o_mul (DE.toB de_int) (bv 8))) (sw_true rfl rfl rfl (by decide +kernel)))
    (ss_one (st_setI (i := 6) (de_op o_add (DE.toB (de_ix x_ix (bv 6) (DE.toB de_int))) (DE.toB (de_ix x_ix (bv 4) (DE.toB de_int)))) de_int))) ss_nil))))))
    (ss_one (st_retO 6))))))), ?_⟩
  clear F nd hu hr gA E H s outer A cdv hdg m_int m_range r__law_digits
  intro ds q hl hg
  obtain ⟨c, kk, mode, rfl, hk5, hmode, hc, hq⟩ := hg
  show sSeq _ _ _ [some (.val (.int c)), some (.val (.int kk)), some (.val (.int mode)), none, none, none, none, none, none]
  have i1 : intBits 1 = 1 := by decide
  have h32 : 2 ^ kk ≤ 32 := Nat.le_trans (Nat.pow_le_pow_right (by decide) hk5) (by decide)
  have hp0 := Nat.two_pow_pos kk
  refine sq_i fun k hk => ?_
  walk_at "rd"
  subst hk
  refine sq_i fun k hk => ?_
  walk_at "rd"
  refine ⟨c, [5, 12, 7, 7, 7, 7, 7, 7, 7, 7], rfl, by decide, by decide, fun rs hrs => ?_⟩
  obtain ⟨r0, _, rfl, a0, hrs⟩ := hrs.cons
  obtain ⟨r1, _, rfl, a1, hrs⟩ := hrs.cons
  obtain ⟨r2, _, rfl, a2, hrs⟩ := hrs.cons
  obtain ⟨r3, _, rfl, a3, hrs⟩ := hrs.cons
  obtain ⟨r4, _, rfl, a4, hrs⟩ := hrs.cons
  obtain ⟨r5, _, rfl, a5, hrs⟩ := hrs.cons
  obtain ⟨r6, _, rfl, a6, hrs⟩ := hrs.cons
  obtain ⟨r7, _, rfl, a7, hrs⟩ := hrs.cons
  obtain ⟨r8, _, rfl, a8, hrs⟩ := hrs.cons
  obtain ⟨r9, _, rfl, a9, hrs⟩ := hrs.cons
  obtain rfl := hrs.nil
  walk_at "rd"
  subst hk
  refine sq_i fun k hk => ?_
  walk_at "rd"
  have e1 : (1 : Int) * 2 ^ (kk : Int).toNat = ((2 ^ kk : Nat) : Int) := by rw [Int.one_mul, Int.toNat_natCast]; simp
  rw [e1]
  refine ⟨⟨⟨by omega, by rw [i1]; omega⟩⟩, ?_⟩
  subst hk
  refine sq_i fun k hk => ?_
  walk_at "rd"
  refine ⟨Rng.of (by omega) (by omega), fit_len (by rw [upTo_length]; omega), ?_⟩
  rw [Int.toNat_natCast]
  refine lc_up (fun _ => .int 0) _ ?_ fun i hi q Z hq => by walk_at "rd"; exact hq
  have e0 : (List.range (2 ^ kk)).map (fun _ => PyData.int 0) = inD (List.replicate (2 ^ kk) 0) := by
    rw [List.map_const', List.length_range, inD, List.map_replicate]
  rw [e0]
  subst hk
  have eh : ((2 ^ kk : Nat) : Int).fdiv 2 = ((2 ^ kk / 2 : Nat) : Int) := fdiv_nat2 _
  have hlt : 2 ^ kk / 2 < 2 ^ kk := by omega
  refine sj_r (fun σ => ∃ (v : List Int) (y : Option DV), σ = [some (.val (.int c)), some (.val (.int kk)), some (.val (.int mode)), some (.val (.list (inD [2, 3, 5, 7, -1, 11, -2, 6, -3, 10, 8, 12]))), some (.val (.list (inD [r0, r1, r2, r3, r4, r5, r6, r7, r8, r9]))), some (.val (.int ((2 ^ kk : Nat) : Int))), some (.own (inD v)), y, none] ∧ v.length = 2 ^ kk ∧ RadC kk mode v) ?_ fun k hk => ?_
  · rintro _ ⟨v, y, rfl, h1, h2⟩
    walk_at "rd"
    exact hq v h1 h2
  refine if_in fun T U hT hU => ?_
  walk_at "rd"
  refine ⟨fun h => ?_, fun h => ?_⟩
  · clear hU U
    obtain rfl : mode = 0 := by omega
    subst hT
    refine sq_i fun k2 hk2 => ?_
    walk_at "rd"
    rw [ixN_in (i := 0) (j := 0) rfl (by simp; omega)]
    walk_at "rd"
    rw [setD]
    subst hk2
    refine if_n fun T hT => ?_
    walk_at "rd"
    refine ⟨fun h => ?_, fun h => ?_⟩
    · subst hT
      have g2 := fmod_pos (a := r1) (b := 2) (by decide)
      walk_at "rd"
      refine ⟨by decide, mul_l (by decide) (by decide), div_small (by decide) (by decide), ?_⟩
      rw [eh, ixN_in (i := ((2 ^ kk / 2 : Nat) : Int)) (j := 2 ^ kk / 2) rfl (by simp; omega)]
      walk_at "rd"
      rw [setD]
      obtain ⟨i, rfl⟩ : ∃ i, kk = i + 1 := ⟨kk - 1, by omega⟩
      have e5 : 2 ^ (i + 1) / 2 = 2 ^ i := by rw [Nat.pow_succ]; omega
      rw [e5]
      have e6 := Nat.two_pow_pos i
      rw [e5] at hlt
      refine hk _ ⟨_, _, rfl, by simp, .inr (.inl ⟨rfl, by omega, 1 - 2 * r1.fmod 2, by omega, fun j => ?_⟩)⟩
      rw [fn_set (by simp; omega), fn_set (by simp; omega), fn_rep0, Nat.add_sub_cancel]
      by_cases c1 : j = 2 ^ i
      · rw [if_pos c1, if_neg (by omega), if_pos c1]
      · rw [if_neg c1, if_neg c1]
    · refine hk _ ⟨_, _, rfl, by simp, .inl ⟨2, by decide, fun j => ?_, fun _ => by decide⟩⟩
      rw [fn_set (by simp; omega), fn_rep0]
  · clear hT T
    subst hU
    refine if_in fun T U hT hU => ?_
    walk_at "rd"
    have con : T := by
      clear hU U
      subst hT
      refine sq_i fun k2 hk2 => ?_
      walk_at "rd"
      refine gIx_ints (ns := [2, 3, 5, 7, -1, 11, -2, 6, -3, 10, 8, 12]) (fun n => n.natAbs ≤ 12) a1.1 a1.2 (fun n e => ?_) fun fa hfa => ?_
      · have := List.mem_of_getElem? e
        simp only [List.mem_cons, List.not_mem_nil, or_false] at this
        rcases this with rfl | rfl | rfl | rfl | rfl | rfl | rfl | rfl | rfl | rfl | rfl | rfl <;> decide
      rw [ixN_in (i := 0) (j := 0) rfl (by simp; omega)]
      walk_at "rd"
      rw [setD]
      subst hk2
      refine if_n fun T hT => ?_
      walk_at "rd"
      refine ⟨fun h => ?_, fun h => ?_⟩
      · subst hT
        walk_at "rd"
        have g2 := fmod_pos (a := c) (b := 2000003) (by decide)
        refine ⟨by decide, ?_⟩
        rw [ixN_in (i := 0) (j := 0) rfl (by simp; omega)]
        walk_at "rd"
        rw [setD]
        refine hk _ ⟨_, _, rfl, by simp, .inl ⟨c.fmod 2000003 - 1000001, by omega, fun j => ?_, fun z => absurd z (by omega)⟩⟩
        rw [fn_set (by simp; omega), fn_set (by simp; omega), fn_rep0]
        by_cases c1 : j = 0
        · rw [if_pos c1, if_pos c1]
        · rw [if_neg c1, if_neg c1, if_neg c1]
      · refine hk _ ⟨_, _, rfl, by simp, .inl ⟨fa, by omega, fun j => ?_, fun z => absurd z (by omega)⟩⟩
        rw [fn_set (by simp; omega), fn_rep0]
    refine ⟨fun _ => con, fun h1 => ⟨fun _ => con, fun h2 => ⟨fun _ => con, fun h3 => ⟨fun _ => con, fun h4 => ?_⟩⟩⟩⟩
    clear con hT T
    subst hU
    have h8 : 2 ^ kk ≤ 8 := Nat.le_trans (Nat.pow_le_pow_right (by decide) (show kk ≤ 3 by omega)) (by decide)
    have dg : ∀ j, j < 10 → 0 ≤ fn [r0, r1, r2, r3, r4, r5, r6, r7, r8, r9] j ∧ fn [r0, r1, r2, r3, r4, r5, r6, r7, r8, r9] j ≤ 11 := fun j hj => by
      have : j = 0 ∨ j = 1 ∨ j = 2 ∨ j = 3 ∨ j = 4 ∨ j = 5 ∨ j = 6 ∨ j = 7 ∨ j = 8 ∨ j = 9 := by omega
      rcases this with rfl | rfl | rfl | rfl | rfl | rfl | rfl | rfl | rfl | rfl <;> simp [fn] <;> omega
    refine sj_r (fun σ => ∃ (v : List Int) (y : Option DV), σ = [some (.val (.int c)), some (.val (.int kk)), some (.val (.int mode)), some (.val (.list (inD [2, 3, 5, 7, -1, 11, -2, 6, -3, 10, 8, 12]))), some (.val (.list (inD [r0, r1, r2, r3, r4, r5, r6, r7, r8, r9]))), some (.val (.int ((2 ^ kk : Nat) : Int))), some (.own (inD v)), y, none] ∧ v.length = 2 ^ kk ∧ ∀ i ∈ v, i.natAbs ≤ 8) ?_ fun k3 hk3 => ?_
    · rintro _ ⟨v, y, rfl, hv1, hv2⟩
      refine if_n fun T hT => ?_
      walk_at "rd"
      refine ⟨fun h => ?_, fun h => hk _ ⟨v, y, rfl, hv1, .inr (.inr ⟨by omega, by omega, fun i hi => Nat.le_trans (hv2 i hi) (by decide)⟩)⟩⟩
      subst hT
      refine sq_i fun k2 hk2 => ?_
      walk_at "rd"
      refine ⟨fit_len (by rw [List.length_map]; omega), lc_ints (fun x : Int => 1009 * x) _ ?_ fun a ha q Z hq => by walk_at "rd"; exact ⟨mul_l (by decide) (by decide), hq⟩⟩
      subst hk2
      walk_at "rd"
      refine ix_ints (j := 0) rfl (by rw [List.length_map]; omega) ?_
      walk_at "rd"
      rw [ixN_in (i := 0) (j := 0) rfl (by rw [List.length_map]; omega)]
      walk_at "rd"
      rw [setD]
      have b9 : ∀ i ∈ v.map fun x => 1009 * x, i.natAbs ≤ 8072 := fun i hi => by
        obtain ⟨x, hx, rfl⟩ := List.mem_map.mp hi
        have := hv2 x hx
        omega
      have b0 : (fn (v.map fun x => 1009 * x) 0).natAbs ≤ 8072 := by
        rcases fn_mem (l := v.map fun x => 1009 * x) (i := 0) with z | z
        · rw [z]; decide
        · exact b9 _ z
      refine hk _ ⟨_, y, rfl, by rw [List.length_set, List.length_map]; exact hv1, .inr (.inr ⟨by omega, by omega, fun i hi => ?_⟩)⟩
      rcases mem_set' hi with z | z
      · exact Nat.le_trans (b9 i z) (by decide)
      · rw [z]; omega
    · refine if_in fun T U hT hU => ?_
      walk_at "rd"
      refine ⟨fun h => ?_, fun h => ?_⟩
      · subst hT
        walk_at "rd"
        refine ⟨Rng.of (by omega) (by omega), fit_len (by rw [upTo_length]; omega), ?_⟩
        rw [Int.toNat_natCast]
        refine lc_up (fun i => .int (fn [r0, r1, r2, r3, r4, r5, r6, r7, r8, r9] (2 + i) - 3)) _ ?_ fun i hi q Z hq => ?_
        rotate_left
        · walk_at "rd"
          refine ix_ints (l := [r0, r1, r2, r3, r4, r5, r6, r7, r8, r9]) (j := 2 + i) (by omega) (by simp; omega) ?_
          walk_at "rd"
          exact hq
        have e9 : (List.range (2 ^ kk)).map (fun i => PyData.int (fn [r0, r1, r2, r3, r4, r5, r6, r7, r8, r9] (2 + i) - 3)) = inD ((List.range (2 ^ kk)).map fun i => fn [r0, r1, r2, r3, r4, r5, r6, r7, r8, r9] (2 + i) - 3) := by
          unfold inD
          rw [List.map_map]
          rfl
        rw [e9]
        refine hk3 _ ⟨_, none, rfl, by simp, fun i hi => ?_⟩
        obtain ⟨j, hj, rfl⟩ := List.mem_map.mp hi
        have := dg (2 + j) (by have := List.mem_range.mp hj; omega)
        omega
      · subst hU
        refine sq_i fun k2 hk2 => ?_
        walk_at "rd"
        rw [ixN_in (i := 0) (j := 0) rfl (by simp; omega)]
        walk_at "rd"
        rw [setD]
        subst hk2
        refine sq_i fun k2 hk2 => ?_
        walk_at "rd"
        have g3 := fmod_pos (a := r3) (b := 3) (by decide)
        refine ⟨by decide, div_small (by decide) (by decide), ?_⟩
        rw [eh, ixN_in (i := ((2 ^ kk / 2 : Nat) : Int)) (j := 2 ^ kk / 2) rfl (by simp; omega)]
        walk_at "rd"
        rw [setD]
        subst hk2
        refine sq_i fun k2 hk2 => ?_
        walk_at "rd"
        have g4 := fmod_pos (a := r4 * 7 + r6) (b := ((2 ^ kk : Nat) : Int)) (by omega)
        refine ⟨mul_r (by decide) (by decide), by omega, ?_⟩
        generalize (r4 * 7 + r6).fmod ((2 ^ kk : Nat) : Int) = pl at g4 ⊢
        obtain ⟨pl, rfl⟩ : ∃ j : Nat, pl = (j : Int) := ⟨pl.toNat, by omega⟩
        subst hk2
        have bs : ∀ i ∈ ((List.replicate (2 ^ kk) (0 : Int)).set 0 (r2 - 1)).set (2 ^ kk / 2) (1 + r3.fmod 3), i.natAbs ≤ 5 := fun i hi => by
          rcases mem_set' hi with z | z
          · rcases mem_set' z with z | z
            · rw [(List.mem_replicate.mp z).2]; decide
            · rw [z]; omega
          · rw [z]; omega
        walk_at "rd"
        refine ix_ints (j := pl) rfl (by simp; omega) ?_
        walk_at "rd"
        rw [ixN_in (i := (pl : Int)) (j := pl) rfl (by simp; omega)]
        walk_at "rd"
        rw [setD]
        refine hk3 _ ⟨_, _, rfl, by simp, fun i hi => ?_⟩
        rcases mem_set' hi with z | z
        · exact Nat.le_trans (bs i z) (by decide)
        · have : (fn (((List.replicate (2 ^ kk) (0 : Int)).set 0 (r2 - 1)).set (2 ^ kk / 2) (1 + r3.fmod 3)) pl).natAbs ≤ 5 := by
            rcases fn_mem (l := ((List.replicate (2 ^ kk) (0 : Int)).set 0 (r2 - 1)).set (2 ^ kk / 2) (1 + r3.fmod 3)) (i := pl) with z | z
            · rw [z]; decide
            · exact bs _ z
          rw [z]; omega
end
end K13

namespace K13
open PySem PySem.Spec PyProof.Rows L2 DL Builtin.Int
local macro_rules | `(tactic| walk_at "rd") => `(tactic| simp -failIfUnchanged only [sSet, sSetL, sRet, sRetL, sRetO, sRetN, sNext, sBreak, sCont, sDrop, sApp, sAug, sAsg, sPar, sSetI, sPop, sSetPop, sRev, sFrz, frz1, iSeq, iRevD, iRange1, iRange2, iRangeD, rName, rTup, rTL_sq, gMulS_s, gStr1_i, rTL_t, rTL_l, rCons, rNil,
  dLst, dView, tView, lView, view, look, dVar, bVar, dC, d2, d1, l2, tBool, dNil, dCons, dTup, gI, gSubI, gMulI, gFdiv, gMod, gPow, gShl, gShr, gAnd, gXor, gLt, gLe, gGt, gGe, gAdd, gEq, gNe, isNone, gIs, gIsNot, gNeg, lCat, gLen_l, gLen_t, gLen_s, gInt, gAbs, gMax2, gMin2, gTuple_l, gTuple_t, lList_l, lList_t, gGcd, gIsqrt, dCall, lCall, dIsi, dIsi2,
  tAndD, tOrD, tNotD, tTru, truD, dAndV, dOrV, dNotV, dIf, dBits, wipeD, twoD, lComp, oNone, oSome, dSl, lSl, gSl_l, gSl_t, gSl_sq, gSq_l, gSq_t, gSq_sq, gIx_sq, gLen_sq, gTuple_sq, lList_sq, iZipD, gZip_sq, gZip_ts, gZip_st, gZip_ls, gZip_sl, gZip_tt, gZip_ll, gZip_lt, gZip_tl, dFn, lFn, valD, tYesD, eqOk_ii, eqOk_bb, eqOk_ss, eqv_int, eqv_str, eqv_bool, noLst, noLstAll, List.map_cons, List.map_nil, Option.map_some, Option.map_none,
  List.getElem?_cons_zero, List.getElem?_cons_succ, List.set_cons_zero, List.set_cons_succ, true_and, and_true, decide_eq_true_eq, decide_eq_false_iff_not, Bool.not_eq_true', Bool.not_eq_false', beq_iff_eq, beq_eq_false_iff_ne, Bool.true_eq_false, Bool.false_eq_true, false_imp_iff, true_imp_iff, forall_const, reduceCtorEq, ne_eq, not_true_eq_false, not_false_eq_true, Bool.not_true, Bool.not_false, Bool.true_and, Bool.and_true, Bool.false_and, Bool.and_false, Int.reduceToNat, Int.cast_ofNat_Int, eq_self, isTy_none_int, isTy_none_bool, isTy_none_str, isTy_none_list, isTy_none_tuple, isTy_bool_int, isTy_bool_bool, isTy_bool_str, isTy_bool_list, isTy_bool_tuple, isTy_int_int, isTy_int_bool, isTy_int_str, isTy_int_list, isTy_int_tuple, isTy_str_int, isTy_str_bool, isTy_str_str, isTy_str_list, isTy_str_tuple, isTy_list_int, isTy_list_bool, isTy_list_str, isTy_list_list, isTy_list_tuple, isTy_tuple_int, isTy_tuple_bool, isTy_tuple_str, isTy_tuple_list, isTy_tuple_tuple, List.length_cons, List.length_nil, Nat.reduceAdd, Nat.zero_add, ix2_0, ix2_1,
  gIx_l0, gIx_t0, gIx_l1, gIx_t1, gIx_l2, gIx_t2, gIx_l3, gIx_t3, gIx_l4, gIx_t4, gIx_l5, gIx_t5, gIx_l6, gIx_t6, gIx_l7, gIx_t7, gIx_l8, gIx_t8, gIx_l9, gIx_t9, gIx_l10, gIx_t10, gIx_l11, gIx_t11, gIx_l12, gIx_t12, gIx_l13, gIx_t13, gIx_l14, gIx_t14, gIx_l15, gIx_t15])
section
variable {P : Program} {w : World} {K : Frag} {mg : Str → Option Value} {base : Heap}
open TV
theorem wl_con {ρ : Nat → Nat} {c : Int} : ∀ {n : Nat} {g : Nat → Int}, (∀ j, j < 2 ^ n → g j = if j = 0 then c else 0) → wl ρ n g = c.natAbs
  | 0, g, h => by
    have := h 0 (by decide)
    rw [if_pos rfl] at this
    show (g 0).natAbs = _
    rw [this]
  | n + 1, g, h => by
    have e2 := two_pow_succ' n
    have hp := Nat.two_pow_pos n
    show wl ρ n g + ρ n * wl ρ n (fun j => g (j + 2 ^ n)) = _
    rw [wl_con (c := c) fun j hj => h j (by omega), wl_con (c := 0) fun j hj => by rw [h (j + 2 ^ n) (by omega), if_neg (by omega)]; split <;> rfl]
    simp
theorem wl_tow {ρ : Nat → Nat} {n : Nat} {v : List Int} {s : Int} (hs : s = 1 ∨ s = -1) (h : IsTow (n + 1) v s) : wl ρ (n + 1) (fn v) = 2 + ρ n := by
  have hp := Nat.two_pow_pos n
  show wl ρ n (fn v) + ρ n * wl ρ n (fun j => fn v (j + 2 ^ n)) = _
  have h' := h
  unfold IsTow at h'
  simp only [Nat.add_sub_cancel] at h'
  rw [wl_con (c := 2) fun j hj => by rw [h' j]; by_cases c : j = 0 <;> simp [c]; omega, wl_con (c := s) fun j hj => by
    rw [h' (j + 2 ^ n), if_neg (by omega)]
    by_cases c : j = 0
    · rw [if_pos (by omega), if_pos c]
    · rw [if_neg (by omega), if_neg c]]
  rcases hs with rfl | rfl <;> simp
theorem RadC.items {k mode : Nat} {v : List Int} (h : RadC k mode v) (hl : v.length = 2 ^ k) : ∀ i ∈ v, i.natAbs ≤ 1000001 := by
  intro i hi
  obtain ⟨j, hj, e⟩ := List.getElem_of_mem hi
  have ef : fn v j = i := by simp [fn, hj, e]
  rcases h with ⟨c, hc, hv, _⟩ | ⟨_, _, s, hs, hv⟩ | ⟨_, _, hv⟩
  · have := hv j
    rw [ef] at this
    rw [this]
    split <;> omega
  · have := hv j
    rw [ef] at this
    rw [this]
    split
    · decide
    · split
      · rcases hs with rfl | rfl <;> decide
      · decide
  · exact Nat.le_trans (hv i hi) (by decide)
/-- weights for rows of at most four letters -/
def pA (k : Nat) : Nat := [10, 12, 18, 27].getD k 0
theorem wl_A {k mode : Nat} {v : List Int} (h : RadC k mode v) (hl : v.length = 2 ^ k) (hk : k ≤ 3) : wl (fun k => 2 ^ pA k) k (fn v) ≤ 2 ^ pA k * 2 ^ pA k := by
  rcases h with ⟨c, hc, hv, _⟩ | ⟨_, h1, s, hs, hv⟩ | ⟨_, _, hv⟩
  · rw [wl_con fun j _ => hv j]
    have : ∀ k, k ≤ 3 → 1000001 ≤ 2 ^ pA k * 2 ^ pA k := by decide
    exact Nat.le_trans hc (this k hk)
  · obtain ⟨i, rfl⟩ : ∃ i, k = i + 1 := ⟨k - 1, by omega⟩
    rw [wl_tow hs hv]
    have : ∀ i, i ≤ 2 → 2 + 2 ^ pA i ≤ 2 ^ pA (i + 1) * 2 ^ pA (i + 1) := by decide
    exact this i (by omega)
  · have h1 := wl_le (ρ := fun k => 2 ^ pA k) (n := k) (g := fn v) (B := 8078) fun j _ => by
      rcases fn_mem (l := v) (i := j) with z | z
      · rw [z]; decide
      · exact hv _ z
    have : ∀ k, k ≤ 3 → 8078 * wl (fun k => 2 ^ pA k) k (fun _ => 1) ≤ 2 ^ pA k * 2 ^ pA k := by decide
    exact Nat.le_trans h1 (this k hk)
theorem wl_B {k : Nat} {v : List Int} (h : RadC k 0 v) : wl (fun _ => 2 ^ 2) k (fn v) ≤ 2 ^ 2 * 2 ^ 2 := by
  rcases h with ⟨c, hc, hv, h0⟩ | ⟨_, h1, s, hs, hv⟩ | ⟨_, h2, hv⟩
  · rw [wl_con fun j _ => hv j]
    have := h0 rfl
    omega
  · obtain ⟨i, rfl⟩ : ∃ i, k = i + 1 := ⟨k - 1, by omega⟩
    rw [wl_tow hs hv]
    decide
  · omega
theorem RadC.one {k : Nat} {v : List Int} (h : RadC k 1 v) : ∃ c : Int, c.natAbs ≤ 1000001 ∧ IsC v c := by
  rcases h with ⟨c, hc, hv, h0⟩ | ⟨h1, _⟩ | ⟨_, h2, hv⟩
  · exact ⟨c, hc, hv⟩
  · omega
  · omega
/-- a row that may be drawn -/
structure RowR (mode : Nat) (L : List (List Int)) : Prop where
  ok : RadOk 20 L
  pr : Pr (rsF L) L.length
  form : ∀ k v, L[k]? = some v → RadC k mode v
theorem rsF_app {L : List (List Int)} {v : List Int} {k : Nat} (h : k < L.length) : rsF (L ++ [v]) k = rsF L k := by
  unfold rsF
  rw [List.getD_eq_getElem?_getD, List.getD_eq_getElem?_getD, List.getElem?_append_left h]
theorem rsF_end {L : List (List Int)} {v : List Int} : rsF (L ++ [v]) L.length = fn v := by
  unfold rsF
  rw [List.getD_eq_getElem?_getD, List.getElem?_append_right (Nat.le_refl _), Nat.sub_self]
  rfl
theorem RadC.bd {k mode : Nat} {v : List Int} (h : RadC k mode v) (hl : v.length = 2 ^ k) : BdL 20 v := fun i hi => intBits_le_iff.mpr (by
  have := h.items hl i hi
  omega)
theorem RowR.snoc {mode : Nat} {L : List (List Int)} (h : RowR mode L) {v : List Int} (hl : v.length = 2 ^ L.length) (hv : RadC L.length mode v) (hn : NS (toT (rsF L) L.length v)) : RowR mode (L ++ [v]) := by
  refine ⟨fun k u e => ?_, fun k hk => ?_, fun k u e => ?_⟩
  · by_cases c : k < L.length
    · rw [List.getElem?_append_left c] at e
      exact h.ok k u e
    · have : k = L.length := by
        have := (List.getElem?_eq_some_iff.mp e).1
        simp at this
        omega
      subst this
      rw [List.getElem?_append_right (Nat.le_refl _), Nat.sub_self] at e
      cases e
      exact ⟨hl, hv.bd hl⟩
  · rw [List.length_append] at hk
    by_cases c : k < L.length
    · exact Pr_congr (n := L.length) (fun i hi => (rsF_app hi).symm) h.pr k c
    · have : k = L.length := by simp at hk; omega
      subst this
      show NS (Tf _ _ _)
      rw [rsF_end]
      exact NS_congr (fun i hi => (rsF_app hi).symm) hn
  · by_cases c : k < L.length
    · rw [List.getElem?_append_left c] at e
      exact h.form k u e
    · have : k = L.length := by
        have := (List.getElem?_eq_some_iff.mp e).1
        simp at this
        omega
      subst this
      rw [List.getElem?_append_right (Nat.le_refl _), Nat.sub_self] at e
      cases e
      exact hv
theorem RowR.nil (mode : Nat) : RowR mode [] := ⟨fun k u e => by simp at e, fun k hk => by simp at hk, fun k u e => by simp at e⟩
theorem RowR.get {mode : Nat} {L : List (List Int)} (h : RowR mode L) {k : Nat} (hk : k < L.length) : ∃ v, L[k]? = some v ∧ rsF L k = fn v ∧ v.length = 2 ^ k ∧ RadC k mode v := by
  refine ⟨L[k], List.getElem?_eq_getElem hk, ?_, (h.ok k _ (List.getElem?_eq_getElem hk)).1, h.form k _ (List.getElem?_eq_getElem hk)⟩
  unfold rsF
  rw [List.getD_eq_getElem?_getD, List.getElem?_eq_getElem hk]
  rfl
open Classical in
noncomputable def pOf (c : Int) : Nat := if h : c = 0 then 0 else Classical.choose (least_p c h)
theorem pOf_ok {c : Int} (h : c ≠ 0) : c.natAbs ≤ 2 ^ pOf c * 2 ^ pOf c ∧ 2 ^ pOf c * 2 ^ pOf c ≤ 4 * c.natAbs ∧ ∀ k, c.natAbs ≤ 2 ^ k * 2 ^ k → pOf c ≤ k := by
  unfold pOf
  rw [dif_neg h]
  exact Classical.choose_spec (least_p c h)
noncomputable def pR (letters mode : Nat) (L : List (List Int)) (k : Nat) : Nat := if letters ≤ 4 then pA k else if mode = 0 then 2 else pOf (rsF L k 0)
theorem RowR.con {L : List (List Int)} (h : RowR 1 L) {k : Nat} (hk : k < L.length) : ∃ c : Int, c ≠ 0 ∧ c.natAbs ≤ 1000001 ∧ rad (rsF L) k = wh (rsF L) k c ∧ rsF L k 0 = c := by
  obtain ⟨v, _, e, hl, hc⟩ := h.get hk
  obtain ⟨c, h1, h2⟩ := hc.one
  have hr : rad (rsF L) k = wh (rsF L) k c := rad_wh fun j _ => by rw [e]; exact h2 j
  refine ⟨c, fun z => ?_, h1, hr, by rw [e, h2 0, if_pos rfl]⟩
  have := (h.pr k hk).ne
  rw [hr, z, wh_zero] at this
  exact this rfl
theorem pA_le : ∀ k, pA k ≤ 27 := by
  intro k
  by_cases c : k ≤ 3
  · have : ∀ k, k ≤ 3 → pA k ≤ 27 := by decide
    exact this k c
  · have : pA k = 0 := by
      unfold pA
      rw [List.getD_eq_getElem?_getD, List.getElem?_eq_none (by simp; omega)]
      rfl
    omega
theorem RowR.wok {letters mode : Nat} {L : List (List Int)} (h : RowR mode L) (hl : L.length ≤ letters) (hm : 4 < letters → mode ≤ 1) : WOk (rsF L) (fun k => 2 ^ pR letters mode L k) L.length ∧ ∀ k, k < L.length → pR letters mode L k ≤ 27 := by
  by_cases c : letters ≤ 4
  · have e : pR letters mode L = pA := by funext k; unfold pR; rw [if_pos c]
    rw [e]
    refine ⟨fun k hk => ⟨Nat.two_pow_pos _, ?_⟩, fun k _ => pA_le k⟩
    obtain ⟨v, _, ev, hv, hc⟩ := h.get hk
    rw [wr_rad, ev]
    exact wl_A hc hv (by omega)
  · by_cases c0 : mode = 0
    · subst c0
      have e : pR letters 0 L = fun _ => 2 := by funext k; unfold pR; rw [if_neg c, if_pos rfl]
      rw [e]
      refine ⟨fun k hk => ⟨Nat.two_pow_pos _, ?_⟩, fun k _ => (by decide : 2 ≤ 27)⟩
      obtain ⟨v, _, ev, hv, hc⟩ := h.get hk
      rw [wr_rad, ev]
      exact wl_B hc
    · obtain rfl : mode = 1 := by have := hm (by omega); omega
      have e : pR letters 1 L = fun k => pOf (rsF L k 0) := by funext k; unfold pR; rw [if_neg c, if_neg c0]
      rw [e]
      refine ⟨fun k hk => ⟨Nat.two_pow_pos _, ?_⟩, fun k hk => ?_⟩
      · obtain ⟨c, h0, h1, h2, h3⟩ := h.con hk
        show wr _ (rad (rsF L) k) ≤ 2 ^ pOf (rsF L k 0) * 2 ^ pOf (rsF L k 0)
        rw [h2, wr_wh, h3]
        exact (pOf_ok h0).1
      · obtain ⟨c, h0, h1, h2, h3⟩ := h.con hk
        show pOf (rsF L k 0) ≤ 27
        rw [h3]
        exact Nat.le_trans ((pOf_ok h0).2.2 10 (by omega)) (by decide)
/-- a candidate's weight -/
theorem RowR.cand {letters mode : Nat} {L : List (List Int)} (h : RowR mode L) (hl : L.length < letters) (hl6 : letters ≤ 6) (hm : 4 < letters → mode ≤ 1) {v : List Int} (hv : v.length = 2 ^ L.length) (hc : RadC L.length mode v) : wr (fun k => 2 ^ pR letters mode L k) (toT (rsF L) L.length v) ≤ 2 ^ 60 := by
  rw [wr_toT]
  by_cases c : letters ≤ 4
  · have e : pR letters mode L = pA := by funext k; unfold pR; rw [if_pos c]
    rw [e]
    refine Nat.le_trans (wl_A hc hv (by omega)) ?_
    rw [← Nat.pow_add]
    have := pA_le L.length
    exact Nat.pow_le_pow_right (by decide) (by omega)
  · by_cases c0 : mode = 0
    · subst c0
      have e : pR letters 0 L = fun _ => 2 := by funext k; unfold pR; rw [if_neg c, if_pos rfl]
      rw [e]
      exact Nat.le_trans (wl_B hc) (by decide)
    · obtain rfl : mode = 1 := by have := hm (by omega); omega
      obtain ⟨d, h1, h2⟩ := hc.one
      rw [wl_con fun j _ => h2 j]
      exact Nat.le_trans h1 (by decide)
abbrev s__law_row : Stmt := topS 44
theorem sc__law_row : FnScope ["script", "start", "letters", "mode", "menu", "found", "k", "cell", "choices", "turn", "taken", "choice", "place"] ["script", "start", "letters", "mode"] (defScope s__law_row) := ⟨rfl, rfl, rfl, by decide +kernel, rfl, by decide +kernel, by decide +kernel⟩
def f__law_row : FD := fun ds q => ∃ (ns : List Int) (start letters mode : Nat), ds = [.list (ns.map .int), .int start, .int letters, .int mode] ∧ letters ≤ 6 ∧ mode ≤ 8 ∧ (4 < letters → mode ≤ 1) ∧ (∀ i ∈ ns, intBits i ≤ 1048576) ∧ ∀ L : List (List Int), L.length ≤ letters → RowR mode L → q (.own (L.map fun l => .list (inD l)))
theorem ok__law_row {f fd} {k : Nat} (F : Fun K "_law_row" "_law_row" s__law_row f fd) (hdg : base.NoDigits) (m_int : mg "int" = none) (m_range : mg "range" = none) (r__law_cell : Ready P w K mg base "_law_cell" 2 k f__law_cell) (r__law_radicand : Ready P w K mg base "_law_radicand" 3 k f__law_radicand) (r__law_no_square : Ready P w K mg base "_law_no_square" 2 k f__law_no_square) : FnG P w K mg base (k + 1) f fd ["script", "start", "letters", "mode"] (SpD K 4 f__law_row) := by
  refine fnD F sc__law_row fun cdv A outer s H E gA hr => ?_
  have hu := hr.units
  have nd := sc__law_row.nd
  refine ⟨_, (ss_cons (st_set (i := 4) nd (DLs.toE (dl_lst (da_cons de_int (da_cons de_int (da_cons de_int (da_cons de_int (da_cons (de_un u_neg (DE.toB de_int)) (da_cons de_int da_nil)))))))))
    (ss_cons (st_setL (i := 5) nd (dl_lst da_nil))
    (ss_cons (st_for (i_range1 (dv 2) m_range) (tg_name (i := 6) nd) (ss_cons (st_set (i := 7) nd (r__law_cell.toE gA hr (da_cons (dv 0) (da_cons (de_op o_add (bv 1) (bv 6)) da_nil))))
    (ss_cons (st_setL (i := 8) nd (dl_lst (da_cons (r__law_radicand.toE gA hr (da_cons (dv 7) (da_cons (dv 6) (da_cons (dv 3) da_nil)))) da_nil)))
    (ss_cons (st_for (i_range1 de_int m_range) (tg_name (i := 9) nd) (ss_one (st_app (i := 8) (de_op o_add (DE.toB (DLs.toE (dl_lst (da_cons (de_ix x_ix (bv 4) (DE.toB (de_op o_mod (DE.toB (de_T c_int m_int (ab_cons (DE.toB (de_op o_add (DE.toB (de_op o_mod (DE.toB (de_T c_int m_int (ab_cons (bv 7) ab_nil))) (DE.toB de_int))) (bv 9))) ab_nil))) (DE.toB de_int)))) da_nil)))) (DE.toB (DLs.toE (dl_lc (own := [("place", 12)]) nd (DI.c (i_range1 (de_op o_sub (DE.toB (de_op o_shl (DE.toB de_int) (bv 6))) (DE.toB de_int)) m_range)) (gw_name (i := 12) nd) dts_nil (fun _ _ _ _ _ => de_int))))))))
    (ss_cons (st_set (i := 10) nd (DLs.toE (dl_lst da_nil)))
    (ss_cons (st_frz 8 (st_for (i_seq (dv 8)) (tg_name (i := 11) nd) (ss_one (st_if (DW.pt (dw_and (dt_cmp (o_eq hu) (bv 10) (DE.toB (DLs.toE (dl_lst da_nil)))) (dw_and1 (dt_val (DE.vw (r__law_no_square.toE gA hr (da_cons (dv 5) (da_cons (dv 11) da_nil)))))))) (ss_one (st_set (i := 10) nd (dv 11))) ss_nil))))
    (ss_cons (st_if (dt_cmp (o_eq hu) (bv 10) (DE.toB (DLs.toE (dl_lst da_nil)))) (ss_one (st_retO 5)) ss_nil)
    (ss_one (st_app (i := 5) (dv 10))))))))))
    (ss_one (st_retO 5))))), ?_⟩
  clear F nd hu hr gA E H s outer A cdv hdg m_int m_range r__law_cell r__law_radicand r__law_no_square
  intro ds q hl hg
  obtain ⟨ns, start, letters, mode, rfl, hl6, hmode, hm4, hb, hq⟩ := hg
  show sSeq _ _ _ [some (.val (.list (ns.map .int))), some (.val (.int start)), some (.val (.int letters)), some (.val (.int mode)), none, none, none, none, none, none, none, none, none]
  have i1 : intBits 1 = 1 := by decide
  refine sq_i fun k hk => ?_
  walk_at "rd"
  subst hk
  refine sq_i fun k hk => ?_
  walk_at "rd"
  subst hk
  refine sq_i fun k hk => for_in fun W hW => ?_
  walk_at "rd"
  refine ⟨Rng.of (by omega) (by omega), ?_⟩
  rw [Int.toNat_natCast]
  subst hW
  refine for_up (fun i σ => ∃ (L : List (List Int)) (y6 y7 y8 y9 y10 y11 : Option DV), σ = [some (.val (.list (ns.map .int))), some (.val (.int start)), some (.val (.int letters)), some (.val (.int mode)), some (.val (.list (inD [2, 3, 5, 7, -1, 11]))), some (.own (L.map fun l => .list (inD l))), y6, y7, y8, y9, y10, y11, none] ∧ L.length = i ∧ RowR mode L) 0 letters
    ⟨[], none, none, none, none, none, none, rfl, rfl, RowR.nil mode⟩ ?_ ?_
  · rintro _ ⟨L, y6, y7, y8, y9, y10, y11, rfl, h1, h2⟩
    subst hk
    walk_at "rd"
    exact hq L (by omega) h2
  rintro i _ hi6 ⟨L, y6, y7, y8, y9, y10, y11, rfl, hLi, hL⟩ k1 hk1
  simp only [Int.zero_add]
  have h64 : 2 ^ i ≤ 32 := Nat.le_trans (Nat.pow_le_pow_right (by decide) (show i ≤ 5 by omega)) (by decide)
  have hp0 := Nat.two_pow_pos i
  refine sq_i fun k2 hk2 => ?_
  walk_at "rd"
  refine ⟨ns, start + i, rfl, by omega, hb, fun c hc => ?_⟩
  walk_at "rd"
  subst hk2
  refine sq_i fun k2 hk2 => ?_
  walk_at "rd"
  refine ⟨c, i, mode, rfl, by omega, hmode, hc, fun v0 hv0 hc0 => ?_⟩
  walk_at "rd"
  subst hk2
  refine sq_i fun k2 hk2 => for_in fun W hW => ?_
  walk_at "rd"
  refine ⟨Rng.of (by decide) (by decide), ?_⟩
  subst hW
  refine for_up (fun tn σ => ∃ (C : List (List Int)) (y9 y10 y11 : Option DV), σ = [some (.val (.list (ns.map .int))), some (.val (.int start)), some (.val (.int letters)), some (.val (.int mode)), some (.val (.list (inD [2, 3, 5, 7, -1, 11]))), some (.own (L.map fun l => .list (inD l))), some (.val (.int (i : Int))), some (.val (.int c)), some (.own (C.map fun l => .list (inD l))), y9, y10, y11, none] ∧ C.length ≤ tn + 1 ∧ ∀ v ∈ C, v.length = 2 ^ i ∧ RadC i mode v) 0 6
    ⟨[v0], y9, y10, y11, rfl, by simp, fun v hv => by rw [List.mem_singleton.mp hv]; exact ⟨hv0, hc0⟩⟩ ?_ ?_
  rotate_left
  · rintro tn _ htn ⟨C, y9, y10, y11, rfl, hC1, hC2⟩ k3 hk3
    simp only [Int.zero_add]
    walk_at "rd"
    have g1 := fmod_pos (a := c) (b := 6) (by decide)
    have g2 := fmod_pos (a := c.fmod 6 + (tn : Int)) (b := 6) (by decide)
    refine ⟨by rw [List.length_map]; exact fit_len (by omega), by decide, by decide, ?_⟩
    refine gIx_ints (ns := [2, 3, 5, 7, -1, 11]) (fun n => n.natAbs ≤ 11) g2.1 g2.2 (fun n e => ?_) fun fa hfa => ?_
    · have := List.mem_of_getElem? e
      simp only [List.mem_cons, List.not_mem_nil, or_false] at this
      rcases this with rfl | rfl | rfl | rfl | rfl | rfl <;> decide
    have e1 : (1 : Int) * 2 ^ (i : Int).toNat = ((2 ^ i : Nat) : Int) := by rw [Int.one_mul, Int.toNat_natCast]; simp
    walk_at "rd"
    rw [e1]
    have en : ((2 ^ i : Nat) : Int) - 1 = ((2 ^ i - 1 : Nat) : Int) := by omega
    rw [en]
    refine ⟨⟨⟨by omega, by rw [i1]; omega⟩⟩, Rng.of (by omega) (by omega), fit_len (by rw [upTo_length]; omega), ?_⟩
    rw [Int.toNat_natCast]
    refine lc_up (fun _ => .int 0) _ ?_ fun i hi q Z hq => by walk_at "rd"; exact hq
    have ez : [PyData.int fa] ++ (List.range (2 ^ i - 1)).map (fun _ => PyData.int 0) = inD (fa :: List.replicate (2 ^ i - 1) 0) := by
      rw [List.map_const', List.length_range]
      simp [inD]
    walk_at "rd"
    refine ⟨fit_len (by simp; omega), ?_⟩
    rw [ez]
    refine hk3 _ ⟨C ++ [fa :: List.replicate (2 ^ i - 1) 0], _, _, _, by simp only [List.map_append, List.map_cons, List.map_nil]; rfl, by simp; omega, fun v hv => ?_⟩
    rcases List.mem_append.mp hv with hv | hv
    · exact hC2 v hv
    · rw [List.mem_singleton.mp hv]
      refine ⟨by simp; omega, .inl ⟨fa, by omega, fun j => ?_, fun _ => hfa⟩⟩
      cases j with
      | zero => rfl
      | succ j =>
        rw [if_neg (by omega)]
        have := fn_rep0 (n := 2 ^ i - 1) (j := j)
        simpa [fn] using this
  rintro _ ⟨C, y9, y10, y11, rfl, hC1, hC2⟩
  subst hk2
  refine sq_i fun k2 hk2 => ?_
  walk_at "rd"
  subst hk2
  have hLl : L.length < letters := by omega
  obtain ⟨hw, hp27⟩ := hL.wok (Nat.le_of_lt hLl) hm4
  refine sj_r (fun σ => ∃ (tk : D) (y8 y9 y11 : Option DV), σ = [some (.val (.list (ns.map .int))), some (.val (.int start)), some (.val (.int letters)), some (.val (.int mode)), some (.val (.list (inD [2, 3, 5, 7, -1, 11]))), some (.own (L.map fun l => .list (inD l))), some (.val (.int (i : Int))), some (.val (.int c)), y8, y9, some (.val tk), y11, none] ∧ (tk = .list [] ∨ ∃ v, tk = .list (inD v) ∧ v.length = 2 ^ i ∧ RadC i mode v ∧ NS (toT (rsF L) i v))) ?_ fun k3 hk3 => ?_
  · rintro _ ⟨tk, y8, y9, y11, rfl, htk⟩
    refine sq_i fun k2 hk2 => if_n fun T hT => ?_
    walk_at "rd"
    have ev : ∀ v : List Int, PyData.eqv (.list (inD v)) (.list []) = v.isEmpty := fun v => by rw [eqv_nil]; cases v <;> rfl
    rcases htk with rfl | ⟨v, rfl, h1, h2, h3⟩
    · refine ⟨eqOk_int0 [], ?_⟩
      have e0 : PyData.eqv (.list []) (.list []) = true := by rw [eqv_nil]; rfl
      rw [e0]
      refine ⟨fun _ => ?_, fun h => (by cases h)⟩
      subst hT
      walk_at "rd"
      exact hq L (by omega) hL
    · refine ⟨eqOk_int0 v, ?_⟩
      have hne : v.isEmpty = false := by
        cases v with
        | nil => simp at h1; omega
        | cons _ _ => rfl
      rw [ev, hne]
      refine ⟨fun h => (by cases h), fun _ => ?_⟩
      clear hT T
      subst hk2
      walk_at "rd"
      subst hLi
      refine ⟨fit_len (by simp; omega), hk1 _ ⟨L ++ [v], _, _, _, _, _, _, by simp only [List.map_append, List.map_cons, List.map_nil]; rfl, by simp, hL.snoc h1 h2 h3⟩⟩
  · walk_at "rd"
    refine for_in fun W hW => ?_
    walk_at "rd"
    subst hW
    have s15 : ∀ i, i ≤ 5 → ∀ j, j ≤ i → 60 * (i + 1 - j) * 2 ^ j ≤ 15998 := by decide
    refine for_map (fun (r : List (List Int)) σ => ∃ (tk : D) (y9 y11 : Option DV), σ = [some (.val (.list (ns.map .int))), some (.val (.int start)), some (.val (.int letters)), some (.val (.int mode)), some (.val (.list (inD [2, 3, 5, 7, -1, 11]))), some (.own (L.map fun l => .list (inD l))), some (.val (.int (i : Int))), some (.val (.int c)), some (.val (.list (C.map fun l => .list (inD l)))), y9, some (.val tk), y11, none] ∧ (∀ v ∈ r, v.length = 2 ^ i ∧ RadC i mode v) ∧ (tk = .list [] ∨ ∃ v, tk = .list (inD v) ∧ v.length = 2 ^ i ∧ RadC i mode v ∧ NS (toT (rsF L) i v))) C
      ⟨.list [], y9, y11, rfl, hC2, .inl rfl⟩ ?_ ?_
    · rintro _ ⟨tk, y9, y11, rfl, -, htk⟩
      exact hk3 _ ⟨tk, _, _, _, rfl, htk⟩
    · rintro v r _ ⟨tk, y9, y11, rfl, hr, htk⟩ k4 hk4
      obtain ⟨hv1, hv2⟩ := hr v (by simp)
      have hr' : ∀ v ∈ r, v.length = 2 ^ i ∧ RadC i mode v := fun u hu => hr u (by simp [hu])
      have keep : ∀ y11 : Option DV, k4 [some (.val (.list (ns.map .int))), some (.val (.int start)), some (.val (.int letters)), some (.val (.int mode)), some (.val (.list (inD [2, 3, 5, 7, -1, 11]))), some (.own (L.map fun l => .list (inD l))), some (.val (.int (i : Int))), some (.val (.int c)), some (.val (.list (C.map fun l => .list (inD l)))), y9, some (.val tk), y11, none] := fun y => hk4 _ ⟨tk, _, _, rfl, hr', htk⟩
      refine if_n fun T hT => ?_
      walk_at "rd"
      have hsh : eqOk tk (.list []) = true := by
        rcases htk with rfl | ⟨u, rfl, _⟩
        · exact eqOk_int0 []
        · exact eqOk_int0 u
      refine ⟨hsh, fun _ => ?_, fun _ => keep _⟩
      subst hLi
      refine ⟨L.length, _, L, false, v, 20, fun k => 2 ^ pR letters mode L k, fun j => 60 * (L.length + 1 - j), fun j => 2 * pR letters mode L j, rfl, by omega, RadD.sq false false L, hL.ok, by decide, Nat.le_refl _, hv1, hw, hL.pr, ?_, fun j hj => ⟨?_, ?_⟩, fun j hj => s15 _ (by omega) j hj, fun b hb => ?_⟩
      · show _ ≤ 2 ^ (60 * (L.length + 1 - L.length))
        rw [Nat.add_sub_cancel_left]
        exact hL.cand hLl hl6 hm4 hv1 hv2
      · rw [← Nat.pow_add, ← Nat.two_mul]
        exact Nat.le_refl _
      · have := hp27 j hj
        show 60 * (L.length + 1 - (j + 1)) + 2 * pR letters mode L j ≤ 60 * (L.length + 1 - j)
        omega
      · walk_at "rd"
        refine ⟨fun h => ?_, fun _ => keep _⟩
        subst hT
        walk_at "rd"
        exact hk4 _ ⟨_, _, _, rfl, hr', .inr ⟨v, rfl, hv1, hv2, hb h⟩⟩
end
end K13

namespace K13
open PySem PySem.Spec PyProof.Rows L2 DL Builtin.Int
local macro_rules | `(tactic| walk_at "rd") => `(tactic| simp -failIfUnchanged only [sSet, sSetL, sRet, sRetL, sRetO, sRetN, sNext, sBreak, sCont, sDrop, sApp, sAug, sAsg, sPar, sSetI, sPop, sSetPop, sRev, sFrz, frz1, iSeq, iRevD, iRange1, iRange2, iRangeD, rName, rTup, rTL_sq, gMulS_s, gStr1_i, rTL_t, rTL_l, rCons, rNil,
  dLst, dView, tView, lView, view, look, dVar, bVar, dC, d2, d1, l2, tBool, dNil, dCons, dTup, gI, gSubI, gMulI, gFdiv, gMod, gPow, gShl, gShr, gAnd, gXor, gLt, gLe, gGt, gGe, gAdd, gEq, gNe, isNone, gIs, gIsNot, gNeg, lCat, gLen_l, gLen_t, gLen_s, gInt, gAbs, gMax2, gMin2, gTuple_l, gTuple_t, lList_l, lList_t, gGcd, gIsqrt, dCall, lCall, dIsi, dIsi2,
  tAndD, tOrD, tNotD, tTru, truD, dAndV, dOrV, dNotV, dIf, dBits, wipeD, twoD, lComp, oNone, oSome, dSl, lSl, gSl_l, gSl_t, gSl_sq, gSq_l, gSq_t, gSq_sq, gIx_sq, gLen_sq, gTuple_sq, lList_sq, iZipD, gZip_sq, gZip_ts, gZip_st, gZip_ls, gZip_sl, gZip_tt, gZip_ll, gZip_lt, gZip_tl, dFn, lFn, valD, tYesD, eqOk_ii, eqOk_bb, eqOk_ss, eqv_int, eqv_str, eqv_bool, noLst, noLstAll, List.map_cons, List.map_nil, Option.map_some, Option.map_none,
  List.getElem?_cons_zero, List.getElem?_cons_succ, List.set_cons_zero, List.set_cons_succ, true_and, and_true, decide_eq_true_eq, decide_eq_false_iff_not, Bool.not_eq_true', Bool.not_eq_false', beq_iff_eq, beq_eq_false_iff_ne, Bool.true_eq_false, Bool.false_eq_true, false_imp_iff, true_imp_iff, forall_const, reduceCtorEq, ne_eq, not_true_eq_false, not_false_eq_true, Bool.not_true, Bool.not_false, Bool.true_and, Bool.and_true, Bool.false_and, Bool.and_false, Int.reduceToNat, Int.cast_ofNat_Int, eq_self, isTy_none_int, isTy_none_bool, isTy_none_str, isTy_none_list, isTy_none_tuple, isTy_bool_int, isTy_bool_bool, isTy_bool_str, isTy_bool_list, isTy_bool_tuple, isTy_int_int, isTy_int_bool, isTy_int_str, isTy_int_list, isTy_int_tuple, isTy_str_int, isTy_str_bool, isTy_str_str, isTy_str_list, isTy_str_tuple, isTy_list_int, isTy_list_bool, isTy_list_str, isTy_list_list, isTy_list_tuple, isTy_tuple_int, isTy_tuple_bool, isTy_tuple_str, isTy_tuple_list, isTy_tuple_tuple, List.length_cons, List.length_nil, Nat.reduceAdd, Nat.zero_add, ix2_0, ix2_1,
  gIx_l0, gIx_t0, gIx_l1, gIx_t1, gIx_l2, gIx_t2, gIx_l3, gIx_t3, gIx_l4, gIx_t4, gIx_l5, gIx_t5, gIx_l6, gIx_t6, gIx_l7, gIx_t7, gIx_l8, gIx_t8, gIx_l9, gIx_t9, gIx_l10, gIx_t10, gIx_l11, gIx_t11, gIx_l12, gIx_t12, gIx_l13, gIx_t13, gIx_l14, gIx_t14, gIx_l15, gIx_t15])
section
variable {P : Program} {w : World} {K : Frag} {mg : Str → Option Value} {base : Heap}
open TV
def bR (letters mode : Nat) : Nat → Nat := if letters ≤ 4 then bF fun k => ivG pA k + 1 else if mode = 0 then bF fun k => ivG (fun _ => 2) k + 1 else bF fun _ => 3
def eR (letters mode : Nat) : Nat → Nat := if letters ≤ 4 then eF (ivG pA) else if mode = 0 then eF (ivG fun _ => 2) else eF fun _ => 20
def ivR (letters mode : Nat) : Nat → Nat := if letters ≤ 4 then ivG pA else if mode = 0 then ivG (fun _ => 2) else fun _ => 20
theorem RowR.twn {letters mode : Nat} {L : List (List Int)} (h : RowR mode L) (hl : L.length ≤ letters) (hl6 : letters ≤ 6) (hm : 4 < letters → mode ≤ 1) : TwN (rsF L) (fun k => 2 ^ pR letters mode L k) (bR letters mode) (eR letters mode) (ivR letters mode) L.length := by
  obtain ⟨hw, hp27⟩ := h.wok hl hm
  have rb : ∀ k, k < L.length → ((fun k => 2 ^ pR letters mode L k) k * (fun k => 2 ^ pR letters mode L k) k) ^ 2 ^ k < 2 ^ 5000 := fun k hk => by
    show (2 ^ pR letters mode L k * 2 ^ pR letters mode L k) ^ 2 ^ k < 2 ^ 5000
    rw [← Nat.pow_add, ← Nat.pow_mul]
    refine Nat.pow_lt_pow_right (by decide) ?_
    have h1 := hp27 k hk
    have h2 : 2 ^ k ≤ 32 := Nat.le_trans (Nat.pow_le_pow_right (by decide) (show k ≤ 5 by omega)) (by decide)
    have := Nat.mul_le_mul (show pR letters mode L k + pR letters mode L k ≤ 54 by omega) h2
    omega
  by_cases c : letters ≤ 4
  · have e : pR letters mode L = pA := by funext k; unfold pR; rw [if_pos c]
    unfold bR eR ivR
    rw [if_pos c, if_pos c, if_pos c]
    rw [e] at hw rb ⊢
    have n1 : ∀ k, k ≤ 4 → eF (ivG pA) k ≤ 900 ∧ bF (fun k => ivG pA k + 1) k ≤ 3000 := by decide
    exact ⟨tw_gen h.pr hw, fun k hk => n1 k (by omega), rb⟩
  · by_cases c0 : mode = 0
    · subst c0
      have e : pR letters 0 L = fun _ => 2 := by funext k; unfold pR; rw [if_neg c, if_pos rfl]
      unfold bR eR ivR
      rw [if_neg c, if_neg c, if_neg c, if_pos rfl, if_pos rfl, if_pos rfl]
      rw [e] at hw rb ⊢
      have n1 : ∀ k, k ≤ 6 → eF (ivG fun _ => 2) k ≤ 900 ∧ bF (fun k => ivG (fun _ => 2) k + 1) k ≤ 3000 := by decide
      exact ⟨tw_gen (p := fun _ => 2) h.pr hw, fun k hk => n1 k (by omega), rb⟩
    · obtain rfl : mode = 1 := by have := hm (by omega); omega
      have e : pR letters 1 L = fun k => pOf (rsF L k 0) := by funext k; unfold pR; rw [if_neg c, if_neg c0]
      unfold bR eR ivR
      rw [if_neg c, if_neg c, if_neg c, if_neg c0, if_neg c0, if_neg c0]
      rw [e] at hw rb ⊢
      have n1 : ∀ k, k ≤ 6 → eF (fun _ => 20) k ≤ 900 ∧ bF (fun _ => 3) k ≤ 3000 := by decide
      refine ⟨tw_con (c := fun k => rsF L k 0) h.pr (fun k hk => ?_) fun k hk => ?_, fun k hk => n1 k (by omega), rb⟩
      · obtain ⟨c, h0, h1, h2, h3⟩ := h.con hk
        rw [h2, h3]
      · obtain ⟨c, h0, h1, h2, h3⟩ := h.con hk
        show (rsF L k 0).natAbs ≤ 2 ^ pOf (rsF L k 0) * 2 ^ pOf (rsF L k 0) ∧ _ ∧ _
        rw [h3]
        exact ⟨(pOf_ok h0).1, (pOf_ok h0).2.1, by omega⟩
/-- bits of roots that are let, by the row -/
def tR (letters mode : Nat) : Nat := if letters ≤ 4 then 222 else if mode = 0 then 26 else 73
def fR (letters : Nat) : Nat := if letters ≤ 4 then 12 else 5
theorem okS_R {letters mode m : Nat} (hm : m ≤ letters) (hl : letters ≤ 6) : okS (bR letters mode) (eR letters mode) (ivR letters mode) m (tR letters mode) (fR letters) = true := by
  unfold bR eR ivR tR fR
  by_cases c : letters ≤ 4
  · simp only [if_pos c]
    have : ∀ m, m ≤ 4 → okS (bF fun k => ivG pA k + 1) (eF (ivG pA)) (ivG pA) m 222 12 = true := by decide +kernel
    exact this m (by omega)
  · simp only [if_neg c]
    by_cases c0 : mode = 0
    · simp only [if_pos c0]
      have : ∀ m, m ≤ 6 → okS (bF fun k => ivG (fun _ => 2) k + 1) (eF (ivG fun _ => 2)) (ivG fun _ => 2) m 26 5 = true := by decide +kernel
      exact this m (by omega)
    · simp only [if_neg c0]
      have : ∀ m, m ≤ 6 → okS (bF fun _ => 3) (eF fun _ => 20) (fun _ => 20) m 73 5 = true := by decide +kernel
      exact this m (by omega)
/-- tops with the right sign -/
def sgnL (l : List Int) : List Int := if sgL l < 0 then l.map fun a => -a else l
theorem sgnL_length (l : List Int) : (sgnL l).length = l.length := by unfold sgnL; split <;> simp
theorem sgnL_pos (l : List Int) : 0 ≤ sgL (sgnL l) := by
  unfold sgnL
  split
  · rw [sgL_neg]; omega
  · omega
theorem negL' {x : List Int} {u : Int} (h : IsElL x u x u) : IsElL (x.map fun a => -a) u (x.map fun a => -a) u := by
  have e : ∀ i, fn (x.map fun a => -a) i = -fn x i := fun i => by
    simp only [fn, List.getD_eq_getElem?_getD, List.getElem?_map]
    cases x[i]? <;> simp
  exact ⟨h.1, rfl, fun _ => rfl, fun d h1 h2 => h.2.2.2 d h1 fun i => by have := h2 i; rw [e, Int.natAbs_neg] at this; exact this⟩
theorem sgnL_el {x : List Int} {u : Int} (h : IsElL x u x u) : IsElL (sgnL x) u (sgnL x) u := by
  unfold sgnL
  split
  · exact negL' h
  · exact h
theorem toT_negL {L : Nat → Nat → Int} {m : Nat} {l : List Int} : toT L m (l.map fun a => -a) = -toT L m l := by
  unfold toT
  rw [← Tf_neg]
  refine Tf_congr fun j _ => ?_
  simp only [fn, List.getD_eq_getElem?_getD, List.getElem?_map]
  cases l[j]? <;> simp
theorem sgnL_toT {L : Nat → Nat → Int} {m : Nat} (l : List Int) : toT L m (sgnL l) = toT L m l ∨ toT L m (sgnL l) = -toT L m l := by
  unfold sgnL
  split
  · exact .inr toT_negL
  · exact .inl rfl
theorem sT_toT {L : Nat → Nat → Int} {m : Nat} {l : List Int} (h : l.length = 2 ^ m) : sT (toT L m l) = sgL l := by unfold sT; rw [ofT_toT l h]
theorem rt_sgn {L : Nat → Nat → Int} {m : Nat} {x : T L m} {l : List Int} {d : Int} (h : IsRt x (toT L m l) d) : IsRt x (toT L m (sgnL l)) d := by
  rcases sgnL_toT (L := L) (m := m) l with e | e
  · rw [e]; exact h
  · rw [e]; exact h.neg
/-- the root that is due, from any root -/
theorem rts_of {L : Nat → Nat → Int} {m : Nat} (hd : Dom L m) {X : T L m} {z : List Int} {d : Int} (hz : z.length = 2 ^ m) (h : IsRt X (toT L m z) d) {l : List Int} {u : Int} (he : IsElL l u z d) {q : DV → Prop} (hq : q (.val (elD (sgnL l) u))) : Rts X q := by
  have d1 := h.1
  have hl : l.length = 2 ^ m := he.2.1.trans hz
  obtain ⟨r1, _⟩ := IsRt.same hd he.1 h (he.eqn L m)
  have r2 := rt_sgn r1
  refine ⟨fun hn => absurd ⟨_, _, h⟩ hn, fun l' u' h1 h2 h3 h4 => ?_⟩
  have e1 := rt_uniq hd r2 h2 (by rw [sT_toT (by rw [sgnL_length]; exact hl)]; exact sgnL_pos l) h3
  have e2 : IsElL l' u' (sgnL l) u := h4.congr (by rw [sgnL_length]; omega) (fun i => ?_) (by have := h4.1; omega)
  · obtain ⟨rfl, rfl⟩ := e2.uniq (sgnL_el he.norm) (by have := he.1; omega)
    exact hq
  · by_cases c : i < 2 ^ m
    · have := congrArg (fun t => cf t i) e1
      simp only [cf_whm _ _ c] at this
      unfold toT at this
      rw [cf_Tf c, cf_Tf c] at this
      rw [Int.mul_comm, ← this, Int.mul_comm]
    · have z1 : fn l' i = 0 := by simp [fn]; rw [List.getElem?_eq_none (by omega)]; rfl
      have z2 : fn (sgnL l) i = 0 := by simp [fn]; rw [List.getElem?_eq_none (by rw [sgnL_length]; omega)]; rfl
      rw [z1, z2]
      simp
/-- y / v is the square of x / u -/
def SqEl (L : Nat → Nat → Int) (m : Nat) (y : List Int) (v : Int) (x : List Int) (u : Int) : Prop := 1 ≤ v ∧ 1 ≤ u ∧ wh L m (u * u) * toT L m y = wh L m v * (toT L m x * toT L m x)
theorem SqEl.rt {L : Nat → Nat → Int} {m : Nat} {x y : List Int} {u v : Int} (h : SqEl L m y v x u) : IsRt (wh L m v * toT L m y) (toT L m (x.map fun a => a * v)) u := by
  obtain ⟨h1, h2, h3⟩ := h
  refine ⟨h2, ?_⟩
  rw [toT_mapR]
  have s1 : wh L m (u * u) * (wh L m v * toT L m y) = wh L m v * (wh L m (u * u) * toT L m y) := by grind
  rw [s1, h3]
  grind
/-- what root_of_element asks, from any root -/
theorem roe_of {L : Nat → Nat → Int} {m : Nat} (hd : Dom L m) {x y : List Int} {u v : Int} (hx : x.length = 2 ^ m) (h : SqEl L m y v x u) {l : List Int} {w : Int} (he : IsElL l w x u) {q : DV → Prop} (hq : q (.val (elD (sgnL l) w))) :
    (¬Sq (wh L m v * toT L m y) → q (.val .none)) ∧ ∀ (l' : List Int) (w' : Int), l'.length = 2 ^ m → 1 ≤ w' → wh L m v * (toT L m l' * toT L m l') = wh L m (w' * w') * toT L m y → 0 ≤ sT (toT L m l') → IsElL l' w' l' w' → q (.val (elD l' w')) := by
  have h0 := h.rt
  obtain ⟨v1, u1, h3⟩ := h
  have hl : l.length = 2 ^ m := he.2.1.trans hx
  refine ⟨fun hn => absurd ⟨_, _, h0⟩ hn, fun l' w' k1 k2 k3 k4 k5 => ?_⟩
  -- both are roots of v * y, times v
  have r1 : IsRt (wh L m v * toT L m y) (wh L m v * toT L m l') w' := ⟨k2, by
    have s1 : wh L m v * toT L m l' * (wh L m v * toT L m l') = wh L m v * (wh L m v * (toT L m l' * toT L m l')) := by grind
    rw [s1, k3]
    grind⟩
  have w1 := he.1
  have r2 : IsRt (wh L m v * toT L m y) (wh L m v * toT L m (sgnL l)) w := by
    have r0 : IsRt (wh L m v * toT L m y) (wh L m v * toT L m x) u := ⟨u1, by
      have s1 : wh L m v * toT L m x * (wh L m v * toT L m x) = wh L m v * (wh L m v * (toT L m x * toT L m x)) := by grind
      rw [s1, ← h3]
      grind⟩
    have q1 := he.eqn L m
    obtain ⟨r3, _⟩ := IsRt.same (z' := wh L m v * toT L m l) hd w1 r0 (by
      have s1 : wh L m u * (wh L m v * toT L m l) = wh L m v * (wh L m u * toT L m l) := by grind
      rw [s1, q1]
      grind)
    rcases sgnL_toT (L := L) (m := m) l with e | e
    · rw [e]; exact r3
    · rw [e]
      have s2 : wh L m v * -toT L m l = -(wh L m v * toT L m l) := by grind
      rw [s2]
      exact r3.neg
  have e1 := rt_uniq hd r2 r1 (by rw [sT_wh (by omega), sT_toT (by rw [sgnL_length]; exact hl)]; exact sgnL_pos l) (by rw [sT_wh (by omega)]; exact k4)
  have e1 : wh L m w' * toT L m (sgnL l) = wh L m w * toT L m l' := wh_cancel' hd (show v ≠ 0 by omega) (by grind)
  have e2 : IsElL l' w' (sgnL l) w := k5.congr (by rw [sgnL_length]; omega) (fun i => ?_) (by omega)
  · obtain ⟨rfl, rfl⟩ := e2.uniq (sgnL_el he.norm) (by omega)
    exact hq
  · by_cases c : i < 2 ^ m
    · have := congrArg (fun t => cf t i) e1
      simp only [cf_whm _ _ c] at this
      unfold toT at this
      rw [cf_Tf c, cf_Tf c] at this
      rw [Int.mul_comm, ← this, Int.mul_comm]
    · have z1 : fn l' i = 0 := by simp [fn]; rw [List.getElem?_eq_none (by omega)]; rfl
      have z2 : fn (sgnL l) i = 0 := by simp [fn]; rw [List.getElem?_eq_none (by rw [sgnL_length]; omega)]; rfl
      rw [z1, z2]
      simp
/-- the search stays small -/
theorem RowR.fine {letters mode m : Nat} {L : List (List Int)} (h : RowR mode L) (hl : L.length ≤ letters) (hl6 : letters ≤ 6) (hm : 4 < letters → mode ≤ 1) (hmL : m ≤ L.length) {X z : T (rsF L) m} {d : Int} (hr : IsRt X z d) (hz : wr (fun k => 2 ^ pR letters mode L k) z ≤ 2 ^ tR letters mode) (hd : d ≤ 2 ^ fR letters) : Fine (fun k => 2 ^ pR letters mode L k) m X :=
  fine_sq ((h.twn hl hl6 hm).low hmL).tw hr hz hd (okS_R (by omega) hl6)
abbrev s__law_signed : Stmt := topS 46
theorem sc__law_signed : FnScope ["one", "top", "item"] ["one"] (defScope s__law_signed) := ⟨rfl, rfl, rfl, by decide +kernel, rfl, by decide +kernel, by decide +kernel⟩
def f__law_signed : FD := fun ds q => ∃ (l : List Int) (u : Int), ds = [elD l u] ∧ l.length ≤ 100 ∧ q (.val (elD (sgnL l) u))
theorem ok__law_signed {f fd} {k : Nat} (F : Fun K "_law_signed" "_law_signed" s__law_signed f fd) (hdg : base.NoDigits) (m_tuple : mg "tuple" = none) : FnG P w K mg base (k + 1) f fd ["one"] (SpD K 1 f__law_signed) := by
  refine fnD F sc__law_signed fun cdv A outer s H E gA hr => ?_
  have hu := hr.units
  have nd := sc__law_signed.nd
  refine ⟨_, (ss_cons (st_for (i_seq (de_ix x_ix (bv 0) (DE.toB de_int))) (tg_name (i := 1) nd) (ss_one (st_if (dt_cmp (o_ne hu) (bv 1) (DE.toB de_int)) (ss_cons (st_if (dt_cmp o_gt (bv 1) (DE.toB de_int)) (ss_one (st_ret (dv 0))) ss_nil)
    (ss_one (st_ret (de_tup (da_cons (de_T c_tuple m_tuple (ab_cons (DE.toB (DLs.toE (dl_lc (own := [("item", 2)]) nd (i_seqC (DE.toB (de_ix x_ix (bv 0) (DE.toB de_int)))) (gw_name (i := 2) nd) dts_nil (fun _ _ _ _ _ => (de_un u_neg (bv 2)))))) ab_nil)) (da_cons (de_ix x_ix (bv 0) (DE.toB de_int)) da_nil)))))) ss_nil)))
    (ss_one (st_ret (dv 0)))), ?_⟩
  clear F nd hu hr gA E H s outer A cdv hdg m_tuple
  intro ds q hl hg
  obtain ⟨l, u, rfl, hl, hq⟩ := hg
  show sSeq _ _ _ [some (.val (elD l u)), none, none]
  refine sq_i fun k hk => for_in fun W hW => ?_
  walk_at "rd"
  subst hW
  refine for_map (fun r σ => ∃ y : Option DV, σ = [some (.val (elD l u)), y, none] ∧ sgL l = sgL r) l ⟨none, rfl, rfl⟩ ?_ ?_
  · rintro _ ⟨y, rfl, h⟩
    subst hk
    walk_at "rd"
    have : sgnL l = l := by unfold sgnL; rw [h, if_neg (by decide)]
    rw [this] at hq
    exact hq
  · rintro a r _ ⟨y, rfl, h⟩ k1 hk1
    have ha : sgL (a :: r) = if a = 0 then sgL r else a.sign := rfl
    refine if_n fun T hT => ?_
    walk_at "rd"
    refine ⟨fun c => ?_, fun c => hk1 _ ⟨_, rfl, by rw [h, ha, if_pos c]⟩⟩
    rw [if_neg c] at ha
    subst hT
    refine sq_i fun k2 hk2 => if_n fun T hT => ?_
    walk_at "rd"
    refine ⟨fun p => ?_, fun p => ?_⟩
    · subst hT
      walk_at "rd"
      have : sgnL l = l := by unfold sgnL; rw [h, ha, Int.sign_eq_one_of_pos p, if_neg (by decide)]
      rw [this] at hq
      exact hq
    · clear hT T
      subst hk2
      walk_at "rd"
      have : sgnL l = l.map fun a => -a := by unfold sgnL; rw [h, ha, Int.sign_eq_neg_one_of_neg (by omega), if_pos (by decide)]
      rw [this] at hq
      refine ⟨fit_len (by rw [List.length_map]; omega), lc_ints (fun x : Int => -x) _ ?_ fun a ha q Z hq => by walk_at "rd"; exact hq⟩
      walk_at "rd"
      exact hq
abbrev s__law_tops : Stmt := topS 45
theorem sc__law_tops : FnScope ["cell", "size", "kind", "digits", "great", "found", "place", "top"] ["cell", "size", "kind"] (defScope s__law_tops) := ⟨rfl, rfl, rfl, by decide +kernel, rfl, by decide +kernel, by decide +kernel⟩
def f__law_tops : FD := fun ds q => ∃ (c : Int) (s : Nat) (kd : Int), ds = [.int c, .int s, .int kd] ∧ 1 ≤ s ∧ s ≤ 64 ∧ 0 ≤ kd ∧ kd < 7 ∧ ∀ l : List Int, l.length = s → (∀ i ∈ l, i.natAbs < 2 ^ 86) → (kd ≤ 4 → ∀ i ∈ l, i.natAbs ≤ 4) → (∃ i ∈ l, i ≠ 0) → q (.own (inD l))
theorem ok__law_tops {f fd} {k : Nat} (F : Fun K "_law_tops" "_law_tops" s__law_tops f fd) (hdg : base.NoDigits) (m_int : mg "int" = none) (m_max : mg "max" = none) (m_range : mg "range" = none) (r__law_digits : Ready P w K mg base "_law_digits" 2 k f__law_digits) : FnG P w K mg base (k + 1) f fd ["cell", "size", "kind"] (SpD K 3 f__law_tops) := by
  refine fnD F sc__law_tops fun cdv A outer s H E gA hr => ?_
  have hu := hr.units
  have nd := sc__law_tops.nd
  refine ⟨_, (ss_cons (st_set (i := 3) nd (r__law_digits.toE gA hr (da_cons (dv 0) (da_cons (DLs.toE (dl_lc (own := [("place", 6)]) nd (DI.c (i_range1 (dv 1) m_range)) (gw_name (i := 6) nd) dts_nil (fun _ _ _ _ _ => de_int))) da_nil))))
    (ss_cons (st_set (i := 4) nd (de_ix x_ix (DE.toB (DLs.toE (dl_lst (da_cons de_int (da_cons de_int (da_cons de_int (da_cons de_int (da_cons de_int (da_cons (de_op o_pow (DE.toB de_int) (DE.toB de_int)) (da_cons (de_op o_pow (DE.toB de_int) (DE.toB de_int)) da_nil)))))))))) (bv 2)))
    (ss_cons (st_setL (i := 5) nd (dl_lst da_nil))
    (ss_cons (st_for (i_range1 (dv 1) m_range) (tg_name (i := 6) nd) (ss_cons (st_set (i := 7) nd (de_op o_sub (DE.toB (de_ix x_ix (bv 3) (bv 6))) (DE.toB de_int)))
    (ss_cons (st_if (DW.pt (dw_or (DW.pt (dw_and (dt_cmp (o_eq hu) (bv 2) (DE.toB de_int)) (dw_and1 (dt_cmp (o_eq hu) (DE.toB (de_op o_mod (DE.toB (de_T c_int m_int (ab_cons (bv 6) ab_nil))) (DE.toB de_int))) (DE.toB de_int))))) (dw_or1 (DW.pt (dw_and (dt_cmp (o_eq hu) (bv 2) (DE.toB de_int)) (dw_and1 (dt_cmp o_ge (DE.toB (de_op o_mul (DE.toB de_int) (bv 6))) (DE.toB (de_B c_max2 m_max (ab_cons (bv 1) (ab_cons (DE.toB de_int) ab_nil))))))))))) (ss_one (st_set (i := 7) nd de_int)) ss_nil)
    (ss_cons (st_if (DW.pt (dw_or (DW.pt (dw_and (dt_cmp (o_eq hu) (bv 2) (DE.toB de_int)) (dw_and1 (dt_cmp o_le (DE.toB (de_op o_add (DE.toB (de_op o_mul (DE.toB de_int) (bv 6))) (DE.toB de_int))) (bv 1))))) (dw_or1 (DW.pt (dw_and (dt_cmp (o_eq hu) (bv 2) (DE.toB de_int)) (dw_and1 (dt_cmp (o_ne hu) (bv 6) (DE.toB (de_op o_mod (DE.toB (de_T c_int m_int (ab_cons (DE.toB (de_op o_add (DE.toB (de_ix x_ix (bv 3) (DE.toB de_int))) (DE.toB (de_op o_mul (DE.toB de_int) (DE.toB (de_ix x_ix (bv 3) (DE.toB (de_op o_sub (bv 1) (DE.toB de_int))))))))) ab_nil))) (bv 1)))))))))) (ss_one (st_set (i := 7) nd de_int)) ss_nil)
    (ss_cons (st_if (dt_cmp o_gt (bv 2) (DE.toB de_int)) (ss_one (st_set (i := 7) nd (de_op o_add (DE.toB (de_op o_mul (bv 7) (bv 4))) (DE.toB (de_op o_mod (DE.toB (de_T c_int m_int (ab_cons (DE.toB (de_ix x_ix (bv 3) (bv 6))) ab_nil))) (DE.toB de_int)))))) ss_nil)
    (ss_one (st_app (i := 5) (dv 7))))))))
    (ss_cons (st_if (dt_cmp (o_eq hu) (DE.toB (DLs.toE (dl_lc (own := [("top", 7)]) nd (i_seqC (bv 5)) (gw_name (i := 7) nd) (dts_one fun _ _ _ _ _ => (dt_cmp (o_ne hu) (bv 7) (DE.toB de_int))) (fun _ _ _ _ _ => (dv 7))))) (DE.toB (DLs.toE (dl_lst da_nil)))) (ss_one (st_setI (i := 5) de_int (de_op o_sub (bv 1) (DE.toB de_int)))) ss_nil)
    (ss_one (st_retO 5))))))), ?_⟩
  clear F nd hu hr gA E H s outer A cdv hdg m_int m_max m_range r__law_digits
  intro ds q hl hg
  obtain ⟨c, s, kd, rfl, hs, hs2, hk0, hk7, hq⟩ := hg
  show sSeq _ _ _ [some (.val (.int c)), some (.val (.int s)), some (.val (.int kd)), none, none, none, none, none]
  refine sq_i fun k hk => ?_
  walk_at "rd"
  refine ⟨Rng.of (by omega) (by omega), fit_len (by rw [upTo_length]; omega), ?_⟩
  rw [Int.toNat_natCast]
  refine lc_up (fun _ => .int 9) _ ?_ fun i hi q Z hq => by walk_at "rd"; exact hq
  have e9 : (List.range s).map (fun _ => PyData.int 9) = inD (List.replicate s 9) := by
    rw [List.map_const', List.length_range, inD, List.map_replicate]
  rw [e9]
  refine ⟨c, List.replicate s 9, rfl, by simp; omega, fun x hx => by rw [(List.mem_replicate.mp hx).2]; decide, fun rs hrs => ?_⟩
  obtain ⟨hl2, hrs⟩ := InR_rep hrs
  clear e9
  have dg : ∀ j, j < s → 0 ≤ fn rs j ∧ fn rs j < 9 := fun j hj => hrs _ (by
    have := fn_get (l := rs) (j := j) (by omega)
    exact List.mem_of_getElem? this)
  walk_at "rd"
  subst hk
  refine sq_i fun k hk => ?_
  walk_at "rd"
  refine ⟨by decide, by decide, ?_⟩
  refine gIx_ints (ns := [1, 1, 1, 1, 1, 10 ^ 6, 10 ^ 25]) (fun n => 0 ≤ n ∧ n ≤ 10 ^ 25) hk0 hk7 (fun n e => ?_) fun gr hgr => ?_
  · have := List.mem_of_getElem? e
    simp only [List.mem_cons, List.not_mem_nil, or_false] at this
    rcases this with rfl | rfl | rfl | rfl | rfl | rfl | rfl <;> decide +kernel
  subst hk
  refine sq_i fun k hk => ?_
  walk_at "rd"
  subst hk
  refine sq_i fun k hk => for_in fun W hW => ?_
  walk_at "rd"
  refine ⟨Rng.of (by omega) (by omega), ?_⟩
  rw [Int.toNat_natCast]
  subst hW
  refine for_up (fun i σ => ∃ (l : List Int) (y6 y7 : Option DV), σ = [some (.val (.int c)), some (.val (.int s)), some (.val (.int kd)), some (.val (.list (inD rs))), some (.val (.int gr)), some (.own (inD l)), y6, y7] ∧ l.length = i ∧ (∀ i ∈ l, i.natAbs < 2 ^ 86) ∧ (kd ≤ 4 → ∀ i ∈ l, i.natAbs ≤ 4)) 0 s
    ⟨[], none, none, rfl, rfl, fun i hi => (by cases hi), fun _ i hi => (by cases hi)⟩ ?_ ?_
  · rintro _ ⟨l, y6, y7, rfl, h1, h2, h3⟩
    subst hk
    refine sq_i fun k hk => if_n fun T hT => ?_
    walk_at "rd"
    refine ⟨fit_len (by rw [List.length_map]; omega), ?_⟩
    refine lc_p (emb := fun i : Int => PyData.int i) (fun i : Int => i != 0) (fun i : Int => .int i) l ?_ fun a ha q Z h1 h2 => ?_
    rotate_left
    · walk_at "rd"
      exact ⟨fun c => h1 (by simpa using c), fun c => h2 (by simpa using c)⟩
    refine ⟨eqOk_int0 _, ?_⟩
    rw [eqv_nil, List.isEmpty_map]
    refine ⟨fun h => ?_, fun h => ?_⟩
    · subst hT
      walk_at "rd"
      have en : (s : Int) - 1 = ((s - 1 : Nat) : Int) := by omega
      rw [en, ixN_in (i := ((s - 1 : Nat) : Int)) (j := s - 1) rfl (by omega)]
      walk_at "rd"
      rw [setD]
      subst hk
      walk_at "rd"
      refine hq _ (by rw [List.length_set]; exact h1) (fun i hi => ?_) (fun z i hi => ?_) ⟨3, List.mem_set (by omega) 3, by decide⟩
      · rcases mem_set' hi with z | z
        · exact h2 i z
        · rw [z]; decide
      · rcases mem_set' hi with y | y
        · exact h3 z i y
        · rw [y]; decide
    · subst hk
      walk_at "rd"
      refine hq _ h1 h2 h3 ?_
      refine Classical.byContradiction fun c => ?_
      have : (l.filter fun i : Int => i != 0) = [] := by
        rw [List.filter_eq_nil_iff]
        intro a ha
        have : ¬ (a ≠ 0) := fun z => c ⟨a, ha, z⟩
        simpa using this
      rw [this] at h
      cases h
  · rintro i _ hi ⟨l, y6, y7, rfl, h1, h2, h3⟩ k1 hk1
    simp only [Int.zero_add]
    have hdi := dg i hi
    refine sq_i fun k hk => ?_
    walk_at "rd"
    refine ix_ints rfl (by omega) ?_
    walk_at "rd"
    subst hk
    refine sj_i 7 (fun d => ∃ n : Int, d = .int n ∧ -4 ≤ n ∧ n ≤ 4) ?_ fun k hk => if_n fun T hT => ?_
    rotate_left
    · have hT' : T := by
        subst hT
        walk_at "rd"
        exact hk _ ⟨0, rfl, by omega, by omega⟩
      have hK' := hk _ ⟨_, rfl, (by omega : -4 ≤ fn rs i - 4), (by omega : fn rs i - 4 ≤ 4)⟩
      clear hT
      walk_at "rd"
      repeat' first
        | exact hT'
        | exact hK'
        | exact fun _ => hT'
        | exact fun _ => hK'
        | exact mul_l (by decide) (by decide)
        | decide
        | apply And.intro
        | intro _
    rintro _ ⟨n, rfl, hn1, hn2⟩
    refine sj_i 7 (fun d => ∃ n : Int, d = .int n ∧ -4 ≤ n ∧ n ≤ 4) ?_ fun k hk => if_n fun T hT => ?_
    rotate_left
    · have hT' : T := by
        subst hT
        walk_at "rd"
        exact hk _ ⟨0, rfl, by omega, by omega⟩
      have hK' := hk _ ⟨_, rfl, hn1, hn2⟩
      clear hT
      walk_at "rd"
      refine ⟨fun _ => ⟨mul_l (by decide) (by decide), fun _ => hT', fun _ => ⟨fun _ => ?_, fun _ => hK'⟩⟩, fun _ => ⟨fun _ => ?_, fun _ => hK'⟩⟩
      all_goals
        refine ix_ints (j := 0) rfl (by omega) ?_
        walk_at "rd"
        refine ix_ints (j := s - 1) (by omega) (by omega) ?_
        walk_at "rd"
        exact ⟨mul_l (by decide) (by decide), by omega, fun _ => hT', fun _ => hK'⟩
    rintro _ ⟨n, rfl, hn1, hn2⟩
    refine sj_i 7 (fun d => ∃ n : Int, d = .int n ∧ n.natAbs < 2 ^ 86 ∧ (kd ≤ 4 → n.natAbs ≤ 4)) ?_ fun k hk => if_n fun T hT => ?_
    rotate_left
    · walk_at "rd"
      refine ⟨fun h => ?_, fun h => hk _ ⟨n, rfl, by omega, fun _ => by omega⟩⟩
      subst hT
      walk_at "rd"
      refine ⟨mul_l (by omega) (by omega), ?_⟩
      refine ix_ints rfl (by omega) ?_
      walk_at "rd"
      have g3 := fmod_pos (a := fn rs i) (b := 3) (by decide)
      refine ⟨by decide, hk _ ⟨_, rfl, ?_, fun z => absurd z (by omega)⟩⟩
      have q1 : -4 * gr ≤ n * gr := Int.mul_le_mul_of_nonneg_right hn1 hgr.1
      have q2 : n * gr ≤ 4 * gr := Int.mul_le_mul_of_nonneg_right hn2 hgr.1
      have q3 := hgr.2
      generalize n * gr = z at *
      have q4 : (10 : Int) ^ 25 = 10000000000000000000000000 := by decide
      rw [q4] at q3
      omega
    rintro _ ⟨n, rfl, hn, hn4⟩
    walk_at "rd"
    refine ⟨len63 (by rw [List.length_map]; omega), hk1 _ ⟨l ++ [n], _, _, by unfold inD; rw [List.map_append]; rfl, by rw [List.length_append, h1]; rfl, fun x hx => ?_, fun z x hx => ?_⟩⟩
    · rcases List.mem_append.mp hx with hx | hx
      · exact h2 x hx
      · rw [List.mem_singleton.mp hx]; exact hn
    · rcases List.mem_append.mp hx with hx | hx
      · exact h3 z x hx
      · rw [List.mem_singleton.mp hx]; exact hn4 z

end
end K13

namespace K13
open PySem PySem.Spec PyProof.Rows L2 DL Builtin.Int
local macro_rules | `(tactic| walk_at "rd") => `(tactic| simp -failIfUnchanged only [sSet, sSetL, sRet, sRetL, sRetO, sRetN, sNext, sBreak, sCont, sDrop, sApp, sAug, sAsg, sPar, sSetI, sPop, sSetPop, sRev, sFrz, frz1, iSeq, iRevD, iRange1, iRange2, iRangeD, rName, rTup, rTL_sq, gMulS_s, gStr1_i, rTL_t, rTL_l, rCons, rNil,
  dLst, dView, tView, lView, view, look, dVar, bVar, dC, d2, d1, l2, tBool, dNil, dCons, dTup, gI, gSubI, gMulI, gFdiv, gMod, gPow, gShl, gShr, gAnd, gXor, gLt, gLe, gGt, gGe, gAdd, gEq, gNe, isNone, gIs, gIsNot, gNeg, lCat, gLen_l, gLen_t, gLen_s, gInt, gAbs, gMax2, gMin2, gTuple_l, gTuple_t, lList_l, lList_t, gGcd, gIsqrt, dCall, lCall, dIsi, dIsi2,
  tAndD, tOrD, tNotD, tTru, truD, dAndV, dOrV, dNotV, dIf, dBits, wipeD, twoD, lComp, oNone, oSome, dSl, lSl, gSl_l, gSl_t, gSl_sq, gSq_l, gSq_t, gSq_sq, gIx_sq, gLen_sq, gTuple_sq, lList_sq, iZipD, gZip_sq, gZip_ts, gZip_st, gZip_ls, gZip_sl, gZip_tt, gZip_ll, gZip_lt, gZip_tl, dFn, lFn, valD, tYesD, eqOk_ii, eqOk_bb, eqOk_ss, eqv_int, eqv_str, eqv_bool, noLst, noLstAll, List.map_cons, List.map_nil, Option.map_some, Option.map_none,
  List.getElem?_cons_zero, List.getElem?_cons_succ, List.set_cons_zero, List.set_cons_succ, true_and, and_true, decide_eq_true_eq, decide_eq_false_iff_not, Bool.not_eq_true', Bool.not_eq_false', beq_iff_eq, beq_eq_false_iff_ne, Bool.true_eq_false, Bool.false_eq_true, false_imp_iff, true_imp_iff, forall_const, reduceCtorEq, ne_eq, not_true_eq_false, not_false_eq_true, Bool.not_true, Bool.not_false, Bool.true_and, Bool.and_true, Bool.false_and, Bool.and_false, Int.reduceToNat, Int.cast_ofNat_Int, eq_self, isTy_none_int, isTy_none_bool, isTy_none_str, isTy_none_list, isTy_none_tuple, isTy_bool_int, isTy_bool_bool, isTy_bool_str, isTy_bool_list, isTy_bool_tuple, isTy_int_int, isTy_int_bool, isTy_int_str, isTy_int_list, isTy_int_tuple, isTy_str_int, isTy_str_bool, isTy_str_str, isTy_str_list, isTy_str_tuple, isTy_list_int, isTy_list_bool, isTy_list_str, isTy_list_list, isTy_list_tuple, isTy_tuple_int, isTy_tuple_bool, isTy_tuple_str, isTy_tuple_list, isTy_tuple_tuple, List.length_cons, List.length_nil, Nat.reduceAdd, Nat.zero_add, ix2_0, ix2_1,
  gIx_l0, gIx_t0, gIx_l1, gIx_t1, gIx_l2, gIx_t2, gIx_l3, gIx_t3, gIx_l4, gIx_t4, gIx_l5, gIx_t5, gIx_l6, gIx_t6, gIx_l7, gIx_t7, gIx_l8, gIx_t8, gIx_l9, gIx_t9, gIx_l10, gIx_t10, gIx_l11, gIx_t11, gIx_l12, gIx_t12, gIx_l13, gIx_t13, gIx_l14, gIx_t14, gIx_l15, gIx_t15])
section
variable {P : Program} {w : World} {K : Frag} {mg : Str → Option Value} {base : Heap}
open TV
theorem pn_ints {l : List Int} {r : Nat} (hr : r ≤ 12000) (hl : l.length ≤ 100) (bl : BdL r l) {q : D → Prop} (hq : q (.str (PyData.shown (.list (inD l))))) : gRepr [.list (inD l)] q := by
  refine ⟨⟨rfl, ?_, ?_, ?_⟩, hq⟩
  · simp only [rpD]; exact rp_ints bl hr
  · simp only [cells, cells_ints]; omega
  · simp only [PyData.depth, dep_ints]; decide
theorem map_bd {l : List Int} {v : Int} {p c : Nat} (h : BdL p l) (hv : intBits v ≤ c) : BdL (p + c) (l.map fun a => a * v) := fun i hi => by
  obtain ⟨a, ha, rfl⟩ := List.mem_map.mp hi
  exact intBits_mul_le (h a ha) hv
/-- what is told of an element and its square -/
structure SqIn (letters mode m : Nat) (L : List (List Int)) (x y : List Int) (u v : Int) : Prop where
  row : RowR mode L
  le : L.length ≤ letters
  l6 : letters ≤ 6
  lm : 4 < letters → mode ≤ 1
  mL : m ≤ L.length
  lx : x.length = 2 ^ m
  ly : y.length = 2 ^ m
  sq : SqEl (rsF L) m y v x u
  bx : BdL 1000 x
  by' : BdL 4000 y
  bu : intBits u ≤ 30
  bv : intBits v ≤ 60
  wz : wr (fun k => 2 ^ pR letters mode L k) (toT (rsF L) m x) * v.natAbs ≤ 2 ^ tR letters mode
  uf : u ≤ 2 ^ fR letters
theorem SqIn.fine {letters mode m : Nat} {L : List (List Int)} {x y : List Int} {u v : Int} (h : SqIn letters mode m L x y u v) : Fine (fun k => 2 ^ pR letters mode L k) m (wh (rsF L) m v * toT (rsF L) m y) :=
  h.row.fine h.le h.l6 h.lm h.mL h.sq.rt (by rw [toT_mapR, wr_whm, Nat.mul_comm]; exact h.wz) h.uf
theorem sgnL_zeros (k : Nat) : sgnL (List.replicate k 0) = List.replicate k 0 := by
  have : sgL (List.replicate k 0) = 0 := (sgL_zero _).mpr fun a ha => (List.mem_replicate.mp ha).2
  unfold sgnL
  rw [this, if_neg (by decide)]
theorem sgnL_app (x : List Int) (k : Nat) : sgnL (x ++ List.replicate k 0) = sgnL x ++ List.replicate k 0 := by
  have h0 : sgL (List.replicate k 0) = 0 := (sgL_zero _).mpr fun a ha => (List.mem_replicate.mp ha).2
  have h1 : sgL (x ++ List.replicate k 0) = sgL x := by
    rw [sgL_app, h0]
    split
    · rename_i h; exact h.symm
    · rfl
  unfold sgnL
  rw [h1]
  split
  · rw [List.map_append, List.map_replicate]; rfl
  · rfl
theorem fn_app0 {x : List Int} {k i : Nat} : fn (x ++ List.replicate k 0) i = fn x i := by
  simp only [fn, List.getD_eq_getElem?_getD, List.getElem?_append]
  split
  · rfl
  · rename_i c
    rw [List.getElem?_eq_none (l := x) (by omega), List.getElem?_replicate]
    split <;> rfl
theorem el_app0 {x : List Int} {u : Int} {k : Nat} (h : IsElL x u x u) : IsElL (x ++ List.replicate k 0) u (x ++ List.replicate k 0) u :=
  ⟨h.1, rfl, fun _ => rfl, fun d h1 h2 => h.2.2.2 d h1 fun i => by have := h2 i; rwa [fn_app0] at this⟩
theorem el_zeros (k : Nat) : IsElL (List.replicate k 0) 1 (List.replicate k 0) 1 := IsElL.self (by decide) fun d h1 _ => Nat.dvd_one.mp h1
theorem SqEl.up {L : Nat → Nat → Int} {m n : Nat} {x y : List Int} {u v : Int} (h : SqEl L m y v x u) (hx : x.length = 2 ^ m) (hy : y.length = 2 ^ m) (hn : n = m ∨ n = m + 1) : SqEl L n (y ++ List.replicate (2 ^ n - y.length) 0) v (x ++ List.replicate (2 ^ n - x.length) 0) u := by
  rcases hn with rfl | rfl
  · rw [hx, hy, Nat.sub_self]
    simpa using h
  · obtain ⟨h1, h2, h3⟩ := h
    refine ⟨h1, h2, ?_⟩
    rw [toT_app hx, toT_app hy, toT_zeros, toT_zeros, mk_mul, wh_mk, wh_mk, h3]
    congr 1 <;> grind
theorem wr_up {L : Nat → Nat → Int} {ρ : Nat → Nat} {m n : Nat} {x : List Int} (hx : x.length = 2 ^ m) (hn : n = m ∨ n = m + 1) : wr ρ (toT L n (x ++ List.replicate (2 ^ n - x.length) 0)) = wr ρ (toT L m x) := by
  rcases hn with rfl | rfl
  · rw [hx, Nat.sub_self]
    simp
  · rw [toT_app hx, toT_zeros, wr_mk, wr_zero]
    simp
theorem SqEl.scale {L : Nat → Nat → Int} {m : Nat} (hd : Dom L m) {x y y' : List Int} {u v v' a b : Int} (h : SqEl L m y v x u) (hb : 1 ≤ b) (he : IsElL y' v' (y.map fun i => i * a * a) (v * b * b)) : SqEl L m y' v' (x.map fun i => i * a) (u * b) := by
  obtain ⟨h1, h2, h3⟩ := h
  have ub : 1 ≤ u * b := by have := Int.mul_pos (show (0 : Int) < u by omega) (show (0 : Int) < b by omega); omega
  refine ⟨he.1, ub, ?_⟩
  have q := he.eqn L m
  have ey : (y.map fun i => i * a * a) = (y.map fun i => i * (a * a)) := List.map_congr_left fun i _ => Int.mul_assoc _ _ _
  rw [ey, toT_mapR] at q
  rw [toT_mapR]
  refine wh_cancel' hd (show v * b * b ≠ 0 from Int.mul_ne_zero (Int.mul_ne_zero (by omega) (by omega)) (by omega)) ?_
  have s1 : wh L m (v * b * b) * (wh L m (u * b * (u * b)) * toT L m y') = wh L m (u * b * (u * b)) * (wh L m (v * b * b) * toT L m y') := by grind
  rw [s1, q]
  rw [wh_mm (u * b), wh_mm u b, wh_mm a a, wh_mm (v * b), wh_mm v b]
  rw [wh_mm u u] at h3
  generalize wh L m u = U at *
  generalize wh L m b = B at *
  generalize wh L m v = V at *
  generalize wh L m v' = V' at *
  generalize wh L m a = A at *
  have s2 : U * B * (U * B) * (V' * (A * A * toT L m y)) = B * B * V' * (A * A) * (U * U * toT L m y) := by grind
  rw [s2, h3]
  grind
theorem SqIn.ask {letters mode m : Nat} {L : List (List Int)} {x y : List Int} {u v : Int} (H : SqIn letters mode m L x y u v) {R : D} (hR : RadD R L) {t t' : Bool} {l : List Int} {w : Int} (he : IsElL l w x u) {q : DV → Prop} (hq : q (.val (elD (sgnL l) w))) : f_root_of_element [R, elS t t' y v] q := by
  have hT := (H.row.twn H.le H.l6 H.lm).low H.mL
  have hmL := H.mL
  have hle := H.le
  have hl6 := H.l6
  exact ⟨m, R, L, t, t', y, v, 20, _, _, _, _, rfl, Nat.le_trans (Nat.add_le_add_right (Nat.mul_le_mul_left 3 (show m ≤ 6 by omega)) 1) (by decide), by omega, hR, H.row.ok, by decide, hmL, H.ly, hT, H.sq.1, by have := H.bv; omega, H.by'.up (by decide), H.fine, roe_of hT.tw.pr.dom H.lx H.sq he hq⟩
theorem SqIn.askV {letters mode m : Nat} {L : List (List Int)} {x y : List Int} {u : Int} (H : SqIn letters mode m L x y u 1) {R : D} (hR : RadD R L) {t : Bool} {l : List Int} {w : Int} (he : IsElL l w x u) {q : DV → Prop} (hq : q (.val (elD (sgnL l) w))) : f_root_of_vector [R, sqD t (inD y)] q := by
  have hT := (H.row.twn H.le H.l6 H.lm).low H.mL
  have hmL := H.mL
  have hle := H.le
  have hl6 := H.l6
  have hF := H.fine
  have hr := H.sq.rt
  have e1 : wh (rsF L) m 1 * toT (rsF L) m y = toT (rsF L) m y := by rw [wh_one]; grind
  have e2 : (x.map fun a => a * (1 : Int)) = x := (List.map_congr_left fun a _ => Int.mul_one a).trans (List.map_id' x)
  rw [e1] at hF hr
  rw [e2] at hr
  exact ⟨m, R, L, t, y, 20, _, _, _, _, rfl, Nat.le_trans (Nat.mul_le_mul_left 3 (show m ≤ 6 by omega)) (by decide), by omega, hR, H.row.ok, by decide, hmL, H.ly, hT, hF, rts_of hT.tw.pr.dom H.lx hr he hq⟩
theorem SqIn.zero {letters mode m : Nat} {L : List (List Int)} {x y : List Int} {u v : Int} (H : SqIn letters mode m L x y u v) : SqIn letters mode m L (List.replicate (2 ^ m) 0) (List.replicate (2 ^ m) 0) 1 1 where
  row := H.row
  le := H.le
  l6 := H.l6
  lm := H.lm
  mL := H.mL
  lx := by simp
  ly := by simp
  sq := ⟨by decide, by decide, by rw [toT_zeros]; grind⟩
  bx := fun i hi => by rw [(List.mem_replicate.mp hi).2]; decide
  by' := fun i hi => by rw [(List.mem_replicate.mp hi).2]; decide
  bu := by decide
  bv := by decide
  wz := by rw [toT_zeros, wr_zero]; exact Nat.le_trans (Nat.le_of_eq (Nat.zero_mul _)) (Nat.zero_le _)
  uf := by unfold fR; split <;> decide
theorem SqIn.lift {letters mode m : Nat} {L : List (List Int)} {x y : List Int} {u v : Int} (H : SqIn letters mode m L x y u v) (hn : L.length = m ∨ L.length = m + 1) : SqIn letters mode L.length L (x ++ List.replicate (2 ^ L.length - x.length) 0) (y ++ List.replicate (2 ^ L.length - y.length) 0) u v where
  row := H.row
  le := H.le
  l6 := H.l6
  lm := H.lm
  mL := Nat.le_refl _
  lx := by
    have h1 := H.lx
    have h2 : 2 ^ m ≤ 2 ^ L.length := Nat.pow_le_pow_right (by decide) H.mL
    simp; omega
  ly := by
    have h1 := H.ly
    have h2 : 2 ^ m ≤ 2 ^ L.length := Nat.pow_le_pow_right (by decide) H.mL
    simp; omega
  sq := H.sq.up H.lx H.ly hn
  bx := fun i hi => by
    rcases List.mem_append.mp hi with h | h
    · exact H.bx i h
    · rw [(List.mem_replicate.mp h).2]; decide
  by' := fun i hi => by
    rcases List.mem_append.mp hi with h | h
    · exact H.by' i h
    · rw [(List.mem_replicate.mp h).2]; decide
  bu := H.bu
  bv := H.bv
  wz := by rw [wr_up H.lx hn]; exact H.wz
  uf := H.uf
end
end K13

namespace K13
open PySem PySem.Spec PyProof.Rows L2 DL Builtin.Int
local macro_rules | `(tactic| walk_at "rd") => `(tactic| simp -failIfUnchanged only [sSet, sSetL, sRet, sRetL, sRetO, sRetN, sNext, sBreak, sCont, sDrop, sApp, sAug, sAsg, sPar, sSetI, sPop, sSetPop, sRev, sFrz, frz1, iSeq, iRevD, iRange1, iRange2, iRangeD, rName, rTup, rTL_sq, gMulS_s, gStr1_i, rTL_t, rTL_l, rCons, rNil,
  dLst, dView, tView, lView, view, look, dVar, bVar, dC, d2, d1, l2, tBool, dNil, dCons, dTup, gI, gSubI, gMulI, gFdiv, gMod, gPow, gShl, gShr, gAnd, gXor, gLt, gLe, gGt, gGe, gAdd, gEq, gNe, isNone, gIs, gIsNot, gNeg, lCat, gLen_l, gLen_t, gLen_s, gInt, gAbs, gMax2, gMin2, gTuple_l, gTuple_t, lList_l, lList_t, gGcd, gIsqrt, dCall, lCall, dIsi, dIsi2,
  tAndD, tOrD, tNotD, tTru, truD, dAndV, dOrV, dNotV, dIf, dBits, wipeD, twoD, lComp, oNone, oSome, dSl, lSl, gSl_l, gSl_t, gSl_sq, gSq_l, gSq_t, gSq_sq, gIx_sq, gLen_sq, gTuple_sq, lList_sq, iZipD, gZip_sq, gZip_ts, gZip_st, gZip_ls, gZip_sl, gZip_tt, gZip_ll, gZip_lt, gZip_tl, dFn, lFn, valD, tYesD, eqOk_ii, eqOk_bb, eqOk_ss, eqv_int, eqv_str, eqv_bool, noLst, noLstAll, List.map_cons, List.map_nil, Option.map_some, Option.map_none,
  List.getElem?_cons_zero, List.getElem?_cons_succ, List.set_cons_zero, List.set_cons_succ, true_and, and_true, decide_eq_true_eq, decide_eq_false_iff_not, Bool.not_eq_true', Bool.not_eq_false', beq_iff_eq, beq_eq_false_iff_ne, Bool.true_eq_false, Bool.false_eq_true, false_imp_iff, true_imp_iff, forall_const, reduceCtorEq, ne_eq, not_true_eq_false, not_false_eq_true, Bool.not_true, Bool.not_false, Bool.true_and, Bool.and_true, Bool.false_and, Bool.and_false, Int.reduceToNat, Int.cast_ofNat_Int, eq_self, isTy_none_int, isTy_none_bool, isTy_none_str, isTy_none_list, isTy_none_tuple, isTy_bool_int, isTy_bool_bool, isTy_bool_str, isTy_bool_list, isTy_bool_tuple, isTy_int_int, isTy_int_bool, isTy_int_str, isTy_int_list, isTy_int_tuple, isTy_str_int, isTy_str_bool, isTy_str_str, isTy_str_list, isTy_str_tuple, isTy_list_int, isTy_list_bool, isTy_list_str, isTy_list_list, isTy_list_tuple, isTy_tuple_int, isTy_tuple_bool, isTy_tuple_str, isTy_tuple_list, isTy_tuple_tuple, List.length_cons, List.length_nil, Nat.reduceAdd, Nat.zero_add, ix2_0, ix2_1,
  gIx_l0, gIx_t0, gIx_l1, gIx_t1, gIx_l2, gIx_t2, gIx_l3, gIx_t3, gIx_l4, gIx_t4, gIx_l5, gIx_t5, gIx_l6, gIx_t6, gIx_l7, gIx_t7, gIx_l8, gIx_t8, gIx_l9, gIx_t9, gIx_l10, gIx_t10, gIx_l11, gIx_t11, gIx_l12, gIx_t12, gIx_l13, gIx_t13, gIx_l14, gIx_t14, gIx_l15, gIx_t15])
section
variable {P : Program} {w : World} {K : Frag} {mg : Str → Option Value} {base : Heap}
open TV
theorem wl_ones {ρ : Nat → Nat} {B : Nat} : ∀ {n : Nat}, (∀ k, k < n → ρ k ≤ B) → wl ρ n (fun _ => 1) ≤ (B + 1) ^ n
  | 0, _ => Nat.le_refl _
  | n + 1, h => by
    have h1 := wl_ones (n := n) fun k hk => h k (by omega)
    show wl ρ n (fun _ => 1) + ρ n * wl ρ n (fun _ => 1) ≤ (B + 1) ^ (n + 1)
    have h2 := Nat.mul_le_mul (h n (by omega)) h1
    rw [Nat.pow_succ, Nat.mul_add, Nat.mul_one, Nat.mul_comm ((B + 1) ^ n) B]
    omega
theorem RowR.p10 {L : List (List Int)} (h : RowR 1 L) {letters : Nat} (hl : 4 < letters) {k : Nat} (hk : k < L.length) : pR letters 1 L k ≤ 10 := by
  unfold pR
  rw [if_neg (by omega), if_neg (by decide)]
  obtain ⟨c, h0, h1, h2, h3⟩ := h.con hk
  rw [h3]
  exact (pOf_ok h0).2.2 10 (by omega)
/-- the weight of drawn tops -/
theorem RowR.top_wr {letters mode m : Nat} {L : List (List Int)} (h : RowR mode L) (hl : L.length ≤ letters) (hl6 : letters ≤ 6) (hm : 4 < letters → mode ≤ 1) (hmL : m ≤ L.length) {x : List Int} (h86 : ∀ i ∈ x, i.natAbs < 2 ^ 86) (h4 : 4 < letters → ∀ i ∈ x, i.natAbs ≤ 4) :
    wr (fun k => 2 ^ pR letters mode L k) (toT (rsF L) m x) ≤ 2 ^ (if letters ≤ 4 then 154 else if mode = 0 then 16 else 63) := by
  rw [wr_toT]
  by_cases c : letters ≤ 4
  · rw [if_pos c]
    have e : pR letters mode L = pA := by funext k; unfold pR; rw [if_pos c]
    rw [e]
    have h1 := wl_le (ρ := fun k => 2 ^ pA k) (n := m) (g := fn x) (B := 2 ^ 86) fun j _ => by
      rcases fn_mem (l := x) (i := j) with z | z
      · rw [z]; decide
      · exact Nat.le_of_lt (h86 _ z)
    have : ∀ m, m ≤ 4 → wl (fun k => 2 ^ pA k) m (fun _ => 1) ≤ 2 ^ 68 := by decide
    exact Nat.le_trans h1 (mul_pow2 (Nat.le_refl _) (this m (by omega)))
  · rw [if_neg c]
    have h1 := wl_le (ρ := fun k => 2 ^ pR letters mode L k) (n := m) (g := fn x) (B := 4) fun j _ => by
      rcases fn_mem (l := x) (i := j) with z | z
      · rw [z]; decide
      · exact h4 (by omega) _ z
    by_cases c0 : mode = 0
    · rw [if_pos c0]
      have h2 := wl_ones (ρ := fun k => 2 ^ pR letters mode L k) (B := 4) (n := m) fun k _ => by
        unfold pR
        rw [if_neg c, if_pos c0]
        decide
      have : ∀ m, m ≤ 6 → 4 * (4 + 1) ^ m ≤ 2 ^ 16 := by decide
      exact Nat.le_trans h1 (Nat.le_trans (Nat.mul_le_mul_left 4 h2) (this m (by omega)))
    · rw [if_neg c0]
      obtain rfl : mode = 1 := by have := hm (by omega); omega
      have h2 := wl_ones (ρ := fun k => 2 ^ pR letters 1 L k) (B := 1024) (n := m) fun k hk => by
        show 2 ^ pR letters 1 L k ≤ 2 ^ 10
        exact Nat.pow_le_pow_right (by decide) (h.p10 (by omega) (by omega))
      have : ∀ m, m ≤ 6 → 4 * (1024 + 1) ^ m ≤ 2 ^ 63 := by decide
      exact Nat.le_trans h1 (Nat.le_trans (Nat.mul_le_mul_left 4 h2) (this m (by omega)))
theorem gRepr_row {L : List (List Int)} {r : Nat} (hr : r ≤ 12000) {q : D → Prop} (hL : L.length ≤ 10) (h1 : ∀ l ∈ L, l.length ≤ 64) (h2 : ∀ l ∈ L, BdL r l) (hq : q (.str (PyData.shown (.list (L.map fun l => .list (inD l)))))) : gRepr [.list (L.map fun l => .list (inD l))] q := by
  have c := sum_le L h1
  have d := depth_lists false L
  have e := cells_lists false L
  have f := rp_lists L r false hr h2
  simp only [sqD] at d e f
  simp only [Bool.false_eq_true, if_false] at d e f
  refine ⟨⟨rfl, ?_, ?_, ?_⟩, hq⟩
  · simp only [rpD]; exact f
  · simp only [cells]; omega
  · simp only [PyData.depth]; omega
theorem gRepr_pas2 {x : List Int} {L : List (List Int)} {b : Int} {r : Nat} (hr : r ≤ 12000) {q : D → Prop} (hL : L.length ≤ 10) (h1 : ∀ l ∈ L, l.length ≤ 64) (h2 : ∀ l ∈ L, BdL r l) (hx : x.length ≤ 64) (bx : BdL r x) (bb : intBits b ≤ r) (hq : q (.str (PyData.shown (pas L x b)))) : gRepr [pas L x b] q := by
  have c := sum_le L h1
  have d := depth_lists false L
  have e := cells_lists false L
  have f := rp_lists L r false hr h2
  simp only [sqD] at d e f
  refine ⟨⟨rfl, ?_, ?_, ?_⟩, hq⟩
  · simp only [pas, rpD, rpAll, rp_ints bx hr, Bool.and_true, Bool.true_and, decide_eq_true (big_bits bb hr)]
    exact f
  · simp only [pas, cells, cellsAll, cells_ints]
    simp only [Bool.false_eq_true, if_false] at e
    omega
  · simp only [pas, PyData.depth, PyData.depthAll, dep_ints]
    simp only [Bool.false_eq_true, if_false] at d
    omega
theorem RowR.items {mode : Nat} {L : List (List Int)} (h : RowR mode L) (hl : L.length ≤ 6) : (∀ l ∈ L, l.length ≤ 64) ∧ ∀ l ∈ L, BdL 4000 l := by
  have key : ∀ l ∈ L, ∃ k, k < L.length ∧ L[k]? = some l := fun l hl => by
    obtain ⟨k, hk, e⟩ := List.getElem_of_mem hl
    exact ⟨k, hk, by rw [List.getElem?_eq_getElem hk, e]⟩
  refine ⟨fun l hl' => ?_, fun l hl' => ?_⟩
  · obtain ⟨k, hk, e⟩ := key l hl'
    rw [(h.ok k l e).1]
    exact Nat.le_trans (Nat.pow_le_pow_right (by decide) (show k ≤ 6 by omega)) (by decide)
  · obtain ⟨k, hk, e⟩ := key l hl'
    exact (h.ok k l e).2.up (by decide)

end
end K13

namespace K13
open PySem PySem.Spec PyProof.Rows L2 DL Builtin.Int
local macro_rules | `(tactic| walk_at "rd") => `(tactic| simp -failIfUnchanged only [sSet, sSetL, sRet, sRetL, sRetO, sRetN, sNext, sBreak, sCont, sDrop, sApp, sAug, sAsg, sPar, sSetI, sPop, sSetPop, sRev, sFrz, frz1, iSeq, iRevD, iRange1, iRange2, iRangeD, rName, rTup, rTL_sq, gMulS_s, gStr1_i, rTL_t, rTL_l, rCons, rNil,
  dLst, dView, tView, lView, view, look, dVar, bVar, dC, d2, d1, l2, tBool, dNil, dCons, dTup, gI, gSubI, gMulI, gFdiv, gMod, gPow, gShl, gShr, gAnd, gXor, gLt, gLe, gGt, gGe, gAdd, gEq, gNe, isNone, gIs, gIsNot, gNeg, lCat, gLen_l, gLen_t, gLen_s, gInt, gAbs, gMax2, gMin2, gTuple_l, gTuple_t, lList_l, lList_t, gGcd, gIsqrt, dCall, lCall, dIsi, dIsi2,
  tAndD, tOrD, tNotD, tTru, truD, dAndV, dOrV, dNotV, dIf, dBits, wipeD, twoD, lComp, oNone, oSome, dSl, lSl, gSl_l, gSl_t, gSl_sq, gSq_l, gSq_t, gSq_sq, gIx_sq, gLen_sq, gTuple_sq, lList_sq, iZipD, gZip_sq, gZip_ts, gZip_st, gZip_ls, gZip_sl, gZip_tt, gZip_ll, gZip_lt, gZip_tl, dFn, lFn, valD, tYesD, eqOk_ii, eqOk_bb, eqOk_ss, eqv_int, eqv_str, eqv_bool, noLst, noLstAll, List.map_cons, List.map_nil, Option.map_some, Option.map_none,
  List.getElem?_cons_zero, List.getElem?_cons_succ, List.set_cons_zero, List.set_cons_succ, true_and, and_true, decide_eq_true_eq, decide_eq_false_iff_not, Bool.not_eq_true', Bool.not_eq_false', beq_iff_eq, beq_eq_false_iff_ne, Bool.true_eq_false, Bool.false_eq_true, false_imp_iff, true_imp_iff, forall_const, reduceCtorEq, ne_eq, not_true_eq_false, not_false_eq_true, Bool.not_true, Bool.not_false, Bool.true_and, Bool.and_true, Bool.false_and, Bool.and_false, Int.reduceToNat, Int.cast_ofNat_Int, eq_self, isTy_none_int, isTy_none_bool, isTy_none_str, isTy_none_list, isTy_none_tuple, isTy_bool_int, isTy_bool_bool, isTy_bool_str, isTy_bool_list, isTy_bool_tuple, isTy_int_int, isTy_int_bool, isTy_int_str, isTy_int_list, isTy_int_tuple, isTy_str_int, isTy_str_bool, isTy_str_str, isTy_str_list, isTy_str_tuple, isTy_list_int, isTy_list_bool, isTy_list_str, isTy_list_list, isTy_list_tuple, isTy_tuple_int, isTy_tuple_bool, isTy_tuple_str, isTy_tuple_list, isTy_tuple_tuple, List.length_cons, List.length_nil, Nat.reduceAdd, Nat.zero_add, ix2_0, ix2_1,
  gIx_l0, gIx_t0, gIx_l1, gIx_t1, gIx_l2, gIx_t2, gIx_l3, gIx_t3, gIx_l4, gIx_t4, gIx_l5, gIx_t5, gIx_l6, gIx_t6, gIx_l7, gIx_t7, gIx_l8, gIx_t8, gIx_l9, gIx_t9, gIx_l10, gIx_t10, gIx_l11, gIx_t11, gIx_l12, gIx_t12, gIx_l13, gIx_t13, gIx_l14, gIx_t14, gIx_l15, gIx_t15])
section
variable {P : Program} {w : World} {K : Frag} {mg : Str → Option Value} {base : Heap}
open TV
/-- a factor that may be drawn -/
def FacC (m : Nat) (F : List Int) : Prop := (∃ c : Int, c.natAbs ≤ 500000000000000 ∧ IsC F c) ∨ (m ≤ 3 ∧ wl (fun k => 2 ^ pA k) m (fn F) ≤ 2 ^ 54 ∧ ∀ i ∈ F, i.natAbs ≤ 1000001)
theorem FacC.wl {m : Nat} {F : List Int} (h : FacC m F) : wl (fun k => 2 ^ pA k) m (fn F) ≤ 2 ^ 54 := by
  rcases h with ⟨c, hc, hv⟩ | ⟨_, h, _⟩
  · rw [wl_con fun j _ => hv j]
    exact Nat.le_trans hc (by decide)
  · exact h
theorem FacC.bd {m : Nat} {F : List Int} (h : FacC m F) : BdL 50 F := fun i hi => by
  refine intBits_le_iff.mpr ?_
  rcases h with ⟨c, hc, hv⟩ | ⟨_, _, h⟩
  · obtain ⟨j, hj, e⟩ := List.getElem_of_mem hi
    have ef : fn F j = i := by simp [fn, hj, e]
    have := hv j
    rw [ef] at this
    rw [this]
    split
    · exact Nat.lt_of_le_of_lt hc (by decide)
    · decide
  · exact Nat.lt_of_le_of_lt (h i hi) (by decide)
theorem RadC.fac {m mode : Nat} {F : List Int} (h : RadC m mode F) (hl : F.length = 2 ^ m) (hm : m ≤ 3 ∨ 2 ≤ mode) : FacC m F := by
  by_cases c : m ≤ 3
  · refine .inr ⟨c, Nat.le_trans (wl_A h hl c) ?_, h.items hl⟩
    have : ∀ m, m ≤ 3 → 2 ^ pA m * 2 ^ pA m ≤ 2 ^ 54 := by decide
    exact this m c
  · rcases h with ⟨d, hd, hv, _⟩ | ⟨z, _⟩ | ⟨z, _⟩
    · exact .inl ⟨d, by omega, hv⟩
    · omega
    · omega
theorem con_isC {c : Int} {n : Nat} : IsC (c :: List.replicate n 0) c := fun j => by
  cases j with
  | zero => rfl
  | succ j =>
    rw [if_neg (by omega)]
    have := fn_rep0 (n := n) (j := j)
    simpa [fn] using this
abbrev s__law_factor : Stmt := topS 47
theorem sc__law_factor : FnScope ["cell", "radicands", "used", "kind", "menu", "padding", "choices", "turn", "choice", "place"] ["cell", "radicands", "used", "kind"] (defScope s__law_factor) := ⟨rfl, rfl, rfl, by decide +kernel, rfl, by decide +kernel, by decide +kernel⟩
def f__law_factor : FD := fun ds q => ∃ (c : Int) (L : List (List Int)) (letters mode m kd : Nat), ds = [.int c, .list (L.map fun l => .list (inD l)), .int m, .int kd] ∧ RowR mode L ∧ L.length ≤ letters ∧ letters ≤ 4 ∧ m ≤ L.length ∧ kd ≤ 6 ∧ intBits c ≤ 1048576 ∧ q (.val (.list [])) ∧ ∀ F : List Int, F.length = 2 ^ m → FacC m F → NS (toT (rsF L) m F) → q (.val (.list (inD F)))
theorem ok__law_factor {f fd} {k : Nat} (F : Fun K "_law_factor" "_law_factor" s__law_factor f fd) (hdg : base.NoDigits) (m_int : mg "int" = none) (m_len : mg "len" = none) (m_list : mg "list" = none) (m_range : mg "range" = none) (r__law_radicand : Ready P w K mg base "_law_radicand" 3 k f__law_radicand) (r__law_no_square : Ready P w K mg base "_law_no_square" 2 k f__law_no_square) : FnG P w K mg base (k + 1) f fd ["cell", "radicands", "used", "kind"] (SpD K 4 f__law_factor) := by
  refine fnD F sc__law_factor fun cdv A outer s H E gA hr => ?_
  have hu := hr.units
  have nd := sc__law_factor.nd
  refine ⟨_, (ss_cons (st_set (i := 4) nd (DLs.toE (dl_lst (da_cons de_int (da_cons de_int (da_cons de_int (da_cons de_int (da_cons (de_un u_neg (DE.toB de_int)) (da_cons de_int da_nil)))))))))
    (ss_cons (st_lc (own := [("place", 9)]) (i := 5) nd (DI.c (i_range1 (de_op o_sub (DE.toB (de_op o_shl (DE.toB de_int) (bv 2))) (DE.toB de_int)) m_range)) (gw_name (i := 9) nd) dts_nil (fun _ _ _ _ _ => de_int) (sw_true rfl rfl rfl (by decide +kernel)))
    (ss_cons (st_setL (i := 6) nd (dl_lst da_nil))
    (ss_cons (st_if (DW.pt (dw_and (dt_cmp o_lt (bv 3) (DE.toB de_int)) (dw_and1 (dt_cmp o_lt (bv 2) (DE.toB (de_B c_len m_len (ab_cons (bv 1) ab_nil))))))) (ss_one (st_app (i := 6) (DLs.toE (dl_T c_list m_list (ab_cons (DE.toB (de_ix x_ix (bv 1) (bv 2))) ab_nil))))) (ss_one (st_if (dt_cmp o_lt (bv 3) (DE.toB de_int)) (ss_one (st_app (i := 6) (r__law_radicand.toE gA hr (da_cons (dv 0) (da_cons (dv 2) (da_cons (de_op o_add (DE.toB de_int) (bv 3)) da_nil)))))) (ss_one (st_app (i := 6) (de_op o_add (DE.toB (DLs.toE (dl_lst (da_cons (de_op o_sub (DE.toB (de_op o_mod (DE.toB (de_T c_int m_int (ab_cons (bv 0) ab_nil))) (DE.toB (de_op o_pow (DE.toB de_int) (DE.toB de_int))))) (DE.toB (de_op o_mul (DE.toB de_int) (DE.toB (de_op o_pow (DE.toB de_int) (DE.toB de_int)))))) da_nil)))) (bv 5)))))))
    (ss_cons (st_for (i_range1 de_int m_range) (tg_name (i := 7) nd) (ss_one (st_app (i := 6) (de_op o_add (DE.toB (DLs.toE (dl_lst (da_cons (de_ix x_ix (bv 4) (DE.toB (de_op o_mod (DE.toB (de_T c_int m_int (ab_cons (DE.toB (de_op o_add (DE.toB (de_op o_mod (DE.toB (de_T c_int m_int (ab_cons (bv 0) ab_nil))) (DE.toB de_int))) (bv 7))) ab_nil))) (DE.toB de_int)))) da_nil)))) (bv 5)))))
    (ss_cons (st_frz 6 (st_for (i_seq (dv 6)) (tg_name (i := 8) nd) (ss_one (st_if (dt_val (r__law_no_square.toE gA hr (da_cons (dv 1) (da_cons (dv 8) da_nil)))) (ss_one (st_ret (dv 8))) ss_nil))))
    (ss_one (st_ret (DLs.toE (dl_lst da_nil)))))))))), ?_⟩
  clear F nd hu hr gA E H s outer A cdv hdg m_int m_len m_list m_range r__law_radicand r__law_no_square
  intro ds q hl hg
  obtain ⟨c, L, letters, mode, m, kd, rfl, hL, hLl, h4, hmL, hkd, hc, hq1, hq2⟩ := hg
  have i1 : intBits 1 = 1 := by decide
  have h16 : 2 ^ m ≤ 16 := Nat.le_trans (Nat.pow_le_pow_right (by decide) (show m ≤ 4 by omega)) (by decide)
  have hp0 := Nat.two_pow_pos m
  show sSeq _ _ _ [some (.val (.int c)), some (.val (.list (L.map fun l => .list (inD l)))), some (.val (.int (m : Int))), some (.val (.int (kd : Int))), none, none, none, none, none, none]
  refine sq_i fun k hk => ?_
  walk_at "rd"
  subst hk
  refine sq_i fun k hk => ?_
  walk_at "rd"
  have e1 : (1 : Int) * 2 ^ (m : Int).toNat = ((2 ^ m : Nat) : Int) := by rw [Int.one_mul, Int.toNat_natCast]; simp
  have en : ((2 ^ m : Nat) : Int) - 1 = ((2 ^ m - 1 : Nat) : Int) := by omega
  rw [e1, en]
  refine ⟨⟨⟨by omega, by rw [i1]; omega⟩⟩, Rng.of (by omega) (by omega), fit_len (by rw [upTo_length]; omega), ?_⟩
  rw [Int.toNat_natCast]
  refine lc_up (fun _ => .int 0) _ ?_ fun i hi q Z hq => by walk_at "rd"; exact hq
  have e0 : (List.range (2 ^ m - 1)).map (fun _ => PyData.int 0) = inD (List.replicate (2 ^ m - 1) 0) := by
    rw [List.map_const', List.length_range, inD, List.map_replicate]
  rw [e0]
  subst hk
  refine sq_i fun k hk => ?_
  walk_at "rd"
  subst hk
  have eap : ∀ a : Int, PyData.int a :: inD (List.replicate (2 ^ m - 1) 0) = inD (a :: List.replicate (2 ^ m - 1) 0) := fun a => rfl
  refine sj_r (fun σ => ∃ (C : List (List Int)) (y7 : Option DV), σ = [some (.val (.int c)), some (.val (.list (L.map fun l => .list (inD l)))), some (.val (.int (m : Int))), some (.val (.int (kd : Int))), some (.val (.list (inD [2, 3, 5, 7, -1, 11]))), some (.val (.list (inD (List.replicate (2 ^ m - 1) 0)))), some (.own (C.map fun l => .list (inD l))), y7, none, none] ∧ C.length ≤ 1 ∧ ∀ v ∈ C, v.length = 2 ^ m ∧ FacC m v) ?_ fun k hk => ?_
  rotate_left
  · refine if_in fun T U hT hU => ?_
    walk_at "rd"
    rw [List.length_map]
    have hU' : U := by
      clear hT T
      subst hU
      refine if_in fun T U hT hU => ?_
      walk_at "rd"
      refine ⟨fun h5 => ?_, fun h5 => ?_⟩
      · subst hT
        walk_at "rd"
        refine ⟨fit_len (by decide), c, m, 2 + kd, rfl, by omega, by omega, hc, fun v hv hR => ?_⟩
        walk_at "rd"
        exact hk _ ⟨[v], none, rfl, Nat.le_refl 1, fun u hu => by rw [List.mem_singleton.mp hu]; exact ⟨hv, hR.fac hv (.inr (by omega))⟩⟩
      · subst hU
        walk_at "rd"
        have g1 := fmod_pos (a := c) (b := 10 ^ 15) (by decide)
        have e15 : (10 : Int) ^ 15 = 1000000000000000 := by decide
        have e14 : (10 : Int) ^ 14 = 100000000000000 := by decide
        generalize hG : c.fmod (10 ^ 15) = G at g1 ⊢
        refine ⟨fit_len (by decide), by decide, by decide, by decide, mul_l (by decide) (by decide), fit_len (by simp; omega), ?_⟩
        exact hk _ ⟨[(G - 5 * 10 ^ 14) :: List.replicate (2 ^ m - 1) 0], none, rfl, Nat.le_refl 1, fun u hu => by
          rw [List.mem_singleton.mp hu]
          exact ⟨by simp; omega, .inl ⟨_, by omega, con_isC⟩⟩⟩
    refine ⟨fun h2 => ⟨fun h3 => ?_, fun _ => hU'⟩, fun _ => hU'⟩
    clear hU' hU U
    subst hT
    walk_at "rd"
    have hv : L[m]? = some L[m] := List.getElem?_eq_getElem (by omega)
    have hf := hL.form m _ hv
    have hv0 := hL.ok m _ hv
    generalize L[m] = lv at hv hf hv0
    refine ⟨fit_len (by decide), gIx_N (j := m) (d := .list (inD lv)) (by rw [List.getElem?_map, hv]; rfl) ?_⟩
    walk_at "rd"
    exact hk _ ⟨[lv], none, rfl, Nat.le_refl 1, fun u hu => by rw [List.mem_singleton.mp hu]; exact ⟨hv0.1, hf.fac hv0.1 (.inl (by omega))⟩⟩
  rintro _ ⟨C, y7, rfl, hC1, hC2⟩
  refine sq_i fun k hk => for_in fun W hW => ?_
  walk_at "rd"
  refine ⟨Rng.of (by decide) (by decide), ?_⟩
  subst hW
  refine for_up (fun tn σ => ∃ (C : List (List Int)) (y7 : Option DV), σ = [some (.val (.int c)), some (.val (.list (L.map fun l => .list (inD l)))), some (.val (.int (m : Int))), some (.val (.int (kd : Int))), some (.val (.list (inD [2, 3, 5, 7, -1, 11]))), some (.val (.list (inD (List.replicate (2 ^ m - 1) 0)))), some (.own (C.map fun l => .list (inD l))), y7, none, none] ∧ C.length ≤ tn + 1 ∧ ∀ v ∈ C, v.length = 2 ^ m ∧ FacC m v) 0 6 ⟨C, y7, rfl, hC1, hC2⟩ ?_ ?_
  rotate_left
  · rintro tn _ htn ⟨C, y7, rfl, hC1, hC2⟩ k3 hk3
    simp only [Int.zero_add]
    walk_at "rd"
    have g1 := fmod_pos (a := c) (b := 6) (by decide)
    have g2 := fmod_pos (a := c.fmod 6 + (tn : Int)) (b := 6) (by decide)
    refine ⟨by rw [List.length_map]; exact fit_len (by omega), by decide, by decide, ?_⟩
    refine gIx_ints (ns := [2, 3, 5, 7, -1, 11]) (fun n => n.natAbs ≤ 11) g2.1 g2.2 (fun n e => ?_) fun fa hfa => ?_
    · have := List.mem_of_getElem? e
      simp only [List.mem_cons, List.not_mem_nil, or_false] at this
      rcases this with rfl | rfl | rfl | rfl | rfl | rfl <;> decide
    walk_at "rd"
    refine ⟨fit_len (by simp; omega), ?_⟩
    rw [show [PyData.int fa] ++ inD (List.replicate (2 ^ m - 1) 0) = inD (fa :: List.replicate (2 ^ m - 1) 0) from rfl]
    refine hk3 _ ⟨C ++ [fa :: List.replicate (2 ^ m - 1) 0], _, by simp only [List.map_append, List.map_cons, List.map_nil]; rfl, by simp; omega, fun v hv => ?_⟩
    rcases List.mem_append.mp hv with hv | hv
    · exact hC2 v hv
    · rw [List.mem_singleton.mp hv]
      exact ⟨by simp; omega, .inl ⟨fa, by omega, con_isC⟩⟩
  rintro _ ⟨C, y7, rfl, hC1, hC2⟩
  subst hk
  refine sq_i fun k hk => ?_
  walk_at "rd"
  refine for_in fun W hW => ?_
  walk_at "rd"
  subst hW
  obtain ⟨hw, hp27⟩ := hL.wok hLl fun h => by omega
  have s15 : ∀ i, i ≤ 4 → ∀ j, j ≤ i → 60 * (i + 1 - j) * 2 ^ j ≤ 15998 := by decide
  have e : pR letters mode L = pA := by funext k; unfold pR; rw [if_pos h4]
  rw [e] at hw hp27
  refine for_map (fun (r : List (List Int)) σ => ∃ y8 : Option DV, σ = [some (.val (.int c)), some (.val (.list (L.map fun l => .list (inD l)))), some (.val (.int (m : Int))), some (.val (.int (kd : Int))), some (.val (.list (inD [2, 3, 5, 7, -1, 11]))), some (.val (.list (inD (List.replicate (2 ^ m - 1) 0)))), some (.val (.list (C.map fun l => .list (inD l)))), y7, y8, none] ∧ ∀ v ∈ r, v.length = 2 ^ m ∧ FacC m v) C ⟨none, rfl, hC2⟩ ?_ ?_
  · rintro _ ⟨y8, rfl, -⟩
    subst hk
    walk_at "rd"
    exact hq1
  · rintro v r _ ⟨y8, rfl, hr⟩ k4 hk4
    obtain ⟨hv1, hv2⟩ := hr v (by simp)
    refine if_n fun T hT => ?_
    walk_at "rd"
    refine ⟨m, _, L, false, v, 20, fun k => 2 ^ pA k, fun j => 60 * (m + 1 - j), fun j => 2 * pA j, rfl, by omega, RadD.sq false false L, hL.ok, by decide, hmL, hv1, hw.low hmL, hL.pr.low hmL, ?_, fun j hj => ⟨?_, ?_⟩, fun j hj => s15 _ (by omega) j hj, fun b hb => ?_⟩
    · show _ ≤ 2 ^ (60 * (m + 1 - m))
      rw [Nat.add_sub_cancel_left, wr_toT]
      exact pow_le2 hv2.wl (by decide)
    · rw [← Nat.pow_add, ← Nat.two_mul]
      exact Nat.le_refl _
    · have := pA_le j
      show 60 * (m + 1 - (j + 1)) + 2 * pA j ≤ 60 * (m + 1 - j)
      omega
    · walk_at "rd"
      refine ⟨fun h => ?_, fun _ => hk4 _ ⟨_, rfl, fun u hu => hr u (by simp [hu])⟩⟩
      subst hT
      walk_at "rd"
      exact hq2 v hv1 hv2 (hb h)
theorem ns_not {L : Nat → Nat → Int} {m : Nat} {v : T L m} (h : NS v) : ¬Sq v := fun ⟨z, d, h1, h2⟩ => by
  have := h z (wh L m d) (by rw [h2, wh_mm]; grind)
  exact wh_ne (by omega) this
theorem RowR.fineN {letters mode m : Nat} {L : List (List Int)} (h : RowR mode L) (hl : L.length ≤ letters) (h4 : letters ≤ 4) (hmL : m ≤ L.length) {X : T (rsF L) m} (hn : ¬Sq X) (hX : wr (fun k => 2 ^ pR letters mode L k) X ≤ 2 ^ 385) : Fine (fun k => 2 ^ pR letters mode L k) m X := by
  refine fine_ns ((h.twn hl (by omega) (fun z => by omega)).low hmL).tw hn hX ?_
  unfold bR eR ivR
  simp only [if_pos h4]
  have : ∀ m, m ≤ 4 → okN (bF fun k => ivG pA k + 1) (eF (ivG pA)) (ivG pA) m 385 = true := by decide +kernel
  exact this m (by omega)
theorem RowR.askN {letters mode m : Nat} {L : List (List Int)} (h : RowR mode L) (hl : L.length ≤ letters) (h4 : letters ≤ 4) (hmL : m ≤ L.length) {R : D} (hR : RadD R L) {t t' : Bool} {y : List Int} {v : Int} (hy : y.length = 2 ^ m) (hv : 1 ≤ v) (bv : intBits v ≤ 1000) (by1 : BdL 70000 y)
    (hn : ¬Sq (wh (rsF L) m v * toT (rsF L) m y)) (hX : wr (fun k => 2 ^ pR letters mode L k) (wh (rsF L) m v * toT (rsF L) m y) ≤ 2 ^ 385) {q : DV → Prop} (hq : q (.val .none)) : f_root_of_element [R, elS t t' y v] q :=
  ⟨m, R, L, t, t', y, v, 20, _, _, _, _, rfl, Nat.le_trans (Nat.add_le_add_right (Nat.mul_le_mul_left 3 (show m ≤ 4 by omega)) 1) (by decide), by omega, hR, h.ok, by decide, hmL, hy, (h.twn hl (by omega) (fun z => by omega)).low hmL, hv, bv, by1, h.fineN hl h4 hmL hn hX, fun _ => hq,
    fun l' w _ hw he _ _ => absurd ⟨wh (rsF L) m v * toT (rsF L) m l', w, hw, by
      have s1 : wh (rsF L) m v * toT (rsF L) m l' * (wh (rsF L) m v * toT (rsF L) m l') = wh (rsF L) m v * (wh (rsF L) m v * (toT (rsF L) m l' * toT (rsF L) m l')) := by grind
      rw [s1, he]
      grind⟩ hn⟩
theorem RowR.askVN {letters mode m : Nat} {L : List (List Int)} (h : RowR mode L) (hl : L.length ≤ letters) (h4 : letters ≤ 4) (hmL : m ≤ L.length) {R : D} (hR : RadD R L) {t : Bool} {y : List Int} (hy : y.length = 2 ^ m)
    (hn : ¬Sq (toT (rsF L) m y)) (hX : wr (fun k => 2 ^ pR letters mode L k) (toT (rsF L) m y) ≤ 2 ^ 385) {q : DV → Prop} (hq : q (.val .none)) : f_root_of_vector [R, sqD t (inD y)] q :=
  ⟨m, R, L, t, y, 20, _, _, _, _, rfl, Nat.le_trans (Nat.mul_le_mul_left 3 (show m ≤ 4 by omega)) (by decide), by omega, hR, h.ok, by decide, hmL, hy, (h.twn hl (by omega) (fun z => by omega)).low hmL, h.fineN hl h4 hmL hn hX, fun _ => hq, fun l' w _ hr _ _ => absurd ⟨_, _, hr⟩ hn⟩
/-- a row of one whole number -/
theorem one_row {c : Int} (h0 : c.natAbs ≤ 11) (hn : sqB c = false) : RowR 0 [[c]] := by
  have hc : RadC 0 0 [c] := .inl ⟨c, by omega, fun j => by cases j with | zero => rfl | succ j => simp [fn], fun _ => h0⟩
  have := (RowR.nil 0).snoc (v := [c]) rfl hc (by
    show NS (toT _ 0 [c])
    exact ns_of_Nn (n := 0) (fun k hk => by omega) hn)
  exact this
theorem menu_ns : ∀ c ∈ [(2 : Int), 3, 5, 7, -1, 11], sqB c = false ∧ c.natAbs ≤ 11 ∧ ∀ d ∈ [(2 : Int), 3, 5, 7, -1, 11], d ≠ c → sqB (c * d) = false := by decide +kernel
theorem sqB_mul {c f : Int} (h : sqB c = false) (hf : f ≠ 0) : sqB (c * (f * f)) = false := by
  cases hs : sqB (c * (f * f)) with
  | false => rfl
  | true =>
    exfalso
    unfold sqB at hs
    simp only [Bool.and_eq_true, decide_eq_true_eq, beq_iff_eq] at hs
    obtain ⟨h0, h1⟩ := hs
    have e : (Float64.isqrt (c * (f * f)).toNat : Int) * (Float64.isqrt (c * (f * f)).toNat : Int) = c * (f * f) := by
      rw [← Int.natCast_mul, h1]
      omega
    have n0 : NS (wh (fun _ _ => 0) 0 c) := ns_zero h
    have key : ∀ x y : Int, x * x = c * (y * y) → y = 0 := fun x y e => n0 x y e
    exact hf (key _ _ e)
abbrev s__law_two_rows_hold : Stmt := topS 48
theorem sc__law_two_rows_hold : FnScope ["cell", "menu", "digits", "c", "d", "factor", "one", "radicand", "found", "told"] ["cell"] (defScope s__law_two_rows_hold) := ⟨rfl, rfl, rfl, by decide +kernel, rfl, by decide +kernel, by decide +kernel⟩
def f__law_two_rows_hold : FD := fun ds q => ∃ c : Int, ds = [.int c] ∧ intBits c ≤ 1048576 ∧ q (.val (.bool true))
theorem ok__law_two_rows_hold {f fd} {k : Nat} (F : Fun K "_law_two_rows_hold" "_law_two_rows_hold" s__law_two_rows_hold f fd) (hdg : base.NoDigits) (m_int : mg "int" = none) (r__law_digits : Ready P w K mg base "_law_digits" 2 k f__law_digits) (r_root_of_vector : Ready P w K mg base "root_of_vector" 2 k f_root_of_vector) (r_root_of_element : Ready P w K mg base "root_of_element" 2 k f_root_of_element) (r__law_is_element : Ready P w K mg base "_law_is_element" 2 k f__law_is_element) : FnG P w K mg base (k + 1) f fd ["cell"] (SpD K 1 f__law_two_rows_hold) := by
  refine fnD F sc__law_two_rows_hold fun cdv A outer s H E gA hr => ?_
  have hu := hr.units
  have nd := sc__law_two_rows_hold.nd
  refine ⟨_, (ss_cons (st_set (i := 1) nd (DLs.toE (dl_lst (da_cons de_int (da_cons de_int (da_cons de_int (da_cons de_int (da_cons (de_un u_neg (DE.toB de_int)) (da_cons de_int da_nil)))))))))
    (ss_cons (st_set (i := 2) nd (r__law_digits.toE gA hr (da_cons (dv 0) (da_cons (DLs.toE (dl_lst (da_cons de_int (da_cons de_int (da_cons de_int da_nil))))) da_nil))))
    (ss_cons (st_set (i := 3) nd (de_ix x_ix (bv 1) (DE.toB (de_ix x_ix (bv 2) (DE.toB de_int)))))
    (ss_cons (st_set (i := 4) nd (de_ix x_ix (bv 1) (DE.toB (de_op o_mod (DE.toB (de_T c_int m_int (ab_cons (DE.toB (de_op o_add (DE.toB (de_op o_add (DE.toB (de_ix x_ix (bv 2) (DE.toB de_int))) (DE.toB de_int))) (DE.toB (de_ix x_ix (bv 2) (DE.toB de_int))))) ab_nil))) (DE.toB de_int)))))
    (ss_cons (st_set (i := 5) nd (de_op o_add (DE.toB de_int) (DE.toB (de_ix x_ix (bv 2) (DE.toB de_int)))))
    (ss_cons (st_set (i := 6) nd (de_tup (da_cons (de_tup (da_cons (de_op o_mul (DE.toB (de_op o_mul (bv 3) (bv 5))) (bv 5)) (da_cons de_int da_nil))) (da_cons de_int da_nil))))
    (ss_cons (st_for (i_seq (DLs.toE (dl_lst (da_cons (dv 3) (da_cons (dv 4) (da_cons (dv 3) da_nil)))))) (tg_name (i := 7) nd) (ss_cons (st_set (i := 8) nd (DLs.toE (dl_lst (da_cons (r_root_of_element.toE gA hr (da_cons (de_tup (da_cons (de_tup (da_cons (dv 7) da_nil)) da_nil)) (da_cons (dv 6) da_nil))) (da_cons (r_root_of_vector.toE gA hr (da_cons (de_tup (da_cons (de_tup (da_cons (dv 7) da_nil)) da_nil)) (da_cons (de_ix x_ix (bv 6) (DE.toB de_int)) da_nil))) da_nil)))))
    (ss_one (st_for (i_seq (dv 8)) (tg_name (i := 9) nd) (ss_cons (st_if (DW.pt (dw_and (dt_cmp (o_eq hu) (bv 7) (bv 4)) (dw_and1 (dt_cmp o_isNot (bv 9) (DE.toB de_non))))) (ss_one (st_ret de_bl)) ss_nil)
    (ss_one (st_if (DW.pt (dw_and (dt_cmp (o_eq hu) (bv 7) (bv 3)) (dw_and1 (DW.pt (dw_or (dt_not (dt_val (r__law_is_element.toE gA hr (da_cons (dv 9) (da_cons de_int da_nil))))) (dw_or1 (dt_cmp (o_ne hu) (bv 9) (DE.toB (de_tup (da_cons (de_tup (da_cons de_int (da_cons (dv 5) da_nil))) (da_cons de_int da_nil))))))))))) (ss_one (st_ret de_bl)) ss_nil)))))))
    (ss_one (st_ret de_bl))))))))), ?_⟩
  clear F nd hu hr gA E H s outer A cdv hdg m_int r__law_digits r_root_of_vector r_root_of_element r__law_is_element
  intro ds q hl hg
  obtain ⟨cell, rfl, hcell, hq⟩ := hg
  show sSeq _ _ _ [some (.val (.int cell)), none, none, none, none, none, none, none, none, none]
  refine sq_i fun k hk => ?_
  walk_at "rd"
  subst hk
  refine sq_i fun k hk => ?_
  walk_at "rd"
  refine ⟨cell, [6, 5, 9], rfl, by decide, by decide, fun rs hrs => ?_⟩
  obtain ⟨r0, _, rfl, a0, hrs⟩ := hrs.cons
  obtain ⟨r1, _, rfl, a1, hrs⟩ := hrs.cons
  obtain ⟨r2, _, rfl, a2, hrs⟩ := hrs.cons
  obtain rfl := hrs.nil
  walk_at "rd"
  subst hk
  have ix : ∀ (i : Int) (q : D → Prop), 0 ≤ i → i < 6 → q (.int (fn [2, 3, 5, 7, -1, 11] i.toNat)) → gIx (.list (inD [2, 3, 5, 7, -1, 11])) (.int i) q := fun i q h0 h1 hq => ix_ints (j := i.toNat) (by omega) (by simp; omega) hq
  have mem : ∀ i : Int, 0 ≤ i → i < 6 → fn [2, 3, 5, 7, -1, 11] i.toNat ∈ [(2 : Int), 3, 5, 7, -1, 11] := fun i h0 h1 => by
    have : ∀ j, j < 6 → fn [2, 3, 5, 7, -1, 11] j ∈ [(2 : Int), 3, 5, 7, -1, 11] := by decide
    exact this _ (by omega)
  have inj : ∀ i j : Int, 0 ≤ i → i < 6 → 0 ≤ j → j < 6 → fn [2, 3, 5, 7, -1, 11] i.toNat = fn [2, 3, 5, 7, -1, 11] j.toNat → i = j := fun i j h0 h1 h2 h3 e => by
    have : ∀ i, i < 6 → ∀ j, j < 6 → fn [2, 3, 5, 7, -1, 11] i = fn [2, 3, 5, 7, -1, 11] j → i = j := by decide
    have := this _ (by omega) _ (by omega) e
    omega
  refine sq_i fun k hk => ?_
  walk_at "rd"
  refine ix r0 _ a0.1 a0.2 ?_
  subst hk
  have g1 := fmod_pos (a := r0 + 1 + r1) (b := 6) (by decide)
  have hne : (r0 + 1 + r1).fmod 6 ≠ r0 := fun e => by
    rw [Int.fmod_eq_emod_of_nonneg _ (by decide)] at e
    omega
  refine sq_i fun k hk => ?_
  walk_at "rd"
  refine ⟨by decide, ix _ _ g1.1 g1.2 ?_⟩
  subst hk
  have mc := mem r0 a0.1 a0.2
  have md := mem _ g1.1 g1.2
  have hcd : fn [2, 3, 5, 7, -1, 11] ((r0 + 1 + r1).fmod 6).toNat ≠ fn [2, 3, 5, 7, -1, 11] r0.toNat := fun e => hne (inj _ _ g1.1 g1.2 a0.1 a0.2 e)
  generalize fn [2, 3, 5, 7, -1, 11] r0.toNat = c at mc hcd ⊢
  generalize fn [2, 3, 5, 7, -1, 11] ((r0 + 1 + r1).fmod 6).toNat = d at md hcd ⊢
  obtain ⟨c1, c2, c3⟩ := menu_ns c mc
  obtain ⟨d1, d2, d3⟩ := menu_ns d md
  have hcd' := c3 d md hcd
  refine sq_i fun k hk => ?_
  walk_at "rd"
  subst hk
  obtain ⟨f, hf⟩ : ∃ f : Int, f = 1 + r2 := ⟨_, rfl⟩
  rw [← hf]
  have f1 : 1 ≤ f ∧ f ≤ 9 := by omega
  refine sq_i fun k hk => ?_
  walk_at "rd"
  refine ⟨mul_r (by omega) (by omega), mul_r (by omega) (by omega), ?_⟩
  subst hk
  have bc : intBits c ≤ 4 := bits_lt (by omega) (by omega)
  have bf : intBits f ≤ 4 := bits_lt (by omega) (by omega)
  have bcf : intBits (c * f * f) ≤ 12 := Nat.le_trans (intBits_mul_le (intBits_mul_le bc bf) bf) (by decide)
  have c0 : c ≠ 0 := fun z => by rw [z] at c1; revert c1; decide +kernel
  -- over c
  have Rc := one_row c2 c1
  have Rd := one_row d2 d1
  have Hc : SqIn 1 0 1 [[c]] [0, f] [c * f * f, 0] 1 1 := {
    row := Rc
    le := Nat.le_refl _
    l6 := by decide
    lm := fun h => by omega
    mL := Nat.le_refl _
    lx := rfl
    ly := rfl
    sq := by
      refine ⟨by decide, by decide, ?_⟩
      have ex : toT (rsF [[c]]) 1 [0, f] = mk 0 (wh _ 0 f) := rfl
      have ey : toT (rsF [[c]]) 1 [c * f * f, 0] = mk (wh _ 0 (c * f * f)) 0 := rfl
      have er : rad (rsF [[c]]) 0 = wh _ 0 c := rfl
      rw [ex, ey, show (1 : Int) * 1 = 1 from rfl, wh_one, mk_mul, er, wh_mm, wh_mm c]
      have : ∀ A B : T (rsF [[c]]) 0, (1 : T (rsF [[c]]) 1) * mk (A * B * B) 0 = 1 * mk (0 * 0 + A * (B * B)) (0 * B + B * 0) := fun A B => by
        have e1 : 0 * 0 + A * (B * B) = A * B * B := by grind
        have e2 : 0 * B + B * 0 = 0 := by grind
        rw [e1, e2]
      exact this _ _
    bx := fun i hi => by
      simp only [List.mem_cons, List.not_mem_nil, or_false] at hi
      rcases hi with rfl | rfl
      · decide
      · omega
    by' := fun i hi => by
      simp only [List.mem_cons, List.not_mem_nil, or_false] at hi
      rcases hi with rfl | rfl
      · omega
      · decide
    bu := by decide
    bv := by decide
    wz := by
      have : wr (fun k => 2 ^ pR 1 0 [[c]] k) (toT (rsF [[c]]) 1 [0, f]) = 0 + 2 ^ 10 * f.natAbs := rfl
      rw [this]
      show (0 + 2 ^ 10 * f.natAbs) * 1 ≤ 2 ^ 222
      have : (0 + 2 ^ 10 * f.natAbs) * 1 ≤ 2 ^ 20 := by omega
      exact pow_le2 this (by decide)
    uf := by decide }
  -- over d
  have nd : ¬Sq (toT (rsF [[d]]) 1 [c * f * f, 0]) := by
    have ey : toT (rsF [[d]]) 1 [c * f * f, 0] = mk (wh _ 0 (c * f * f)) 0 := rfl
    have er : rad (rsF [[d]]) 0 = wh _ 0 d := rfl
    rw [ey]
    have e1 : c * f * f = c * (f * f) := Int.mul_assoc _ _ _
    refine ns_not (ns_low dom_zero (Rd.pr 0 Nat.zero_lt_one) ?_ ?_)
    · rw [e1]
      exact ns_zero (sqB_mul c1 (by omega))
    · rw [er, ← wh_mm]
      have e2 : c * f * f * d = c * d * (f * f) := by grind
      rw [e2]
      exact ns_zero (sqB_mul hcd' (by omega))
  have wd : wr (fun k => 2 ^ pR 1 0 [[d]] k) (toT (rsF [[d]]) 1 [c * f * f, 0]) ≤ 2 ^ 385 := by
    have e1 : wr (fun k => 2 ^ pR 1 0 [[d]] k) (toT (rsF [[d]]) 1 [c * f * f, 0]) = (c * f * f).natAbs + 2 ^ 10 * 0 := rfl
    rw [e1]
    have := intBits_le_iff.mp bcf
    have h2 : (c * f * f).natAbs + 2 ^ 10 * 0 ≤ 2 ^ 20 := by omega
    exact pow_le2 h2 (by decide)
  have e1y : ∀ d : Int, wh (rsF [[d]]) 1 1 * toT (rsF [[d]]) 1 [c * f * f, 0] = toT (rsF [[d]]) 1 [c * f * f, 0] := fun d => by rw [wh_one]; grind
  have by70 : BdL 70000 [c * f * f, 0] := fun i hi => by
    simp only [List.mem_cons, List.not_mem_nil, or_false] at hi
    rcases hi with rfl | rfl
    · omega
    · decide
  have el1 : IsElL [0, f] 1 [0, f] 1 := IsElL.self (by decide) fun d h1 _ => Nat.dvd_one.mp h1
  have sg1 : sgnL [0, f] = [0, f] := by
    have : sgL [0, f] = 1 := by
      show (if (0 : Int) = 0 then (if f = 0 then 0 else f.sign) else _) = 1
      rw [if_pos rfl, if_neg (by omega), Int.sign_eq_one_of_pos (by omega)]
    unfold sgnL
    rw [this, if_neg (by decide)]
  refine sq_i fun k hk => for_in fun W hW => ?_
  walk_at "rd"
  subst hW
  refine for_map (fun (r : List Int) σ => ∃ y7 y8 y9 : Option DV, σ = [some (.val (.int cell)), some (.val (.list (inD [2, 3, 5, 7, -1, 11]))), some (.val (.list [.int r0, .int r1, .int r2])), some (.val (.int c)), some (.val (.int d)), some (.val (.int f)), some (.val (elD [c * f * f, 0] 1)), y7, y8, y9] ∧ ∀ x ∈ r, x = c ∨ x = d) [c, d, c] ⟨none, none, none, rfl, fun x hx => ?_⟩ ?_ ?_
  · simp only [List.mem_cons, List.not_mem_nil, or_false] at hx
    rcases hx with h | h | h
    · exact .inl h
    · exact .inr h
    · exact .inl h
  · rintro _ ⟨y7, y8, y9, rfl, -⟩
    subst hk
    walk_at "rd"
    exact hq
  · rintro x r _ ⟨y7, y8, y9, rfl, hr⟩ k1 hk1
    have next : ∀ y7 y8 y9 : Option DV, k1 [some (.val (.int cell)), some (.val (.list (inD [2, 3, 5, 7, -1, 11]))), some (.val (.list [.int r0, .int r1, .int r2])), some (.val (.int c)), some (.val (.int d)), some (.val (.int f)), some (.val (elD [c * f * f, 0] 1)), y7, y8, y9] := fun y7 y8 y9 => hk1 _ ⟨_, _, _, rfl, fun u hu => hr u (by simp [hu])⟩
    rcases hr x (by simp) with rfl | rfl
    · refine sq_i fun k2 hk2 => ?_
      walk_at "rd"
      refine Hc.ask (t := true) (t' := true) (RadD.sq true true [[x]]) el1 ?_
      rw [sg1]
      walk_at "rd"
      refine Hc.askV (t := true) (RadD.sq true true [[x]]) el1 ?_
      rw [sg1]
      walk_at "rd"
      subst hk2
      refine for_in fun W hW => ?_
      walk_at "rd"
      subst hW
      refine for_ix (fun i σ => ∃ y9 : Option DV, σ = [some (.val (.int cell)), some (.val (.list (inD [2, 3, 5, 7, -1, 11]))), some (.val (.list [.int r0, .int r1, .int r2])), some (.val (.int x)), some (.val (.int d)), some (.val (.int f)), some (.val (elD [x * f * f, 0] 1)), some (.val (.int x)), some (.val (.list [elD [0, f] 1, elD [0, f] 1])), y9]) _ ⟨y9, rfl⟩ (fun σ ⟨y9, e⟩ => by rw [e]; exact next _ _ _) ?_
      rintro i dd _ hi ⟨y9, rfl⟩ k3 hk3
      obtain rfl : dd = elD [0, f] 1 := by
        have := List.mem_of_getElem? hi
        simp only [List.mem_cons, List.not_mem_nil, or_false] at this
        rcases this with h | h <;> exact h
      refine sq_i fun k4 hk4 => if_n fun T hT => ?_
      walk_at "rd"
      refine ⟨fun h => absurd h.symm hcd, fun _ => ?_⟩
      clear hT T
      subst hk4
      refine if_n fun T hT => ?_
      walk_at "rd"
      refine ⟨[0, f], 1, 2, rfl, rfl, by decide, el1, by decide, ?_⟩
      walk_at "rd"
      refine ⟨(elOk [0, f] 1).1, fun z => ?_, fun _ => hk3 _ ⟨_, rfl⟩⟩
      exact absurd (z.symm.trans (elOk [0, f] 1).2) (by decide)
    · refine sq_i fun k2 hk2 => ?_
      walk_at "rd"
      refine Rd.askN (t := true) (t' := true) (m := 1) (y := [c * f * f, 0]) (v := 1) (Nat.le_refl 1) (by decide) (Nat.le_refl 1) (RadD.sq true true [[x]]) rfl (by decide) (by decide) by70 (by rw [e1y]; exact nd) (by rw [e1y]; exact wd) ?_
      walk_at "rd"
      refine Rd.askVN (t := true) (m := 1) (y := [c * f * f, 0]) (Nat.le_refl 1) (by decide) (Nat.le_refl 1) (RadD.sq true true [[x]]) rfl nd wd ?_
      walk_at "rd"
      subst hk2
      refine for_in fun W hW => ?_
      walk_at "rd"
      subst hW
      refine for_ix (fun i σ => ∃ y9 : Option DV, σ = [some (.val (.int cell)), some (.val (.list (inD [2, 3, 5, 7, -1, 11]))), some (.val (.list [.int r0, .int r1, .int r2])), some (.val (.int c)), some (.val (.int x)), some (.val (.int f)), some (.val (elD [c * f * f, 0] 1)), some (.val (.int x)), some (.val (.list [.none, .none])), y9]) _ ⟨y9, rfl⟩ (fun σ ⟨y9, e⟩ => by rw [e]; exact next _ _ _) ?_
      rintro i dd _ hi ⟨y9, rfl⟩ k3 hk3
      obtain rfl : dd = .none := by
        have := List.mem_of_getElem? hi
        simp only [List.mem_cons, List.not_mem_nil, or_false] at this
        rcases this with h | h <;> exact h
      refine sq_i fun k4 hk4 => if_n fun T hT => ?_
      walk_at "rd"
      clear hT T
      subst hk4
      refine if_n fun T hT => ?_
      walk_at "rd"
      refine ⟨fun h => absurd h hcd, fun _ => hk3 _ ⟨_, rfl⟩⟩
end
end K13

namespace K13
open PySem PySem.Spec PyProof.Rows L2 DL Builtin.Int
local macro_rules | `(tactic| walk_at "rd") => `(tactic| simp -failIfUnchanged only [sSet, sSetL, sRet, sRetL, sRetO, sRetN, sNext, sBreak, sCont, sDrop, sApp, sAug, sAsg, sPar, sSetI, sPop, sSetPop, sRev, sFrz, frz1, iSeq, iRevD, iRange1, iRange2, iRangeD, rName, rTup, rTL_sq, gMulS_s, gStr1_i, rTL_t, rTL_l, rCons, rNil,
  dLst, dView, tView, lView, view, look, dVar, bVar, dC, d2, d1, l2, tBool, dNil, dCons, dTup, gI, gSubI, gMulI, gFdiv, gMod, gPow, gShl, gShr, gAnd, gXor, gLt, gLe, gGt, gGe, gAdd, gEq, gNe, isNone, gIs, gIsNot, gNeg, lCat, gLen_l, gLen_t, gLen_s, gInt, gAbs, gMax2, gMin2, gTuple_l, gTuple_t, lList_l, lList_t, gGcd, gIsqrt, dCall, lCall, dIsi, dIsi2,
  tAndD, tOrD, tNotD, tTru, truD, dAndV, dOrV, dNotV, dIf, dBits, wipeD, twoD, lComp, oNone, oSome, dSl, lSl, gSl_l, gSl_t, gSl_sq, gSq_l, gSq_t, gSq_sq, gIx_sq, gLen_sq, gTuple_sq, lList_sq, iZipD, gZip_sq, gZip_ts, gZip_st, gZip_ls, gZip_sl, gZip_tt, gZip_ll, gZip_lt, gZip_tl, dFn, lFn, valD, tYesD, eqOk_ii, eqOk_bb, eqOk_ss, eqv_int, eqv_str, eqv_bool, noLst, noLstAll, List.map_cons, List.map_nil, Option.map_some, Option.map_none,
  List.getElem?_cons_zero, List.getElem?_cons_succ, List.set_cons_zero, List.set_cons_succ, true_and, and_true, decide_eq_true_eq, decide_eq_false_iff_not, Bool.not_eq_true', Bool.not_eq_false', beq_iff_eq, beq_eq_false_iff_ne, Bool.true_eq_false, Bool.false_eq_true, false_imp_iff, true_imp_iff, forall_const, reduceCtorEq, ne_eq, not_true_eq_false, not_false_eq_true, Bool.not_true, Bool.not_false, Bool.true_and, Bool.and_true, Bool.false_and, Bool.and_false, Int.reduceToNat, Int.cast_ofNat_Int, eq_self, isTy_none_int, isTy_none_bool, isTy_none_str, isTy_none_list, isTy_none_tuple, isTy_bool_int, isTy_bool_bool, isTy_bool_str, isTy_bool_list, isTy_bool_tuple, isTy_int_int, isTy_int_bool, isTy_int_str, isTy_int_list, isTy_int_tuple, isTy_str_int, isTy_str_bool, isTy_str_str, isTy_str_list, isTy_str_tuple, isTy_list_int, isTy_list_bool, isTy_list_str, isTy_list_list, isTy_list_tuple, isTy_tuple_int, isTy_tuple_bool, isTy_tuple_str, isTy_tuple_list, isTy_tuple_tuple, List.length_cons, List.length_nil, Nat.reduceAdd, Nat.zero_add, ix2_0, ix2_1,
  gIx_l0, gIx_t0, gIx_l1, gIx_t1, gIx_l2, gIx_t2, gIx_l3, gIx_t3, gIx_l4, gIx_t4, gIx_l5, gIx_t5, gIx_l6, gIx_t6, gIx_l7, gIx_t7, gIx_l8, gIx_t8, gIx_l9, gIx_t9, gIx_l10, gIx_t10, gIx_l11, gIx_t11, gIx_l12, gIx_t12, gIx_l13, gIx_t13, gIx_l14, gIx_t14, gIx_l15, gIx_t15])
section
variable {P : Program} {w : World} {K : Frag} {mg : Str → Option Value} {base : Heap}
open TV
/-- y / v is the square of x / u, times F -/
def PlEq (L : Nat → Nat → Int) (m : Nat) (y : List Int) (v : Int) (x : List Int) (u : Int) (F : List Int) : Prop := 1 ≤ v ∧ 1 ≤ u ∧ wh L m (u * u) * toT L m y = wh L m v * (toT L m x * toT L m x * toT L m F)
def plL (l : Lv) (y x F : List Int) (u v : Int) : Prop := l.R.mul (l.f fun j => if j = 0 then u * u else 0) (l.f (fn y)) = l.R.mul (l.f fun j => if j = 0 then v else 0) (l.R.mul (l.R.mul (l.f (fn x)) (l.f (fn x))) (l.f (fn F)))
theorem PlEq.congr {L L' : Nat → Nat → Int} {m : Nat} (h : ∀ k, k < m → L k = L' k) {y x F : List Int} {u v : Int} (hp : PlEq L m y v x u F) : PlEq L' m y v x u F := by
  obtain ⟨h1, h2, h3⟩ := hp
  refine ⟨h1, h2, ?_⟩
  have key : ∀ l l' : Lv, l = l' → plL l y x F u v → plL l' y x F u v := by
    rintro l _ rfl z
    exact z
  exact key _ _ (lev_congr h) h3
theorem wl_congr {ρ ρ' : Nat → Nat} : ∀ {n : Nat} {g : Nat → Int}, (∀ k, k < n → ρ k = ρ' k) → wl ρ n g = wl ρ' n g
  | 0, g, _ => rfl
  | n + 1, g, h => by
    show wl ρ n g + ρ n * wl ρ n (fun j => g (j + 2 ^ n)) = wl ρ' n g + ρ' n * wl ρ' n (fun j => g (j + 2 ^ n))
    rw [wl_congr fun k hk => h k (by omega), wl_congr (g := fun j => g (j + 2 ^ n)) fun k hk => h k (by omega), h n (by omega)]
theorem IsElL.wrL {l' l : List Int} {u b : Int} (h : IsElL l' u l b) (hb : b ≠ 0) {ρ : Nat → Nat} {L : Nat → Nat → Int} {m : Nat} : wr ρ (toT L m l') ≤ wr ρ (toT L m l) := wr_mono fun j hj => by
  unfold toT
  rw [cf_Tf hj, cf_Tf hj]
  exact (h.le hb).1 j
/-- no root -/
theorem PlEq.ns {L : Nat → Nat → Int} {m : Nat} (hd : Dom L m) {y x F : List Int} {u v : Int} (h : PlEq L m y v x u F) (hn : NS (toT L m F)) (hx : toT L m x ≠ 0) : ¬Sq (wh L m v * toT L m y) := fun ⟨z, d, h1, h2⟩ => by
  obtain ⟨k1, k2, k3⟩ := h
  have := hn (wh L m u * z) (wh L m d * (wh L m v * toT L m x)) (by
    rw [wh_mm] at h2 k3
    generalize wh L m u = U at *
    generalize wh L m d = D at *
    generalize wh L m v = V at *
    have s1 : U * z * (U * z) = U * U * (z * z) := by grind
    rw [s1, h2]
    have s2 : U * U * (D * D * (V * toT L m y)) = D * D * V * (U * U * toT L m y) := by grind
    rw [s2, k3]
    grind)
  rcases hd _ _ this with q | q
  · exact wh_ne (by omega) q
  · rcases hd _ _ q with q | q
    · exact wh_ne (by omega) q
    · exact hx q
theorem gen_k {rs : Nat → Nat → Int} {p : Nat → Nat} {n : Nat} (hp : Pr rs n) (hw : WOk rs (fun k => 2 ^ p k) n) {k : Nat} (hk : k < n) : wr (fun k => 2 ^ p k) (ooR rs k) ≤ 2 ^ ivG p k ∧ (nuR rs k).natAbs ≤ 2 ^ ivG p k ∧ (nuR rs k).natAbs + 2 ^ p k * 2 ^ p k * wr (fun k => 2 ^ p k) (ooR rs k) ≤ 2 ^ (ivG p k + 1) * (nuR rs k).natAbs := by
  obtain ⟨h1, h2⟩ := inv_wr (hw.low (show k ≤ n by omega)) (M := 2 ^ p k * 2 ^ p k) (x := rad rs k) (Nat.mul_pos (Nat.two_pow_pos _) (Nat.two_pow_pos _)) (hw k hk).2
  have e : (2 ^ p k * 2 ^ p k) ^ 2 ^ k = 2 ^ ivG p k := by
    rw [← Nat.pow_add, ← Nat.pow_mul]
    unfold ivG
    congr 2
    omega
  rw [e] at h1 h2
  have h0 := nu_ne hp hk
  have e1 : 2 ^ p k * 2 ^ p k * wr (fun k => 2 ^ p k) (ooR rs k) ≤ 2 ^ ivG p k := by rw [Nat.mul_comm]; exact h1
  have e2 : 2 ^ ivG p k ≤ 2 ^ ivG p k * (nuR rs k).natAbs := Nat.le_mul_of_pos_right _ (by omega)
  have e3 : (nuR rs k).natAbs ≤ 2 ^ ivG p k * (nuR rs k).natAbs := Nat.le_mul_of_pos_left _ (Nat.two_pow_pos _)
  refine ⟨Nat.le_trans (Nat.le_mul_of_pos_right _ (Nat.mul_pos (Nat.two_pow_pos _) (Nat.two_pow_pos _))) h1, h2, ?_⟩
  rw [Nat.pow_succ]
  have : 2 ^ ivG p k * 2 * (nuR rs k).natAbs = 2 ^ ivG p k * (nuR rs k).natAbs + 2 ^ ivG p k * (nuR rs k).natAbs := by grind
  omega
/-! a row with a drawn factor as its last radicand -/
def pY (m k : Nat) : Nat := if k < m then pA k else 27
def ivX (m k : Nat) : Nat := if m ≤ 3 then ivG (pY m) k else if k < 4 then ivG pA k else 49
def kX (m k : Nat) : Nat := if m ≤ 3 then ivG (pY m) k + 1 else if k < 4 then ivG pA k + 1 else 3
noncomputable def pX (m : Nat) (F : List Int) (k : Nat) : Nat := if m ≤ 3 then pY m k else if k < 4 then pA k else pOf (fn F 0)
theorem pX_low {m : Nat} {F : List Int} (hm : m ≤ 4) {k : Nat} (hk : k < m) : pX m F k = pA k := by
  unfold pX pY
  by_cases c : m ≤ 3
  · rw [if_pos c, if_pos hk]
  · rw [if_neg c, if_pos (by omega)]
section
variable {mode m : Nat} {L : List (List Int)} {F : List Int}
theorem long_low (hm : m ≤ L.length) {k : Nat} (hk : k < m) : rsF (L.take m ++ [F]) k = rsF L k := by
  unfold rsF
  rw [List.getD_eq_getElem?_getD, List.getD_eq_getElem?_getD, List.getElem?_append_left (by simp; omega), List.getElem?_take, if_pos hk]
theorem long_top (hm : m ≤ L.length) : rsF (L.take m ++ [F]) m = fn F := by
  unfold rsF
  rw [List.getD_eq_getElem?_getD, List.getElem?_append_right (by simp; omega)]
  have : m - (L.take m).length = 0 := by simp; omega
  rw [this]
  rfl
theorem long_pr (h : RowR mode L) (hm : m ≤ L.length) (hn : NS (toT (rsF L) m F)) : Pr (rsF (L.take m ++ [F])) (m + 1) := fun k hk => by
  by_cases c : k < m
  · exact Pr_congr (n := m) (fun i hi => (long_low hm hi).symm) (h.pr.low hm) k c
  · obtain rfl : k = m := by omega
    show NS (Tf _ _ _)
    rw [long_top hm]
    exact NS_congr (fun i hi => (long_low hm hi).symm) hn
theorem long_wok (h : RowR mode L) (h4 : L.length ≤ 4) (hm : m ≤ L.length) (hF : FacC m F) (hl : F.length = 2 ^ m) (hn : NS (toT (rsF L) m F)) : WOk (rsF (L.take m ++ [F])) (fun k => 2 ^ pX m F k) (m + 1) := fun k hk => by
  refine ⟨Nat.two_pow_pos _, ?_⟩
  rw [wr_rad]
  by_cases c : k < m
  · rw [long_low hm c]
    obtain ⟨v, _, ev, hv, hc⟩ := h.get (show k < L.length by omega)
    rw [ev]
    have := wl_A hc hv (by omega)
    show wl (fun k => 2 ^ pX m F k) k (fn v) ≤ 2 ^ pX m F k * 2 ^ pX m F k
    rw [pX_low (by omega) c, wl_congr (ρ' := fun k => 2 ^ pA k) fun i hi => by rw [pX_low (by omega) (by omega)]]
    exact this
  · obtain rfl : k = m := by omega
    rw [long_top hm]
    have e := hF.wl
    show wl (fun i => 2 ^ pX k F i) k (fn F) ≤ 2 ^ pX k F k * 2 ^ pX k F k
    by_cases c3 : k ≤ 3
    · have e27 : pX k F k = 27 := by unfold pX pY; rw [if_pos c3, if_neg (by omega)]
      rw [e27, wl_congr (ρ' := fun k => 2 ^ pA k) fun i hi => by rw [pX_low (by omega) hi]]
      exact e
    · have ep : pX k F k = pOf (fn F 0) := by unfold pX; rw [if_neg c3, if_neg (by omega)]
      rw [ep]
      rcases hF with ⟨d, hd, hv⟩ | ⟨z, _⟩
      · rw [wl_con fun j _ => hv j]
        have e0 : fn F 0 = d := by rw [hv 0, if_pos rfl]
        rw [e0]
        refine (pOf_ok fun z => ?_).1
        have : toT (rsF L) k F = wh (rsF L) k d := Tf_congr fun j _ => hv j
        have := hn.ne
        rw [‹toT (rsF L) k F = _›, z, wh_zero] at this
        exact this rfl
      · omega
theorem long_twn (h : RowR mode L) (h4 : L.length ≤ 4) (hm : m ≤ L.length) (hF : FacC m F) (hl : F.length = 2 ^ m) (hn : NS (toT (rsF L) m F)) : TwN (rsF (L.take m ++ [F])) (fun k => 2 ^ pX m F k) (bF (kX m)) (eF (ivX m)) (ivX m) (m + 1) := by
  have hp := long_pr h hm hn
  have hw := long_wok h h4 hm hF hl hn
  have n1 : ∀ m, m ≤ 4 → ∀ k, k ≤ m + 1 → eF (ivX m) k ≤ 900 ∧ bF (kX m) k ≤ 3000 := by decide
  have pl : ∀ k, k ≤ m → pX m F k ≤ 27 := fun k hk => by
    by_cases c : k < m
    · rw [pX_low (by omega) c]; exact pA_le k
    · obtain rfl : k = m := by omega
      unfold pX pY
      by_cases c3 : k ≤ 3
      · rw [if_pos c3, if_neg (by omega)]
        exact Nat.le_refl _
      · rw [if_neg c3, if_neg (by omega)]
        rcases hF with ⟨d, hd, hv⟩ | ⟨z, _⟩
        · have e0 : fn F 0 = d := by rw [hv 0, if_pos rfl]
          rw [e0]
          by_cases d0 : d = 0
          · unfold pOf; rw [dif_pos d0]; decide
          · exact (pOf_ok d0).2.2 27 (by omega)
        · omega
  refine ⟨?_, fun k hk => n1 m (by omega) k hk, fun k hk => ?_⟩
  · by_cases c3 : m ≤ 3
    · have e1 : pX m F = pY m := by funext k; unfold pX; rw [if_pos c3]
      have e2 : ivX m = ivG (pY m) := by funext k; unfold ivX; rw [if_pos c3]
      have e3 : kX m = fun k => ivG (pY m) k + 1 := by funext k; unfold kX; rw [if_pos c3]
      rw [e1] at hw ⊢
      rw [e2, e3]
      exact tw_gen hp hw
    · obtain rfl : m = 4 := by omega
      rcases hF with ⟨d, hd, hv⟩ | ⟨z, _⟩
      rotate_left
      · omega
      have hr : rad (rsF (L.take 4 ++ [F])) 4 = wh _ 4 d := rad_wh fun j _ => by rw [long_top hm]; exact hv j
      have ho : ooR (rsF (L.take 4 ++ [F])) 4 = 1 ∧ nuR (rsF (L.take 4 ++ [F])) 4 = d := by
        unfold ooR nuR
        rw [hr, inv_wh]
        exact ⟨rfl, rfl⟩
      have d0 : d ≠ 0 := fun z => by
        have := (hp 4 (by omega)).ne
        rw [hr, z, wh_zero] at this
        exact this rfl
      have e0 : fn F 0 = d := by rw [hv 0, if_pos rfl]
      have lowG : ∀ k, k < 4 → ivG (pX 4 F) k = ivG pA k := fun k hk => by unfold ivG; rw [pX_low (Nat.le_refl 4) hk]
      refine Tw.mk' hp hw (fun k hk => ?_) fun k hk => ?_
      · by_cases c : k < 4
        · obtain ⟨g1, g2, _⟩ := gen_k hp hw hk
          have : ivX 4 k = ivG pA k := by unfold ivX; rw [if_neg (by decide), if_pos c]
          rw [this]
          rw [lowG k c] at g1 g2
          exact ⟨g1, g2⟩
        · obtain rfl : k = 4 := by omega
          rw [ho.1, ho.2, wr_one]
          exact ⟨Nat.two_pow_pos _, Nat.le_trans hd (by decide)⟩
      · by_cases c : k < 4
        · obtain ⟨_, _, g3⟩ := gen_k hp hw hk
          have : kX 4 k = ivG pA k + 1 := by unfold kX; rw [if_neg (by decide), if_pos c]
          rw [this]
          rw [lowG k c] at g3
          exact g3
        · obtain rfl : k = 4 := by omega
          rw [ho.1, ho.2, wr_one]
          have e1 : pX 4 F 4 = pOf d := by unfold pX; rw [if_neg (by decide), if_neg (by decide), e0]
          show d.natAbs + 2 ^ pX 4 F 4 * 2 ^ pX 4 F 4 * 1 ≤ 2 ^ 3 * d.natAbs
          rw [e1]
          have := (pOf_ok d0).2.1
          omega
  · show (2 ^ pX m F k * 2 ^ pX m F k) ^ 2 ^ k < 2 ^ 5000
    rw [← Nat.pow_add, ← Nat.pow_mul]
    refine Nat.pow_lt_pow_right (by decide) ?_
    have h1 := pl k (by omega)
    have h2 : 2 ^ k ≤ 16 := Nat.le_trans (Nat.pow_le_pow_right (by decide) (show k ≤ 4 by omega)) (by decide)
    have := Nat.mul_le_mul (show pX m F k + pX m F k ≤ 54 by omega) h2
    omega
end
theorem sgnL_app2 (k : Nat) (x : List Int) : sgnL (List.replicate k 0 ++ x) = List.replicate k 0 ++ sgnL x := by
  have h0 : sgL (List.replicate k 0) = 0 := (sgL_zero _).mpr fun a ha => (List.mem_replicate.mp ha).2
  have h1 : sgL (List.replicate k 0 ++ x) = sgL x := by rw [sgL_app, h0, if_pos rfl]
  unfold sgnL
  rw [h1]
  split
  · rw [List.map_append, List.map_replicate]; rfl
  · rfl
theorem el_app1 {x : List Int} {u : Int} {k : Nat} (h : IsElL x u x u) : IsElL (List.replicate k 0 ++ x) u (List.replicate k 0 ++ x) u :=
  ⟨h.1, rfl, fun _ => rfl, fun d h1 h2 => h.2.2.2 d h1 fun i => by
    have := h2 (k + i)
    have e : fn (List.replicate k 0 ++ x) (k + i) = fn x i := by
      simp only [fn, List.getD_eq_getElem?_getD]
      rw [List.getElem?_append_right (by simp), List.length_replicate, Nat.add_sub_cancel_left]
    rwa [e] at this⟩
/-- over the longer row, the square times the factor has a root -/
theorem long_ask {mode m : Nat} {L : List (List Int)} {F x y : List Int} {u v : Int} (h : RowR mode L) (h4 : L.length ≤ 4) (hm : m ≤ L.length) (hF : FacC m F) (hl : F.length = 2 ^ m) (hn : NS (toT (rsF L) m F))
    (hP : PlEq (rsF L) m y v x u F) (hx : x.length = 2 ^ m) (hy : y.length = 2 ^ m) (hx0 : toT (rsF L) m x ≠ 0) (hv : v ≤ 900) (hu : u ≤ 30) (hwx : wl (fun k => 2 ^ pA k) m (fn x) ≤ 2 ^ 154) (hwy : v.natAbs * wl (fun k => 2 ^ pA k) m (fn y) ≤ 2 ^ 385) (by1 : BdL 60000 y) (hxe : IsElL x u x u)
    {R : D} (hR : RadD R (L.take m ++ [F])) {q : DV → Prop} (hq : q (.val (elD (List.replicate (2 ^ m) 0 ++ sgnL x) u))) : f_root_of_element [R, elS true true (y ++ List.replicate (2 ^ m) 0) v] q := by
  have hT := long_twn h h4 hm hF hl hn
  have hpr := hT.tw.pr
  have hT' := hT.low (m := m) (by omega)
  have hd' := hT'.tw.pr.dom
  have lowE : ∀ k, k < m → rsF L k = rsF (L.take m ++ [F]) k := fun k hk => (long_low hm hk).symm
  have hP' := PlEq.congr lowE hP
  have hrad : rad (rsF (L.take m ++ [F])) m = toT (rsF (L.take m ++ [F])) m F := by
    show Tf _ _ _ = Tf _ _ _
    rw [long_top hm]
  have hn' : NS (toT (rsF (L.take m ++ [F])) m F) := by rw [← hrad]; exact hpr m (by omega)
  have hx0' : toT (rsF (L.take m ++ [F])) m x ≠ 0 := fun z => hx0 (by
    have e0 : x = ofT (0 : T (rsF (L.take m ++ [F])) m) := by rw [← z, ofT_toT x hx]
    rw [ofT_zero] at e0
    rw [e0]
    exact toT_zeros)
  have hns := hP'.ns hd' hn' hx0'
  obtain ⟨v1, u1, k3⟩ := hP'
  have ok1 : RadOk 50 (L.take m ++ [F]) := fun k l e => by
    by_cases c : k < m
    · rw [List.getElem?_append_left (by simp; omega), List.getElem?_take, if_pos c] at e
      exact ⟨(h.ok k l e).1, (h.ok k l e).2.up (by decide)⟩
    · have hk := (List.getElem?_eq_some_iff.mp e).1
      have : k = m := by simp at hk; omega
      subst this
      rw [List.getElem?_append_right (by simp; omega)] at e
      have e2 : k - (L.take k).length = 0 := by simp; omega
      rw [e2] at e
      cases e
      exact ⟨hl, hF.bd⟩
  have lenL : (L.take m ++ [F]).length = m + 1 := by simp; omega
  have ty : toT (rsF (L.take m ++ [F])) (m + 1) (y ++ List.replicate (2 ^ m) 0) = mk (toT _ m y) 0 := by rw [toT_app hy, toT_zeros]
  have tx : toT (rsF (L.take m ++ [F])) (m + 1) (List.replicate (2 ^ m) 0 ++ x) = mk 0 (toT _ m x) := by rw [toT_app (by simp), toT_zeros]
  have wE : ∀ g : Nat → Int, wl (fun k => 2 ^ pX m F k) m g = wl (fun k => 2 ^ pA k) m g := fun g => wl_congr fun i hi => by rw [pX_low (by omega) hi]
  have wy : wr (fun k => 2 ^ pX m F k) (wh (rsF (L.take m ++ [F])) m v * toT _ m y) ≤ 2 ^ 385 := by rw [wr_whm, wr_toT, wE]; exact hwy
  have e7 := two_pow_succ' m
  have hFine : Fine (fun k => 2 ^ pX m F k) (m + 1) (wh (rsF (L.take m ++ [F])) (m + 1) v * toT _ (m + 1) (y ++ List.replicate (2 ^ m) 0)) := by
    rw [ty, wh_mk]
    have z0 : wh (rsF (L.take m ++ [F])) m v * (0 : T (rsF (L.take m ++ [F])) m) = 0 := by grind
    rw [z0]
    refine ⟨?_, fun _ => ⟨?_, fun _ => ?_⟩, fun hz => absurd rfl hz⟩
    · rw [wr_mk, wr_zero]
      exact pow_lt2 (s := 385) (by simpa using wy) (by decide)
    · refine fine_ns hT'.tw hns wy ?_
      have : ∀ m, m ≤ 4 → okN (bF (kX m)) (eF (ivX m)) (ivX m) m 385 = true := by decide +kernel
      exact this m (by omega)
    · have rt : IsRt (otherQ (wh (rsF (L.take m ++ [F])) m v * toT _ m y)) (wh _ m (nuR (rsF (L.take m ++ [F])) m) * (wh _ m v * toT _ m x)) u := by
        refine ⟨u1, ?_⟩
        unfold otherQ
        have h4 := oo_mul (rs := rsF (L.take m ++ [F])) m
        rw [hrad] at h4
        generalize wh (rsF (L.take m ++ [F])) m (nuR (rsF (L.take m ++ [F])) m) = N at *
        generalize wh (rsF (L.take m ++ [F])) m (u * u) = UU at *
        generalize wh (rsF (L.take m ++ [F])) m v = V at *
        generalize ooR (rsF (L.take m ++ [F])) m = O at *
        generalize toT (rsF (L.take m ++ [F])) m y = Y at *
        generalize toT (rsF (L.take m ++ [F])) m x = X at *
        generalize toT (rsF (L.take m ++ [F])) m F = G at *
        have s1 : UU * (N * (V * Y * O)) = N * V * O * (UU * Y) := by grind
        have s2 : N * (V * X) * (N * (V * X)) = N * V * V * X * X * N := by grind
        rw [s1, k3, s2]
        have s3 : N * V * O * (V * (X * X * G)) = N * V * V * X * X * (G * O) := by grind
        rw [s3, h4]
      refine fine_sq hT'.tw rt (t := ivX m m + 164) (f := 12) ?_ (by
        have : (30 : Int) ≤ 2 ^ 12 := by decide
        omega) ?_
      · rw [wr_whm, wr_whm, wr_toT, wE]
        have v10 : v.natAbs ≤ 2 ^ 10 := by omega
        exact pow_le2 (mul_pow2 (hT.tw.inv m (by omega)).2 (mul_pow2 v10 hwx)) (by omega)
      · have : ∀ m, m ≤ 4 → okS (bF (kX m)) (eF (ivX m)) (ivX m) m (ivX m m + 164) 12 = true := by decide +kernel
        exact this m (by omega)
  have hsq : SqEl (rsF (L.take m ++ [F])) (m + 1) (y ++ List.replicate (2 ^ m) 0) v (List.replicate (2 ^ m) 0 ++ x) u := by
    refine ⟨v1, u1, ?_⟩
    rw [ty, tx, mk_mul, wh_mk, wh_mk, hrad, k3]
    congr 1 <;> grind
  have lx2 : (List.replicate (2 ^ m) 0 ++ x).length = 2 ^ (m + 1) := by simp; omega
  refine ⟨m + 1, R, L.take m ++ [F], true, true, y ++ List.replicate (2 ^ m) 0, v, 50, _, _, _, _, rfl, Nat.le_trans (Nat.add_le_add_right (Nat.mul_le_mul_left 3 (show m + 1 ≤ 6 by omega)) 1) (by decide), by omega, hR, ok1, by decide, by omega, by simp; omega, hT, v1, Nat.le_trans (bits_lt (k := 10) (by omega) (by omega)) (by decide), fun i hi => ?_, hFine, roe_of hpr.dom lx2 hsq (el_app1 hxe) ?_⟩
  · rcases List.mem_append.mp hi with hi | hi
    · exact Nat.le_trans (by1 i hi) (by decide)
    · rw [(List.mem_replicate.mp hi).2]; exact bits0 _
  · rw [sgnL_app2]
    exact hq
end
end K13

namespace K13
open PySem PySem.Spec PyProof.Rows L2 DL Builtin.Int
local macro_rules | `(tactic| walk_at "rd") => `(tactic| simp -failIfUnchanged only [sSet, sSetL, sRet, sRetL, sRetO, sRetN, sNext, sBreak, sCont, sDrop, sApp, sAug, sAsg, sPar, sSetI, sPop, sSetPop, sRev, sFrz, frz1, iSeq, iRevD, iRange1, iRange2, iRangeD, rName, rTup, rTL_sq, gMulS_s, gStr1_i, rTL_t, rTL_l, rCons, rNil,
  dLst, dView, tView, lView, view, look, dVar, bVar, dC, d2, d1, l2, tBool, dNil, dCons, dTup, gI, gSubI, gMulI, gFdiv, gMod, gPow, gShl, gShr, gAnd, gXor, gLt, gLe, gGt, gGe, gAdd, gEq, gNe, isNone, gIs, gIsNot, gNeg, lCat, gLen_l, gLen_t, gLen_s, gInt, gAbs, gMax2, gMin2, gTuple_l, gTuple_t, lList_l, lList_t, gGcd, gIsqrt, dCall, lCall, dIsi, dIsi2,
  tAndD, tOrD, tNotD, tTru, truD, dAndV, dOrV, dNotV, dIf, dBits, wipeD, twoD, lComp, oNone, oSome, dSl, lSl, gSl_l, gSl_t, gSl_sq, gSq_l, gSq_t, gSq_sq, gIx_sq, gLen_sq, gTuple_sq, lList_sq, iZipD, gZip_sq, gZip_ts, gZip_st, gZip_ls, gZip_sl, gZip_tt, gZip_ll, gZip_lt, gZip_tl, dFn, lFn, valD, tYesD, eqOk_ii, eqOk_bb, eqOk_ss, eqv_int, eqv_str, eqv_bool, noLst, noLstAll, List.map_cons, List.map_nil, Option.map_some, Option.map_none,
  List.getElem?_cons_zero, List.getElem?_cons_succ, List.set_cons_zero, List.set_cons_succ, true_and, and_true, decide_eq_true_eq, decide_eq_false_iff_not, Bool.not_eq_true', Bool.not_eq_false', beq_iff_eq, beq_eq_false_iff_ne, Bool.true_eq_false, Bool.false_eq_true, false_imp_iff, true_imp_iff, forall_const, reduceCtorEq, ne_eq, not_true_eq_false, not_false_eq_true, Bool.not_true, Bool.not_false, Bool.true_and, Bool.and_true, Bool.false_and, Bool.and_false, Int.reduceToNat, Int.cast_ofNat_Int, eq_self, isTy_none_int, isTy_none_bool, isTy_none_str, isTy_none_list, isTy_none_tuple, isTy_bool_int, isTy_bool_bool, isTy_bool_str, isTy_bool_list, isTy_bool_tuple, isTy_int_int, isTy_int_bool, isTy_int_str, isTy_int_list, isTy_int_tuple, isTy_str_int, isTy_str_bool, isTy_str_str, isTy_str_list, isTy_str_tuple, isTy_list_int, isTy_list_bool, isTy_list_str, isTy_list_list, isTy_list_tuple, isTy_tuple_int, isTy_tuple_bool, isTy_tuple_str, isTy_tuple_list, isTy_tuple_tuple, List.length_cons, List.length_nil, Nat.reduceAdd, Nat.zero_add, ix2_0, ix2_1,
  gIx_l0, gIx_t0, gIx_l1, gIx_t1, gIx_l2, gIx_t2, gIx_l3, gIx_t3, gIx_l4, gIx_t4, gIx_l5, gIx_t5, gIx_l6, gIx_t6, gIx_l7, gIx_t7, gIx_l8, gIx_t8, gIx_l9, gIx_t9, gIx_l10, gIx_t10, gIx_l11, gIx_t11, gIx_l12, gIx_t12, gIx_l13, gIx_t13, gIx_l14, gIx_t14, gIx_l15, gIx_t15])
section
variable {P : Program} {w : World} {K : Frag} {mg : Str → Option Value} {base : Heap}
open TV
abbrev s_law : Stmt := topS 49
theorem sc_law : FnScope ["script", "row", "letters", "radicands", "kept", "used", "size", "kind", "w", "factor", "one", "passed", "due", "told", "longer", "padding", "vector", "place", "top"] ["script"] (defScope s_law) := ⟨rfl, rfl, rfl, by decide +kernel, rfl, by decide +kernel, by decide +kernel⟩
def f_law : FD := fun ds q => ∃ ns : List Int, ds = [.list (ns.map .int)] ∧ (∀ i ∈ ns, intBits i ≤ 1048576) ∧ q (.val (.bool true))
theorem ok_law {f fd} {k : Nat} (F : Fun K "law" "law" s_law f fd) (hdg : base.NoDigits) (m_len : mg "len" = none) (m_list : mg "list" = none) (m_range : mg "range" = none) (m_repr : mg "repr" = none) (m_tuple : mg "tuple" = none) (r__law_digits : Ready P w K mg base "_law_digits" 2 k f__law_digits) (r__law_cell : Ready P w K mg base "_law_cell" 2 k f__law_cell) (r__law_row : Ready P w K mg base "_law_row" 4 k f__law_row) (r__law_element : Ready P w K mg base "_law_element" 2 k f__law_element) (r__law_tops : Ready P w K mg base "_law_tops" 3 k f__law_tops) (r__law_factor : Ready P w K mg base "_law_factor" 4 k f__law_factor) (r__law_mul : Ready P w K mg base "_law_mul" 3 k f__law_mul) (r_root_of_element : Ready P w K mg base "root_of_element" 2 k f_root_of_element) (r_root_of_vector : Ready P w K mg base "root_of_vector" 2 k f_root_of_vector) (r__law_signed : Ready P w K mg base "_law_signed" 1 k f__law_signed) (r__law_is_element : Ready P w K mg base "_law_is_element" 2 k f__law_is_element) (r__law_two_rows_hold : Ready P w K mg base "_law_two_rows_hold" 1 k f__law_two_rows_hold) : FnG P w K mg base (k + 1) f fd ["script"] (SpD K 1 f_law) := by
  refine fnD F sc_law fun cdv A outer s H E gA hr => ?_
  have hu := hr.units
  have nd := sc_law.nd
  refine ⟨_, (ss_cons (st_set (i := 1) nd (r__law_digits.toE gA hr (da_cons (r__law_cell.toE gA hr (da_cons (dv 0) (da_cons de_int da_nil))) (da_cons (DLs.toE (dl_lst (da_cons de_int (da_cons de_int (da_cons de_int (da_cons de_int (da_cons de_int (da_cons de_int (da_cons de_int da_nil))))))))) da_nil))))
    (ss_cons (st_set (i := 2) nd (de_ix x_ix (DE.toB (DLs.toE (dl_lst (da_cons de_int (da_cons de_int (da_cons de_int (da_cons de_int (da_cons de_int (da_cons de_int (da_cons de_int (da_cons de_int (da_cons de_int (da_cons de_int (da_cons de_int (da_cons de_int da_nil))))))))))))))) (DE.toB (de_ix x_ix (bv 1) (DE.toB de_int)))))
    (ss_cons (st_set (i := 3) nd (r__law_row.toE gA hr (da_cons (dv 0) (da_cons de_int (da_cons (dv 2) (da_cons (de_ix x_ix (bv 1) (DE.toB de_int)) da_nil))))))
    (ss_cons (st_set (i := 4) nd (de_B (c_repr hdg gA hu) m_repr (ab_cons (bv 3) ab_nil)))
    (ss_cons (st_set (i := 5) nd (de_B c_len m_len (ab_cons (bv 3) ab_nil)))
    (ss_cons (st_if (DW.pt (dw_and (dt_cmp o_gt (bv 5) (DE.toB de_int)) (dw_and1 (dt_cmp (o_eq hu) (DE.toB (de_ix x_ix (bv 1) (DE.toB de_int))) (DE.toB de_int))))) (ss_one (st_set (i := 5) nd (de_op o_sub (bv 5) (DE.toB de_int)))) ss_nil)
    (ss_cons (st_set (i := 6) nd (de_op o_shl (DE.toB de_int) (bv 5)))
    (ss_cons (st_set (i := 7) nd (de_ix x_ix (DE.toB (DLs.toE (dl_lst (da_cons de_int (da_cons de_int (da_cons de_int (da_cons de_int (da_cons de_int (da_cons de_int (da_cons de_int (da_cons de_int (da_cons de_int da_nil)))))))))))) (DE.toB (de_ix x_ix (bv 1) (DE.toB de_int)))))
    (ss_cons (st_set (i := 8) nd (r__law_element.toE gA hr (da_cons (r__law_tops.toE gA hr (da_cons (r__law_cell.toE gA hr (da_cons (dv 0) (da_cons de_int da_nil))) (da_cons (dv 6) (da_cons (dv 7) da_nil)))) (da_cons (de_op o_add (DE.toB de_int) (DE.toB (de_ix x_ix (bv 1) (DE.toB de_int)))) da_nil))))
    (ss_cons (st_set (i := 9) nd (r__law_factor.toE gA hr (da_cons (r__law_cell.toE gA hr (da_cons (dv 0) (da_cons de_int da_nil))) (da_cons (dv 3) (da_cons (dv 5) (da_cons (de_ix x_ix (bv 1) (DE.toB de_int)) da_nil))))))
    (ss_cons (st_if (dt_cmp (o_eq hu) (bv 9) (DE.toB (DLs.toE (dl_lst da_nil)))) (ss_one (st_ret de_bl)) ss_nil)
    (ss_cons (st_set (i := 10) nd (r__law_mul.toE gA hr (da_cons (dv 3) (da_cons (r__law_mul.toE gA hr (da_cons (dv 3) (da_cons (dv 8) (da_cons (dv 8) da_nil)))) (da_cons (r__law_element.toE gA hr (da_cons (dv 9) (da_cons de_int da_nil))) da_nil)))))
    (ss_cons (st_set (i := 11) nd (DLs.toE (dl_lst (da_cons (DLs.toE (dl_lc (own := [("vector", 16)]) nd (i_seqC (bv 3)) (gw_name (i := 16) nd) dts_nil (fun _ _ _ _ _ => (DLs.toE (dl_T c_list m_list (ab_cons (bv 16) ab_nil)))))) (da_cons (DLs.toE (dl_lst (da_cons (DLs.toE (dl_T c_list m_list (ab_cons (DE.toB (de_ix x_ix (bv 10) (DE.toB de_int))) ab_nil))) (da_cons (de_ix x_ix (bv 10) (DE.toB de_int)) da_nil)))) da_nil)))))
    (ss_cons (st_if (dt_cmp o_isNot (DE.toB (r_root_of_element.toE gA hr (da_cons (de_ix x_ix (bv 11) (DE.toB de_int)) (da_cons (de_ix x_ix (bv 11) (DE.toB de_int)) da_nil)))) (DE.toB de_non)) (ss_one (st_ret de_bl)) ss_nil)
    (ss_cons (st_if (dt_cmp o_isNot (DE.toB (r_root_of_vector.toE gA hr (da_cons (DLs.toE (dl_lc (own := [("vector", 16)]) nd (i_seqC (bv 3)) (gw_name (i := 16) nd) dts_nil (fun _ _ _ _ _ => (de_T c_tuple m_tuple (ab_cons (bv 16) ab_nil))))) (da_cons (DLs.toE (dl_lc (own := [("top", 18)]) nd (i_seqC (DE.toB (de_ix x_ix (bv 10) (DE.toB de_int)))) (gw_name (i := 18) nd) dts_nil (fun _ _ _ _ _ => (de_op o_mul (bv 18) (DE.toB (de_ix x_ix (bv 10) (DE.toB de_int))))))) da_nil)))) (DE.toB de_non)) (ss_one (st_ret de_bl)) ss_nil)
    (ss_cons (st_if (dt_cmp (o_ne hu) (DE.toB (de_B (c_repr hdg gA hu) m_repr (ab_cons (bv 11) ab_nil))) (DE.toB (de_B (c_repr hdg gA hu) m_repr (ab_cons (DE.toB (DLs.toE (dl_lst (da_cons (dv 3) (da_cons (DLs.toE (dl_lst (da_cons (DLs.toE (dl_T c_list m_list (ab_cons (DE.toB (de_ix x_ix (bv 10) (DE.toB de_int))) ab_nil))) (da_cons (de_ix x_ix (bv 10) (DE.toB de_int)) da_nil)))) da_nil))))) ab_nil)))) (ss_one (st_ret de_bl)) ss_nil)
    (ss_cons (st_set (i := 12) nd (r__law_signed.toE gA hr (da_cons (r__law_mul.toE gA hr (da_cons (dv 3) (da_cons (dv 8) (da_cons (r__law_element.toE gA hr (da_cons (dv 9) (da_cons de_int da_nil))) da_nil)))) da_nil)))
    (ss_cons (st_set (i := 13) nd (r_root_of_element.toE gA hr (da_cons (dv 3) (da_cons (r__law_mul.toE gA hr (da_cons (dv 3) (da_cons (dv 10) (da_cons (r__law_element.toE gA hr (da_cons (dv 9) (da_cons de_int da_nil))) da_nil)))) da_nil))))
    (ss_cons (st_if (DW.pt (dw_or (dt_not (dt_val (r__law_is_element.toE gA hr (da_cons (dv 13) (da_cons (dv 6) da_nil))))) (dw_or1 (dt_cmp (o_ne hu) (bv 13) (bv 12))))) (ss_one (st_ret de_bl)) ss_nil)
    (ss_cons (st_set (i := 14) nd (de_op o_add (DE.toB (DLs.toE (dl_lc (own := [("vector", 16)]) nd (i_seqC (DE.toB (de_sl (bv 3) do_none (do_some (dv 5))))) (gw_name (i := 16) nd) dts_nil (fun _ _ _ _ _ => (DLs.toE (dl_T c_list m_list (ab_cons (bv 16) ab_nil))))))) (DE.toB (DLs.toE (dl_lst (da_cons (DLs.toE (dl_T c_list m_list (ab_cons (bv 9) ab_nil))) da_nil))))))
    (ss_cons (st_set (i := 15) nd (de_T c_tuple m_tuple (ab_cons (DE.toB (DLs.toE (dl_lc (own := [("place", 17)]) nd (DI.c (i_range1 (dv 6) m_range)) (gw_name (i := 17) nd) dts_nil (fun _ _ _ _ _ => de_int)))) ab_nil)))
    (ss_cons (st_set (i := 13) nd (r_root_of_element.toE gA hr (da_cons (dv 14) (da_cons (de_tup (da_cons (de_op o_add (DE.toB (de_ix x_ix (bv 10) (DE.toB de_int))) (bv 15)) (da_cons (de_ix x_ix (bv 10) (DE.toB de_int)) da_nil))) da_nil))))
    (ss_cons (st_if (DW.pt (dw_or (dt_not (dt_val (r__law_is_element.toE gA hr (da_cons (dv 13) (da_cons (de_op o_mul (DE.toB de_int) (bv 6)) da_nil))))) (dw_or1 (dt_cmp (o_ne hu) (bv 13) (DE.toB (de_tup (da_cons (de_op o_add (bv 15) (DE.toB (de_ix x_ix (DE.toB (r__law_signed.toE gA hr (da_cons (dv 8) da_nil))) (DE.toB de_int)))) (da_cons (de_ix x_ix (bv 8) (DE.toB de_int)) da_nil)))))))) (ss_one (st_ret de_bl)) ss_nil)
    (ss_cons (st_if (DW.pt (dw_or (dt_cmp o_isNot (DE.toB (r_root_of_element.toE gA hr (da_cons (dv 3) (da_cons (dv 10) da_nil)))) (DE.toB de_non)) (dw_or1 (dt_cmp (o_ne hu) (DE.toB (de_B (c_repr hdg gA hu) m_repr (ab_cons (bv 3) ab_nil))) (bv 4))))) (ss_one (st_ret de_bl)) ss_nil)
    (ss_one (st_ret (r__law_two_rows_hold.toE gA hr (da_cons (r__law_cell.toE gA hr (da_cons (dv 0) (da_cons de_int da_nil))) da_nil)))))))))))))))))))))))))))), ?_⟩
  clear F nd hu hr gA E H s outer A cdv hdg m_len m_list m_range m_repr m_tuple r__law_digits r__law_cell r__law_row r__law_element r__law_tops r__law_factor r__law_mul r_root_of_element r_root_of_vector r__law_signed r__law_is_element r__law_two_rows_hold
  intro ds q hl hg
  obtain ⟨ns, rfl, hb, hq⟩ := hg
  show sSeq _ _ _ [some (.val (.list (ns.map .int))), none, none, none, none, none, none, none, none, none, none, none, none, none, none, none, none, none, none]
  refine sq_i fun k hk => ?_
  walk_at "rd"
  refine ⟨ns, 0, rfl, by decide, hb, fun c0 _ => ?_⟩
  walk_at "rd"
  refine ⟨c0, [12, 8, 9, 30, 7, 3, 25], rfl, by decide, by decide, fun rs hrs => ?_⟩
  obtain ⟨r0, _, rfl, a0, hrs⟩ := hrs.cons
  obtain ⟨r1, _, rfl, a1, hrs⟩ := hrs.cons
  obtain ⟨r2, _, rfl, a2, hrs⟩ := hrs.cons
  obtain ⟨r3, _, rfl, a3, hrs⟩ := hrs.cons
  obtain ⟨r4, _, rfl, a4, hrs⟩ := hrs.cons
  obtain ⟨r5, _, rfl, a5, hrs⟩ := hrs.cons
  obtain ⟨r6, _, rfl, a6, hrs⟩ := hrs.cons
  obtain rfl := hrs.nil
  obtain ⟨mode, rfl⟩ : ∃ m : Nat, r1 = (m : Int) := ⟨r1.toNat, by omega⟩
  obtain ⟨kd4, rfl⟩ : ∃ m : Nat, r4 = (m : Int) := ⟨r4.toNat, by omega⟩
  walk_at "rd"
  subst hk
  refine sq_i fun k hk => ?_
  walk_at "rd"
  refine gIx_ints (ns := [3, 0, 1, 1, 2, 2, 2, 3, 3, 3, 4, 1]) (fun n => 0 ≤ n ∧ n ≤ 4) a0.1 a0.2 (fun n e => ?_) fun lt hlt => ?_
  · have := List.mem_of_getElem? e
    simp only [List.mem_cons, List.not_mem_nil, or_false] at this
    omega
  obtain ⟨letters, rfl⟩ : ∃ m : Nat, lt = (m : Int) := ⟨lt.toNat, by omega⟩
  have h4l : letters ≤ 4 := by omega
  have hm4 : 4 < letters → mode ≤ 1 := fun h => by omega
  subst hk
  refine sq_i fun k hk => ?_
  walk_at "rd"
  refine ⟨ns, 8, letters, mode, rfl, by omega, by omega, hm4, hb, fun L hLl hL => ?_⟩
  walk_at "rd"
  subst hk
  obtain ⟨it1, it2⟩ := hL.items (by omega)
  have rrow : ∀ q : D → Prop, q (.str (PyData.shown (.list (L.map fun l => .list (inD l))))) → gRepr [.list (L.map fun l => .list (inD l))] q := fun q hq => gRepr_row (r := 4000) (by decide) (by omega) it1 it2 hq
  refine sq_i fun k hk => ?_
  walk_at "rd"
  refine rrow _ ?_
  subst hk
  refine sq_i fun k hk => ?_
  walk_at "rd"
  rw [List.length_map]
  subst hk
  refine sj_i 5 (fun d => ∃ m : Nat, d = .int (m : Int) ∧ (L.length = m ∨ L.length = m + 1)) ?_ fun k hk => if_n fun T hT => ?_
  rotate_left
  · have hK := hk _ ⟨L.length, rfl, .inl rfl⟩
    walk_at "rd"
    refine ⟨fun h1 => ⟨fun h2 => ?_, fun _ => hK⟩, fun _ => hK⟩
    subst hT
    walk_at "rd"
    exact hk _ ⟨L.length - 1, by rw [show ((L.length - 1 : Nat) : Int) = (L.length : Int) - 1 by omega], by omega⟩
  rintro _ ⟨m, rfl, hmn⟩
  have hmL : m ≤ L.length := by omega
  have h16 : 2 ^ m ≤ 16 := Nat.le_trans (Nat.pow_le_pow_right (by decide) (show m ≤ 4 by omega)) (by decide)
  have hp0 := Nat.two_pow_pos m
  have i1 : intBits 1 = 1 := by decide
  refine sq_i fun k hk => ?_
  walk_at "rd"
  have e1 : (1 : Int) * 2 ^ (m : Int).toNat = ((2 ^ m : Nat) : Int) := by rw [Int.one_mul, Int.toNat_natCast]; simp
  rw [e1]
  refine ⟨⟨⟨by omega, by rw [i1]; omega⟩⟩, ?_⟩
  subst hk
  refine sq_i fun k hk => ?_
  walk_at "rd"
  refine gIx_ints (ns := [1, 0, 2, 3, 0, 4, 5, 6, 0]) (fun n => 0 ≤ n ∧ n ≤ 6) a2.1 a2.2 (fun n e => ?_) fun kd hkd => ?_
  · have := List.mem_of_getElem? e
    simp only [List.mem_cons, List.not_mem_nil, or_false] at this
    omega
  subst hk
  refine sq_i fun k hk => ?_
  walk_at "rd"
  refine ⟨ns, 1, rfl, by decide, hb, fun c1 _ => ?_⟩
  walk_at "rd"
  refine ⟨c1, 2 ^ m, kd, rfl, by omega, by omega, hkd.1, by omega, fun l hl l86 l4 l0 => ?_⟩
  walk_at "rd"
  rw [sqD_l]
  refine ⟨false, l, 1 + r3, rfl, by omega, Nat.le_trans (bits_lt (k := 10) (by omega) (by omega)) (by decide), by omega, fun x u hx => ?_⟩
  walk_at "rd"
  subst hk
  have hb3 : (1 : Int) + r3 ≠ 0 := by omega
  have lx : x.length = 2 ^ m := hx.2.1.trans hl
  obtain ⟨le1, le2⟩ := hx.le hb3
  have hu1 := hx.1
  have hu30 : u ≤ 30 := by omega
  have x86 : ∀ i ∈ x, i.natAbs < 2 ^ 86 := fun i hi => by
    obtain ⟨j, hj, e⟩ := List.getElem_of_mem hi
    have e3 : fn x j = i := by simp [fn, hj, e]
    have h1 := le1 j
    rw [e3] at h1
    rcases fn_mem (l := l) (i := j) with z | z
    · rw [z] at h1
      refine Nat.lt_of_le_of_lt h1 (by decide)
    · exact Nat.lt_of_le_of_lt h1 (l86 _ z)
  have hx0 : toT (rsF L) m x ≠ 0 := fun z => by
    obtain ⟨i, hi, hi0⟩ := l0
    have e0 : x = ofT (0 : T (rsF L) m) := by rw [← z, ofT_toT x lx]
    rw [ofT_zero] at e0
    obtain ⟨j, hj, ej⟩ := List.getElem_of_mem hi
    have e3 : fn l j = i := by simp [fn, hj, ej]
    have h3 := hx.2.2.1 j
    rw [e0, fn_rep0, e3] at h3
    have : i * u = 0 := by rw [← h3]; simp
    rcases Int.mul_eq_zero.mp this with q | q
    · exact hi0 q
    · omega
  have bx : BdL 86 x := fun i hi => intBits_le_iff.mpr (x86 i hi)
  have bu : intBits u ≤ 5 := bits_lt (by omega) (by omega)
  have gg : gro 20 m ≤ 400 ∧ m * gG 20 m ≤ 2000 := by
    have : ∀ m, m ≤ 4 → gro 20 m ≤ 400 ∧ m * gG 20 m ≤ 2000 := by decide
    exact this m (by omega)
  have hwr := hL.top_wr (m := m) hLl (by omega) hm4 hmL x86 (fun h => by omega)
  rw [if_pos h4l] at hwr
  have hxn := hx.norm
  refine sq_i fun k hk => ?_
  walk_at "rd"
  refine ⟨ns, 2, rfl, by decide, hb, fun c2 hc2 => ?_⟩
  walk_at "rd"
  refine ⟨c2, L, letters, mode, m, kd4, rfl, hL, hLl, h4l, hmL, by omega, hc2, ?_, fun F hF1 hF2 hF3 => ?_⟩
  · walk_at "rd"
    subst hk
    refine sq_i fun k hk => if_n fun T hT => ?_
    walk_at "rd"
    refine ⟨eqOk_int0 [], ?_⟩
    have e0 : PyData.eqv (.list []) (.list []) = true := by rw [eqv_nil]; rfl
    rw [e0]
    refine ⟨fun _ => ?_, fun h => (by cases h)⟩
    subst hT
    walk_at "rd"
    exact hq
  walk_at "rd"
  subst hk
  refine sq_i fun k hk => if_n fun T hT => ?_
  walk_at "rd"
  have eF0 : PyData.eqv (.list (inD F)) (.list []) = false := by
    rw [eqv_nil]
    cases F with
    | nil => simp at hF1; omega
    | cons _ _ => rfl
  refine ⟨eqOk_int0 F, ?_⟩
  rw [eF0]
  refine ⟨fun h => (by cases h), fun _ => ?_⟩
  clear hT T
  subst hk
  have bF := hF2.bd
  have elF : IsElL F 1 F 1 := IsElL.self (by decide) fun d h1 _ => Nat.dvd_one.mp h1
  have uu0 : u * u ≠ 0 := Int.mul_ne_zero (by omega) (by omega)
  refine sq_i fun k hk => ?_
  walk_at "rd"
  refine ⟨m, _, L, x, x, u, u, 20, 86, 86, rfl, by omega, RadD.sq false false L, hL.ok, hmL, lx, lx, bx, bx, by omega, by omega, by omega, ⟨5, 5, bu, bu, by decide⟩, fun s1 b1 hs1 => ?_⟩
  walk_at "rd"
  rw [sqD_l]
  refine ⟨false, F, 1, rfl, by decide, by decide, by omega, fun F' g1 hF' => ?_⟩
  obtain ⟨rfl, rfl⟩ := hF'.uniq elF (by decide)
  clear hF'
  walk_at "rd"
  have ls1 : s1.length = 2 ^ m := hs1.2.1.trans (ofT_length _)
  have b1p := hs1.1
  have bs1 : BdL 600 s1 := (hs1.bits uu0 (mulL_bits hL.ok bx bx)).up (by omega)
  have bb1 : intBits b1 ≤ 10 := bot_bits hs1 uu0 (intBits_mul_le bu bu)
  have b10 : b1 * 1 ≠ 0 := by omega
  refine ⟨m, _, L, s1, F', b1, 1, 20, 600, 50, rfl, by omega, RadD.sq false false L, hL.ok, hmL, ls1, hF1, bs1, bF, by omega, by omega, by decide, ⟨10, 1, bb1, by decide, by decide⟩, fun y v hy => ?_⟩
  walk_at "rd"
  subst hk
  have ly : y.length = 2 ^ m := hy.2.1.trans (ofT_length _)
  have hv1 := hy.1
  have bv : intBits v ≤ 10 := bot_bits hy b10 (by rw [Int.mul_one]; exact bb1)
  have hb900 : b1 ≤ 900 := by
    have h1 := (hs1.le uu0).2
    rw [Int.natAbs_mul] at h1
    have h2 : u.natAbs * u.natAbs ≤ 30 * 30 := Nat.mul_le_mul (by omega) (by omega)
    omega
  have hv900 : v ≤ 900 := by
    have h1 := (hy.le b10).2
    rw [Int.mul_one] at h1
    omega
  have by1 : BdL 2000 y := (hy.bits b10 (mulL_bits hL.ok bs1 bF)).up (by omega)
  have hd := (hL.pr.low hmL).dom
  have hP : PlEq (rsF L) m y v x u F' := by
    refine ⟨hv1, hu1, ?_⟩
    have q1 := hs1.eqn (rsF L) m
    have q2 := hy.eqn (rsF L) m
    rw [toT_ofT] at q1 q2
    rw [Int.mul_one] at q2
    refine wh_cancel' hd (show b1 ≠ 0 by omega) ?_
    generalize wh (rsF L) m (u * u) = UU at *
    generalize wh (rsF L) m b1 = B at *
    generalize wh (rsF L) m v = V at *
    have s1' : B * (UU * toT (rsF L) m y) = UU * (B * toT (rsF L) m y) := by grind
    rw [s1', q2]
    have s2' : UU * (V * (toT (rsF L) m s1 * toT (rsF L) m F')) = V * toT (rsF L) m F' * (UU * toT (rsF L) m s1) := by grind
    rw [s2', q1]
    grind
  have hns := hP.ns hd hF3 hx0
  have hwA := (hL.wok hLl hm4).1.low hmL
  have ep : pR letters mode L = pA := by funext k; unfold pR; rw [if_pos h4l]
  have hwF : wr (fun k => 2 ^ pR letters mode L k) (toT (rsF L) m F') ≤ 2 ^ 54 := by rw [wr_toT, ep]; exact hF2.wl
  have hws : wr (fun k => 2 ^ pR letters mode L k) (toT (rsF L) m s1) ≤ 2 ^ (154 + 154) := by
    have := hs1.wrL (ρ := fun k => 2 ^ pR letters mode L k) (L := rsF L) (m := m) uu0
    rw [toT_ofT] at this
    exact Nat.le_trans this (Nat.le_trans (wr_mul hwA _ _) (mul_pow2 hwr hwr))
  have hwy : wr (fun k => 2 ^ pR letters mode L k) (toT (rsF L) m y) ≤ 2 ^ (154 + 154 + 54) := by
    have := hy.wrL (ρ := fun k => 2 ^ pR letters mode L k) (L := rsF L) (m := m) b10
    rw [toT_ofT] at this
    exact Nat.le_trans this (Nat.le_trans (wr_mul hwA _ _) (mul_pow2 hws hwF))
  have v10 : v.natAbs ≤ 2 ^ 10 := by omega
  have hwX : wr (fun k => 2 ^ pR letters mode L k) (wh (rsF L) m v * toT (rsF L) m y) ≤ 2 ^ 385 := by
    rw [wr_whm]
    exact pow_le2 (mul_pow2 v10 hwy) (by decide)
  have es : ∀ s : Str, PyData.eqv (.str s) (.str s) = true := fun s => by simp [PyData.eqv]
  have hfit : ∀ (M : List (List Int)) (g : List Int → D), M.length ≤ 10 → Fit (M.map g).length := fun M g h => fit_len (by rw [List.length_map]; omega)
  have by70 : BdL 70000 y := by1.up (by decide)
  have askN : ∀ (t : Bool) (q : DV → Prop), q (.val .none) → f_root_of_element [.list (L.map fun l => .list (inD l)), elS t t y v] q := fun t q hq => hL.askN hLl h4l hmL (RadD.sq false false L) ly hv1 (by omega) by70 hns hwX hq
  refine sq_i fun k hk => ?_
  walk_at "rd"
  refine ⟨hfit L _ (by omega), lc_f (emb := fun l : List Int => .list (inD l)) (fun l => .list (inD l)) L ?_ fun l hl q Z hq => by walk_at "rd"; exact hq⟩
  walk_at "rd"
  subst hk
  refine sq_i fun k hk => if_n fun T hT => ?_
  walk_at "rd"
  refine askN false _ ?_
  walk_at "rd"
  clear hT T
  subst hk
  refine sq_i fun k hk => if_n fun T hT => ?_
  walk_at "rd"
  refine ⟨hfit L _ (by omega), lc_f (emb := fun l : List Int => .list (inD l)) (fun l => .tuple (inD l)) L ?_ fun l hl q Z hq => by walk_at "rd"; exact hq⟩
  refine ⟨fit_len (by rw [List.length_map]; omega), lc_ints (fun a : Int => a * v) _ ?_ fun a ha q Z hq => by walk_at "rd"; exact ⟨MulOk.of_le (by1 a ha) bv (by decide), hq⟩⟩
  rw [sqD_l]
  refine hL.askVN (m := m) (t := false) hLl h4l hmL (RadD.sq false true L) (by rw [List.length_map]; exact ly) (by rw [toT_mapR]; exact hns) (by rw [toT_mapR]; exact hwX) ?_
  walk_at "rd"
  clear hT T
  subst hk
  have rpas : ∀ q : D → Prop, q (.str (PyData.shown (pas L y v))) → gRepr [pas L y v] q := fun q hq => gRepr_pas2 (r := 4000) (by decide) (by omega) it1 it2 (by omega) (by1.up (by decide)) (by omega) hq
  refine sq_i fun k hk => if_n fun T hT => ?_
  walk_at "rd"
  refine rpas _ (rpas _ ?_)
  refine ⟨eqOk_ss _ _, ?_⟩
  rw [es]
  refine ⟨fun h => (by cases h), fun _ => ?_⟩
  clear hT T
  subst hk
  refine sq_i fun k hk => ?_
  walk_at "rd"
  rw [sqD_l]
  refine ⟨false, F', 1, rfl, by decide, by decide, by omega, fun F2 g2 hF2' => ?_⟩
  obtain ⟨rfl, rfl⟩ := hF2'.uniq elF (by decide)
  clear hF2'
  walk_at "rd"
  refine ⟨m, _, L, x, F2, u, 1, 20, 86, 50, rfl, by omega, RadD.sq false false L, hL.ok, hmL, lx, hF1, bx, bF, by omega, by omega, by decide, ⟨5, 1, bu, by decide, by decide⟩, fun d g hdg => ?_⟩
  walk_at "rd"
  have u10 : u * 1 ≠ 0 := by omega
  have ld : d.length = 2 ^ m := hdg.2.1.trans (ofT_length _)
  refine ⟨d, g, rfl, by omega, ?_⟩
  walk_at "rd"
  subst hk
  refine sq_i fun k hk => ?_
  walk_at "rd"
  rw [sqD_l]
  refine ⟨false, F2, 1, rfl, by decide, by decide, by omega, fun F3 g3 hF3' => ?_⟩
  obtain ⟨rfl, rfl⟩ := hF3'.uniq elF (by decide)
  clear hF3'
  walk_at "rd"
  refine ⟨m, _, L, y, F3, v, 1, 20, 2000, 50, rfl, by omega, RadD.sq false false L, hL.ok, hmL, ly, hF1, by1, bF, by omega, by omega, by decide, ⟨10, 1, bv, by decide, by decide⟩, fun y2 v2 hy2 => ?_⟩
  walk_at "rd"
  have v10' : v * 1 ≠ 0 := by omega
  have ly2 : y2.length = 2 ^ m := hy2.2.1.trans (ofT_length _)
  have bv2 : intBits v2 ≤ 10 := bot_bits hy2 v10' (by rw [Int.mul_one]; exact bv)
  have hv2p := hy2.1
  have H2 : SqIn letters mode m L (ofT (toT (rsF L) m x * toT (rsF L) m F3)) y2 (u * 1) v2 := {
    row := hL
    le := hLl
    l6 := by omega
    lm := hm4
    mL := hmL
    lx := ofT_length _
    ly := ly2
    sq := by
      refine ⟨hv2p, by omega, ?_⟩
      obtain ⟨_, _, k3⟩ := hP
      have q2 := hy2.eqn (rsF L) m
      rw [toT_ofT] at q2
      rw [Int.mul_one] at q2 ⊢
      rw [toT_ofT]
      refine wh_cancel' hd (show v ≠ 0 by omega) ?_
      generalize wh (rsF L) m (u * u) = UU at *
      generalize wh (rsF L) m v = V at *
      generalize wh (rsF L) m v2 = V2 at *
      have s1' : V * (UU * toT (rsF L) m y2) = UU * (V * toT (rsF L) m y2) := by grind
      rw [s1', q2]
      have s2' : UU * (V2 * (toT (rsF L) m y * toT (rsF L) m F3)) = V2 * toT (rsF L) m F3 * (UU * toT (rsF L) m y) := by grind
      rw [s2', k3]
      grind
    bx := (mulL_bits hL.ok bx bF).up (by omega)
    by' := (hy2.bits v10' (mulL_bits hL.ok by1 bF)).up (by omega)
    bu := by rw [Int.mul_one]; omega
    bv := by omega
    wz := by
      rw [toT_ofT]
      unfold tR
      rw [if_pos h4l]
      have v1 : v2.natAbs ≤ 2 ^ 10 := Nat.le_of_lt (intBits_le_iff.mp bv2)
      exact pow_le2 (mul_pow2 (Nat.le_trans (wr_mul hwA _ _) (mul_pow2 hwr hwF)) v1) (by decide)
    uf := by
      unfold fR
      rw [if_pos h4l]
      have : (30 : Int) ≤ 2 ^ 12 := by decide
      omega }
  refine H2.ask (t := true) (t' := true) (RadD.sq false false L) hdg ?_
  walk_at "rd"
  subst hk
  have gb : intBits g ≤ 5 := bot_bits hdg u10 (by rw [Int.mul_one]; exact bu)
  refine sq_i fun k hk => if_n fun T hT => ?_
  walk_at "rd"
  refine ⟨sgnL d, g, 2 ^ m, rfl, by rw [sgnL_length]; exact ld, by omega, sgnL_el hdg.norm, by omega, ?_⟩
  walk_at "rd"
  refine ⟨(elOk _ _).1, fun z => absurd (z.symm.trans (elOk _ _).2) (by decide), fun _ => ?_⟩
  clear hT T
  subst hk
  refine sq_i fun k hk => ?_
  walk_at "rd"
  have ct : cutD (L.map fun l => PyData.list (inD l)) none (some (m : Int)) = (L.take m).map fun l => .list (inD l) := by rw [cut_low (by simp; omega), List.map_take]
  rw [ct]
  refine ⟨hfit (L.take m) _ (by simp; omega), lc_f (emb := fun l : List Int => .list (inD l)) (fun l => .list (inD l)) (L.take m) ?_ fun l hl q Z hq => by walk_at "rd"; exact hq⟩
  walk_at "rd"
  have eL : ((L.take m).map fun l => PyData.list (inD l)) ++ [PyData.list (inD F3)] = (L.take m ++ [F3]).map fun l => .list (inD l) := by rw [List.map_append]; rfl
  rw [eL]
  refine ⟨fit_len (by simp; omega), ?_⟩
  subst hk
  refine sq_i fun k hk => ?_
  walk_at "rd"
  refine ⟨Rng.of (by omega) (by omega), fit_len (by rw [upTo_length]; omega), ?_⟩
  rw [Int.toNat_natCast]
  refine lc_up (fun _ => .int 0) _ ?_ fun i hi q Z hq => by walk_at "rd"; exact hq
  have e0 : (List.range (2 ^ m)).map (fun _ => PyData.int 0) = inD (List.replicate (2 ^ m) 0) := by
    rw [List.map_const', List.length_range, inD, List.map_replicate]
  rw [e0]
  walk_at "rd"
  subst hk
  refine sq_i fun k hk => ?_
  walk_at "rd"
  have eY : inD y ++ inD (List.replicate (2 ^ m) 0) = inD (y ++ List.replicate (2 ^ m) 0) := by unfold inD; rw [List.map_append]
  rw [eY]
  refine ⟨fit_len (by simp; omega), ?_⟩
  rw [wr_toT, ep] at hwr hwy
  refine long_ask hL (by omega) hmL hF2 hF1 hF3 hP lx ly hx0 hv900 hu30 hwr (pow_le2 (mul_pow2 v10 hwy) (by decide)) (by1.up (by decide)) hxn (RadD.sq false false (L.take m ++ [F3])) ?_
  walk_at "rd"
  subst hk
  have e2s : (2 : Int) * ((2 ^ m : Nat) : Int) = ((2 * 2 ^ m : Nat) : Int) := by simp
  have elz := el_app1 (k := 2 ^ m) (sgnL_el hxn)
  refine sq_i fun k hk => if_n fun T hT => ?_
  walk_at "rd"
  rw [e2s]
  refine ⟨mul_l (by decide) (by decide), List.replicate (2 ^ m) 0 ++ sgnL x, u, 2 * 2 ^ m, rfl, by simp [sgnL_length]; omega, by omega, elz, by omega, ?_⟩
  walk_at "rd"
  refine ⟨x, u, rfl, by omega, ?_⟩
  walk_at "rd"
  have eS : inD (List.replicate (2 ^ m) 0) ++ inD (sgnL x) = inD (List.replicate (2 ^ m) 0 ++ sgnL x) := by unfold inD; rw [List.map_append]
  rw [eS]
  refine ⟨fit_len (by simp [sgnL_length]; omega), (elOk _ _).1, fun z => absurd (z.symm.trans (elOk _ _).2) (by decide), fun _ => ?_⟩
  clear hT T
  subst hk
  refine sq_i fun k hk => if_n fun T hT => ?_
  walk_at "rd"
  refine askN true _ ?_
  walk_at "rd"
  refine rrow _ ?_
  refine ⟨eqOk_ss _ _, ?_⟩
  have esL : PyData.eqv (.str (PyData.list (L.map fun l => .list (inD l))).shown) (.str (PyData.shown (sqD false (L.map fun l => PyData.list (inD l))))) = true := es _
  rw [esL]
  refine ⟨fun h => (by cases h), fun _ => ?_⟩
  clear hT T
  subst hk
  walk_at "rd"
  refine ⟨ns, 3, rfl, by decide, hb, fun c3 hc3 => ?_⟩
  walk_at "rd"
  refine ⟨c3, rfl, hc3, ?_⟩
  walk_at "rd"
  exact hq
theorem law_call (ns : List Int) (_ : ns.length ≤ 63) (hb : ∀ i ∈ ns, intBits i ≤ 1048576) : f_law [.list (ns.map .int)] fun r => r = .val (.bool true) := ⟨ns, rfl, hb, rfl⟩

end
end K13

namespace K13
open PySem PySem.Spec PyProof.Rows L2 DL Builtin.Int
theorem all_mk {l : PySem.W.OpenLaw} {w : World} {K : Frag} {h : Heap} {mg : Str → Option Value} {fa : Addr} (X : K.In h) (G : h.Ns mainGlobals mg) (hfa : mg "law" = some (.ref fa))
    {f0 : Addr} {od0 an0 : Option Addr} {sl0 : Array (Option Value)} {oc0 kV0 dc0 pm0 cd0 ct0 : Value} {f1 : Addr} {od1 an1 : Option Addr} {sl1 : Array (Option Value)} {oc1 kV1 dc1 pm1 cd1 ct1 : Value} {f2 : Addr} {od2 an2 : Option Addr} {sl2 : Array (Option Value)} {oc2 kV2 dc2 pm2 cd2 ct2 : Value} {f3 : Addr} {od3 an3 : Option Addr} {sl3 : Array (Option Value)} {oc3 kV3 dc3 pm3 cd3 ct3 : Value} {f4 : Addr} {od4 an4 : Option Addr} {sl4 : Array (Option Value)} {oc4 kV4 dc4 pm4 cd4 ct4 : Value} {f5 : Addr} {od5 an5 : Option Addr} {sl5 : Array (Option Value)} {oc5 kV5 dc5 pm5 cd5 ct5 : Value} {f6 : Addr} {od6 an6 : Option Addr} {sl6 : Array (Option Value)} {oc6 kV6 dc6 pm6 cd6 ct6 : Value} {f7 : Addr} {od7 an7 : Option Addr} {sl7 : Array (Option Value)} {oc7 kV7 dc7 pm7 cd7 ct7 : Value} {f8 : Addr} {od8 an8 : Option Addr} {sl8 : Array (Option Value)} {oc8 kV8 dc8 pm8 cd8 ct8 : Value} {f9 : Addr} {od9 an9 : Option Addr} {sl9 : Array (Option Value)} {oc9 kV9 dc9 pm9 cd9 ct9 : Value} {f10 : Addr} {od10 an10 : Option Addr} {sl10 : Array (Option Value)} {oc10 kV10 dc10 pm10 cd10 ct10 : Value} {f11 : Addr} {od11 an11 : Option Addr} {sl11 : Array (Option Value)} {oc11 kV11 dc11 pm11 cd11 ct11 : Value} {f12 : Addr} {od12 an12 : Option Addr} {sl12 : Array (Option Value)} {oc12 kV12 dc12 pm12 cd12 ct12 : Value} {f13 : Addr} {od13 an13 : Option Addr} {sl13 : Array (Option Value)} {oc13 kV13 dc13 pm13 cd13 ct13 : Value} {f14 : Addr} {od14 an14 : Option Addr} {sl14 : Array (Option Value)} {oc14 kV14 dc14 pm14 cd14 ct14 : Value} {f15 : Addr} {od15 an15 : Option Addr} {sl15 : Array (Option Value)} {oc15 kV15 dc15 pm15 cd15 ct15 : Value} {f16 : Addr} {od16 an16 : Option Addr} {sl16 : Array (Option Value)} {oc16 kV16 dc16 pm16 cd16 ct16 : Value} {f17 : Addr} {od17 an17 : Option Addr} {sl17 : Array (Option Value)} {oc17 kV17 dc17 pm17 cd17 ct17 : Value} {f18 : Addr} {od18 an18 : Option Addr} {sl18 : Array (Option Value)} {oc18 kV18 dc18 pm18 cd18 ct18 : Value} {f19 : Addr} {od19 an19 : Option Addr} {sl19 : Array (Option Value)} {oc19 kV19 dc19 pm19 cd19 ct19 : Value} {f20 : Addr} {od20 an20 : Option Addr} {sl20 : Array (Option Value)} {oc20 kV20 dc20 pm20 cd20 ct20 : Value} {f21 : Addr} {od21 an21 : Option Addr} {sl21 : Array (Option Value)} {oc21 kV21 dc21 pm21 cd21 ct21 : Value} {f22 : Addr} {od22 an22 : Option Addr} {sl22 : Array (Option Value)} {oc22 kV22 dc22 pm22 cd22 ct22 : Value} {f23 : Addr} {od23 an23 : Option Addr} {sl23 : Array (Option Value)} {oc23 kV23 dc23 pm23 cd23 ct23 : Value} {f24 : Addr} {od24 an24 : Option Addr} {sl24 : Array (Option Value)} {oc24 kV24 dc24 pm24 cd24 ct24 : Value} {f25 : Addr} {od25 an25 : Option Addr} {sl25 : Array (Option Value)} {oc25 kV25 dc25 pm25 cd25 ct25 : Value} {f26 : Addr} {od26 an26 : Option Addr} {sl26 : Array (Option Value)} {oc26 kV26 dc26 pm26 cd26 ct26 : Value} {f27 : Addr} {od27 an27 : Option Addr} {sl27 : Array (Option Value)} {oc27 kV27 dc27 pm27 cd27 ct27 : Value} {f28 : Addr} {od28 an28 : Option Addr} {sl28 : Array (Option Value)} {oc28 kV28 dc28 pm28 cd28 ct28 : Value} {f29 : Addr} {od29 an29 : Option Addr} {sl29 : Array (Option Value)} {oc29 kV29 dc29 pm29 cd29 ct29 : Value} {f30 : Addr} {od30 an30 : Option Addr} {sl30 : Array (Option Value)} {oc30 kV30 dc30 pm30 cd30 ct30 : Value} {f31 : Addr} {od31 an31 : Option Addr} {sl31 : Array (Option Value)} {oc31 kV31 dc31 pm31 cd31 ct31 : Value} {f32 : Addr} {od32 an32 : Option Addr} {sl32 : Array (Option Value)} {oc32 kV32 dc32 pm32 cd32 ct32 : Value} {f33 : Addr} {od33 an33 : Option Addr} {sl33 : Array (Option Value)} {oc33 kV33 dc33 pm33 cd33 ct33 : Value} {f34 : Addr} {od34 an34 : Option Addr} {sl34 : Array (Option Value)} {oc34 kV34 dc34 pm34 cd34 ct34 : Value} {f35 : Addr} {od35 an35 : Option Addr} {sl35 : Array (Option Value)} {oc35 kV35 dc35 pm35 cd35 ct35 : Value} {f36 : Addr} {od36 an36 : Option Addr} {sl36 : Array (Option Value)} {oc36 kV36 dc36 pm36 cd36 ct36 : Value} {f37 : Addr} {od37 an37 : Option Addr} {sl37 : Array (Option Value)} {oc37 kV37 dc37 pm37 cd37 ct37 : Value} {f38 : Addr} {od38 an38 : Option Addr} {sl38 : Array (Option Value)} {oc38 kV38 dc38 pm38 cd38 ct38 : Value} {f39 : Addr} {od39 an39 : Option Addr} {sl39 : Array (Option Value)} {oc39 kV39 dc39 pm39 cd39 ct39 : Value} {f40 : Addr} {od40 an40 : Option Addr} {sl40 : Array (Option Value)} {oc40 kV40 dc40 pm40 cd40 ct40 : Value} {f41 : Addr} {od41 an41 : Option Addr} {sl41 : Array (Option Value)} {oc41 kV41 dc41 pm41 cd41 ct41 : Value} {f42 : Addr} {od42 an42 : Option Addr} {sl42 : Array (Option Value)} {oc42 kV42 dc42 pm42 cd42 ct42 : Value}
    (a0 : PySem.W.nsIn K mainGlobals "_law_whole" = some (some (.ref f0))) (l0 : K.lookup f0 = some ⟨oc0, od0, .func (PySem.W.fnOf "_law_whole" "_law_whole" (defArgs s__law_whole) (defBody s__law_whole) (defScope s__law_whole) .none kV0 dc0 pm0 an0 cd0 ct0), sl0⟩) (c0 : PySem.W.codeIn K cd0 "_law_whole" = true) (k0 : PySem.W.keepIn K (.ref f0) = true)
    (a1 : PySem.W.nsIn K mainGlobals "_law_cell" = some (some (.ref f1))) (l1 : K.lookup f1 = some ⟨oc1, od1, .func (PySem.W.fnOf "_law_cell" "_law_cell" (defArgs s__law_cell) (defBody s__law_cell) (defScope s__law_cell) .none kV1 dc1 pm1 an1 cd1 ct1), sl1⟩) (c1 : PySem.W.codeIn K cd1 "_law_cell" = true) (k1 : PySem.W.keepIn K (.ref f1) = true)
    (a2 : PySem.W.nsIn K mainGlobals "_law_digits" = some (some (.ref f2))) (l2 : K.lookup f2 = some ⟨oc2, od2, .func (PySem.W.fnOf "_law_digits" "_law_digits" (defArgs s__law_digits) (defBody s__law_digits) (defScope s__law_digits) .none kV2 dc2 pm2 an2 cd2 ct2), sl2⟩) (c2 : PySem.W.codeIn K cd2 "_law_digits" = true) (k2 : PySem.W.keepIn K (.ref f2) = true)
    (a3 : PySem.W.nsIn K mainGlobals "_law_gcd" = some (some (.ref f3))) (l3 : K.lookup f3 = some ⟨oc3, od3, .func (PySem.W.fnOf "_law_gcd" "_law_gcd" (defArgs s__law_gcd) (defBody s__law_gcd) (defScope s__law_gcd) .none kV3 dc3 pm3 an3 cd3 ct3), sl3⟩) (c3 : PySem.W.codeIn K cd3 "_law_gcd" = true) (k3 : PySem.W.keepIn K (.ref f3) = true)
    (a4 : PySem.W.nsIn K mainGlobals "is_zero" = some (some (.ref f4))) (l4 : K.lookup f4 = some ⟨oc4, od4, .func (PySem.W.fnOf "is_zero" "is_zero" (defArgs s_is_zero) (defBody s_is_zero) (defScope s_is_zero) .none kV4 dc4 pm4 an4 cd4 ct4), sl4⟩) (c4 : PySem.W.codeIn K cd4 "is_zero" = true) (k4 : PySem.W.keepIn K (.ref f4) = true)
    (a5 : PySem.W.nsIn K mainGlobals "zeros" = some (some (.ref f5))) (l5 : K.lookup f5 = some ⟨oc5, od5, .func (PySem.W.fnOf "zeros" "zeros" (defArgs s_zeros) (defBody s_zeros) (defScope s_zeros) .none kV5 dc5 pm5 an5 cd5 ct5), sl5⟩) (c5 : PySem.W.codeIn K cd5 "zeros" = true) (k5 : PySem.W.keepIn K (.ref f5) = true)
    (a6 : PySem.W.nsIn K mainGlobals "top_letter" = some (some (.ref f6))) (l6 : K.lookup f6 = some ⟨oc6, od6, .func (PySem.W.fnOf "top_letter" "top_letter" (defArgs s_top_letter) (defBody s_top_letter) (defScope s_top_letter) .none kV6 dc6 pm6 an6 cd6 ct6), sl6⟩) (c6 : PySem.W.codeIn K cd6 "top_letter" = true) (k6 : PySem.W.keepIn K (.ref f6) = true)
    (a7 : PySem.W.nsIn K mainGlobals "add_vectors" = some (some (.ref f7))) (l7 : K.lookup f7 = some ⟨oc7, od7, .func (PySem.W.fnOf "add_vectors" "add_vectors" (defArgs s_add_vectors) (defBody s_add_vectors) (defScope s_add_vectors) .none kV7 dc7 pm7 an7 cd7 ct7), sl7⟩) (c7 : PySem.W.codeIn K cd7 "add_vectors" = true) (k7 : PySem.W.keepIn K (.ref f7) = true)
    (a8 : PySem.W.nsIn K mainGlobals "subtract_vectors" = some (some (.ref f8))) (l8 : K.lookup f8 = some ⟨oc8, od8, .func (PySem.W.fnOf "subtract_vectors" "subtract_vectors" (defArgs s_subtract_vectors) (defBody s_subtract_vectors) (defScope s_subtract_vectors) .none kV8 dc8 pm8 an8 cd8 ct8), sl8⟩) (c8 : PySem.W.codeIn K cd8 "subtract_vectors" = true) (k8 : PySem.W.keepIn K (.ref f8) = true)
    (a9 : PySem.W.nsIn K mainGlobals "scale_vector" = some (some (.ref f9))) (l9 : K.lookup f9 = some ⟨oc9, od9, .func (PySem.W.fnOf "scale_vector" "scale_vector" (defArgs s_scale_vector) (defBody s_scale_vector) (defScope s_scale_vector) .none kV9 dc9 pm9 an9 cd9 ct9), sl9⟩) (c9 : PySem.W.codeIn K cd9 "scale_vector" = true) (k9 : PySem.W.keepIn K (.ref f9) = true)
    (a10 : PySem.W.nsIn K mainGlobals "multiply_vectors" = some (some (.ref f10))) (l10 : K.lookup f10 = some ⟨oc10, od10, .func (PySem.W.fnOf "multiply_vectors" "multiply_vectors" (defArgs s_multiply_vectors) (defBody s_multiply_vectors) (defScope s_multiply_vectors) .none kV10 dc10 pm10 an10 cd10 ct10), sl10⟩) (c10 : PySem.W.codeIn K cd10 "multiply_vectors" = true) (k10 : PySem.W.keepIn K (.ref f10) = true)
    (a11 : PySem.W.nsIn K mainGlobals "_law_times_letter" = some (some (.ref f11))) (l11 : K.lookup f11 = some ⟨oc11, od11, .func (PySem.W.fnOf "_law_times_letter" "_law_times_letter" (defArgs s__law_times_letter) (defBody s__law_times_letter) (defScope s__law_times_letter) .none kV11 dc11 pm11 an11 cd11 ct11), sl11⟩) (c11 : PySem.W.codeIn K cd11 "_law_times_letter" = true) (k11 : PySem.W.keepIn K (.ref f11) = true)
    (a12 : PySem.W.nsIn K mainGlobals "_law_times_vector" = some (some (.ref f12))) (l12 : K.lookup f12 = some ⟨oc12, od12, .func (PySem.W.fnOf "_law_times_vector" "_law_times_vector" (defArgs s__law_times_vector) (defBody s__law_times_vector) (defScope s__law_times_vector) .none kV12 dc12 pm12 an12 cd12 ct12), sl12⟩) (c12 : PySem.W.codeIn K cd12 "_law_times_vector" = true) (k12 : PySem.W.keepIn K (.ref f12) = true)
    (a13 : PySem.W.nsIn K mainGlobals "norm_vector" = some (some (.ref f13))) (l13 : K.lookup f13 = some ⟨oc13, od13, .func (PySem.W.fnOf "norm_vector" "norm_vector" (defArgs s_norm_vector) (defBody s_norm_vector) (defScope s_norm_vector) .none kV13 dc13 pm13 an13 cd13 ct13), sl13⟩) (c13 : PySem.W.codeIn K cd13 "norm_vector" = true) (k13 : PySem.W.keepIn K (.ref f13) = true)
    (a14 : PySem.W.nsIn K mainGlobals "inverse_vector" = some (some (.ref f14))) (l14 : K.lookup f14 = some ⟨oc14, od14, .func (PySem.W.fnOf "inverse_vector" "inverse_vector" (defArgs s_inverse_vector) (defBody s_inverse_vector) (defScope s_inverse_vector) .none kV14 dc14 pm14 an14 cd14 ct14), sl14⟩) (c14 : PySem.W.codeIn K cd14 "inverse_vector" = true) (k14 : PySem.W.keepIn K (.ref f14) = true)
    (a15 : PySem.W.nsIn K mainGlobals "_law_element" = some (some (.ref f15))) (l15 : K.lookup f15 = some ⟨oc15, od15, .func (PySem.W.fnOf "_law_element" "_law_element" (defArgs s__law_element) (defBody s__law_element) (defScope s__law_element) .none kV15 dc15 pm15 an15 cd15 ct15), sl15⟩) (c15 : PySem.W.codeIn K cd15 "_law_element" = true) (k15 : PySem.W.keepIn K (.ref f15) = true)
    (a16 : PySem.W.nsIn K mainGlobals "_law_mul" = some (some (.ref f16))) (l16 : K.lookup f16 = some ⟨oc16, od16, .func (PySem.W.fnOf "_law_mul" "_law_mul" (defArgs s__law_mul) (defBody s__law_mul) (defScope s__law_mul) .none kV16 dc16 pm16 an16 cd16 ct16), sl16⟩) (c16 : PySem.W.codeIn K cd16 "_law_mul" = true) (k16 : PySem.W.keepIn K (.ref f16) = true)
    (a17 : PySem.W.nsIn K mainGlobals "common_divisor" = some (some (.ref f17))) (l17 : K.lookup f17 = some ⟨oc17, od17, .func (PySem.W.fnOf "common_divisor" "common_divisor" (defArgs s_common_divisor) (defBody s_common_divisor) (defScope s_common_divisor) .none kV17 dc17 pm17 an17 cd17 ct17), sl17⟩) (c17 : PySem.W.codeIn K cd17 "common_divisor" = true) (k17 : PySem.W.keepIn K (.ref f17) = true)
    (a18 : PySem.W.nsIn K mainGlobals "element" = some (some (.ref f18))) (l18 : K.lookup f18 = some ⟨oc18, od18, .func (PySem.W.fnOf "element" "element" (defArgs s_element) (defBody s_element) (defScope s_element) .none kV18 dc18 pm18 an18 cd18 ct18), sl18⟩) (c18 : PySem.W.codeIn K cd18 "element" = true) (k18 : PySem.W.keepIn K (.ref f18) = true)
    (a19 : PySem.W.nsIn K mainGlobals "multiply_elements" = some (some (.ref f19))) (l19 : K.lookup f19 = some ⟨oc19, od19, .func (PySem.W.fnOf "multiply_elements" "multiply_elements" (defArgs s_multiply_elements) (defBody s_multiply_elements) (defScope s_multiply_elements) .none kV19 dc19 pm19 an19 cd19 ct19), sl19⟩) (c19 : PySem.W.codeIn K cd19 "multiply_elements" = true) (k19 : PySem.W.keepIn K (.ref f19) = true)
    (a20 : PySem.W.nsIn K mainGlobals "_law_is_element" = some (some (.ref f20))) (l20 : K.lookup f20 = some ⟨oc20, od20, .func (PySem.W.fnOf "_law_is_element" "_law_is_element" (defArgs s__law_is_element) (defBody s__law_is_element) (defScope s__law_is_element) .none kV20 dc20 pm20 an20 cd20 ct20), sl20⟩) (c20 : PySem.W.codeIn K cd20 "_law_is_element" = true) (k20 : PySem.W.keepIn K (.ref f20) = true)
    (a21 : PySem.W.nsIn K mainGlobals "add_elements" = some (some (.ref f21))) (l21 : K.lookup f21 = some ⟨oc21, od21, .func (PySem.W.fnOf "add_elements" "add_elements" (defArgs s_add_elements) (defBody s_add_elements) (defScope s_add_elements) .none kV21 dc21 pm21 an21 cd21 ct21), sl21⟩) (c21 : PySem.W.codeIn K cd21 "add_elements" = true) (k21 : PySem.W.keepIn K (.ref f21) = true)
    (a22 : PySem.W.nsIn K mainGlobals "negate_element" = some (some (.ref f22))) (l22 : K.lookup f22 = some ⟨oc22, od22, .func (PySem.W.fnOf "negate_element" "negate_element" (defArgs s_negate_element) (defBody s_negate_element) (defScope s_negate_element) .none kV22 dc22 pm22 an22 cd22 ct22), sl22⟩) (c22 : PySem.W.codeIn K cd22 "negate_element" = true) (k22 : PySem.W.keepIn K (.ref f22) = true)
    (a23 : PySem.W.nsIn K mainGlobals "scale_element" = some (some (.ref f23))) (l23 : K.lookup f23 = some ⟨oc23, od23, .func (PySem.W.fnOf "scale_element" "scale_element" (defArgs s_scale_element) (defBody s_scale_element) (defScope s_scale_element) .none kV23 dc23 pm23 an23 cd23 ct23), sl23⟩) (c23 : PySem.W.codeIn K cd23 "scale_element" = true) (k23 : PySem.W.keepIn K (.ref f23) = true)
    (a24 : PySem.W.nsIn K mainGlobals "invert_element" = some (some (.ref f24))) (l24 : K.lookup f24 = some ⟨oc24, od24, .func (PySem.W.fnOf "invert_element" "invert_element" (defArgs s_invert_element) (defBody s_invert_element) (defScope s_invert_element) .none kV24 dc24 pm24 an24 cd24 ct24), sl24⟩) (c24 : PySem.W.codeIn K cd24 "invert_element" = true) (k24 : PySem.W.keepIn K (.ref f24) = true)
    (a25 : PySem.W.nsIn K mainGlobals "divide_elements" = some (some (.ref f25))) (l25 : K.lookup f25 = some ⟨oc25, od25, .func (PySem.W.fnOf "divide_elements" "divide_elements" (defArgs s_divide_elements) (defBody s_divide_elements) (defScope s_divide_elements) .none kV25 dc25 pm25 an25 cd25 ct25), sl25⟩) (c25 : PySem.W.codeIn K cd25 "divide_elements" = true) (k25 : PySem.W.keepIn K (.ref f25) = true)
    (a26 : PySem.W.nsIn K mainGlobals "square_root" = some (some (.ref f26))) (l26 : K.lookup f26 = some ⟨oc26, od26, .func (PySem.W.fnOf "square_root" "square_root" (defArgs s_square_root) (defBody s_square_root) (defScope s_square_root) .none kV26 dc26 pm26 an26 cd26 ct26), sl26⟩) (c26 : PySem.W.codeIn K cd26 "square_root" = true) (k26 : PySem.W.keepIn K (.ref f26) = true)
    (a27 : PySem.W.nsIn K mainGlobals "lift_element" = some (some (.ref f27))) (l27 : K.lookup f27 = some ⟨oc27, od27, .func (PySem.W.fnOf "lift_element" "lift_element" (defArgs s_lift_element) (defBody s_lift_element) (defScope s_lift_element) .none kV27 dc27 pm27 an27 cd27 ct27), sl27⟩) (c27 : PySem.W.codeIn K cd27 "lift_element" = true) (k27 : PySem.W.keepIn K (.ref f27) = true)
    (a28 : PySem.W.nsIn K mainGlobals "join_halves" = some (some (.ref f28))) (l28 : K.lookup f28 = some ⟨oc28, od28, .func (PySem.W.fnOf "join_halves" "join_halves" (defArgs s_join_halves) (defBody s_join_halves) (defScope s_join_halves) .none kV28 dc28 pm28 an28 cd28 ct28), sl28⟩) (c28 : PySem.W.codeIn K cd28 "join_halves" = true) (k28 : PySem.W.keepIn K (.ref f28) = true)
    (a29 : PySem.W.nsIn K mainGlobals "root_of_vector" = some (some (.ref f29))) (l29 : K.lookup f29 = some ⟨oc29, od29, .func (PySem.W.fnOf "root_of_vector" "root_of_vector" (defArgs s_root_of_vector) (defBody s_root_of_vector) (defScope s_root_of_vector) .none kV29 dc29 pm29 an29 cd29 ct29), sl29⟩) (c29 : PySem.W.codeIn K cd29 "root_of_vector" = true) (k29 : PySem.W.keepIn K (.ref f29) = true)
    (a30 : PySem.W.nsIn K mainGlobals "flat_root" = some (some (.ref f30))) (l30 : K.lookup f30 = some ⟨oc30, od30, .func (PySem.W.fnOf "flat_root" "flat_root" (defArgs s_flat_root) (defBody s_flat_root) (defScope s_flat_root) .none kV30 dc30 pm30 an30 cd30 ct30), sl30⟩) (c30 : PySem.W.codeIn K cd30 "flat_root" = true) (k30 : PySem.W.keepIn K (.ref f30) = true)
    (a31 : PySem.W.nsIn K mainGlobals "steep_root" = some (some (.ref f31))) (l31 : K.lookup f31 = some ⟨oc31, od31, .func (PySem.W.fnOf "steep_root" "steep_root" (defArgs s_steep_root) (defBody s_steep_root) (defScope s_steep_root) .none kV31 dc31 pm31 an31 cd31 ct31), sl31⟩) (c31 : PySem.W.codeIn K cd31 "steep_root" = true) (k31 : PySem.W.keepIn K (.ref f31) = true)
    (a32 : PySem.W.nsIn K mainGlobals "root_of_element" = some (some (.ref f32))) (l32 : K.lookup f32 = some ⟨oc32, od32, .func (PySem.W.fnOf "root_of_element" "root_of_element" (defArgs s_root_of_element) (defBody s_root_of_element) (defScope s_root_of_element) .none kV32 dc32 pm32 an32 cd32 ct32), sl32⟩) (c32 : PySem.W.codeIn K cd32 "root_of_element" = true) (k32 : PySem.W.keepIn K (.ref f32) = true)
    (a33 : PySem.W.nsIn K mainGlobals "_law_isqrt" = some (some (.ref f33))) (l33 : K.lookup f33 = some ⟨oc33, od33, .func (PySem.W.fnOf "_law_isqrt" "_law_isqrt" (defArgs s__law_isqrt) (defBody s__law_isqrt) (defScope s__law_isqrt) .none kV33 dc33 pm33 an33 cd33 ct33), sl33⟩) (c33 : PySem.W.codeIn K cd33 "_law_isqrt" = true) (k33 : PySem.W.keepIn K (.ref f33) = true)
    (a34 : PySem.W.nsIn K mainGlobals "_law_norm_whole" = some (some (.ref f34))) (l34 : K.lookup f34 = some ⟨oc34, od34, .func (PySem.W.fnOf "_law_norm_whole" "_law_norm_whole" (defArgs s__law_norm_whole) (defBody s__law_norm_whole) (defScope s__law_norm_whole) .none kV34 dc34 pm34 an34 cd34 ct34), sl34⟩) (c34 : PySem.W.codeIn K cd34 "_law_norm_whole" = true) (k34 : PySem.W.keepIn K (.ref f34) = true)
    (a35 : PySem.W.nsIn K mainGlobals "_law_no_square" = some (some (.ref f35))) (l35 : K.lookup f35 = some ⟨oc35, od35, .func (PySem.W.fnOf "_law_no_square" "_law_no_square" (defArgs s__law_no_square) (defBody s__law_no_square) (defScope s__law_no_square) .none kV35 dc35 pm35 an35 cd35 ct35), sl35⟩) (c35 : PySem.W.codeIn K cd35 "_law_no_square" = true) (k35 : PySem.W.keepIn K (.ref f35) = true)
    (a36 : PySem.W.nsIn K mainGlobals "_law_radicand" = some (some (.ref f36))) (l36 : K.lookup f36 = some ⟨oc36, od36, .func (PySem.W.fnOf "_law_radicand" "_law_radicand" (defArgs s__law_radicand) (defBody s__law_radicand) (defScope s__law_radicand) .none kV36 dc36 pm36 an36 cd36 ct36), sl36⟩) (c36 : PySem.W.codeIn K cd36 "_law_radicand" = true) (k36 : PySem.W.keepIn K (.ref f36) = true)
    (a37 : PySem.W.nsIn K mainGlobals "_law_row" = some (some (.ref f37))) (l37 : K.lookup f37 = some ⟨oc37, od37, .func (PySem.W.fnOf "_law_row" "_law_row" (defArgs s__law_row) (defBody s__law_row) (defScope s__law_row) .none kV37 dc37 pm37 an37 cd37 ct37), sl37⟩) (c37 : PySem.W.codeIn K cd37 "_law_row" = true) (k37 : PySem.W.keepIn K (.ref f37) = true)
    (a38 : PySem.W.nsIn K mainGlobals "_law_signed" = some (some (.ref f38))) (l38 : K.lookup f38 = some ⟨oc38, od38, .func (PySem.W.fnOf "_law_signed" "_law_signed" (defArgs s__law_signed) (defBody s__law_signed) (defScope s__law_signed) .none kV38 dc38 pm38 an38 cd38 ct38), sl38⟩) (c38 : PySem.W.codeIn K cd38 "_law_signed" = true) (k38 : PySem.W.keepIn K (.ref f38) = true)
    (a39 : PySem.W.nsIn K mainGlobals "_law_tops" = some (some (.ref f39))) (l39 : K.lookup f39 = some ⟨oc39, od39, .func (PySem.W.fnOf "_law_tops" "_law_tops" (defArgs s__law_tops) (defBody s__law_tops) (defScope s__law_tops) .none kV39 dc39 pm39 an39 cd39 ct39), sl39⟩) (c39 : PySem.W.codeIn K cd39 "_law_tops" = true) (k39 : PySem.W.keepIn K (.ref f39) = true)
    (a40 : PySem.W.nsIn K mainGlobals "_law_factor" = some (some (.ref f40))) (l40 : K.lookup f40 = some ⟨oc40, od40, .func (PySem.W.fnOf "_law_factor" "_law_factor" (defArgs s__law_factor) (defBody s__law_factor) (defScope s__law_factor) .none kV40 dc40 pm40 an40 cd40 ct40), sl40⟩) (c40 : PySem.W.codeIn K cd40 "_law_factor" = true) (k40 : PySem.W.keepIn K (.ref f40) = true)
    (a41 : PySem.W.nsIn K mainGlobals "_law_two_rows_hold" = some (some (.ref f41))) (l41 : K.lookup f41 = some ⟨oc41, od41, .func (PySem.W.fnOf "_law_two_rows_hold" "_law_two_rows_hold" (defArgs s__law_two_rows_hold) (defBody s__law_two_rows_hold) (defScope s__law_two_rows_hold) .none kV41 dc41 pm41 an41 cd41 ct41), sl41⟩) (c41 : PySem.W.codeIn K cd41 "_law_two_rows_hold" = true) (k41 : PySem.W.keepIn K (.ref f41) = true)
    (a42 : PySem.W.nsIn K mainGlobals "law" = some (some (.ref f42))) (l42 : K.lookup f42 = some ⟨oc42, od42, .func (PySem.W.fnOf "law" "law" (defArgs s_law) (defBody s_law) (defScope s_law) .none kV42 dc42 pm42 an42 cd42 ct42), sl42⟩) (c42 : PySem.W.codeIn K cd42 "law" = true) (k42 : PySem.W.keepIn K (.ref f42) = true)
    (z0 : PySem.W.nsIn K mainGlobals "abs" = some none)
    (z1 : PySem.W.nsIn K mainGlobals "any" = some none)
    (z2 : PySem.W.nsIn K mainGlobals "bool" = some none)
    (z3 : PySem.W.nsIn K mainGlobals "gcd" = some (some (.builtin "math.gcd")))
    (z4 : PySem.W.nsIn K mainGlobals "int" = some none)
    (z5 : PySem.W.nsIn K mainGlobals "isinstance" = some none)
    (z6 : PySem.W.nsIn K mainGlobals "isqrt" = some (some (.builtin "math.isqrt")))
    (z7 : PySem.W.nsIn K mainGlobals "len" = some none)
    (z8 : PySem.W.nsIn K mainGlobals "list" = some none)
    (z9 : PySem.W.nsIn K mainGlobals "max" = some none)
    (z10 : PySem.W.nsIn K mainGlobals "range" = some none)
    (z11 : PySem.W.nsIn K mainGlobals "repr" = some none)
    (z12 : PySem.W.nsIn K mainGlobals "tuple" = some none)
    (z13 : PySem.W.nsIn K mainGlobals "zip" = some none)
    : ∃ fd : FuncData, (∀ (s : Shared) (v : Value), BindsTo s fd ⟨[v], []⟩ [("script", v)]) ∧ ∀ base : Heap, K.In base → base.Ns mainGlobals mg → base.NoDigits → FnG l.prog w K mg base 46 fa fd ["script"] (SpD K 1 f_law) := by
  have e := hfa.symm.trans (PySem.W.mg_of X G a42)
  cases e
  have F0 := fun_mk (st := s__law_whole) l0 c0 k0
  have F1 := fun_mk (st := s__law_cell) l1 c1 k1
  have F2 := fun_mk (st := s__law_digits) l2 c2 k2
  have F3 := fun_mk (st := s__law_gcd) l3 c3 k3
  have F4 := fun_mk (st := s_is_zero) l4 c4 k4
  have F5 := fun_mk (st := s_zeros) l5 c5 k5
  have F6 := fun_mk (st := s_top_letter) l6 c6 k6
  have F7 := fun_mk (st := s_add_vectors) l7 c7 k7
  have F8 := fun_mk (st := s_subtract_vectors) l8 c8 k8
  have F9 := fun_mk (st := s_scale_vector) l9 c9 k9
  have F10 := fun_mk (st := s_multiply_vectors) l10 c10 k10
  have F11 := fun_mk (st := s__law_times_letter) l11 c11 k11
  have F12 := fun_mk (st := s__law_times_vector) l12 c12 k12
  have F13 := fun_mk (st := s_norm_vector) l13 c13 k13
  have F14 := fun_mk (st := s_inverse_vector) l14 c14 k14
  have F15 := fun_mk (st := s__law_element) l15 c15 k15
  have F16 := fun_mk (st := s__law_mul) l16 c16 k16
  have F17 := fun_mk (st := s_common_divisor) l17 c17 k17
  have F18 := fun_mk (st := s_element) l18 c18 k18
  have F19 := fun_mk (st := s_multiply_elements) l19 c19 k19
  have F20 := fun_mk (st := s__law_is_element) l20 c20 k20
  have F21 := fun_mk (st := s_add_elements) l21 c21 k21
  have F22 := fun_mk (st := s_negate_element) l22 c22 k22
  have F23 := fun_mk (st := s_scale_element) l23 c23 k23
  have F24 := fun_mk (st := s_invert_element) l24 c24 k24
  have F25 := fun_mk (st := s_divide_elements) l25 c25 k25
  have F26 := fun_mk (st := s_square_root) l26 c26 k26
  have F27 := fun_mk (st := s_lift_element) l27 c27 k27
  have F28 := fun_mk (st := s_join_halves) l28 c28 k28
  have F29 := fun_mk (st := s_root_of_vector) l29 c29 k29
  have F30 := fun_mk (st := s_flat_root) l30 c30 k30
  have F31 := fun_mk (st := s_steep_root) l31 c31 k31
  have F32 := fun_mk (st := s_root_of_element) l32 c32 k32
  have F33 := fun_mk (st := s__law_isqrt) l33 c33 k33
  have F34 := fun_mk (st := s__law_norm_whole) l34 c34 k34
  have F35 := fun_mk (st := s__law_no_square) l35 c35 k35
  have F36 := fun_mk (st := s__law_radicand) l36 c36 k36
  have F37 := fun_mk (st := s__law_row) l37 c37 k37
  have F38 := fun_mk (st := s__law_signed) l38 c38 k38
  have F39 := fun_mk (st := s__law_tops) l39 c39 k39
  have F40 := fun_mk (st := s__law_factor) l40 c40 k40
  have F41 := fun_mk (st := s__law_two_rows_hold) l41 c41 k41
  have F42 := fun_mk (st := s_law) l42 c42 k42
  have m_abs := PySem.W.mg_none_of X G z0
  have m_any := PySem.W.mg_none_of X G z1
  have m_bool := PySem.W.mg_none_of X G z2
  have m_gcd := PySem.W.mg_of X G z3
  have m_int := PySem.W.mg_none_of X G z4
  have m_isinstance := PySem.W.mg_none_of X G z5
  have m_isqrt := PySem.W.mg_of X G z6
  have m_len := PySem.W.mg_none_of X G z7
  have m_list := PySem.W.mg_none_of X G z8
  have m_max := PySem.W.mg_none_of X G z9
  have m_range := PySem.W.mg_none_of X G z10
  have m_repr := PySem.W.mg_none_of X G z11
  have m_tuple := PySem.W.mg_none_of X G z12
  have m_zip := PySem.W.mg_none_of X G z13
  have b0 := F0.binds (ps := ["value"]) fun _ _ _ _ _ _ us hl => match us, hl with | [_], _ => rfl
  have b1 := F1.binds (ps := ["script", "k"]) fun _ _ _ _ _ _ us hl => match us, hl with | [_, _], _ => rfl
  have b2 := F2.binds (ps := ["cell", "sizes"]) fun _ _ _ _ _ _ us hl => match us, hl with | [_, _], _ => rfl
  have b3 := F3.binds (ps := ["one", "two"]) fun _ _ _ _ _ _ us hl => match us, hl with | [_, _], _ => rfl
  have b4 := F4.binds (ps := ["vector"]) fun _ _ _ _ _ _ us hl => match us, hl with | [_], _ => rfl
  have b5 := F5.binds (ps := ["size"]) fun _ _ _ _ _ _ us hl => match us, hl with | [_], _ => rfl
  have b6 := F6.binds (ps := ["half"]) fun _ _ _ _ _ _ us hl => match us, hl with | [_], _ => rfl
  have b7 := F7.binds (ps := ["one", "two"]) fun _ _ _ _ _ _ us hl => match us, hl with | [_, _], _ => rfl
  have b8 := F8.binds (ps := ["one", "two"]) fun _ _ _ _ _ _ us hl => match us, hl with | [_, _], _ => rfl
  have b9 := F9.binds (ps := ["vector", "number"]) fun _ _ _ _ _ _ us hl => match us, hl with | [_, _], _ => rfl
  have b10 := F10.binds (ps := ["radicands", "one", "two"]) fun _ _ _ _ _ _ us hl => match us, hl with | [_, _, _], _ => rfl
  have b11 := F11.binds (ps := ["radicands", "vector", "place"]) fun _ _ _ _ _ _ us hl => match us, hl with | [_, _, _], _ => rfl
  have b12 := F12.binds (ps := ["radicands", "vector", "factor"]) fun _ _ _ _ _ _ us hl => match us, hl with | [_, _, _], _ => rfl
  have b13 := F13.binds (ps := ["radicands", "vector"]) fun _ _ _ _ _ _ us hl => match us, hl with | [_, _], _ => rfl
  have b14 := F14.binds (ps := ["radicands", "vector"]) fun _ _ _ _ _ _ us hl => match us, hl with | [_, _], _ => rfl
  have b15 := F15.binds (ps := ["tops", "bottom"]) fun _ _ _ _ _ _ us hl => match us, hl with | [_, _], _ => rfl
  have b16 := F16.binds (ps := ["radicands", "one", "two"]) fun _ _ _ _ _ _ us hl => match us, hl with | [_, _, _], _ => rfl
  have b17 := F17.binds (ps := ["numbers"]) fun _ _ _ _ _ _ us hl => match us, hl with | [_], _ => rfl
  have b18 := F18.binds (ps := ["tops", "bottom"]) fun _ _ _ _ _ _ us hl => match us, hl with | [_, _], _ => rfl
  have b19 := F19.binds (ps := ["radicands", "one", "two"]) fun _ _ _ _ _ _ us hl => match us, hl with | [_, _, _], _ => rfl
  have b20 := F20.binds (ps := ["value", "size"]) fun _ _ _ _ _ _ us hl => match us, hl with | [_, _], _ => rfl
  have b21 := F21.binds (ps := ["one", "two"]) fun _ _ _ _ _ _ us hl => match us, hl with | [_, _], _ => rfl
  have b22 := F22.binds (ps := ["one"]) fun _ _ _ _ _ _ us hl => match us, hl with | [_], _ => rfl
  have b23 := F23.binds (ps := ["one", "factor"]) fun _ _ _ _ _ _ us hl => match us, hl with | [_, _], _ => rfl
  have b24 := F24.binds (ps := ["radicands", "one"]) fun _ _ _ _ _ _ us hl => match us, hl with | [_, _], _ => rfl
  have b25 := F25.binds (ps := ["radicands", "one", "two"]) fun _ _ _ _ _ _ us hl => match us, hl with | [_, _, _], _ => rfl
  have b26 := F26.binds (ps := ["number"]) fun _ _ _ _ _ _ us hl => match us, hl with | [_], _ => rfl
  have b27 := F27.binds (ps := ["one", "size"]) fun _ _ _ _ _ _ us hl => match us, hl with | [_, _], _ => rfl
  have b28 := F28.binds (ps := ["low", "high"]) fun _ _ _ _ _ _ us hl => match us, hl with | [_, _], _ => rfl
  have b29 := F29.binds (ps := ["radicands", "vector"]) fun _ _ _ _ _ _ us hl => match us, hl with | [_, _], _ => rfl
  have b30 := F30.binds (ps := ["radicands", "low"]) fun _ _ _ _ _ _ us hl => match us, hl with | [_, _], _ => rfl
  have b31 := F31.binds (ps := ["radicands", "low", "high"]) fun _ _ _ _ _ _ us hl => match us, hl with | [_, _, _], _ => rfl
  have b32 := F32.binds (ps := ["radicands", "one"]) fun _ _ _ _ _ _ us hl => match us, hl with | [_, _], _ => rfl
  have b33 := F33.binds (ps := ["number"]) fun _ _ _ _ _ _ us hl => match us, hl with | [_], _ => rfl
  have b34 := F34.binds (ps := ["radicands", "vector"]) fun _ _ _ _ _ _ us hl => match us, hl with | [_, _], _ => rfl
  have b35 := F35.binds (ps := ["radicands", "vector"]) fun _ _ _ _ _ _ us hl => match us, hl with | [_, _], _ => rfl
  have b36 := F36.binds (ps := ["cell", "k", "mode"]) fun _ _ _ _ _ _ us hl => match us, hl with | [_, _, _], _ => rfl
  have b37 := F37.binds (ps := ["script", "start", "letters", "mode"]) fun _ _ _ _ _ _ us hl => match us, hl with | [_, _, _, _], _ => rfl
  have b38 := F38.binds (ps := ["one"]) fun _ _ _ _ _ _ us hl => match us, hl with | [_], _ => rfl
  have b39 := F39.binds (ps := ["cell", "size", "kind"]) fun _ _ _ _ _ _ us hl => match us, hl with | [_, _, _], _ => rfl
  have b40 := F40.binds (ps := ["cell", "radicands", "used", "kind"]) fun _ _ _ _ _ _ us hl => match us, hl with | [_, _, _, _], _ => rfl
  have b41 := F41.binds (ps := ["cell"]) fun _ _ _ _ _ _ us hl => match us, hl with | [_], _ => rfl
  refine ⟨PySem.W.fnOf "law" "law" (defArgs s_law) (defBody s_law) (defScope s_law) .none kV42 dc42 pm42 an42 cd42 ct42, fun s v => .of_eq rfl, fun base _ _ hdg => ?_⟩
  have R__law_whole : Ready l.prog w K mg base "_law_whole" 1 1 f__law_whole := ⟨_, _, _, ok__law_whole (k := 0) F0 hdg m_bool m_int m_isinstance, PySem.W.mg_of X G a0, k0, b0⟩
  have R__law_cell : Ready l.prog w K mg base "_law_cell" 2 1 f__law_cell := ⟨_, _, _, ok__law_cell (k := 0) F1 hdg m_int m_len, PySem.W.mg_of X G a1, k1, b1⟩
  have R__law_digits : Ready l.prog w K mg base "_law_digits" 2 1 f__law_digits := ⟨_, _, _, ok__law_digits (k := 0) F2 hdg m_int m_len m_range, PySem.W.mg_of X G a2, k2, b2⟩
  have R__law_gcd : Ready l.prog w K mg base "_law_gcd" 2 1 f__law_gcd := ⟨_, _, _, ok__law_gcd (k := 0) F3 hdg m_abs m_int, PySem.W.mg_of X G a3, k3, b3⟩
  have R_is_zero : Ready l.prog w K mg base "is_zero" 1 1 f_is_zero := ⟨_, _, _, ok_is_zero (k := 0) F4 hdg m_any, PySem.W.mg_of X G a4, k4, b4⟩
  have R_zeros : Ready l.prog w K mg base "zeros" 1 1 f_zeros := ⟨_, _, _, ok_zeros (k := 0) F5 hdg , PySem.W.mg_of X G a5, k5, b5⟩
  have R_top_letter : Ready l.prog w K mg base "top_letter" 1 1 f_top_letter := ⟨_, _, _, ok_top_letter (k := 0) F6 hdg , PySem.W.mg_of X G a6, k6, b6⟩
  have R_add_vectors : Ready l.prog w K mg base "add_vectors" 2 1 f_add_vectors := ⟨_, _, _, ok_add_vectors (k := 0) F7 hdg m_tuple m_zip, PySem.W.mg_of X G a7, k7, b7⟩
  have R_subtract_vectors : Ready l.prog w K mg base "subtract_vectors" 2 1 f_subtract_vectors := ⟨_, _, _, ok_subtract_vectors (k := 0) F8 hdg m_tuple m_zip, PySem.W.mg_of X G a8, k8, b8⟩
  have R_scale_vector : Ready l.prog w K mg base "scale_vector" 2 1 f_scale_vector := ⟨_, _, _, ok_scale_vector (k := 0) F9 hdg m_tuple, PySem.W.mg_of X G a9, k9, b9⟩
  have R_mv : ∀ n : Nat, Ready l.prog w K mg base "multiply_vectors" 3 (1 + n) (f_multiply_vectors_ n) := by
    intro n
    induction n with
    | zero => exact ⟨_, _, _, FnG.no fun _ _ h => h, PySem.W.mg_of X G a10, k10, b10⟩
    | succ n ih => exact ⟨_, _, _, ok_multiply_vectors (k := 1 + n) (n := n) F10 hdg m_len (R_is_zero.mono (by omega)) (R_zeros.mono (by omega)) ih (R_top_letter.mono (by omega)) (R_add_vectors.mono (by omega)), PySem.W.mg_of X G a10, k10, b10⟩
  have R_multiply_vectors : Ready l.prog w K mg base "multiply_vectors" 3 9 f_multiply_vectors := (R_mv 8)
  have R_tv : ∀ n : Nat, Ready l.prog w K mg base "_law_times_letter" 3 (0 + n) (f__law_times_letter_ n) ∧ Ready l.prog w K mg base "_law_times_vector" 3 (0 + n) (f__law_times_vector_ n) := by
    intro n
    induction n with
    | zero => exact ⟨⟨_, _, _, FnG.no fun _ _ h => h, PySem.W.mg_of X G a11, k11, b11⟩, ⟨_, _, _, FnG.no fun _ _ h => h, PySem.W.mg_of X G a12, k12, b12⟩⟩
    | succ n ih => exact ⟨⟨_, _, _, ok__law_times_letter (k := 0 + n) (n := n) F11 hdg m_int m_len m_range ih.2, PySem.W.mg_of X G a11, k11, b11⟩, ⟨_, _, _, ok__law_times_vector (k := 0 + n) (n := n) F12 hdg m_int m_len m_range ih.1, PySem.W.mg_of X G a12, k12, b12⟩⟩
  have R__law_times_letter : Ready l.prog w K mg base "_law_times_letter" 3 16 f__law_times_letter := (R_tv 16).1
  have R__law_times_vector : Ready l.prog w K mg base "_law_times_vector" 3 16 f__law_times_vector := (R_tv 16).2
  have R_norm_vector : Ready l.prog w K mg base "norm_vector" 2 10 f_norm_vector := ⟨_, _, _, ok_norm_vector (k := 9) F13 hdg m_len (R_multiply_vectors.mono (by decide)) (R_top_letter.mono (by decide)) (R_subtract_vectors.mono (by decide)), PySem.W.mg_of X G a13, k13, b13⟩
  have R_iv : ∀ n : Nat, Ready l.prog w K mg base "inverse_vector" 2 (10 + n) (f_inverse_vector_ n) := by
    intro n
    induction n with
    | zero => exact ⟨_, _, _, FnG.no fun _ _ h => h, PySem.W.mg_of X G a14, k14, b14⟩
    | succ n ih => exact ⟨_, _, _, ok_inverse_vector (k := 10 + n) (n := n) F14 hdg m_len (R_is_zero.mono (by omega)) ih (R_zeros.mono (by omega)) (R_norm_vector.mono (by omega)) (R_multiply_vectors.mono (by omega)) (R_scale_vector.mono (by omega)), PySem.W.mg_of X G a14, k14, b14⟩
  have R_inverse_vector : Ready l.prog w K mg base "inverse_vector" 2 18 f_inverse_vector := (R_iv 8)
  have R__law_element : Ready l.prog w K mg base "_law_element" 2 2 f__law_element := ⟨_, _, _, ok__law_element (k := 1) F15 hdg m_abs m_tuple (R__law_gcd.mono (by decide)), PySem.W.mg_of X G a15, k15, b15⟩
  have R__law_mul : Ready l.prog w K mg base "_law_mul" 3 17 f__law_mul := ⟨_, _, _, ok__law_mul (k := 16) F16 hdg m_list (R__law_element.mono (by decide)) (R__law_times_vector.mono (by decide)), PySem.W.mg_of X G a16, k16, b16⟩
  have R_common_divisor : Ready l.prog w K mg base "common_divisor" 1 1 f_common_divisor := ⟨_, _, _, ok_common_divisor (k := 0) F17 hdg m_gcd, PySem.W.mg_of X G a17, k17, b17⟩
  have R_element : Ready l.prog w K mg base "element" 2 2 f_element := ⟨_, _, _, ok_element (k := 1) F18 hdg m_gcd m_tuple (R_common_divisor.mono (by decide)), PySem.W.mg_of X G a18, k18, b18⟩
  have R_multiply_elements : Ready l.prog w K mg base "multiply_elements" 3 10 f_multiply_elements := ⟨_, _, _, ok_multiply_elements (k := 9) F19 hdg (R_element.mono (by decide)) (R_multiply_vectors.mono (by decide)), PySem.W.mg_of X G a19, k19, b19⟩
  have R__law_is_element : Ready l.prog w K mg base "_law_is_element" 2 3 f__law_is_element := ⟨_, _, _, ok__law_is_element (k := 2) F20 hdg m_isinstance m_len m_tuple (R__law_whole.mono (by decide)) (R__law_element.mono (by decide)), PySem.W.mg_of X G a20, k20, b20⟩
  have R_add_elements : Ready l.prog w K mg base "add_elements" 2 3 f_add_elements := ⟨_, _, _, ok_add_elements (k := 2) F21 hdg (R_element.mono (by decide)) (R_add_vectors.mono (by decide)) (R_scale_vector.mono (by decide)), PySem.W.mg_of X G a21, k21, b21⟩
  have R_negate_element : Ready l.prog w K mg base "negate_element" 1 2 f_negate_element := ⟨_, _, _, ok_negate_element (k := 1) F22 hdg (R_scale_vector.mono (by decide)), PySem.W.mg_of X G a22, k22, b22⟩
  have R_scale_element : Ready l.prog w K mg base "scale_element" 2 3 f_scale_element := ⟨_, _, _, ok_scale_element (k := 2) F23 hdg (R_element.mono (by decide)) (R_scale_vector.mono (by decide)), PySem.W.mg_of X G a23, k23, b23⟩
  have R_invert_element : Ready l.prog w K mg base "invert_element" 2 19 f_invert_element := ⟨_, _, _, ok_invert_element (k := 18) F24 hdg (R_inverse_vector.mono (by decide)) (R_element.mono (by decide)) (R_scale_vector.mono (by decide)), PySem.W.mg_of X G a24, k24, b24⟩
  have R_divide_elements : Ready l.prog w K mg base "divide_elements" 3 20 f_divide_elements := ⟨_, _, _, ok_divide_elements (k := 19) F25 hdg (R_multiply_elements.mono (by decide)) (R_invert_element.mono (by decide)), PySem.W.mg_of X G a25, k25, b25⟩
  have R_square_root : Ready l.prog w K mg base "square_root" 1 1 f_square_root := ⟨_, _, _, ok_square_root (k := 0) F26 hdg m_isqrt, PySem.W.mg_of X G a26, k26, b26⟩
  have R_lift_element : Ready l.prog w K mg base "lift_element" 2 2 f_lift_element := ⟨_, _, _, ok_lift_element (k := 1) F27 hdg m_len m_tuple (R_zeros.mono (by decide)), PySem.W.mg_of X G a27, k27, b27⟩
  have R_join_halves : Ready l.prog w K mg base "join_halves" 2 3 f_join_halves := ⟨_, _, _, ok_join_halves (k := 2) F28 hdg (R_element.mono (by decide)) (R_scale_vector.mono (by decide)), PySem.W.mg_of X G a28, k28, b28⟩
  have R_rt : ∀ n : Nat, Ready l.prog w K mg base "root_of_vector" 2 (20 + n) (f_root_of_vector_ n) ∧ Ready l.prog w K mg base "flat_root" 2 (20 + n) (f_flat_root_ n) ∧ Ready l.prog w K mg base "steep_root" 3 (20 + n) (f_steep_root_ n) ∧ Ready l.prog w K mg base "root_of_element" 2 (20 + n) (f_root_of_element_ n) := by
    intro n
    induction n with
    | zero => exact ⟨⟨_, _, _, FnG.no fun _ _ h => h, PySem.W.mg_of X G a29, k29, b29⟩, ⟨_, _, _, FnG.no fun _ _ h => h, PySem.W.mg_of X G a30, k30, b30⟩, ⟨_, _, _, FnG.no fun _ _ h => h, PySem.W.mg_of X G a31, k31, b31⟩, ⟨_, _, _, FnG.no fun _ _ h => h, PySem.W.mg_of X G a32, k32, b32⟩⟩
    | succ n ih => exact ⟨⟨_, _, _, ok_root_of_vector (k := 20 + n) (n := n) F29 hdg m_len m_tuple (R_square_root.mono (by omega)) (R_is_zero.mono (by omega)) ih.2.1 ih.2.2.1, PySem.W.mg_of X G a29, k29, b29⟩, ⟨_, _, _, ok_flat_root (k := 20 + n) (n := n) F30 hdg m_abs m_len ih.1 (R_lift_element.mono (by omega)) (R_inverse_vector.mono (by omega)) (R_top_letter.mono (by omega)) (R_scale_vector.mono (by omega)) (R_multiply_vectors.mono (by omega)) (R_element.mono (by omega)) (R_zeros.mono (by omega)), PySem.W.mg_of X G a30, k30, b30⟩, ⟨_, _, _, ok_steep_root (k := 20 + n) (n := n) F31 hdg ih.1 (R_norm_vector.mono (by omega)) (R_negate_element.mono (by omega)) (R_scale_element.mono (by omega)) (R_add_elements.mono (by omega)) ih.2.2.2 (R_divide_elements.mono (by omega)) (R_join_halves.mono (by omega)), PySem.W.mg_of X G a31, k31, b31⟩, ⟨_, _, _, ok_root_of_element (k := 20 + n) (n := n) F32 hdg ih.1 (R_scale_vector.mono (by omega)) (R_element.mono (by omega)), PySem.W.mg_of X G a32, k32, b32⟩⟩
  have R_root_of_vector : Ready l.prog w K mg base "root_of_vector" 2 44 f_root_of_vector := (R_rt 24).1
  have R_flat_root : Ready l.prog w K mg base "flat_root" 2 44 f_flat_root := (R_rt 24).2.1
  have R_steep_root : Ready l.prog w K mg base "steep_root" 3 44 f_steep_root := (R_rt 24).2.2.1
  have R_root_of_element : Ready l.prog w K mg base "root_of_element" 2 44 f_root_of_element := (R_rt 24).2.2.2
  have R__law_isqrt : Ready l.prog w K mg base "_law_isqrt" 1 1 f__law_isqrt := ⟨_, _, _, ok__law_isqrt (k := 0) F33 hdg , PySem.W.mg_of X G a33, k33, b33⟩
  have R__law_norm_whole : Ready l.prog w K mg base "_law_norm_whole" 2 17 f__law_norm_whole := ⟨_, _, _, ok__law_norm_whole (k := 16) F34 hdg m_len m_list m_range (R__law_times_vector.mono (by decide)), PySem.W.mg_of X G a34, k34, b34⟩
  have R__law_no_square : Ready l.prog w K mg base "_law_no_square" 2 18 f__law_no_square := ⟨_, _, _, ok__law_no_square (k := 17) F35 hdg m_len m_list m_range (R__law_times_vector.mono (by decide)) (R__law_norm_whole.mono (by decide)) (R__law_isqrt.mono (by decide)), PySem.W.mg_of X G a35, k35, b35⟩
  have R__law_radicand : Ready l.prog w K mg base "_law_radicand" 3 2 f__law_radicand := ⟨_, _, _, ok__law_radicand (k := 1) F36 hdg m_int m_range (R__law_digits.mono (by decide)), PySem.W.mg_of X G a36, k36, b36⟩
  have R__law_row : Ready l.prog w K mg base "_law_row" 4 19 f__law_row := ⟨_, _, _, ok__law_row (k := 18) F37 hdg m_int m_range (R__law_cell.mono (by decide)) (R__law_radicand.mono (by decide)) (R__law_no_square.mono (by decide)), PySem.W.mg_of X G a37, k37, b37⟩
  have R__law_signed : Ready l.prog w K mg base "_law_signed" 1 1 f__law_signed := ⟨_, _, _, ok__law_signed (k := 0) F38 hdg m_tuple, PySem.W.mg_of X G a38, k38, b38⟩
  have R__law_tops : Ready l.prog w K mg base "_law_tops" 3 2 f__law_tops := ⟨_, _, _, ok__law_tops (k := 1) F39 hdg m_int m_max m_range (R__law_digits.mono (by decide)), PySem.W.mg_of X G a39, k39, b39⟩
  have R__law_factor : Ready l.prog w K mg base "_law_factor" 4 19 f__law_factor := ⟨_, _, _, ok__law_factor (k := 18) F40 hdg m_int m_len m_list m_range (R__law_radicand.mono (by decide)) (R__law_no_square.mono (by decide)), PySem.W.mg_of X G a40, k40, b40⟩
  have R__law_two_rows_hold : Ready l.prog w K mg base "_law_two_rows_hold" 1 45 f__law_two_rows_hold := ⟨_, _, _, ok__law_two_rows_hold (k := 44) F41 hdg m_int (R__law_digits.mono (by decide)) (R_root_of_vector.mono (by decide)) (R_root_of_element.mono (by decide)) (R__law_is_element.mono (by decide)), PySem.W.mg_of X G a41, k41, b41⟩
  exact ok_law (k := 45) F42 hdg m_len m_list m_range m_repr m_tuple (R__law_digits.mono (by decide)) (R__law_cell.mono (by decide)) (R__law_row.mono (by decide)) (R__law_element.mono (by decide)) (R__law_tops.mono (by decide)) (R__law_factor.mono (by decide)) (R__law_mul.mono (by decide)) (R_root_of_element.mono (by decide)) (R_root_of_vector.mono (by decide)) (R__law_signed.mono (by decide)) (R__law_is_element.mono (by decide)) (R__law_two_rows_hold.mono (by decide))
end K13
open PySem PySem.W PyProof.Rows
set_option maxHeartbeats 0 in
theorem PySem.Challenge.cw_leastnest_k13_planted_non_squares_holds : PySem.Challenge.rw_leastnest_k13_planted_non_squares.Holds := by
  w_on; o_law; k_head; (case hw => w_witness2)
  k_fill
  refine DL.walk_G (l := PySem.Challenge.rw_leastnest_k13_planted_non_squares) (n := 63) (k := 46) (x := "script") (g := K13.f_law) rfl (by decide) rfl ⟨rfl, by decide, by decide⟩ (fun w h Y => PySem.W.kIn_of Y) ?F K13.law_call
  case F =>
    intro w mg fa h KX G hmg
    refine' K13.all_mk KX G hmg ?a0 ?l0 ?c0 ?k0 ?a1 ?l1 ?c1 ?k1 ?a2 ?l2 ?c2 ?k2 ?a3 ?l3 ?c3 ?k3 ?a4 ?l4 ?c4 ?k4 ?a5 ?l5 ?c5 ?k5 ?a6 ?l6 ?c6 ?k6 ?a7 ?l7 ?c7 ?k7 ?a8 ?l8 ?c8 ?k8 ?a9 ?l9 ?c9 ?k9 ?a10 ?l10 ?c10 ?k10 ?a11 ?l11 ?c11 ?k11 ?a12 ?l12 ?c12 ?k12 ?a13 ?l13 ?c13 ?k13 ?a14 ?l14 ?c14 ?k14 ?a15 ?l15 ?c15 ?k15 ?a16 ?l16 ?c16 ?k16 ?a17 ?l17 ?c17 ?k17 ?a18 ?l18 ?c18 ?k18 ?a19 ?l19 ?c19 ?k19 ?a20 ?l20 ?c20 ?k20 ?a21 ?l21 ?c21 ?k21 ?a22 ?l22 ?c22 ?k22 ?a23 ?l23 ?c23 ?k23 ?a24 ?l24 ?c24 ?k24 ?a25 ?l25 ?c25 ?k25 ?a26 ?l26 ?c26 ?k26 ?a27 ?l27 ?c27 ?k27 ?a28 ?l28 ?c28 ?k28 ?a29 ?l29 ?c29 ?k29 ?a30 ?l30 ?c30 ?k30 ?a31 ?l31 ?c31 ?k31 ?a32 ?l32 ?c32 ?k32 ?a33 ?l33 ?c33 ?k33 ?a34 ?l34 ?c34 ?k34 ?a35 ?l35 ?c35 ?k35 ?a36 ?l36 ?c36 ?k36 ?a37 ?l37 ?c37 ?k37 ?a38 ?l38 ?c38 ?k38 ?a39 ?l39 ?c39 ?k39 ?a40 ?l40 ?c40 ?k40 ?a41 ?l41 ?c41 ?k41 ?a42 ?l42 ?c42 ?k42 ?z0 ?z1 ?z2 ?z3 ?z4 ?z5 ?z6 ?z7 ?z8 ?z9 ?z10 ?z11 ?z12 ?z13
    (case a0 => k_is)
    (case l0 => k_is)
    (case c0 => k_is)
    (case k0 => k_is)
    (case a1 => k_is)
    (case l1 => k_is)
    (case c1 => k_is)
    (case k1 => k_is)
    (case a2 => k_is)
    (case l2 => k_is)
    (case c2 => k_is)
    (case k2 => k_is)
    (case a3 => k_is)
    (case l3 => k_is)
    (case c3 => k_is)
    (case k3 => k_is)
    (case a4 => k_is)
    (case l4 => k_is)
    (case c4 => k_is)
    (case k4 => k_is)
    (case a5 => k_is)
    (case l5 => k_is)
    (case c5 => k_is)
    (case k5 => k_is)
    (case a6 => k_is)
    (case l6 => k_is)
    (case c6 => k_is)
    (case k6 => k_is)
    (case a7 => k_is)
    (case l7 => k_is)
    (case c7 => k_is)
    (case k7 => k_is)
    (case a8 => k_is)
    (case l8 => k_is)
    (case c8 => k_is)
    (case k8 => k_is)
    (case a9 => k_is)
    (case l9 => k_is)
    (case c9 => k_is)
    (case k9 => k_is)
    (case a10 => k_is)
    (case l10 => k_is)
    (case c10 => k_is)
    (case k10 => k_is)
    (case a11 => k_is)
    (case l11 => k_is)
    (case c11 => k_is)
    (case k11 => k_is)
    (case a12 => k_is)
    (case l12 => k_is)
    (case c12 => k_is)
    (case k12 => k_is)
    (case a13 => k_is)
    (case l13 => k_is)
    (case c13 => k_is)
    (case k13 => k_is)
    (case a14 => k_is)
    (case l14 => k_is)
    (case c14 => k_is)
    (case k14 => k_is)
    (case a15 => k_is)
    (case l15 => k_is)
    (case c15 => k_is)
    (case k15 => k_is)
    (case a16 => k_is)
    (case l16 => k_is)
    (case c16 => k_is)
    (case k16 => k_is)
    (case a17 => k_is)
    (case l17 => k_is)
    (case c17 => k_is)
    (case k17 => k_is)
    (case a18 => k_is)
    (case l18 => k_is)
    (case c18 => k_is)
    (case k18 => k_is)
    (case a19 => k_is)
    (case l19 => k_is)
    (case c19 => k_is)
    (case k19 => k_is)
    (case a20 => k_is)
    (case l20 => k_is)
    (case c20 => k_is)
    (case k20 => k_is)
    (case a21 => k_is)
    (case l21 => k_is)
    (case c21 => k_is)
    (case k21 => k_is)
    (case a22 => k_is)
    (case l22 => k_is)
    (case c22 => k_is)
    (case k22 => k_is)
    (case a23 => k_is)
    (case l23 => k_is)
    (case c23 => k_is)
    (case k23 => k_is)
    (case a24 => k_is)
    (case l24 => k_is)
    (case c24 => k_is)
    (case k24 => k_is)
    (case a25 => k_is)
    (case l25 => k_is)
    (case c25 => k_is)
    (case k25 => k_is)
    (case a26 => k_is)
    (case l26 => k_is)
    (case c26 => k_is)
    (case k26 => k_is)
    (case a27 => k_is)
    (case l27 => k_is)
    (case c27 => k_is)
    (case k27 => k_is)
    (case a28 => k_is)
    (case l28 => k_is)
    (case c28 => k_is)
    (case k28 => k_is)
    (case a29 => k_is)
    (case l29 => k_is)
    (case c29 => k_is)
    (case k29 => k_is)
    (case a30 => k_is)
    (case l30 => k_is)
    (case c30 => k_is)
    (case k30 => k_is)
    (case a31 => k_is)
    (case l31 => k_is)
    (case c31 => k_is)
    (case k31 => k_is)
    (case a32 => k_is)
    (case l32 => k_is)
    (case c32 => k_is)
    (case k32 => k_is)
    (case a33 => k_is)
    (case l33 => k_is)
    (case c33 => k_is)
    (case k33 => k_is)
    (case a34 => k_is)
    (case l34 => k_is)
    (case c34 => k_is)
    (case k34 => k_is)
    (case a35 => k_is)
    (case l35 => k_is)
    (case c35 => k_is)
    (case k35 => k_is)
    (case a36 => k_is)
    (case l36 => k_is)
    (case c36 => k_is)
    (case k36 => k_is)
    (case a37 => k_is)
    (case l37 => k_is)
    (case c37 => k_is)
    (case k37 => k_is)
    (case a38 => k_is)
    (case l38 => k_is)
    (case c38 => k_is)
    (case k38 => k_is)
    (case a39 => k_is)
    (case l39 => k_is)
    (case c39 => k_is)
    (case k39 => k_is)
    (case a40 => k_is)
    (case l40 => k_is)
    (case c40 => k_is)
    (case k40 => k_is)
    (case a41 => k_is)
    (case l41 => k_is)
    (case c41 => k_is)
    (case k41 => k_is)
    (case a42 => k_is)
    (case l42 => k_is)
    (case c42 => k_is)
    (case k42 => k_is)
    (case z0 => k_is)
    (case z1 => k_is)
    (case z2 => k_is)
    (case z3 => k_is)
    (case z4 => k_is)
    (case z5 => k_is)
    (case z6 => k_is)
    (case z7 => k_is)
    (case z8 => k_is)
    (case z9 => k_is)
    (case z10 => k_is)
    (case z11 => k_is)
    (case z12 => k_is)
    (case z13 => k_is)

